import PyProof.Rows.All
import Wide.All
import OpenK.AllK
import Wide.FinOn
import HandS.ForMost
import HandS.ForExc
import HandS.CallSlots
import HandS.Nested
import KE.KeyNested
import HandS.TupAny
import HandS.TupMul
import HandS.Deep
import HandS.More
import HandS.Conv
import HandS.IsInst
import PyProof.ReprRoads
import HandS.Iter
import HandS.Zip
import KE.GoesEnum
import HandS.Wide
import HandS.SetKeys
import HandS.SetFor
import HandS.Set
import HandS.Strs
import HandS.Property
import HandS.MakeKwOnly
import KE.KStateDown
import HandS.Ends
import HandS.Head0
import HandS.Head1
import HandS.Head2
import HandS.HeadHook1
import HandS.HeadHook2
import HandS.HeadNt
import HandS.WordsExc
import HandS.EndTab
import HandS.Style
import HandS.HeadHook4
import KE.KDictZip
import HandS.ExcInit
import KE.KExcInit
import HandS.TupLe
import KE.DataMinMax
import HandS.Star
import HandS.HotCalls
import HandS.ExcInitHot
import KE.KExcIs
import HandS.ExcField
import HandS.Lambda
import HandS.NoneIn
import HandS.ExcOwn
import PyProof.StrLawsRepr
import KE.KWithOwn
import HandS.Finally
import PyProof.Rows.StrMeet
import HandS.FStr
import HandS.RaiseMore
import KE.KCallOwn
import HandS.OwnEq
import PyProof.InstEq
import KE.KFmtOwn
import HandS.DictSub
import KE.SortData
import KE.DataFind
import KE.KDictSum
import HandS.ExcValue
import KE.KDictOf
import HandS.HeadHook3
import HandS.DictComp
import HandS.TryOnly
import HandS.ExcBuiltin
import PyProof.StrLaws
import PyProof.P3Eq
import HandS.ClsMeth
import KE.DataCmp
import PySem.Challenge.RW_tidyframes_k58_screens_tried
set_option Elab.async false
set_option linter.all false
set_option maxRecDepth 100000
set_option  maxHeartbeats   16000000
namespace DV
open PySem PySem.Spec PyProof.Rows L2 He
inductive D where
  | non | bl (b : Bool) | int (i : Int) | str (x : Str) | tup (xs : List D) | ref (n : Nat) | rol (xs : List D) | cst (v : V)
mutual
def datB (K : PySem.W.Frag) : D → Value → Bool
  | .non,u => (match u with
    | .none => true
    | _ => false)
  | .bl b,u => (match u with
    | .bool c => b == c
    | _ => false)
  | .int i,u => (match u with
    | .int j _ => decide (i = j)
    | _ => false)
  | .str x,u => (match u with
    | .str y _ => decide (x = y)
    | _ => false)
  | .tup ds,u => (match u with
    | .ref a => (match K.lookup a with
      | some ⟨.type c,_,.seq its _,_⟩ => decide (c = "tuple") && (decide (its.size ≤ sizeLine) && datsB K ds its.toList)
      | _ => false)
    | _ => false)
  | _,_ => false
def datsB (K : PySem.W.Frag) : List D → List Value → Bool
  | [],us => (match us with
    | [] => true
    | _ => false)
  | d :: ds,us => (match us with
    | u :: us => datB K d u && datsB K ds us
    | [] => false)
end
inductive Fx where
  | glo (x : Str)
  | free (x : Str)
  | dat (x : Str) (d : D)
  | cls (x : Str)
  | noat (x f : Str)
  | prop (x f : Str)
  | mkr (x : Str)
  | isi (x : Str) (bs : List String)
  | meth (x m : Str)
  | bm (x m : Str) (id : String)
  | any (f : PySem.W.Frag → Bool)
def pgA (K : PySem.W.Frag) (C f : Str) : Addr:=match PySem.W.recIn K (ma K (ga K C) f) "property" with
  | some (.ref g :: _) => g
  | _ => 0
def eqB (a b : Option Bool) : Bool:=decide (a = b)
def Fx.ok (K : PySem.W.Frag) : Fx → Bool
  | .glo x => eqO (PySem.W.nsIn K mainGlobals x) (some (some (.ref (ga K x)))) && PySem.W.keepIn K (.ref (ga K x))
  | .free x => eqO (PySem.W.nsIn K mainGlobals x) (some none)
  | .dat x d => (match PySem.W.nsIn K mainGlobals x with
    | some (some u) => datB K d u
    | _ => false)
  | .cls x => (Fa.cls x).ok K && (eqO (PySem.W.findIn K (.ref (ga K x)) "__class__") (some (some (.builtin "object.__class__"))) && (eqO (PySem.W.specialIn K (.builtin "object.__class__") "__get__") (some (some (.builtin "getset_descriptor.__get__"))) &&
    (eqB (PySem.W.takesIn K (.builtin "object.__class__")) (some true) && eqB (PySem.W.mroIn K (ga K x) (.type "object")) (some true))))
  | .noat x f => eqO (PySem.W.findIn K (.ref (ga K x)) f) (some none)
  | .prop x f => eqO (PySem.W.findIn K (.ref (ga K x)) f) (some (some (.ref (ma K (ga K x) f)))) && (eqO (PySem.W.specialIn K (.ref (ma K (ga K x) f)) "__get__") (some (some (.builtin "property.__get__"))) && (eqB (PySem.W.takesIn K (.ref (ma K (ga K x) f))) (some true) &&
    (match PySem.W.recIn K (ma K (ga K x) f) "property" with
      | some (.ref g :: _) => true
      | _ => false)))
  | .mkr x => (Fa.mkr x).ok K
  | .meth x m => (Fa.meth x m).ok K
  | .bm x m id => eqO (PySem.W.findIn K (.ref (ga K x)) m) (some (some (.builtin id)))
  | .any f => f K
  | .isi x bs => eqB (PySem.W.kitOne K (.ref (ga K x)) (.ref (ga K x))) (some true) && bs.all fun b => eqB (PySem.W.kitOne K (.type b) (.ref (ga K x))) (some false)
abbrev DefA:=He5.DefA
def obsV (fx : List Fx) (fn : List DefA) (K : PySem.W.Frag) : He.AlD:=((fx.all fun f => f.ok K) && fn.all fun d => d.ok K,fn.map fun d => He5.fnA K (d.at_ K))
def valFn (fn : List DefA) : He.AlD:=(true,fn.map He5.DefA.val)
def SaysV (fx : List Fx) (fn : List DefA) (K : PySem.W.Frag) : Prop:=obsV fx fn K = valFn fn
structure SaysVT (fx : List Fx) (fn : List DefA) (tf : List Defn) (h : Heap) (K : PySem.W.Frag) : Prop where
  t : SaysV fx fn K
  hd : ∀ p ∈ tf,PySem.W.codeHdIn K (cT K p).1 (cT K p).2 = true
  out : ∀ p ∈ tf,K.lookup (cT K p).2 = none
  empty : ∀ p ∈ tf,h.get? (cT K p).2 = some { cls:=.none,data:=.fields #[] }
end DV
namespace DV
open PySem PySem.Spec PyProof.Rows L2 He
end DV
namespace DV
open PySem PySem.Spec PyProof.Rows L2 He
def refsT (tl : List Value) : List Value → Bool
  | .ref c :: r => decide (Value.ref c :: r = tl) || refsT tl r
  | l => decide (l = tl)
abbrev tlV : List Value:=[.type "ValueError",.type "Exception",.type "BaseException",.type "object"]
abbrev tlL : List Value:=[.type "LookupError",.type "Exception",.type "BaseException",.type "object"]
abbrev tlA : List Value:=[.type "ArithmeticError",.type "Exception",.type "BaseException",.type "object"]
def excB (K : PySem.W.Frag) (C : Addr) : Bool:=match K.lookup C with
  | some ⟨.type "type",_,.cls cd,sl⟩ => (match cd.mro,sl.toList with
    | .ref C' :: bm,[_,_,_,_,some (.builtin n),_] => C' == C && (!cd.hasDel && (cd.hasDict && ((decide (n = "ValueError.__new__") && refsT tlV bm) || (decide (n = "LookupError.__new__") && refsT tlL bm) || (decide (n = "ArithmeticError.__new__") && refsT tlA bm))))
    | _,_ => false)
  | _ => false
def xcB (x : Str) (K : PySem.W.Frag) : Bool:=excB K (ga K x) && (eqO (PySem.W.findIn K (.ref (ga K x)) "__setattr__") (some (some (.builtin "object.__setattr__"))) && (decide (PySem.W.subIn K (.ref (ga K x)) (.type "BaseException") = some true) && (decide (PySem.W.typeIn K (.ref (ga K x)) = some (.type "type")) &&
  (eqO (PySem.W.findIn K (.ref (ga K x)) "__getattribute__") (some (some (.builtin "BaseException.__getattribute__"))) && (eqO (PySem.W.findIn K (.ref (ga K x)) "__getattr__") (some none) && (PySem.W.hasDictIn K (ga K x) && (eqO (PySem.W.findIn K (.ref (ga K x)) "__class__") (some (some (.builtin "object.__class__"))) &&
  (eqO (PySem.W.specialIn K (.builtin "object.__class__") "__get__") (some (some (.builtin "getset_descriptor.__get__"))) && (eqB (PySem.W.takesIn K (.builtin "object.__class__")) (some true) && (eqB (PySem.W.mroIn K (ga K x) (.type "object")) (some true) && PySem.W.keepIn K (.ref (ga K x))))))))))))
def xiB (x f : Str) (K : PySem.W.Frag) : Bool:=eqO (PySem.W.findIn K (.ref (ga K x)) "__init__") (some (some (.ref (ma K (ga K x) "__init__")))) && (decide (PySem.W.typeIn K (.ref (ma K (ga K x) "__init__")) = some (.type "function")) && eqO (PySem.W.findIn K (.ref (ga K x)) f) (some none))
def xmB (x a b c : Str) (K : PySem.W.Frag) : Bool:=eqB (PySem.W.exmAny K (.ref (ga K x)) [.ref (ga K a),.ref (ga K b),.ref (ga K c)]) (some true)
def tagW : List (Str × Str × Nat):=[("size","InvalidSize",9),("part","InvalidPart",10),("fate","InvalidFate",11),("beat","InvalidBeat",12),("spot","InvalidSpot",13),("index","InvalidIndex",14),("player","InvalidPlayer",7),("turn","InvalidTurn",15),("anew","InvalidAnew",16),("start","InvalidStart",8),("text","InvalidText",17),("name","InvalidName",18),("hope","InvalidHope",19),("film","NotAFilm",20),("wish","NotAWish",21),("frames","InvalidFrames",22),("solid","InvalidSolid",23),("sheets","InvalidSheets",24),("plan","InvalidPlan",25),("row","WrongRow",26),("unknown","UnknownName",27),("use","InUse",28),("fit","DoNotFit",29),("undo","NothingToUndo",30),("painted","NothingPainted",31),("broken","Broken",32),("many","TooMany",33)]
def xkN (x : Str) (n : Nat) (K : PySem.W.Frag) : Bool:=tagW.all fun y => eqB (PySem.W.kitOne K (.ref (ga K x)) (.ref (ga K y.2.1))) (some (decide (n = y.2.2)))
def xaB (x : Str) (K : PySem.W.Frag) : Bool:=eqO (PySem.W.findIn K (.ref (ga K x)) "index") (some none) && (eqO (PySem.W.findIn K (.ref (ga K x)) "given") (some none) && eqO (PySem.W.findIn K (.ref (ga K x)) "limit") (some none))
def xnB (x : Str) (K : PySem.W.Frag) : Bool:=PySem.W.excIn K (ga K x) tlA "ArithmeticError.__new__"
end DV
namespace DV
open PySem PySem.Spec PyProof.Rows L2 He
def xtB (t : String) (a b c : Str) (K : PySem.W.Frag) : Bool:=eqB (PySem.W.exmAny K (.type t) [.ref (ga K a),.ref (ga K b),.ref (ga K c)]) (some false)
theorem xt_ok {K : PySem.W.Frag} {t : String} {a b c : Str} (h : xtB t a b c K = true) : PySem.W.exmAny K (.type t) [.ref (ga K a),.ref (ga K b),.ref (ga K c)] = some false:=of_decide_eq_true h
end DV
namespace DV
open PySem PySem.Spec PyProof.Rows L2 NdefX He
def dicsW (td : List (Str × List Str)) (K : PySem.W.Frag) : List (Option (List (Option (Str × Int)))):=td.map fun t => dicW K (ga K t.1)
def dicsV (td : List (Str × List Str)) (w : World) : List (Option (List (Option (Str × Int)))):=td.map fun t => some (keysIn w.params t.2)
def DTs (w : World) (K : PySem.W.Frag) (td : List (Str × List Str)) : Prop:=dicsW td K = dicsV td w
theorem DTs.at_ {w : World} {K : PySem.W.Frag} {td : List (Str × List Str)} (c : DTs w K td) (i : Nat) {t : Str × List Str} (h : td[i]? = some t:=by rfl) : ∃ es n,KDict K w (ga K t.1) es n:=by
  have e2 : (dicsW td K)[i]? = (dicsV td w)[i]?:=by rw [c]
  unfold dicsW dicsV at e2
  rw [List.getElem?_map,List.getElem?_map,h] at e2
  exact dicW_ok (Option.some.inj e2)
end DV
namespace DV
open PySem PySem.Spec PyProof.Rows L2 NdefX He
def hsW (w : World) (s : Str) : Int:=if s.cps.isEmpty = true then 0 else reduceHash (w.params.strHash s.cps)
abbrev eN (w : World) (x : Str) (t : Nat) (v : Value) : DictEntry:=⟨hsW w x,.str x t,v⟩
abbrev oD (l : List DictEntry) (n : Nat) : Obj:=⟨.type "dict",none,.dict ⟨l⟩ n,#[]⟩
abbrev oT (l : List Value) : Obj:=⟨.type "tuple",none,.seq ⟨l⟩ 0,#[]⟩
abbrev oU (t : String) (d : Option Addr) (l : List Value) : Obj:=⟨.type t,d,.fields ⟨l⟩,#[]⟩
abbrev oC (x q : Str) (bases mro : List Value) (ns : Addr) (subs : List Value) (slots : List (Option Value)) : Obj:=
  ⟨.type "type",none,.cls { name:=x,bases:=bases,mro:=mro,ns:=ns,qualname:=q,hasDict:=true,slotNames:=[],subclasses:=subs,abstract:=false,collection:=none,hasDel:=false },⟨slots⟩⟩
abbrev oF (x q : Str) (st : Stmt) (dfl kwd doc mod : Value) (ann : Option Addr) (code : Addr) : Obj:=
  ⟨.type "function",none,.func { name:=x,qualname:=q,params:=defArgs st,body:=.stmts (defBody st),scope:=defScope st,globals:=3,closure:=[],defaults:=dfl,kwdefaults:=kwd,doc:=doc,pyModule:=mod,annotations:=ann,code:=.ref code,closureTuple:=.none,builtins:=0 },#[]⟩
def emptyAt (g : Addr → Option Obj) (a : Addr) : Bool:=match g a with
  | some o => emptyTab o
  | none => false
abbrev ObL : Type:=PySem.W.Frag × Bool
def obsL (As Ts : List Addr) (g : Addr → Option Obj) : ObL:=(frT g As,Ts.all (emptyAt g))
structure FactsL (fx : List Fx) (fn : List DefA) (tf : List Defn) (td : List (Str × List Str)) (Ts : List Addr) (w : World) (K : PySem.W.Frag) : Prop where
  fx : (fx.all fun f => f.ok K) = true
  ok : (fn.all fun d => d.ok K) = true
  val : (fn.map fun d => He5.fnA K (d.at_ K)) = fn.map He5.DefA.val
  tab : (tf.all fun p => PySem.W.codeHdIn K (cT K p).1 (cT K p).2 && Ts.any fun t => Nat.beq t (cT K p).2) = true
  dic : dicsW td K = dicsV td w
theorem saysL_of {fx : List Fx} {fn : List DefA} {tf : List Defn} {td : List (Str × List Str)} {As Ts : List Addr} {w : World} {K : PySem.W.Frag} {h : Heap} (F : FactsL fx fn tf td Ts w K) (e : obsL As Ts h.get? = (K,true)) : K.In h ∧ SaysVT fx fn tf h K ∧ DTs w K td:=by
  have e1 : frT h.get? As = K:=congrArg (fun z : ObL => z.1) e
  have e2 : Ts.all (emptyAt h.get?) = true:=congrArg (fun z : ObL => z.2) e
  have key : ∀ p ∈ tf,PySem.W.codeHdIn K (cT K p).1 (cT K p).2 = true ∧ ∃ o,h.get? (cT K p).2 = some o ∧ emptyTab o = true:=fun p hp => by
    obtain ⟨h3,h4⟩:=ba (List.all_eq_true.mp F.tab p hp)
    refine ⟨h3,?_⟩
    obtain ⟨t,ht,et⟩:=List.any_eq_true.mp h4
    obtain rfl : t = (cT K p).2:=Nat.eq_of_beq_eq_true et
    have z : emptyAt h.get? (cT K p).2 = true:=List.all_eq_true.mp e2 _ ht
    unfold emptyAt at z
    cases q : h.get? (cT K p).2 with
    | none =>
      rw [q] at z
      cases z
    | some o =>
      rw [q] at z
      exact ⟨o,rfl,z⟩
  refine ⟨by rw [← e1]; exact frT_in,⟨?_,fun p hp => (key p hp).1,fun p hp => ?_,fun p hp => ?_⟩,F.dic⟩
  · show ((fx.all fun f => f.ok K) && fn.all fun d => d.ok K,fn.map fun d => He5.fnA K (d.at_ K)) = (true,fn.map He5.DefA.val)
    rw [F.fx,F.ok,F.val]
    rfl
  · obtain ⟨_,o,q,z⟩:=key p hp
    have z2:=frT_none (as:=As) q z
    rw [e1] at z2
    exact z2
  · obtain ⟨_,o,q,z⟩:=key p hp
    rw [q,emptyTab_eq z]
def hookL (As Ts : List Addr) (fx : List Fx) (fn : List DefA) (tf : List Defn) (td : List (Str × List Str)) (Kl : World → PySem.W.Frag) (F : ∀ w,FactsL fx fn tf td Ts w (Kl w)) : PySem.W.Hook where
  α:=ObL
  obs:=fun s => obsL As Ts s.heap.get?
  val:=fun w => (Kl w,true)
  says:=fun w h => ∃ K : PySem.W.Frag,K.In h ∧ SaysVT fx fn tf h K ∧ DTs w K td
  of:=fun w _ e => ⟨_,saysL_of (F w) e⟩
  keeps:=fun _ _ _ ⟨K,hK,c,d⟩ k => ⟨K,PySem.W.Frag.In.keeps hK k,⟨c.t,c.hd,c.out,fun p hp => k _ _ (c.empty p hp)⟩,d⟩
theorem obsL_eq {As Ts : List Addr} {g : Addr → Option Obj} {h : Heap} (e : ∀ a,g a = h.get? a) : obsL As Ts g = obsL As Ts h.get?:=by
  obtain rfl : g = h.get?:=funext e
  rfl
end DV
namespace L58
open DV PySem PySem.Spec PyProof.Rows L2 He
def top (i : Nat) : Stmt:=PySem.Challenge.pw_tidyframes_k58_screens_tried.main.body.getD i (.Pass ⟨0,0,0,0⟩)
abbrev s_law_dip : Stmt:=top 76
abbrev s_law_rect : Stmt:=top 78
abbrev s_law_pick : Stmt:=top 77
abbrev s_law_model : Stmt:=top 81
abbrev s_is_integer : Stmt:=top 41
abbrev s_is_within : Stmt:=top 42
abbrev s_InvalidSize_init : Stmt:=inClass (top 3) 0
abbrev s_check_size : Stmt:=top 46
abbrev s_InvalidSolid_init : Stmt:=inClass (top 19) 0
abbrev s_is_name : Stmt:=top 43
abbrev s_check_solid : Stmt:=top 49
abbrev s_Screen_init : Stmt:=inClass (top 73) 0
abbrev s_law_board : Stmt:=top 83
abbrev s_InvalidName_init : Stmt:=inClass (top 14) 0
abbrev s_is_part : Stmt:=top 45
abbrev s_InvalidPart_init : Stmt:=inClass (top 4) 0
abbrev s_check_part : Stmt:=top 47
abbrev s_is_word : Stmt:=top 44
abbrev s_InvalidFate_init : Stmt:=inClass (top 5) 0
abbrev s_check_fate : Stmt:=top 48
abbrev s_TooMany_init : Stmt:=inClass (top 31) 0
abbrev s_Screen_paint : Stmt:=inClass (top 73) 4
abbrev s_law_acts : Stmt:=top 86
abbrev s_law_tags : Stmt:=top 79
abbrev s_law_caught : Stmt:=top 80
abbrev s_law_went : Stmt:=top 82
abbrev s_Trial_init : Stmt:=inClass (top 72) 0
abbrev s_Screen_trial : Stmt:=inClass (top 73) 10
abbrev s_Trial_enter : Stmt:=inClass (top 72) 1
abbrev s_Trial_exit : Stmt:=inClass (top 72) 2
abbrev s_Screen_tried : Stmt:=inClass (top 73) 11
abbrev s_Screen_undo : Stmt:=inClass (top 73) 5
abbrev s_law_done : Stmt:=top 87
abbrev s_Screen_frames : Stmt:=inClass (top 73) 1
abbrev s_UnknownName_init : Stmt:=inClass (top 24) 0
abbrev s_law_ending : Stmt:=top 84
abbrev s_law_inner : Stmt:=top 90
abbrev s_law_action : Stmt:=top 89
abbrev s_law_after : Stmt:=top 88
abbrev s_law_end_due : Stmt:=top 85
abbrev s_law_notes_due : Stmt:=top 91
abbrev s_Screen_len : Stmt:=inClass (top 73) 2
abbrev s_law_right : Stmt:=top 92
abbrev s_law_jar : Stmt:=top 75
abbrev s_law : Stmt:=top 93
def fx : List Fx:=[
  .free "len",
  .free "min",
  .free "max",
  .free "range",
  .free "int",
  .glo "_law_dip",
  .free "tuple",
  .glo "_law_rect",
  .glo "_law_pick",
  .glo "_law_model",
  .free "isinstance",
  .free "bool",
  .glo "is_integer",
  .dat "MOST_SIZE" (.int 1000000000000),
  .glo "is_within",
  .any (xcB "InvalidSize"),
  .any (xiB "InvalidSize" "given"),
  .glo "InvalidSize",
  .glo "check_size",
  .any (xcB "InvalidSolid"),
  .any (xiB "InvalidSolid" "index"),
  .glo "InvalidSolid",
  .free "enumerate",
  .dat "MOST_SOLID" (.int 8),
  .free "str",
  .dat "LONGEST_NAME" (.int 8),
  .dat "SMALL" (.str "abcdefghijklmnopqrstuvwxyz"),
  .dat "BARRED" (.tup [(.str "screen"),(.str "solid"),(.str "beat")]),
  .dat "DIGITS" (.str "0123456789"),
  .free "all",
  .glo "is_name",
  .glo "check_solid",
  .cls "Screen",
  .noat "Screen" "head",
  .noat "Screen" "state",
  .mkr "Screen",
  .glo "Screen",
  .glo "_law_board",
  .any (xcB "InvalidName"),
  .any (xiB "InvalidName" "given"),
  .glo "InvalidName",
  .glo "is_part",
  .any (xcB "InvalidPart"),
  .any (xiB "InvalidPart" "given"),
  .glo "InvalidPart",
  .glo "check_part",
  .dat "FATES" (.tup [(.str "stays"),(.str "wiped"),(.str "back")]),
  .glo "is_word",
  .any (xcB "InvalidFate"),
  .any (xiB "InvalidFate" "given"),
  .glo "InvalidFate",
  .glo "check_fate",
  .dat "MOST_FRAMES" (.int 8),
  .any (xcB "TooMany"),
  .any (xiB "TooMany" "limit"),
  .glo "TooMany",
  .meth "Screen" "paint",
  .glo "_law_acts",
  .glo "InvalidBeat",
  .glo "InvalidSpot",
  .glo "InvalidIndex",
  .glo "InvalidPlayer",
  .glo "InvalidTurn",
  .glo "InvalidAnew",
  .glo "InvalidStart",
  .glo "InvalidText",
  .glo "InvalidHope",
  .glo "NotAFilm",
  .glo "NotAWish",
  .glo "InvalidFrames",
  .glo "InvalidSheets",
  .glo "InvalidPlan",
  .glo "WrongRow",
  .glo "UnknownName",
  .glo "InUse",
  .glo "DoNotFit",
  .glo "NothingToUndo",
  .glo "NothingPainted",
  .glo "Broken",
  .free "repr",
  .glo "WrongValue",
  .glo "WrongName",
  .glo "NoAnswer",
  .glo "_law_tags",
  .glo "_law_caught",
  .free "KeyError",
  .free "ZeroDivisionError",
  .cls "Trial",
  .noat "Trial" "box",
  .noat "Trial" "begun",
  .mkr "Trial",
  .glo "Trial",
  .meth "Screen" "trial",
  .meth "Trial" "__enter__",
  .meth "Trial" "__exit__",
  .any (xcB "NothingToUndo"),
  .any (xnB "NothingToUndo"),
  .meth "Screen" "undo",
  .glo "_law_done",
  .bm "Screen" "__eq__" "object.__eq__",
  .prop "Screen" "frames",
  .any (xcB "UnknownName"),
  .any (xiB "UnknownName" "given"),
  .glo "_law_ending",
  .glo "_law_inner",
  .meth "Screen" "tried",
  .glo "_law_went",
  .glo "_law_action",
  .glo "_law_after",
  .glo "_law_end_due",
  .glo "_law_notes_due",
  .meth "Screen" "__len__",
  .free "abs",
  .glo "_law_jar",
  .glo "_law_right",
  .glo "law",
  .any (xkN "InvalidSize" 9),
  .any (xmB "InvalidSize" "WrongValue" "WrongName" "NoAnswer"),
  .any (xaB "InvalidSize"),
  .any (xkN "InvalidPart" 10),
  .any (xmB "InvalidPart" "WrongValue" "WrongName" "NoAnswer"),
  .any (xaB "InvalidPart"),
  .any (xkN "InvalidFate" 11),
  .any (xmB "InvalidFate" "WrongValue" "WrongName" "NoAnswer"),
  .any (xaB "InvalidFate"),
  .any (xkN "InvalidName" 18),
  .any (xmB "InvalidName" "WrongValue" "WrongName" "NoAnswer"),
  .any (xaB "InvalidName"),
  .any (xkN "InvalidSolid" 23),
  .any (xmB "InvalidSolid" "WrongValue" "WrongName" "NoAnswer"),
  .any (xaB "InvalidSolid"),
  .any (xkN "UnknownName" 27),
  .any (xmB "UnknownName" "WrongValue" "WrongName" "NoAnswer"),
  .any (xaB "UnknownName"),
  .any (xkN "NothingToUndo" 30),
  .any (xmB "NothingToUndo" "WrongValue" "WrongName" "NoAnswer"),
  .any (xaB "NothingToUndo"),
  .any (xkN "TooMany" 33),
  .any (xmB "TooMany" "WrongValue" "WrongName" "NoAnswer"),
  .any (xaB "TooMany"),
  .any (xtB "KeyError" "WrongValue" "WrongName" "NoAnswer"),
  .any (xtB "ZeroDivisionError" "WrongValue" "WrongName" "NoAnswer")]
def d_law_dip : DV.DefA:=⟨fun K => (ga K "_law_dip"),"_law_dip","_law_dip",defArgs s_law_dip,defBody s_law_dip,defScope s_law_dip,[],[]⟩
def d_law_rect : DV.DefA:=⟨fun K => (ga K "_law_rect"),"_law_rect","_law_rect",defArgs s_law_rect,defBody s_law_rect,defScope s_law_rect,[],[]⟩
def d_law_pick : DV.DefA:=⟨fun K => (ga K "_law_pick"),"_law_pick","_law_pick",defArgs s_law_pick,defBody s_law_pick,defScope s_law_pick,[],[]⟩
def d_law_model : DV.DefA:=⟨fun K => (ga K "_law_model"),"_law_model","_law_model",defArgs s_law_model,defBody s_law_model,defScope s_law_model,[],[]⟩
def d_is_integer : DV.DefA:=⟨fun K => (ga K "is_integer"),"is_integer","is_integer",defArgs s_is_integer,defBody s_is_integer,defScope s_is_integer,[],[]⟩
def d_is_within : DV.DefA:=⟨fun K => (ga K "is_within"),"is_within","is_within",defArgs s_is_within,defBody s_is_within,defScope s_is_within,[],[]⟩
def d_InvalidSize_init : DV.DefA:=⟨fun K => (ma K (ga K "InvalidSize") "__init__"),"__init__","InvalidSize.__init__",defArgs s_InvalidSize_init,defBody s_InvalidSize_init,defScope s_InvalidSize_init,[],[]⟩
def d_check_size : DV.DefA:=⟨fun K => (ga K "check_size"),"check_size","check_size",defArgs s_check_size,defBody s_check_size,defScope s_check_size,[],[]⟩
def d_InvalidSolid_init : DV.DefA:=⟨fun K => (ma K (ga K "InvalidSolid") "__init__"),"__init__","InvalidSolid.__init__",defArgs s_InvalidSolid_init,defBody s_InvalidSolid_init,defScope s_InvalidSolid_init,[],[]⟩
def d_is_name : DV.DefA:=⟨fun K => (ga K "is_name"),"is_name","is_name",defArgs s_is_name,defBody s_is_name,defScope s_is_name,[],[]⟩
def d_check_solid : DV.DefA:=⟨fun K => (ga K "check_solid"),"check_solid","check_solid",defArgs s_check_solid,defBody s_check_solid,defScope s_check_solid,[],[]⟩
def d_Screen_init : DV.DefA:=⟨fun K => (ma K (ga K "Screen") "__init__"),"__init__","Screen.__init__",defArgs s_Screen_init,defBody s_Screen_init,defScope s_Screen_init,[],[]⟩
def d_law_board : DV.DefA:=⟨fun K => (ga K "_law_board"),"_law_board","_law_board",defArgs s_law_board,defBody s_law_board,defScope s_law_board,[],[]⟩
def d_InvalidName_init : DV.DefA:=⟨fun K => (ma K (ga K "InvalidName") "__init__"),"__init__","InvalidName.__init__",defArgs s_InvalidName_init,defBody s_InvalidName_init,defScope s_InvalidName_init,[],[]⟩
def d_is_part : DV.DefA:=⟨fun K => (ga K "is_part"),"is_part","is_part",defArgs s_is_part,defBody s_is_part,defScope s_is_part,[],[]⟩
def d_InvalidPart_init : DV.DefA:=⟨fun K => (ma K (ga K "InvalidPart") "__init__"),"__init__","InvalidPart.__init__",defArgs s_InvalidPart_init,defBody s_InvalidPart_init,defScope s_InvalidPart_init,[],[]⟩
def d_check_part : DV.DefA:=⟨fun K => (ga K "check_part"),"check_part","check_part",defArgs s_check_part,defBody s_check_part,defScope s_check_part,[],[]⟩
def d_is_word : DV.DefA:=⟨fun K => (ga K "is_word"),"is_word","is_word",defArgs s_is_word,defBody s_is_word,defScope s_is_word,[],[]⟩
def d_InvalidFate_init : DV.DefA:=⟨fun K => (ma K (ga K "InvalidFate") "__init__"),"__init__","InvalidFate.__init__",defArgs s_InvalidFate_init,defBody s_InvalidFate_init,defScope s_InvalidFate_init,[],[]⟩
def d_check_fate : DV.DefA:=⟨fun K => (ga K "check_fate"),"check_fate","check_fate",defArgs s_check_fate,defBody s_check_fate,defScope s_check_fate,[],[]⟩
def d_TooMany_init : DV.DefA:=⟨fun K => (ma K (ga K "TooMany") "__init__"),"__init__","TooMany.__init__",defArgs s_TooMany_init,defBody s_TooMany_init,defScope s_TooMany_init,[],[]⟩
def d_Screen_paint : DV.DefA:=⟨fun K => (ma K (ga K "Screen") "paint"),"paint","Screen.paint",defArgs s_Screen_paint,defBody s_Screen_paint,defScope s_Screen_paint,[],[]⟩
def d_law_acts : DV.DefA:=⟨fun K => (ga K "_law_acts"),"_law_acts","_law_acts",defArgs s_law_acts,defBody s_law_acts,defScope s_law_acts,[],[]⟩
def d_law_tags : DV.DefA:=⟨fun K => (ga K "_law_tags"),"_law_tags","_law_tags",defArgs s_law_tags,defBody s_law_tags,defScope s_law_tags,[],[]⟩
def d_law_caught : DV.DefA:=⟨fun K => (ga K "_law_caught"),"_law_caught","_law_caught",defArgs s_law_caught,defBody s_law_caught,defScope s_law_caught,[],[]⟩
def d_law_went : DV.DefA:=⟨fun K => (ga K "_law_went"),"_law_went","_law_went",defArgs s_law_went,defBody s_law_went,defScope s_law_went,[],[]⟩
def d_Trial_init : DV.DefA:=⟨fun K => (ma K (ga K "Trial") "__init__"),"__init__","Trial.__init__",defArgs s_Trial_init,defBody s_Trial_init,defScope s_Trial_init,[],[]⟩
def d_Screen_trial : DV.DefA:=⟨fun K => (ma K (ga K "Screen") "trial"),"trial","Screen.trial",defArgs s_Screen_trial,defBody s_Screen_trial,defScope s_Screen_trial,[],[]⟩
def d_Trial_enter : DV.DefA:=⟨fun K => (ma K (ga K "Trial") "__enter__"),"__enter__","Trial.__enter__",defArgs s_Trial_enter,defBody s_Trial_enter,defScope s_Trial_enter,[],[]⟩
def d_Trial_exit : DV.DefA:=⟨fun K => (ma K (ga K "Trial") "__exit__"),"__exit__","Trial.__exit__",defArgs s_Trial_exit,defBody s_Trial_exit,defScope s_Trial_exit,[],[]⟩
def d_Screen_tried : DV.DefA:=⟨fun K => (ma K (ga K "Screen") "tried"),"tried","Screen.tried",defArgs s_Screen_tried,defBody s_Screen_tried,defScope s_Screen_tried,[],[]⟩
def d_Screen_undo : DV.DefA:=⟨fun K => (ma K (ga K "Screen") "undo"),"undo","Screen.undo",defArgs s_Screen_undo,defBody s_Screen_undo,defScope s_Screen_undo,[],[]⟩
def d_law_done : DV.DefA:=⟨fun K => (ga K "_law_done"),"_law_done","_law_done",defArgs s_law_done,defBody s_law_done,defScope s_law_done,[],[]⟩
def d_Screen_frames : DV.DefA:=⟨fun K => (pgA K "Screen" "frames"),"frames","Screen.frames",defArgs s_Screen_frames,defBody s_Screen_frames,defScope s_Screen_frames,[],[]⟩
def d_UnknownName_init : DV.DefA:=⟨fun K => (ma K (ga K "UnknownName") "__init__"),"__init__","UnknownName.__init__",defArgs s_UnknownName_init,defBody s_UnknownName_init,defScope s_UnknownName_init,[],[]⟩
def d_law_ending : DV.DefA:=⟨fun K => (ga K "_law_ending"),"_law_ending","_law_ending",defArgs s_law_ending,defBody s_law_ending,defScope s_law_ending,[],[]⟩
def d_law_inner : DV.DefA:=⟨fun K => (ga K "_law_inner"),"_law_inner","_law_inner",defArgs s_law_inner,defBody s_law_inner,defScope s_law_inner,[],[]⟩
def d_law_action : DV.DefA:=⟨fun K => (ga K "_law_action"),"_law_action","_law_action",defArgs s_law_action,defBody s_law_action,defScope s_law_action,[],[]⟩
def d_law_after : DV.DefA:=⟨fun K => (ga K "_law_after"),"_law_after","_law_after",defArgs s_law_after,defBody s_law_after,defScope s_law_after,[],[]⟩
def d_law_end_due : DV.DefA:=⟨fun K => (ga K "_law_end_due"),"_law_end_due","_law_end_due",defArgs s_law_end_due,defBody s_law_end_due,defScope s_law_end_due,[],[]⟩
def d_law_notes_due : DV.DefA:=⟨fun K => (ga K "_law_notes_due"),"_law_notes_due","_law_notes_due",defArgs s_law_notes_due,defBody s_law_notes_due,defScope s_law_notes_due,[],[]⟩
def d_Screen_len : DV.DefA:=⟨fun K => (ma K (ga K "Screen") "__len__"),"__len__","Screen.__len__",defArgs s_Screen_len,defBody s_Screen_len,defScope s_Screen_len,[],[]⟩
def d_law_right : DV.DefA:=⟨fun K => (ga K "_law_right"),"_law_right","_law_right",defArgs s_law_right,defBody s_law_right,defScope s_law_right,[],[]⟩
def d_law_jar : DV.DefA:=⟨fun K => (ga K "_law_jar"),"_law_jar","_law_jar",defArgs s_law_jar,defBody s_law_jar,defScope s_law_jar,[],[]⟩
def d_law : DV.DefA:=⟨fun K => (ga K "law"),"law","law",defArgs s_law,defBody s_law,defScope s_law,[],[]⟩
def fn : List DV.DefA:=[d_law_dip,d_law_rect,d_law_pick,d_law_model,d_is_integer,d_is_within,d_InvalidSize_init,d_check_size,d_InvalidSolid_init,d_is_name,d_check_solid,d_Screen_init,d_law_board,d_InvalidName_init,d_is_part,d_InvalidPart_init,d_check_part,d_is_word,d_InvalidFate_init,d_check_fate,d_TooMany_init,d_Screen_paint,d_law_acts,d_law_tags,d_law_caught,d_law_went,d_Trial_init,d_Screen_trial,d_Trial_enter,d_Trial_exit,d_Screen_tried,d_Screen_undo,d_law_done,d_Screen_frames,d_UnknownName_init,d_law_ending,d_law_inner,d_law_action,d_law_after,d_law_end_due,d_law_notes_due,d_Screen_len,d_law_right,d_law_jar,d_law]
def tf : List (Str × Option Str):=[("_law_action",none),("_law_right",none)]
def loose0 : List Str:=["_wall","WrongValue","InvalidSize","InvalidPart","InvalidFate","InvalidBeat","InvalidSpot","InvalidIndex","InvalidPlayer","InvalidTurn","InvalidAnew","InvalidStart","InvalidText","InvalidName","InvalidHope","NotAFilm","NotAWish","InvalidFrames","InvalidSolid","InvalidSheets","InvalidPlan","WrongRow","WrongName","UnknownName","InUse","NoAnswer","DoNotFit","NothingToUndo","NothingPainted","Broken"]
def loose1 : List Str:=["TooMany","MOST_FRAMES","MOST_SOLID","MOST_SIZE","SMALL","DIGITS","LONGEST_NAME","BARRED","FATES","is_integer","is_within","is_name","is_word","is_part","check_size","check_part","check_fate","check_solid","check_spot","holds","number_in","screen_in","solid_in","laying_in","frame_in","is_frame","head_of","head_text","Film","parts_in"]
def loose2 : List Str:=["over","laid","NOTHING","played_fate","played","covers_at","Trial","Screen","_law_jar","_law_dip","_law_pick","_law_rect","_law_tags","_law_caught","_law_model","_law_went","_law_board","_law_ending","_law_end_due","_law_acts","_law_done","_law_after","_law_action","_law_inner","_law_notes_due","_law_right"]
def looseAll : List Str:=loose0 ++ loose1 ++ loose2
def td : List (Str × List Str):=[]
def o_3 (w : World) : Obj:=oD [eN w "__name__" 165 (.str "law_tidyframes_k58_screens_tried" 1469),eN w "__doc__" 166 .none,eN w "__package__" 167 .none,eN w "__loader__" 168 (.builtin "__main__.__loader__#opaque"),eN w "__spec__" 169 .none,eN w "__annotations__" 170 (.ref 6),eN w "__builtins__" 171 (.ref 4),eN w "__file__" 173 (.str "/claim/cut.py" 172),eN w "__cached__" 174 .none,eN w "_wall" 193 (.ref 21),eN w "WrongValue" 213 (.ref 31),eN w "InvalidSize" 238 (.ref 51),eN w "InvalidPart" 263 (.ref 70),eN w "InvalidFate" 288 (.ref 89),eN w "InvalidBeat" 313 (.ref 108),eN w "InvalidSpot" 338 (.ref 127),eN w "InvalidIndex" 363 (.ref 146),eN w "InvalidPlayer" 388 (.ref 165),eN w "InvalidTurn" 413 (.ref 184),eN w "InvalidAnew" 438 (.ref 203),eN w "InvalidStart" 463 (.ref 222),eN w "InvalidText" 488 (.ref 241),eN w "InvalidName" 513 (.ref 260),eN w "InvalidHope" 538 (.ref 279),eN w "NotAFilm" 563 (.ref 298),eN w "NotAWish" 588 (.ref 317),eN w "InvalidFrames" 613 (.ref 336),eN w "InvalidSolid" 638 (.ref 355),eN w "InvalidSheets" 663 (.ref 374),eN w "InvalidPlan" 688 (.ref 393),eN w "WrongRow" 713 (.ref 412),eN w "WrongName" 731 (.ref 424),eN w "UnknownName" 756 (.ref 444),eN w "InUse" 781 (.ref 463),eN w "NoAnswer" 801 (.ref 475),eN w "DoNotFit" 817 (.ref 488),eN w "NothingToUndo" 833 (.ref 500),eN w "NothingPainted" 849 (.ref 512),eN w "Broken" 874 (.ref 531),eN w "TooMany" 899 (.ref 550),eN w "MOST_FRAMES" 901 (.int 8 900),eN w "MOST_SOLID" 903 (.int 8 902),eN w "MOST_SIZE" 907 (.int 1000000000000 906),eN w "SMALL" 911 (.str "abcdefghijklmnopqrstuvwxyz" 910),eN w "DIGITS" 913 (.str "0123456789" 912),eN w "LONGEST_NAME" 915 (.int 8 914),eN w "BARRED" 919 (.ref 553),eN w "FATES" 923 (.ref 554),eN w "is_integer" 930 (.ref 561),eN w "is_within" 939 (.ref 568),eN w "is_name" 945 (.ref 573),eN w "is_word" 953 (.ref 580),eN w "is_part" 959 (.ref 585),eN w "check_size" 966 (.ref 592),eN w "check_part" 975 (.ref 599),eN w "check_fate" 982 (.ref 606),eN w "check_solid" 991 (.ref 613),eN w "check_spot" 1000 (.ref 620),eN w "holds" 1008 (.ref 627),eN w "number_in" 1016 (.ref 632),eN w "screen_in" 1022 (.ref 637),eN w "solid_in" 1028 (.ref 642),eN w "laying_in" 1034 (.ref 647),eN w "frame_in" 1045 (.ref 654),eN w "is_frame" 1054 (.ref 661),eN w "head_of" 1063 (.ref 668),eN w "head_text" 1071 (.ref 675),eN w "Film" 1235 (.ref 801),eN w "parts_in" 1241 (.ref 810),eN w "over" 1254 (.ref 817),eN w "laid" 1264 (.ref 824),eN w "NOTHING" 1267 (.ref 826),eN w "played_fate" 1275 (.ref 833),eN w "played" 1291 (.ref 840),eN w "covers_at" 1297 (.ref 845),eN w "Trial" 1346 (.ref 876),eN w "Screen" 1468 (.ref 977),eN w "_law_jar" 1482 (.ref 988),eN w "_law_dip" 1492 (.ref 995),eN w "_law_pick" 1501 (.ref 1002),eN w "_law_rect" 1512 (.ref 1009),eN w "_law_tags" 1520 (.ref 1016),eN w "_law_caught" 1530 (.ref 1023),eN w "_law_model" 1536 (.ref 1028),eN w "_law_went" 1544 (.ref 1035),eN w "_law_board" 1551 (.ref 1042),eN w "_law_ending" 1558 (.ref 1049),eN w "_law_end_due" 1566 (.ref 1056),eN w "_law_acts" 1577 (.ref 1063),eN w "_law_done" 1590 (.ref 1070),eN w "_law_after" 1601 (.ref 1077),eN w "_law_action" 1619 (.ref 1084),eN w "_law_inner" 1630 (.ref 1091),eN w "_law_notes_due" 1649 (.ref 1098),eN w "_law_right" 1666 (.ref 1105),eN w "law" 1672 (.ref 1110)] 96
def o_31 (w : World) : Obj:=oC "WrongValue" "WrongValue" [.type "ValueError"] [.ref 31,.type "ValueError",.type "Exception",.type "BaseException",.type "object"] 30 [.ref 51,.ref 70,.ref 89,.ref 108,.ref 127,.ref 146,.ref 165,.ref 184,.ref 203,.ref 222,.ref 241,.ref 260,.ref 279,.ref 298,.ref 317,.ref 336,.ref 355,.ref 374,.ref 393,.ref 412] [some (.ref 22),none,some (.str "WrongValue" 196),some (.str "WrongValue" 204),some (.builtin "ValueError.__new__"),some (.bool true)]
def o_30 (w : World) : Obj:=oD [eN w "__module__" 203 (.str "tidyframes.errors" 194),eN w "__firstlineno__" 207 (.int 5 206),eN w "__static_attributes__" 208 (.ref 29),eN w "__weakref__" 210 (.ref 32),eN w "__doc__" 211 .none] 3
def o_51 (w : World) : Obj:=oC "InvalidSize" "InvalidSize" [.ref 31] [.ref 51,.ref 31,.type "ValueError",.type "Exception",.type "BaseException",.type "object"] 50 [] [some (.ref 35),none,some (.str "InvalidSize" 214),some (.str "InvalidSize" 222),some (.builtin "ValueError.__new__"),some (.bool true)]
def o_50 (w : World) : Obj:=oD [eN w "__module__" 221 (.str "tidyframes.errors" 194),eN w "__firstlineno__" 225 (.int 7 224),eN w "__init__" 233 (.ref 48),eN w "__static_attributes__" 235 (.ref 49),eN w "__doc__" 236 .none] 2
def o_70 (w : World) : Obj:=oC "InvalidPart" "InvalidPart" [.ref 31] [.ref 70,.ref 31,.type "ValueError",.type "Exception",.type "BaseException",.type "object"] 69 [] [some (.ref 54),none,some (.str "InvalidPart" 239),some (.str "InvalidPart" 247),some (.builtin "ValueError.__new__"),some (.bool true)]
def o_69 (w : World) : Obj:=oD [eN w "__module__" 246 (.str "tidyframes.errors" 194),eN w "__firstlineno__" 250 (.int 11 249),eN w "__init__" 258 (.ref 67),eN w "__static_attributes__" 260 (.ref 68),eN w "__doc__" 261 .none] 2
def o_89 (w : World) : Obj:=oC "InvalidFate" "InvalidFate" [.ref 31] [.ref 89,.ref 31,.type "ValueError",.type "Exception",.type "BaseException",.type "object"] 88 [] [some (.ref 73),none,some (.str "InvalidFate" 264),some (.str "InvalidFate" 272),some (.builtin "ValueError.__new__"),some (.bool true)]
def o_88 (w : World) : Obj:=oD [eN w "__module__" 271 (.str "tidyframes.errors" 194),eN w "__firstlineno__" 275 (.int 15 274),eN w "__init__" 283 (.ref 86),eN w "__static_attributes__" 285 (.ref 87),eN w "__doc__" 286 .none] 2
def o_108 (w : World) : Obj:=oC "InvalidBeat" "InvalidBeat" [.ref 31] [.ref 108,.ref 31,.type "ValueError",.type "Exception",.type "BaseException",.type "object"] 107 [] [some (.ref 92),none,some (.str "InvalidBeat" 289),some (.str "InvalidBeat" 297),some (.builtin "ValueError.__new__"),some (.bool true)]
def o_107 (w : World) : Obj:=oD [eN w "__module__" 296 (.str "tidyframes.errors" 194),eN w "__firstlineno__" 300 (.int 19 299),eN w "__init__" 308 (.ref 105),eN w "__static_attributes__" 310 (.ref 106),eN w "__doc__" 311 .none] 2
def o_127 (w : World) : Obj:=oC "InvalidSpot" "InvalidSpot" [.ref 31] [.ref 127,.ref 31,.type "ValueError",.type "Exception",.type "BaseException",.type "object"] 126 [] [some (.ref 111),none,some (.str "InvalidSpot" 314),some (.str "InvalidSpot" 322),some (.builtin "ValueError.__new__"),some (.bool true)]
def o_126 (w : World) : Obj:=oD [eN w "__module__" 321 (.str "tidyframes.errors" 194),eN w "__firstlineno__" 325 (.int 23 324),eN w "__init__" 333 (.ref 124),eN w "__static_attributes__" 335 (.ref 125),eN w "__doc__" 336 .none] 2
def o_146 (w : World) : Obj:=oC "InvalidIndex" "InvalidIndex" [.ref 31] [.ref 146,.ref 31,.type "ValueError",.type "Exception",.type "BaseException",.type "object"] 145 [] [some (.ref 130),none,some (.str "InvalidIndex" 339),some (.str "InvalidIndex" 347),some (.builtin "ValueError.__new__"),some (.bool true)]
def o_145 (w : World) : Obj:=oD [eN w "__module__" 346 (.str "tidyframes.errors" 194),eN w "__firstlineno__" 350 (.int 27 349),eN w "__init__" 358 (.ref 143),eN w "__static_attributes__" 360 (.ref 144),eN w "__doc__" 361 .none] 2
def o_165 (w : World) : Obj:=oC "InvalidPlayer" "InvalidPlayer" [.ref 31] [.ref 165,.ref 31,.type "ValueError",.type "Exception",.type "BaseException",.type "object"] 164 [] [some (.ref 149),none,some (.str "InvalidPlayer" 364),some (.str "InvalidPlayer" 372),some (.builtin "ValueError.__new__"),some (.bool true)]
def o_164 (w : World) : Obj:=oD [eN w "__module__" 371 (.str "tidyframes.errors" 194),eN w "__firstlineno__" 375 (.int 31 374),eN w "__init__" 383 (.ref 162),eN w "__static_attributes__" 385 (.ref 163),eN w "__doc__" 386 .none] 2
def o_184 (w : World) : Obj:=oC "InvalidTurn" "InvalidTurn" [.ref 31] [.ref 184,.ref 31,.type "ValueError",.type "Exception",.type "BaseException",.type "object"] 183 [] [some (.ref 168),none,some (.str "InvalidTurn" 389),some (.str "InvalidTurn" 397),some (.builtin "ValueError.__new__"),some (.bool true)]
def o_183 (w : World) : Obj:=oD [eN w "__module__" 396 (.str "tidyframes.errors" 194),eN w "__firstlineno__" 400 (.int 35 399),eN w "__init__" 408 (.ref 181),eN w "__static_attributes__" 410 (.ref 182),eN w "__doc__" 411 .none] 2
def o_203 (w : World) : Obj:=oC "InvalidAnew" "InvalidAnew" [.ref 31] [.ref 203,.ref 31,.type "ValueError",.type "Exception",.type "BaseException",.type "object"] 202 [] [some (.ref 187),none,some (.str "InvalidAnew" 414),some (.str "InvalidAnew" 422),some (.builtin "ValueError.__new__"),some (.bool true)]
def o_202 (w : World) : Obj:=oD [eN w "__module__" 421 (.str "tidyframes.errors" 194),eN w "__firstlineno__" 425 (.int 39 424),eN w "__init__" 433 (.ref 200),eN w "__static_attributes__" 435 (.ref 201),eN w "__doc__" 436 .none] 2
def o_222 (w : World) : Obj:=oC "InvalidStart" "InvalidStart" [.ref 31] [.ref 222,.ref 31,.type "ValueError",.type "Exception",.type "BaseException",.type "object"] 221 [] [some (.ref 206),none,some (.str "InvalidStart" 439),some (.str "InvalidStart" 447),some (.builtin "ValueError.__new__"),some (.bool true)]
def o_221 (w : World) : Obj:=oD [eN w "__module__" 446 (.str "tidyframes.errors" 194),eN w "__firstlineno__" 450 (.int 43 449),eN w "__init__" 458 (.ref 219),eN w "__static_attributes__" 460 (.ref 220),eN w "__doc__" 461 .none] 2
def o_241 (w : World) : Obj:=oC "InvalidText" "InvalidText" [.ref 31] [.ref 241,.ref 31,.type "ValueError",.type "Exception",.type "BaseException",.type "object"] 240 [] [some (.ref 225),none,some (.str "InvalidText" 464),some (.str "InvalidText" 472),some (.builtin "ValueError.__new__"),some (.bool true)]
def o_240 (w : World) : Obj:=oD [eN w "__module__" 471 (.str "tidyframes.errors" 194),eN w "__firstlineno__" 475 (.int 47 474),eN w "__init__" 483 (.ref 238),eN w "__static_attributes__" 485 (.ref 239),eN w "__doc__" 486 .none] 2
def o_260 (w : World) : Obj:=oC "InvalidName" "InvalidName" [.ref 31] [.ref 260,.ref 31,.type "ValueError",.type "Exception",.type "BaseException",.type "object"] 259 [] [some (.ref 244),none,some (.str "InvalidName" 489),some (.str "InvalidName" 497),some (.builtin "ValueError.__new__"),some (.bool true)]
def o_259 (w : World) : Obj:=oD [eN w "__module__" 496 (.str "tidyframes.errors" 194),eN w "__firstlineno__" 500 (.int 51 499),eN w "__init__" 508 (.ref 257),eN w "__static_attributes__" 510 (.ref 258),eN w "__doc__" 511 .none] 2
def o_279 (w : World) : Obj:=oC "InvalidHope" "InvalidHope" [.ref 31] [.ref 279,.ref 31,.type "ValueError",.type "Exception",.type "BaseException",.type "object"] 278 [] [some (.ref 263),none,some (.str "InvalidHope" 514),some (.str "InvalidHope" 522),some (.builtin "ValueError.__new__"),some (.bool true)]
def o_278 (w : World) : Obj:=oD [eN w "__module__" 521 (.str "tidyframes.errors" 194),eN w "__firstlineno__" 525 (.int 55 524),eN w "__init__" 533 (.ref 276),eN w "__static_attributes__" 535 (.ref 277),eN w "__doc__" 536 .none] 2
def o_298 (w : World) : Obj:=oC "NotAFilm" "NotAFilm" [.ref 31] [.ref 298,.ref 31,.type "ValueError",.type "Exception",.type "BaseException",.type "object"] 297 [] [some (.ref 282),none,some (.str "NotAFilm" 539),some (.str "NotAFilm" 547),some (.builtin "ValueError.__new__"),some (.bool true)]
def o_297 (w : World) : Obj:=oD [eN w "__module__" 546 (.str "tidyframes.errors" 194),eN w "__firstlineno__" 550 (.int 59 549),eN w "__init__" 558 (.ref 295),eN w "__static_attributes__" 560 (.ref 296),eN w "__doc__" 561 .none] 2
def o_317 (w : World) : Obj:=oC "NotAWish" "NotAWish" [.ref 31] [.ref 317,.ref 31,.type "ValueError",.type "Exception",.type "BaseException",.type "object"] 316 [] [some (.ref 301),none,some (.str "NotAWish" 564),some (.str "NotAWish" 572),some (.builtin "ValueError.__new__"),some (.bool true)]
def o_316 (w : World) : Obj:=oD [eN w "__module__" 571 (.str "tidyframes.errors" 194),eN w "__firstlineno__" 575 (.int 63 574),eN w "__init__" 583 (.ref 314),eN w "__static_attributes__" 585 (.ref 315),eN w "__doc__" 586 .none] 2
def o_336 (w : World) : Obj:=oC "InvalidFrames" "InvalidFrames" [.ref 31] [.ref 336,.ref 31,.type "ValueError",.type "Exception",.type "BaseException",.type "object"] 335 [] [some (.ref 320),none,some (.str "InvalidFrames" 589),some (.str "InvalidFrames" 597),some (.builtin "ValueError.__new__"),some (.bool true)]
def o_335 (w : World) : Obj:=oD [eN w "__module__" 596 (.str "tidyframes.errors" 194),eN w "__firstlineno__" 600 (.int 67 599),eN w "__init__" 608 (.ref 333),eN w "__static_attributes__" 610 (.ref 334),eN w "__doc__" 611 .none] 2
def o_355 (w : World) : Obj:=oC "InvalidSolid" "InvalidSolid" [.ref 31] [.ref 355,.ref 31,.type "ValueError",.type "Exception",.type "BaseException",.type "object"] 354 [] [some (.ref 339),none,some (.str "InvalidSolid" 614),some (.str "InvalidSolid" 622),some (.builtin "ValueError.__new__"),some (.bool true)]
def o_354 (w : World) : Obj:=oD [eN w "__module__" 621 (.str "tidyframes.errors" 194),eN w "__firstlineno__" 625 (.int 71 624),eN w "__init__" 633 (.ref 352),eN w "__static_attributes__" 635 (.ref 353),eN w "__doc__" 636 .none] 2
def o_374 (w : World) : Obj:=oC "InvalidSheets" "InvalidSheets" [.ref 31] [.ref 374,.ref 31,.type "ValueError",.type "Exception",.type "BaseException",.type "object"] 373 [] [some (.ref 358),none,some (.str "InvalidSheets" 639),some (.str "InvalidSheets" 647),some (.builtin "ValueError.__new__"),some (.bool true)]
def o_373 (w : World) : Obj:=oD [eN w "__module__" 646 (.str "tidyframes.errors" 194),eN w "__firstlineno__" 650 (.int 75 649),eN w "__init__" 658 (.ref 371),eN w "__static_attributes__" 660 (.ref 372),eN w "__doc__" 661 .none] 2
def o_393 (w : World) : Obj:=oC "InvalidPlan" "InvalidPlan" [.ref 31] [.ref 393,.ref 31,.type "ValueError",.type "Exception",.type "BaseException",.type "object"] 392 [] [some (.ref 377),none,some (.str "InvalidPlan" 664),some (.str "InvalidPlan" 672),some (.builtin "ValueError.__new__"),some (.bool true)]
def o_392 (w : World) : Obj:=oD [eN w "__module__" 671 (.str "tidyframes.errors" 194),eN w "__firstlineno__" 675 (.int 79 674),eN w "__init__" 683 (.ref 390),eN w "__static_attributes__" 685 (.ref 391),eN w "__doc__" 686 .none] 2
def o_412 (w : World) : Obj:=oC "WrongRow" "WrongRow" [.ref 31] [.ref 412,.ref 31,.type "ValueError",.type "Exception",.type "BaseException",.type "object"] 411 [] [some (.ref 396),none,some (.str "WrongRow" 689),some (.str "WrongRow" 697),some (.builtin "ValueError.__new__"),some (.bool true)]
def o_411 (w : World) : Obj:=oD [eN w "__module__" 696 (.str "tidyframes.errors" 194),eN w "__firstlineno__" 700 (.int 83 699),eN w "__init__" 708 (.ref 409),eN w "__static_attributes__" 710 (.ref 410),eN w "__doc__" 711 .none] 2
def o_424 (w : World) : Obj:=oC "WrongName" "WrongName" [.type "LookupError"] [.ref 424,.type "LookupError",.type "Exception",.type "BaseException",.type "object"] 423 [.ref 444,.ref 463] [some (.ref 415),none,some (.str "WrongName" 714),some (.str "WrongName" 722),some (.builtin "LookupError.__new__"),some (.bool true)]
def o_423 (w : World) : Obj:=oD [eN w "__module__" 721 (.str "tidyframes.errors" 194),eN w "__firstlineno__" 725 (.int 87 724),eN w "__static_attributes__" 726 (.ref 422),eN w "__weakref__" 728 (.ref 425),eN w "__doc__" 729 .none] 3
def o_444 (w : World) : Obj:=oC "UnknownName" "UnknownName" [.ref 424] [.ref 444,.ref 424,.type "LookupError",.type "Exception",.type "BaseException",.type "object"] 443 [] [some (.ref 428),none,some (.str "UnknownName" 732),some (.str "UnknownName" 740),some (.builtin "LookupError.__new__"),some (.bool true)]
def o_443 (w : World) : Obj:=oD [eN w "__module__" 739 (.str "tidyframes.errors" 194),eN w "__firstlineno__" 743 (.int 89 742),eN w "__init__" 751 (.ref 441),eN w "__static_attributes__" 753 (.ref 442),eN w "__doc__" 754 .none] 2
def o_463 (w : World) : Obj:=oC "InUse" "InUse" [.ref 424] [.ref 463,.ref 424,.type "LookupError",.type "Exception",.type "BaseException",.type "object"] 462 [] [some (.ref 447),none,some (.str "InUse" 757),some (.str "InUse" 765),some (.builtin "LookupError.__new__"),some (.bool true)]
def o_462 (w : World) : Obj:=oD [eN w "__module__" 764 (.str "tidyframes.errors" 194),eN w "__firstlineno__" 768 (.int 93 767),eN w "__init__" 776 (.ref 460),eN w "__static_attributes__" 778 (.ref 461),eN w "__doc__" 779 .none] 2
def o_475 (w : World) : Obj:=oC "NoAnswer" "NoAnswer" [.type "ArithmeticError"] [.ref 475,.type "ArithmeticError",.type "Exception",.type "BaseException",.type "object"] 474 [.ref 488,.ref 500,.ref 512,.ref 531,.ref 550] [some (.ref 466),none,some (.str "NoAnswer" 782),some (.str "NoAnswer" 790),some (.builtin "ArithmeticError.__new__"),some (.bool true)]
def o_474 (w : World) : Obj:=oD [eN w "__module__" 789 (.str "tidyframes.errors" 194),eN w "__firstlineno__" 793 (.int 97 792),eN w "__static_attributes__" 794 (.ref 473),eN w "__weakref__" 796 (.ref 476),eN w "__doc__" 797 .none] 3
def o_488 (w : World) : Obj:=oC "DoNotFit" "DoNotFit" [.ref 475] [.ref 488,.ref 475,.type "ArithmeticError",.type "Exception",.type "BaseException",.type "object"] 487 [] [some (.ref 479),none,some (.str "DoNotFit" 802),some (.str "DoNotFit" 810),some (.builtin "ArithmeticError.__new__"),some (.bool true)]
def o_487 (w : World) : Obj:=oD [eN w "__module__" 809 (.str "tidyframes.errors" 194),eN w "__firstlineno__" 813 (.int 99 812),eN w "__static_attributes__" 814 (.ref 486),eN w "__doc__" 815 .none] 2
def o_500 (w : World) : Obj:=oC "NothingToUndo" "NothingToUndo" [.ref 475] [.ref 500,.ref 475,.type "ArithmeticError",.type "Exception",.type "BaseException",.type "object"] 499 [] [some (.ref 491),none,some (.str "NothingToUndo" 818),some (.str "NothingToUndo" 826),some (.builtin "ArithmeticError.__new__"),some (.bool true)]
def o_499 (w : World) : Obj:=oD [eN w "__module__" 825 (.str "tidyframes.errors" 194),eN w "__firstlineno__" 829 (.int 101 828),eN w "__static_attributes__" 830 (.ref 498),eN w "__doc__" 831 .none] 2
def o_512 (w : World) : Obj:=oC "NothingPainted" "NothingPainted" [.ref 475] [.ref 512,.ref 475,.type "ArithmeticError",.type "Exception",.type "BaseException",.type "object"] 511 [] [some (.ref 503),none,some (.str "NothingPainted" 834),some (.str "NothingPainted" 842),some (.builtin "ArithmeticError.__new__"),some (.bool true)]
def o_511 (w : World) : Obj:=oD [eN w "__module__" 841 (.str "tidyframes.errors" 194),eN w "__firstlineno__" 845 (.int 103 844),eN w "__static_attributes__" 846 (.ref 510),eN w "__doc__" 847 .none] 2
def o_531 (w : World) : Obj:=oC "Broken" "Broken" [.ref 475] [.ref 531,.ref 475,.type "ArithmeticError",.type "Exception",.type "BaseException",.type "object"] 530 [] [some (.ref 515),none,some (.str "Broken" 850),some (.str "Broken" 858),some (.builtin "ArithmeticError.__new__"),some (.bool true)]
def o_530 (w : World) : Obj:=oD [eN w "__module__" 857 (.str "tidyframes.errors" 194),eN w "__firstlineno__" 861 (.int 105 860),eN w "__init__" 869 (.ref 528),eN w "__static_attributes__" 871 (.ref 529),eN w "__doc__" 872 .none] 2
def o_550 (w : World) : Obj:=oC "TooMany" "TooMany" [.ref 475] [.ref 550,.ref 475,.type "ArithmeticError",.type "Exception",.type "BaseException",.type "object"] 549 [] [some (.ref 534),none,some (.str "TooMany" 875),some (.str "TooMany" 883),some (.builtin "ArithmeticError.__new__"),some (.bool true)]
def o_549 (w : World) : Obj:=oD [eN w "__module__" 882 (.str "tidyframes.errors" 194),eN w "__firstlineno__" 886 (.int 109 885),eN w "__init__" 894 (.ref 547),eN w "__static_attributes__" 896 (.ref 548),eN w "__doc__" 897 .none] 2
def o_801 (w : World) : Obj:=oC "Film" "Film" [.type "object"] [.ref 801,.type "object"] 800 [] [none,none,some (.str "Film" 1072),some (.str "Film" 1080),some (.builtin "object.__new__"),some (.bool true)]
def o_800 (w : World) : Obj:=oD [eN w "__module__" 1079 (.str "tidyframes.films" 1009),eN w "__firstlineno__" 1083 (.int 199 1082),eN w "__init__" 1097 (.ref 691),eN w "read" 1115 (.ref 698),eN w "width" 1123 (.ref 707),eN w "height" 1131 (.ref 715),eN w "frames" 1139 (.ref 723),eN w "solid" 1147 (.ref 731),eN w "pictures" 1154 (.ref 737),eN w "__len__" 1161 (.ref 744),eN w "__str__" 1167 (.ref 749),eN w "__eq__" 1175 (.ref 756),eN w "with_frames" 1183 (.ref 763),eN w "then" 1191 (.ref 770),eN w "cut" 1200 (.ref 777),eN w "turned" 1207 (.ref 784),eN w "without" 1215 (.ref 791),eN w "changed" 1225 (.ref 798),eN w "__static_attributes__" 1227 (.ref 799),eN w "__dict__" 1229 (.ref 802),eN w "__weakref__" 1231 (.ref 803),eN w "__doc__" 1232 .none,eN w "__hash__" 1233 .none] 5
def o_876 (w : World) : Obj:=oC "Trial" "Trial" [.type "object"] [.ref 876,.type "object"] 875 [] [none,none,some (.str "Trial" 1300),some (.str "Trial" 1308),some (.builtin "object.__new__"),some (.bool true)]
def o_875 (w : World) : Obj:=oD [eN w "__module__" 1307 (.str "tidyframes.screens" 1298),eN w "__firstlineno__" 1311 (.int 310 1310),eN w "__init__" 1319 (.ref 859),eN w "__enter__" 1326 (.ref 866),eN w "__exit__" 1336 (.ref 873),eN w "__static_attributes__" 1339 (.ref 874),eN w "__dict__" 1341 (.ref 877),eN w "__weakref__" 1343 (.ref 878),eN w "__doc__" 1344 .none] 4
def o_977 (w : World) : Obj:=oC "Screen" "Screen" [.type "object"] [.ref 977,.type "object"] 976 [] [none,none,some (.str "Screen" 1347),some (.str "Screen" 1355),some (.builtin "object.__new__"),some (.bool true)]
def o_976 (w : World) : Obj:=oD [eN w "__module__" 1354 (.str "tidyframes.screens" 1298),eN w "__firstlineno__" 1358 (.int 323 1357),eN w "__init__" 1369 (.ref 896),eN w "frames" 1377 (.ref 904),eN w "__len__" 1384 (.ref 911),eN w "__bool__" 1391 (.ref 918),eN w "paint" 1401 (.ref 925),eN w "undo" 1408 (.ref 932),eN w "film" 1415 (.ref 939),eN w "stands" 1426 (.ref 946),eN w "seen" 1434 (.ref 953),eN w "below" 1442 (.ref 960),eN w "trial" 1449 (.ref 967),eN w "tried" 1458 (.ref 974),eN w "__static_attributes__" 1461 (.ref 975),eN w "__dict__" 1463 (.ref 978),eN w "__weakref__" 1465 (.ref 979),eN w "__doc__" 1466 .none] 4
def o_889 (w : World) : Obj:=oD [eN w "solid" 1359 (.ref 888)] 1
def o_29 (w : World) : Obj:=oT []
def o_48 (w : World) : Obj:=oF "__init__" "InvalidSize.__init__" s_InvalidSize_init .none .none .none (.str "tidyframes.errors" 194) none 47
def o_47 (w : World) : Obj:=oU "code" none [.str "__init__" 226,.str "InvalidSize.__init__" 227,.str "/claim/cut.py" 228,.int 9 0,.int 2 0,.int 0 0,.int 0 0,.int 3 0,.ref 42,.bool true,.int 181 0,.ref 43,.none,.ref 44,.ref 45,.ref 46,.int 231 0,.int 9 0,.str "/claim/cut.py" 232]
def o_49 (w : World) : Obj:=oT [.str "given" 234]
def o_67 (w : World) : Obj:=oF "__init__" "InvalidPart.__init__" s_InvalidPart_init .none .none .none (.str "tidyframes.errors" 194) none 66
def o_66 (w : World) : Obj:=oU "code" none [.str "__init__" 251,.str "InvalidPart.__init__" 252,.str "/claim/cut.py" 253,.int 13 0,.int 2 0,.int 0 0,.int 0 0,.int 3 0,.ref 61,.bool true,.int 181 0,.ref 62,.none,.ref 63,.ref 64,.ref 65,.int 256 0,.int 13 0,.str "/claim/cut.py" 257]
def o_68 (w : World) : Obj:=oT [.str "given" 259]
def o_86 (w : World) : Obj:=oF "__init__" "InvalidFate.__init__" s_InvalidFate_init .none .none .none (.str "tidyframes.errors" 194) none 85
def o_85 (w : World) : Obj:=oU "code" none [.str "__init__" 276,.str "InvalidFate.__init__" 277,.str "/claim/cut.py" 278,.int 17 0,.int 2 0,.int 0 0,.int 0 0,.int 3 0,.ref 80,.bool true,.int 181 0,.ref 81,.none,.ref 82,.ref 83,.ref 84,.int 281 0,.int 17 0,.str "/claim/cut.py" 282]
def o_87 (w : World) : Obj:=oT [.str "given" 284]
def o_106 (w : World) : Obj:=oT [.str "given" 309]
def o_125 (w : World) : Obj:=oT [.str "given" 334]
def o_144 (w : World) : Obj:=oT [.str "given" 359]
def o_163 (w : World) : Obj:=oT [.str "given" 384]
def o_182 (w : World) : Obj:=oT [.str "given" 409]
def o_201 (w : World) : Obj:=oT [.str "given" 434]
def o_220 (w : World) : Obj:=oT [.str "given" 459]
def o_239 (w : World) : Obj:=oT [.str "given" 484]
def o_257 (w : World) : Obj:=oF "__init__" "InvalidName.__init__" s_InvalidName_init .none .none .none (.str "tidyframes.errors" 194) none 256
def o_256 (w : World) : Obj:=oU "code" none [.str "__init__" 501,.str "InvalidName.__init__" 502,.str "/claim/cut.py" 503,.int 53 0,.int 2 0,.int 0 0,.int 0 0,.int 3 0,.ref 251,.bool true,.int 181 0,.ref 252,.none,.ref 253,.ref 254,.ref 255,.int 506 0,.int 53 0,.str "/claim/cut.py" 507]
def o_258 (w : World) : Obj:=oT [.str "given" 509]
def o_277 (w : World) : Obj:=oT [.str "given" 534]
def o_296 (w : World) : Obj:=oT [.str "given" 559]
def o_315 (w : World) : Obj:=oT [.str "given" 584]
def o_334 (w : World) : Obj:=oT [.str "index" 609]
def o_352 (w : World) : Obj:=oF "__init__" "InvalidSolid.__init__" s_InvalidSolid_init .none .none .none (.str "tidyframes.errors" 194) none 351
def o_351 (w : World) : Obj:=oU "code" none [.str "__init__" 626,.str "InvalidSolid.__init__" 627,.str "/claim/cut.py" 628,.int 73 0,.int 2 0,.int 0 0,.int 0 0,.int 3 0,.ref 346,.bool true,.int 181 0,.ref 347,.none,.ref 348,.ref 349,.ref 350,.int 631 0,.int 73 0,.str "/claim/cut.py" 632]
def o_353 (w : World) : Obj:=oT [.str "index" 634]
def o_372 (w : World) : Obj:=oT [.str "index" 659]
def o_391 (w : World) : Obj:=oT [.str "index" 684]
def o_410 (w : World) : Obj:=oT [.str "index" 709]
def o_422 (w : World) : Obj:=oT []
def o_441 (w : World) : Obj:=oF "__init__" "UnknownName.__init__" s_UnknownName_init .none .none .none (.str "tidyframes.errors" 194) none 440
def o_440 (w : World) : Obj:=oU "code" none [.str "__init__" 744,.str "UnknownName.__init__" 745,.str "/claim/cut.py" 746,.int 91 0,.int 2 0,.int 0 0,.int 0 0,.int 3 0,.ref 435,.bool true,.int 181 0,.ref 436,.none,.ref 437,.ref 438,.ref 439,.int 749 0,.int 91 0,.str "/claim/cut.py" 750]
def o_442 (w : World) : Obj:=oT [.str "given" 752]
def o_461 (w : World) : Obj:=oT [.str "index" 777]
def o_473 (w : World) : Obj:=oT []
def o_486 (w : World) : Obj:=oT []
def o_498 (w : World) : Obj:=oT []
def o_510 (w : World) : Obj:=oT []
def o_529 (w : World) : Obj:=oT [.str "index" 870]
def o_547 (w : World) : Obj:=oF "__init__" "TooMany.__init__" s_TooMany_init .none .none .none (.str "tidyframes.errors" 194) none 546
def o_546 (w : World) : Obj:=oU "code" none [.str "__init__" 887,.str "TooMany.__init__" 888,.str "/claim/cut.py" 889,.int 111 0,.int 2 0,.int 0 0,.int 0 0,.int 3 0,.ref 541,.bool true,.int 181 0,.ref 542,.none,.ref 543,.ref 544,.ref 545,.int 892 0,.int 111 0,.str "/claim/cut.py" 893]
def o_548 (w : World) : Obj:=oT [.str "limit" 895]
def o_553 (w : World) : Obj:=oT [.str "screen" 916,.str "solid" 917,.str "beat" 918]
def o_554 (w : World) : Obj:=oT [.str "stays" 920,.str "wiped" 921,.str "back" 922]
def o_561 (w : World) : Obj:=oF "is_integer" "is_integer" s_is_integer .none .none .none (.str "tidyframes.parts" 908) none 560
def o_560 (w : World) : Obj:=oU "code" none [.str "is_integer" 924,.str "is_integer" 925,.str "/claim/cut.py" 926,.int 122 0,.int 1 0,.int 0 0,.int 0 0,.int 3 0,.ref 555,.bool true,.int 181 0,.ref 556,.none,.ref 557,.ref 558,.ref 559,.int 928 0,.int 122 0,.str "/claim/cut.py" 929]
def o_568 (w : World) : Obj:=oF "is_within" "is_within" s_is_within .none .none .none (.str "tidyframes.parts" 908) none 567
def o_567 (w : World) : Obj:=oU "code" none [.str "is_within" 931,.str "is_within" 932,.str "/claim/cut.py" 933,.int 124 0,.int 3 0,.int 0 0,.int 0 0,.int 3 0,.ref 562,.bool true,.int 181 0,.ref 563,.none,.ref 564,.ref 565,.ref 566,.int 937 0,.int 124 0,.str "/claim/cut.py" 938]
def o_573 (w : World) : Obj:=oF "is_name" "is_name" s_is_name .none .none .none (.str "tidyframes.parts" 908) none 572
def o_572 (w : World) : Obj:=oU "code" none [.str "is_name" 940,.str "is_name" 941,.str "/claim/cut.py" 942,.int 126 0,.int 1 0,.int 0 0,.int 0 0,.int 3 0,.ref 569,.bool true,.int 181 0,.ref 570,.none,.none,.none,.ref 571,.int 943 0,.int 126 0,.str "/claim/cut.py" 944]
def o_580 (w : World) : Obj:=oF "is_word" "is_word" s_is_word .none .none .none (.str "tidyframes.parts" 908) none 579
def o_579 (w : World) : Obj:=oU "code" none [.str "is_word" 946,.str "is_word" 947,.str "/claim/cut.py" 948,.int 130 0,.int 2 0,.int 0 0,.int 0 0,.int 3 0,.ref 574,.bool true,.int 181 0,.ref 575,.none,.ref 576,.ref 577,.ref 578,.int 951 0,.int 130 0,.str "/claim/cut.py" 952]
def o_585 (w : World) : Obj:=oF "is_part" "is_part" s_is_part .none .none .none (.str "tidyframes.parts" 908) none 584
def o_584 (w : World) : Obj:=oU "code" none [.str "is_part" 954,.str "is_part" 955,.str "/claim/cut.py" 956,.int 132 0,.int 3 0,.int 0 0,.int 0 0,.int 3 0,.ref 581,.bool true,.int 181 0,.ref 582,.none,.none,.none,.ref 583,.int 957 0,.int 132 0,.str "/claim/cut.py" 958]
def o_592 (w : World) : Obj:=oF "check_size" "check_size" s_check_size .none .none .none (.str "tidyframes.parts" 908) none 591
def o_591 (w : World) : Obj:=oU "code" none [.str "check_size" 960,.str "check_size" 961,.str "/claim/cut.py" 962,.int 137 0,.int 1 0,.int 0 0,.int 0 0,.int 3 0,.ref 586,.bool true,.int 181 0,.ref 587,.none,.ref 588,.ref 589,.ref 590,.int 964 0,.int 137 0,.str "/claim/cut.py" 965]
def o_599 (w : World) : Obj:=oF "check_part" "check_part" s_check_part .none .none .none (.str "tidyframes.parts" 908) none 598
def o_598 (w : World) : Obj:=oU "code" none [.str "check_part" 967,.str "check_part" 968,.str "/claim/cut.py" 969,.int 140 0,.int 3 0,.int 0 0,.int 0 0,.int 3 0,.ref 593,.bool true,.int 181 0,.ref 594,.none,.ref 595,.ref 596,.ref 597,.int 973 0,.int 140 0,.str "/claim/cut.py" 974]
def o_606 (w : World) : Obj:=oF "check_fate" "check_fate" s_check_fate .none .none .none (.str "tidyframes.parts" 908) none 605
def o_605 (w : World) : Obj:=oU "code" none [.str "check_fate" 976,.str "check_fate" 977,.str "/claim/cut.py" 978,.int 143 0,.int 1 0,.int 0 0,.int 0 0,.int 3 0,.ref 600,.bool true,.int 181 0,.ref 601,.none,.ref 602,.ref 603,.ref 604,.int 980 0,.int 143 0,.str "/claim/cut.py" 981]
def o_613 (w : World) : Obj:=oF "check_solid" "check_solid" s_check_solid .none .none .none (.str "tidyframes.parts" 908) none 612
def o_612 (w : World) : Obj:=oU "code" none [.str "check_solid" 983,.str "check_solid" 984,.str "/claim/cut.py" 985,.int 146 0,.int 1 0,.int 0 0,.int 0 0,.int 3 0,.ref 607,.bool true,.int 181 0,.ref 608,.none,.ref 609,.ref 610,.ref 611,.int 989 0,.int 146 0,.str "/claim/cut.py" 990]
def o_799 (w : World) : Obj:=oT [.str "all" 1226]
def o_826 (w : World) : Obj:=oT [.ref 825,.bool true]
def o_825 (w : World) : Obj:=oT []
def o_859 (w : World) : Obj:=oF "__init__" "Trial.__init__" s_Trial_init .none .none .none (.str "tidyframes.screens" 1298) none 858
def o_858 (w : World) : Obj:=oU "code" none [.str "__init__" 1312,.str "Trial.__init__" 1313,.str "/claim/cut.py" 1314,.int 312 0,.int 2 0,.int 0 0,.int 0 0,.int 3 0,.ref 853,.bool true,.int 181 0,.ref 854,.none,.ref 855,.ref 856,.ref 857,.int 1317 0,.int 312 0,.str "/claim/cut.py" 1318]
def o_866 (w : World) : Obj:=oF "__enter__" "Trial.__enter__" s_Trial_enter .none .none .none (.str "tidyframes.screens" 1298) none 865
def o_865 (w : World) : Obj:=oU "code" none [.str "__enter__" 1320,.str "Trial.__enter__" 1321,.str "/claim/cut.py" 1322,.int 316 0,.int 1 0,.int 0 0,.int 0 0,.int 3 0,.ref 860,.bool true,.int 181 0,.ref 861,.none,.ref 862,.ref 863,.ref 864,.int 1324 0,.int 316 0,.str "/claim/cut.py" 1325]
def o_873 (w : World) : Obj:=oF "__exit__" "Trial.__exit__" s_Trial_exit .none .none .none (.str "tidyframes.screens" 1298) none 872
def o_872 (w : World) : Obj:=oU "code" none [.str "__exit__" 1327,.str "Trial.__exit__" 1328,.str "/claim/cut.py" 1329,.int 320 0,.int 4 0,.int 0 0,.int 0 0,.int 3 0,.ref 867,.bool true,.int 181 0,.ref 868,.none,.ref 869,.ref 870,.ref 871,.int 1334 0,.int 320 0,.str "/claim/cut.py" 1335]
def o_874 (w : World) : Obj:=oT [.str "begun" 1337,.str "box" 1338]
def o_896 (w : World) : Obj:=oF "__init__" "Screen.__init__" s_Screen_init .none (.ref 889) .none (.str "tidyframes.screens" 1298) none 895
def o_895 (w : World) : Obj:=oU "code" none [.str "__init__" 1360,.str "Screen.__init__" 1361,.str "/claim/cut.py" 1362,.int 325 0,.int 3 0,.int 0 0,.int 1 0,.int 3 0,.ref 890,.bool true,.int 181 0,.ref 891,.none,.ref 892,.ref 893,.ref 894,.int 1367 0,.int 325 0,.str "/claim/cut.py" 1368]
def o_888 (w : World) : Obj:=oT []
def o_904 (w : World) : Obj:=oU "property" none [.ref 903,.none,.none,.none,.str "frames" 1377,.bool false]
def o_903 (w : World) : Obj:=oF "frames" "Screen.frames" s_Screen_frames .none .none .none (.str "tidyframes.screens" 1298) none 902
def o_902 (w : World) : Obj:=oU "code" none [.str "frames" 1370,.str "Screen.frames" 1371,.str "/claim/cut.py" 1372,.int 332 0,.int 1 0,.int 0 0,.int 0 0,.int 3 0,.ref 897,.bool true,.int 181 0,.ref 898,.none,.ref 899,.ref 900,.ref 901,.int 1374 0,.int 332 0,.str "/claim/cut.py" 1375]
def o_911 (w : World) : Obj:=oF "__len__" "Screen.__len__" s_Screen_len .none .none .none (.str "tidyframes.screens" 1298) none 910
def o_910 (w : World) : Obj:=oU "code" none [.str "__len__" 1378,.str "Screen.__len__" 1379,.str "/claim/cut.py" 1380,.int 336 0,.int 1 0,.int 0 0,.int 0 0,.int 3 0,.ref 905,.bool true,.int 181 0,.ref 906,.none,.ref 907,.ref 908,.ref 909,.int 1382 0,.int 336 0,.str "/claim/cut.py" 1383]
def o_925 (w : World) : Obj:=oF "paint" "Screen.paint" s_Screen_paint .none .none .none (.str "tidyframes.screens" 1298) none 924
def o_924 (w : World) : Obj:=oU "code" none [.str "paint" 1392,.str "Screen.paint" 1393,.str "/claim/cut.py" 1394,.int 342 0,.int 4 0,.int 0 0,.int 0 0,.int 3 0,.ref 919,.bool true,.int 181 0,.ref 920,.none,.ref 921,.ref 922,.ref 923,.int 1399 0,.int 342 0,.str "/claim/cut.py" 1400]
def o_932 (w : World) : Obj:=oF "undo" "Screen.undo" s_Screen_undo .none .none .none (.str "tidyframes.screens" 1298) none 931
def o_931 (w : World) : Obj:=oU "code" none [.str "undo" 1402,.str "Screen.undo" 1403,.str "/claim/cut.py" 1404,.int 351 0,.int 1 0,.int 0 0,.int 0 0,.int 3 0,.ref 926,.bool true,.int 181 0,.ref 927,.none,.ref 928,.ref 929,.ref 930,.int 1406 0,.int 351 0,.str "/claim/cut.py" 1407]
def o_967 (w : World) : Obj:=oF "trial" "Screen.trial" s_Screen_trial .none .none .none (.str "tidyframes.screens" 1298) none 966
def o_966 (w : World) : Obj:=oU "code" none [.str "trial" 1443,.str "Screen.trial" 1444,.str "/claim/cut.py" 1445,.int 375 0,.int 1 0,.int 0 0,.int 0 0,.int 3 0,.ref 961,.bool true,.int 181 0,.ref 962,.none,.ref 963,.ref 964,.ref 965,.int 1447 0,.int 375 0,.str "/claim/cut.py" 1448]
def o_974 (w : World) : Obj:=oF "tried" "Screen.tried" s_Screen_tried .none .none .none (.str "tidyframes.screens" 1298) none 973
def o_973 (w : World) : Obj:=oU "code" none [.str "tried" 1450,.str "Screen.tried" 1451,.str "/claim/cut.py" 1452,.int 378 0,.int 2 0,.int 0 0,.int 0 0,.int 3 0,.ref 968,.bool true,.int 181 0,.ref 969,.none,.ref 970,.ref 971,.ref 972,.int 1456 0,.int 378 0,.str "/claim/cut.py" 1457]
def o_975 (w : World) : Obj:=oT [.str "head" 1459,.str "state" 1460]
def o_988 (w : World) : Obj:=oF "_law_jar" "_law_jar" s_law_jar .none .none .none (.str "law_tidyframes_k58_screens_tried" 1469) none 987
def o_987 (w : World) : Obj:=oU "code" none [.str "_law_jar" 1471,.str "_law_jar" 1472,.str "/claim/cut.py" 1473,.int 382 0,.int 2 0,.int 0 0,.int 0 0,.int 3 0,.ref 982,.bool true,.int 181 0,.ref 983,.none,.ref 984,.ref 985,.ref 986,.int 1480 0,.int 382 0,.str "/claim/cut.py" 1481]
def o_995 (w : World) : Obj:=oF "_law_dip" "_law_dip" s_law_dip .none .none .none (.str "law_tidyframes_k58_screens_tried" 1469) none 994
def o_994 (w : World) : Obj:=oU "code" none [.str "_law_dip" 1483,.str "_law_dip" 1484,.str "/claim/cut.py" 1485,.int 389 0,.int 2 0,.int 0 0,.int 0 0,.int 3 0,.ref 989,.bool true,.int 181 0,.ref 990,.none,.ref 991,.ref 992,.ref 993,.int 1490 0,.int 389 0,.str "/claim/cut.py" 1491]
def o_1002 (w : World) : Obj:=oF "_law_pick" "_law_pick" s_law_pick .none .none .none (.str "law_tidyframes_k58_screens_tried" 1469) none 1001
def o_1001 (w : World) : Obj:=oU "code" none [.str "_law_pick" 1493,.str "_law_pick" 1494,.str "/claim/cut.py" 1495,.int 398 0,.int 2 0,.int 0 0,.int 0 0,.int 3 0,.ref 996,.bool true,.int 181 0,.ref 997,.none,.ref 998,.ref 999,.ref 1000,.int 1499 0,.int 398 0,.str "/claim/cut.py" 1500]
def o_1009 (w : World) : Obj:=oF "_law_rect" "_law_rect" s_law_rect .none .none .none (.str "law_tidyframes_k58_screens_tried" 1469) none 1008
def o_1008 (w : World) : Obj:=oU "code" none [.str "_law_rect" 1502,.str "_law_rect" 1503,.str "/claim/cut.py" 1504,.int 401 0,.int 3 0,.int 0 0,.int 0 0,.int 3 0,.ref 1003,.bool true,.int 181 0,.ref 1004,.none,.ref 1005,.ref 1006,.ref 1007,.int 1510 0,.int 401 0,.str "/claim/cut.py" 1511]
def o_1016 (w : World) : Obj:=oF "_law_tags" "_law_tags" s_law_tags .none .none .none (.str "law_tidyframes_k58_screens_tried" 1469) none 1015
def o_1015 (w : World) : Obj:=oU "code" none [.str "_law_tags" 1513,.str "_law_tags" 1514,.str "/claim/cut.py" 1515,.int 404 0,.int 1 0,.int 0 0,.int 0 0,.int 3 0,.ref 1010,.bool true,.int 181 0,.ref 1011,.none,.ref 1012,.ref 1013,.ref 1014,.int 1518 0,.int 404 0,.str "/claim/cut.py" 1519]
def o_1023 (w : World) : Obj:=oF "_law_caught" "_law_caught" s_law_caught .none .none .none (.str "law_tidyframes_k58_screens_tried" 1469) none 1022
def o_1022 (w : World) : Obj:=oU "code" none [.str "_law_caught" 1521,.str "_law_caught" 1522,.str "/claim/cut.py" 1523,.int 434 0,.int 1 0,.int 0 0,.int 0 0,.int 3 0,.ref 1017,.bool true,.int 181 0,.ref 1018,.none,.ref 1019,.ref 1020,.ref 1021,.int 1528 0,.int 434 0,.str "/claim/cut.py" 1529]
def o_1028 (w : World) : Obj:=oF "_law_model" "_law_model" s_law_model .none .none .none (.str "law_tidyframes_k58_screens_tried" 1469) none 1027
def o_1027 (w : World) : Obj:=oU "code" none [.str "_law_model" 1531,.str "_law_model" 1532,.str "/claim/cut.py" 1533,.int 447 0,.int 4 0,.int 0 0,.int 0 0,.int 3 0,.ref 1024,.bool true,.int 181 0,.ref 1025,.none,.none,.none,.ref 1026,.int 1534 0,.int 447 0,.str "/claim/cut.py" 1535]
def o_1035 (w : World) : Obj:=oF "_law_went" "_law_went" s_law_went .none .none .none (.str "law_tidyframes_k58_screens_tried" 1469) none 1034
def o_1034 (w : World) : Obj:=oU "code" none [.str "_law_went" 1537,.str "_law_went" 1538,.str "/claim/cut.py" 1539,.int 456 0,.int 1 0,.int 0 0,.int 0 0,.int 3 0,.ref 1029,.bool true,.int 181 0,.ref 1030,.none,.ref 1031,.ref 1032,.ref 1033,.int 1542 0,.int 456 0,.str "/claim/cut.py" 1543]
def o_1042 (w : World) : Obj:=oF "_law_board" "_law_board" s_law_board .none .none .none (.str "law_tidyframes_k58_screens_tried" 1469) none 1041
def o_1041 (w : World) : Obj:=oU "code" none [.str "_law_board" 1545,.str "_law_board" 1546,.str "/claim/cut.py" 1547,.int 464 0,.int 1 0,.int 0 0,.int 0 0,.int 3 0,.ref 1036,.bool true,.int 181 0,.ref 1037,.none,.ref 1038,.ref 1039,.ref 1040,.int 1549 0,.int 464 0,.str "/claim/cut.py" 1550]
def o_1049 (w : World) : Obj:=oF "_law_ending" "_law_ending" s_law_ending .none .none .none (.str "law_tidyframes_k58_screens_tried" 1469) none 1048
def o_1048 (w : World) : Obj:=oU "code" none [.str "_law_ending" 1552,.str "_law_ending" 1553,.str "/claim/cut.py" 1554,.int 466 0,.int 1 0,.int 0 0,.int 0 0,.int 3 0,.ref 1043,.bool true,.int 181 0,.ref 1044,.none,.ref 1045,.ref 1046,.ref 1047,.int 1556 0,.int 466 0,.str "/claim/cut.py" 1557]
def o_1056 (w : World) : Obj:=oF "_law_end_due" "_law_end_due" s_law_end_due .none .none .none (.str "law_tidyframes_k58_screens_tried" 1469) none 1055
def o_1055 (w : World) : Obj:=oU "code" none [.str "_law_end_due" 1559,.str "_law_end_due" 1560,.str "/claim/cut.py" 1561,.int 476 0,.int 1 0,.int 0 0,.int 0 0,.int 3 0,.ref 1050,.bool true,.int 181 0,.ref 1051,.none,.ref 1052,.ref 1053,.ref 1054,.int 1564 0,.int 476 0,.str "/claim/cut.py" 1565]
def o_1063 (w : World) : Obj:=oF "_law_acts" "_law_acts" s_law_acts .none .none .none (.str "law_tidyframes_k58_screens_tried" 1469) none 1062
def o_1062 (w : World) : Obj:=oU "code" none [.str "_law_acts" 1567,.str "_law_acts" 1568,.str "/claim/cut.py" 1569,.int 479 0,.int 2 0,.int 0 0,.int 0 0,.int 3 0,.ref 1057,.bool true,.int 181 0,.ref 1058,.none,.ref 1059,.ref 1060,.ref 1061,.int 1575 0,.int 479 0,.str "/claim/cut.py" 1576]
def o_1070 (w : World) : Obj:=oF "_law_done" "_law_done" s_law_done .none .none .none (.str "law_tidyframes_k58_screens_tried" 1469) none 1069
def o_1069 (w : World) : Obj:=oU "code" none [.str "_law_done" 1578,.str "_law_done" 1579,.str "/claim/cut.py" 1580,.int 485 0,.int 3 0,.int 0 0,.int 0 0,.int 3 0,.ref 1064,.bool true,.int 181 0,.ref 1065,.none,.ref 1066,.ref 1067,.ref 1068,.int 1588 0,.int 485 0,.str "/claim/cut.py" 1589]
def o_1077 (w : World) : Obj:=oF "_law_after" "_law_after" s_law_after .none .none .none (.str "law_tidyframes_k58_screens_tried" 1469) none 1076
def o_1076 (w : World) : Obj:=oU "code" none [.str "_law_after" 1591,.str "_law_after" 1592,.str "/claim/cut.py" 1593,.int 492 0,.int 2 0,.int 0 0,.int 0 0,.int 3 0,.ref 1071,.bool true,.int 181 0,.ref 1072,.none,.ref 1073,.ref 1074,.ref 1075,.int 1599 0,.int 492 0,.str "/claim/cut.py" 1600]
def o_1084 (w : World) : Obj:=oF "_law_action" "_law_action" s_law_action .none .none .none (.str "law_tidyframes_k58_screens_tried" 1469) none 1083
def o_1083 (w : World) : Obj:=oU "code" none [.str "_law_action" 1602,.str "_law_action" 1603,.str "/claim/cut.py" 1604,.int 500 0,.int 4 0,.int 0 0,.int 0 0,.int 3 0,.ref 1078,.bool true,.int 181 0,.ref 1079,.none,.ref 1080,.ref 1081,.ref 1082,.int 1617 0,.int 500 0,.str "/claim/cut.py" 1618]
def o_1091 (w : World) : Obj:=oF "_law_inner" "_law_inner" s_law_inner .none .none .none (.str "law_tidyframes_k58_screens_tried" 1469) none 1090
def o_1090 (w : World) : Obj:=oU "code" none [.str "_law_inner" 1620,.str "_law_inner" 1621,.str "/claim/cut.py" 1622,.int 508 0,.int 5 0,.int 0 0,.int 0 0,.int 3 0,.ref 1085,.bool true,.int 181 0,.ref 1086,.none,.ref 1087,.ref 1088,.ref 1089,.int 1628 0,.int 508 0,.str "/claim/cut.py" 1629]
def o_1098 (w : World) : Obj:=oF "_law_notes_due" "_law_notes_due" s_law_notes_due .none .none .none (.str "law_tidyframes_k58_screens_tried" 1469) none 1097
def o_1097 (w : World) : Obj:=oU "code" none [.str "_law_notes_due" 1631,.str "_law_notes_due" 1632,.str "/claim/cut.py" 1633,.int 512 0,.int 2 0,.int 0 0,.int 0 0,.int 3 0,.ref 1092,.bool true,.int 181 0,.ref 1093,.none,.ref 1094,.ref 1095,.ref 1096,.int 1647 0,.int 512 0,.str "/claim/cut.py" 1648]
def o_1105 (w : World) : Obj:=oF "_law_right" "_law_right" s_law_right .none .none .none (.str "law_tidyframes_k58_screens_tried" 1469) none 1104
def o_1104 (w : World) : Obj:=oU "code" none [.str "_law_right" 1650,.str "_law_right" 1651,.str "/claim/cut.py" 1652,.int 524 0,.int 1 0,.int 0 0,.int 0 0,.int 3 0,.ref 1099,.bool true,.int 181 0,.ref 1100,.none,.ref 1101,.ref 1102,.ref 1103,.int 1664 0,.int 524 0,.str "/claim/cut.py" 1665]
def o_1110 (w : World) : Obj:=oF "law" "law" s_law .none .none .none (.str "law_tidyframes_k58_screens_tried" 1469) none 1109
def o_1109 (w : World) : Obj:=oU "code" none [.str "law" 1667,.str "law" 1668,.str "/claim/cut.py" 1669,.int 539 0,.int 1 0,.int 0 0,.int 0 0,.int 3 0,.ref 1106,.bool true,.int 181 0,.ref 1107,.none,.none,.none,.ref 1108,.int 1670 0,.int 539 0,.str "/claim/cut.py" 1671]
def Kl (w : World) : PySem.W.Frag:=[(3,o_3 w),(31,o_31 w),(30,o_30 w),(51,o_51 w),(50,o_50 w),(70,o_70 w),(69,o_69 w),(89,o_89 w),(88,o_88 w),(108,o_108 w),(107,o_107 w),(127,o_127 w),(126,o_126 w),(146,o_146 w),(145,o_145 w),(165,o_165 w),(164,o_164 w),(184,o_184 w),(183,o_183 w),(203,o_203 w),(202,o_202 w),(222,o_222 w),(221,o_221 w),(241,o_241 w),(240,o_240 w),(260,o_260 w),(259,o_259 w),(279,o_279 w),(278,o_278 w),(298,o_298 w),(297,o_297 w),(317,o_317 w),(316,o_316 w),(336,o_336 w),(335,o_335 w),(355,o_355 w),(354,o_354 w),(374,o_374 w),(373,o_373 w),(393,o_393 w),(392,o_392 w),(412,o_412 w),(411,o_411 w),(424,o_424 w),(423,o_423 w),(444,o_444 w),(443,o_443 w),(463,o_463 w),(462,o_462 w),(475,o_475 w),(474,o_474 w),(488,o_488 w),(487,o_487 w),(500,o_500 w),(499,o_499 w),(512,o_512 w),(511,o_511 w),(531,o_531 w),(530,o_530 w),(550,o_550 w),(549,o_549 w),(801,o_801 w),(800,o_800 w),(876,o_876 w),(875,o_875 w),(977,o_977 w),(976,o_976 w),(889,o_889 w),(29,o_29 w),(48,o_48 w),(47,o_47 w),(49,o_49 w),(67,o_67 w),(66,o_66 w),(68,o_68 w),(86,o_86 w),(85,o_85 w),(87,o_87 w),(106,o_106 w),(125,o_125 w),(144,o_144 w),(163,o_163 w),(182,o_182 w),(201,o_201 w),(220,o_220 w),(239,o_239 w),(257,o_257 w),(256,o_256 w),(258,o_258 w),(277,o_277 w),(296,o_296 w),(315,o_315 w),(334,o_334 w),(352,o_352 w),(351,o_351 w),(353,o_353 w),(372,o_372 w),(391,o_391 w),(410,o_410 w),(422,o_422 w),(441,o_441 w),(440,o_440 w),(442,o_442 w),(461,o_461 w),(473,o_473 w),(486,o_486 w),(498,o_498 w),(510,o_510 w),(529,o_529 w),(547,o_547 w),(546,o_546 w),(548,o_548 w),(553,o_553 w),(554,o_554 w),(561,o_561 w),(560,o_560 w),(568,o_568 w),(567,o_567 w),(573,o_573 w),(572,o_572 w),(580,o_580 w),(579,o_579 w),(585,o_585 w),(584,o_584 w),(592,o_592 w),(591,o_591 w),(599,o_599 w),(598,o_598 w),(606,o_606 w),(605,o_605 w),(613,o_613 w),(612,o_612 w),(799,o_799 w),(826,o_826 w),(825,o_825 w),(859,o_859 w),(858,o_858 w),(866,o_866 w),(865,o_865 w),(873,o_873 w),(872,o_872 w),(874,o_874 w),(896,o_896 w),(895,o_895 w),(888,o_888 w),(904,o_904 w),(903,o_903 w),(902,o_902 w),(911,o_911 w),(910,o_910 w),(925,o_925 w),(924,o_924 w),(932,o_932 w),(931,o_931 w),(967,o_967 w),(966,o_966 w),(974,o_974 w),(973,o_973 w),(975,o_975 w),(988,o_988 w),(987,o_987 w),(995,o_995 w),(994,o_994 w),(1002,o_1002 w),(1001,o_1001 w),(1009,o_1009 w),(1008,o_1008 w),(1016,o_1016 w),(1015,o_1015 w),(1023,o_1023 w),(1022,o_1022 w),(1028,o_1028 w),(1027,o_1027 w),(1035,o_1035 w),(1034,o_1034 w),(1042,o_1042 w),(1041,o_1041 w),(1049,o_1049 w),(1048,o_1048 w),(1056,o_1056 w),(1055,o_1055 w),(1063,o_1063 w),(1062,o_1062 w),(1070,o_1070 w),(1069,o_1069 w),(1077,o_1077 w),(1076,o_1076 w),(1084,o_1084 w),(1083,o_1083 w),(1091,o_1091 w),(1090,o_1090 w),(1098,o_1098 w),(1097,o_1097 w),(1105,o_1105 w),(1104,o_1104 w),(1110,o_1110 w),(1109,o_1109 w)]
def As : List Addr:=[3,31,30,51,50,70,69,89,88,108,107,127,126,146,145,165,164,184,183,203,202,222,221,241,240,260,259,279,278,298,297,317,316,336,335,355,354,374,373,393,392,412,411,424,423,444,443,463,462,475,474,488,487,500,499,512,511,531,530,550,549,801,800,876,875,977,976,889,29,48,47,49,67,66,68,86,85,87,106,125,144,163,182,201,220,239,257,256,258,277,296,315,334,352,351,353,372,391,410,422,441,440,442,461,473,486,498,510,529,547,546,548,553,554,561,560,568,567,573,572,580,579,585,584,592,591,599,598,606,605,613,612,799,826,825,859,858,866,865,873,872,874,896,895,888,904,903,902,911,910,925,924,932,931,967,966,974,973,975,988,987,995,994,1002,1001,1009,1008,1016,1015,1023,1022,1028,1027,1035,1034,1042,1041,1049,1048,1056,1055,1063,1062,1070,1069,1077,1076,1084,1083,1091,1090,1098,1097,1105,1104,1110,1109]
def Ts : List Addr:=[1079,1100]
abbrev RR : PySem.W.OpenRow:=PySem.W.OpenLaw.row PySem.Challenge.rw_tidyframes_k58_screens_tried
theorem facts_fx (w : World) : (fx.all fun f => f.ok (Kl w)) = true:=by kernel_rfl
theorem facts_ok (w : World) : (fn.all fun d => d.ok (Kl w)) = true:=by kernel_rfl
theorem facts_val (w : World) : (fn.map fun d => He5.fnA (Kl w) (d.at_ (Kl w))) = fn.map He5.DefA.val:=by kernel_rfl
theorem facts_tab (w : World) : (tf.all fun p => PySem.W.codeHdIn (Kl w) (cT (Kl w) p).1 (cT (Kl w) p).2 && Ts.any fun t => Nat.beq t (cT (Kl w) p).2) = true:=by kernel_rfl
theorem facts_dic (w : World) : dicsW td (Kl w) = dicsV td w:=by kernel_rfl
theorem factsL (w : World) : FactsL fx fn tf td Ts w (Kl w):=⟨facts_fx w,facts_ok w,facts_val w,facts_tab w,facts_dic w⟩
abbrev hk : PySem.W.Hook:=hookL As Ts fx fn tf td Kl factsL
def ob (s : PySem.W.SharedT) : ObL:=obsL As Ts (HandSHeadRun.getT s)
theorem ob_eq (s : PySem.W.SharedT) : ob s = hk.obs s.abs:=obsL_eq (HandSHeadRun.getT_eq s)
theorem run (w : World) : HandSHeadRun.RunEq RR (PySem.W.view RR.prog [93]) hk ob 20000 looseAll w:=by
  intro os
  kernel_rfl
theorem said_ : PySem.Challenge.rw_tidyframes_k58_screens_tried.wellSaid = true:=by
  rw [PySem.W.Fast.te9446332074065402090]
  unfold PySem.W.Fast.tw9446332074065402090 PySem.W.Fast.tw17960256430627541270 PySem.W.Fast.tw2436336058641802641 PySem.W.Fast.tw12908688711261696721
  repeat' (with_reducible refine Bool.and_eq_true_iff.mpr ⟨?_,?_⟩)
  all_goals (as_aux_lemma => kernel_rfl)
theorem tables_ : (PySem.W.OpenLaw.row PySem.Challenge.rw_tidyframes_k58_screens_tried).prog.tablesWhole = true:=by
  show PySem.TablesWhole.wProgram PySem.TablesWhole.holds (PySem.W.OpenLaw.row PySem.Challenge.rw_tidyframes_k58_screens_tried).prog = true
  unfold PySem.TablesWhole.wProgram
  rw [PySem.W.Fast.te6116379765354995101]
  kernel_rfl
end L58
namespace DV
open PySem L2
inductive Cell where
  | lst (xs : List D)
  | dic (kvs : List (Key × D))
  | ins (c : Nat) (fs : List (Str × D))
  | fdc (kvs : List (Key × D))
  | dn (fz : Bool) (kvs : List (D × D))
structure Store where
  nxt : Nat
  at_ : Nat → Option Cell
def Store.new (st : Store) (c : Cell) : Store:=⟨st.nxt + 1,fun n => if n = st.nxt then some c else st.at_ n⟩
def Store.put (st : Store) (n : Nat) (c : Cell) : Store:=⟨st.nxt,fun m => if m = n then some c else st.at_ m⟩
inductive Res (α : Type) where
  | ok (a : α) (st : Store)
  | exc (c : Nat) (fs : List (Str × D)) (st : Store)
  | bad
def Res.bind {α β : Type} (r : Res α) (k : α → Store → Res β) : Res β:=
  match r with
  | .ok a st => k a st
  | .exc c fs st => .exc c fs st
  | .bad => .bad
abbrev Loc:=List (Option D)
def RoL (K : PySem.W.Frag) (H : Hp) (a : Addr) (vs : List V) : Prop:=
  (∃ o,H a = some (.frz o (.lst vs))) ∨
    ∃ (o : Obj) (its : Array Value) (n : Nat),K.lookup a = some o ∧ o.cls = .type "list" ∧ o.dict = none ∧ o.data = .seq its n ∧ its.size ≤ sizeLine ∧ Vals vs its.toList
theorem RoL.sq {K : PySem.W.Frag} {H : Hp} {a : Addr} {vs : List V} (h : RoL K H a vs) : SqL K H a vs:=by
  rcases h with ⟨o,h⟩ | h
  · exact .inl (.inr ⟨o,h⟩)
  · exact .inr h
mutual
def VR (K : PySem.W.Frag) (μ : Nat → Addr) (N : Nat) (H : Hp) : D → V → Prop
  | .non,v => v = .non
  | .bl b,v => v = .bl b
  | .int i,v => v = .int i
  | .str x,v => v = .str x
  | .ref n,v => n < N ∧ v = .ref (μ n)
  | .cst w,v => v = w
  | .tup ds,v => ∃ p vs,v = .ref p ∧ SqT K H p vs ∧ VRs K μ N H ds vs
  | .rol ds,v => ∃ p vs,v = .ref p ∧ RoL K H p vs ∧ VRs K μ N H ds vs
def VRs (K : PySem.W.Frag) (μ : Nat → Addr) (N : Nat) (H : Hp) : List D → List V → Prop
  | [],vs => vs = []
  | d :: ds,vs => ∃ v r,vs = v :: r ∧ VR K μ N H d v ∧ VRs K μ N H ds r
end
mutual
def keyN : D → Option NestedKey
  | .non => some .none
  | .bl b => some (.num (if b then 1 else 0))
  | .int i => some (.num i)
  | .tup ds => (match keyNs ds with
    | some ks => some (.tup ks)
    | none => none)
  | .str _ => none
  | .ref _ => none
  | .rol _ => none
  | .cst _ => none
def keyNs : List D → Option (List NestedKey)
  | [] => some []
  | d :: ds => (match keyN d,keyNs ds with
    | some k,some ks => some (k :: ks)
    | _,_ => none)
end
mutual
def nkHash : NestedKey → Int
  | .none => reduceHash 0xFCA86420
  | .num i => hashInt i
  | .text _ => 0
  | .tup ks => reduceHash (Builtin.Tuple.tupleHashOf (nkHashes ks))
def nkHashes : List NestedKey → List Int
  | [] => []
  | k :: ks => nkHash k :: nkHashes ks
end
def ndEnt (x : NestedKey × Addr × Value) : DictEntry:=⟨nkHash x.1,.ref x.2.1,x.2.2⟩
def NdF (a : Addr) (xs : List (NestedKey × Addr × Value)) : Heap → Prop:=fun h => ∃ o es ep,h.get? a = some o ∧ o.ExactDict ∧ o.data = .dict es ep ∧ es.toList = xs.map ndEnt
def NdO (a : Addr) (xs : List (NestedKey × Addr × Value)) : HO:=.ext (NdF a xs)
def NotD (φ : Heap → Prop) : Prop:=∀ h,φ h → ∃ b o,h.get? b = some o ∧ ∀ es ep,o.data ≠ .dict es ep
theorem heap_of (d : Obj) (hd : d.isFreed = false) : ∀ n : Nat,∃ h : Heap,h.objs.size = n ∧ (∀ b o,h.get? b = some o → o = d) ∧ ∀ b,b < n → h.get? b = some d
  | 0 => ⟨⟨#[],{}⟩,rfl,fun b o e => by simp [Heap.get?] at e,fun b h => absurd h (Nat.not_lt_zero _)⟩
  | n + 1 => by
    obtain ⟨h,h1,h2,h3⟩:=heap_of d hd n
    refine ⟨h.push d,by rw [Heap.size_push,h1],fun b o e => ?_,fun b hb => ?_⟩
    · rcases Heap.get?_push_cases e with ⟨_,e2⟩ | e2
      · exact e2
      · exact h2 b o e2
    · by_cases c : b = n
      · subst c
        rw [← h1]
        exact Heap.get?_push_size _ hd
      · exact Heap.get?_push_of_some _ (h3 b (by omega))
theorem nd_not {a : Addr} {xs : List (NestedKey × Addr × Value)} : ¬ NotD (NdF a xs):=fun n => by
  let d : Obj:=⟨.type "dict",none,.dict (xs.map ndEnt).toArray 0,#[]⟩
  obtain ⟨h,h1,h2,h3⟩:=heap_of d rfl (a + 1)
  obtain ⟨b,o,e1,e2⟩:=n h ⟨d,_,_,h3 a (Nat.lt_succ_self _),⟨rfl,rfl,rfl⟩,rfl,by simp⟩
  have z:=h2 b o e1
  subst z
  exact e2 _ _ rfl
theorem code_not {c : Addr} {q : Str} : NotD (fun h => ∃ (oc : Obj) (vs : Array Value) (t : Tok),h.get? c = some oc ∧ oc.data = .fields vs ∧ vs[1]? = some (.str q t)):=fun h ⟨oc,vs,t,e,e2,_⟩ => ⟨c,_,e,fun es ep z => by rw [e2] at z; cases z⟩
def LamN (q : Str) : Bool:=(q.cps.toList.drop (q.cps.toList.length - 8)) == [60,108,97,109,98,100,97,62]
def CodeF (c : Addr) (q : Str) (P : Addr) : Heap → Prop:=fun h => (∃ (oc : Obj) (vs : Array Value) (t : Tok),h.get? c = some oc ∧ oc.data = .fields vs ∧ vs[1]? = some (.str q t)) ∧ PySem.W.CodeHd h c P
def CodeT (c : Addr) (q : Str) (P : Addr) : HO:=.ext (CodeF c q P)
theorem codeF_not {c : Addr} {q : Str} {P : Addr} : NotD (CodeF c q P):=fun h ⟨⟨oc,vs,t,e,e2,_⟩,_⟩ => ⟨c,_,e,fun es ep z => by rw [e2] at z; cases z⟩
def InT (H : Hp) (P : Addr) (q : Str) : Prop:=∃ ps : Array Value,H P = some (.tbl ps) ∧ TriplesOk ps.toList ∧ ∀ (pos : Pos) (cv : Value),codeAmong pos ps.toList = some cv → ∃ c P2,cv = .ref c ∧ H c = some (CodeT c q P2)
def CodeK (H : Hp) (c : Addr) (q : Str) : Prop:=match LamN q with
  | true => ∃ P,H c = some (CodeT c q P)
  | false => H c = some (LamX.CodeO c q)
def TabT (H : Hp) (P : Addr) (nm : Nat → Nat → Str) : Prop:=∃ ps : Array Value,H P = some (.tbl ps) ∧ TriplesOk ps.toList ∧ ∀ (pos : Pos) (cv : Value),codeAmong pos ps.toList = some cv → ∃ c,cv = .ref c ∧ CodeK H c (nm pos.line pos.col)
structure TabsD (T : List NdefX.NTab) (H : Hp) : Prop where
  t : ∀ p ∈ T,TabT H p.1 p.2
  deep : ∀ (c : Addr) (q : Str) (P : Addr),H c = some (CodeT c q P) → LamN q = true → InT H P (q ++ ".<locals>." ++ "<lambda>") ∧ (∀ t ∈ T,t.1 ≠ P) ∧ ∀ (c1 : Addr) (q1 : Str),H c1 = some (CodeT c1 q1 P) → LamN q1 = true → c1 = c
def NoX : HO → Prop
  | .ext φ => ¬ NotD φ
  | _ => True
structure Ev0 (K : PySem.W.Frag) (μ : Nat → Addr) (N : Nat) (H : Hp) (μ' : Nat → Addr) (N' : Nat) (H' : Hp) : Prop where
  le : N ≤ N'
  mu : ∀ n,n < N → μ' n = μ n
  sq : ∀ p vs,SqT K H p vs → SqT K H' p vs
  rq : ∀ p vs,RoL K H p vs → RoL K H' p vs
  ex : ∀ p φ,H p = some (.ext φ) → NotD φ → H' p = some (.ext φ)
  xd : ∀ p fs,H p = some (.xd fs) → H' p = some (.xd fs)
  fz : ∀ p o u,H p = some (.frz o u) → H' p = some (.frz o u)
structure Ev (K : PySem.W.Frag) (μ : Nat → Addr) (N : Nat) (H : Hp) (μ' : Nat → Addr) (N' : Nat) (H' : Hp) : Prop extends Ev0 K μ N H μ' N' H' where
  kp : ∀ b o,H b = some o → (∀ n,n < N → μ n ≠ b) → (∀ ps,o ≠ .tbl ps) → H' b = some o
  fr : ∀ n,N ≤ n → n < N' → H (μ' n) = none
  tr : ∀ b,H b ≠ none → H' b ≠ none
section
variable {K : PySem.W.Frag} {μ μ1 μ2 : Nat → Addr} {N N1 N2 : Nat} {H H1 H2 : Hp}
theorem Ev.refl : Ev K μ N H μ N H:=⟨⟨Nat.le_refl _,fun _ _ => rfl,fun _ _ h => h,fun _ _ h => h,fun _ _ h _ => h,fun _ _ h => h,fun _ _ _ h => h⟩,fun _ _ h _ _ => h,fun n h1 h2 => absurd h2 (by omega),fun _ h => h⟩
theorem Ev.trans (a : Ev K μ N H μ1 N1 H1) (b : Ev K μ1 N1 H1 μ2 N2 H2) : Ev K μ N H μ2 N2 H2 where
  le:=Nat.le_trans a.le b.le
  mu:=fun n h => (b.mu n (Nat.lt_of_lt_of_le h a.le)).trans (a.mu n h)
  sq:=fun p vs h => b.sq p vs (a.sq p vs h)
  rq:=fun p vs h => b.rq p vs (a.rq p vs h)
  ex:=fun p φ h n => b.ex p φ (a.ex p φ h n) n
  xd:=fun p fs h => b.xd p fs (a.xd p fs h)
  fz:=fun p o u h => b.fz p o u (a.fz p o u h)
  kp:=fun c o h hn ht => b.kp c o (a.kp c o h hn ht) (fun n hn1 => by
    by_cases hlt : n < N
    · rw [a.mu n hlt]; exact hn n hlt
    · intro e
      have:=a.fr n (by omega) hn1
      rw [e,h] at this; cases this) ht
  fr:=fun n h1 h2 => by
    by_cases hlt : n < N1
    · rw [b.mu n hlt]; exact a.fr n h1 hlt
    · have q:=b.fr n (by omega) h2
      cases e : H (μ2 n) with
      | none => rfl
      | some o => exact absurd q (a.tr _ (by rw [e]; simp))
  tr:=fun c h => b.tr c (a.tr c h)
mutual
theorem VR.ev0 (e : Ev0 K μ N H μ1 N1 H1) : ∀ {d : D} {v : V},VR K μ N H d v → VR K μ1 N1 H1 d v
  | .non,_,h => by simpa only [VR] using h
  | .bl _,_,h => by simpa only [VR] using h
  | .int _,_,h => by simpa only [VR] using h
  | .str _,_,h => by simpa only [VR] using h
  | .cst _,_,h => by simpa only [VR] using h
  | .ref n,_,h => by
    simp only [VR] at h ⊢
    exact ⟨Nat.lt_of_lt_of_le h.1 e.le,by rw [e.mu n h.1]; exact h.2⟩
  | .tup ds,_,h => by
    simp only [VR] at h ⊢
    obtain ⟨p,vs,h1,h2,h3⟩:=h
    exact ⟨p,vs,h1,e.sq p vs h2,VRs.ev0 e h3⟩
  | .rol ds,_,h => by
    simp only [VR] at h ⊢
    obtain ⟨p,vs,h1,h2,h3⟩:=h
    exact ⟨p,vs,h1,e.rq p vs h2,VRs.ev0 e h3⟩
theorem VRs.ev0 (e : Ev0 K μ N H μ1 N1 H1) : ∀ {ds : List D} {vs : List V},VRs K μ N H ds vs → VRs K μ1 N1 H1 ds vs
  | [],_,h => by simpa only [VRs] using h
  | d :: ds,_,h => by
    simp only [VRs] at h ⊢
    obtain ⟨v,r,h1,h2,h3⟩:=h
    exact ⟨v,r,h1,VR.ev0 e h2,VRs.ev0 e h3⟩
end
theorem VR.ev (e : Ev K μ N H μ1 N1 H1) {d : D} {v : V} (h : VR K μ N H d v) : VR K μ1 N1 H1 d v:=VR.ev0 e.toEv0 h
theorem VRs.ev (e : Ev K μ N H μ1 N1 H1) {ds : List D} {vs : List V} (h : VRs K μ N H ds vs) : VRs K μ1 N1 H1 ds vs:=VRs.ev0 e.toEv0 h
theorem VRs.length : ∀ {ds : List D} {vs : List V},VRs K μ N H ds vs → ds.length = vs.length
  | [],_,h => by simp only [VRs] at h; rw [h]; rfl
  | d :: ds,_,h => by
    simp only [VRs] at h
    obtain ⟨v,r,rfl,_,h3⟩:=h
    simp [VRs.length h3]
theorem VRs.get : ∀ {ds : List D} {vs : List V} {i : Nat} {d : D},VRs K μ N H ds vs → ds[i]? = some d → ∃ v,vs[i]? = some v ∧ VR K μ N H d v
  | [],_,_,_,_,e => by simp at e
  | x :: ds,_,0,d,h,e => by
    simp only [VRs] at h
    obtain ⟨v,r,rfl,h2,h3⟩:=h
    simp at e; subst e
    exact ⟨v,rfl,h2⟩
  | x :: ds,_,i + 1,d,h,e => by
    simp only [VRs] at h
    obtain ⟨v,r,rfl,h2,h3⟩:=h
    obtain ⟨w,a,b⟩:=VRs.get h3 (i:=i) (by simpa using e)
    exact ⟨w,by simpa using a,b⟩
theorem VRs.append : ∀ {ds es : List D} {vs ws : List V},VRs K μ N H ds vs → VRs K μ N H es ws → VRs K μ N H (ds ++ es) (vs ++ ws)
  | [],_,_,_,h,h' => by simp only [VRs] at h; subst h; exact h'
  | d :: ds,es,_,ws,h,h' => by
    simp only [VRs] at h
    obtain ⟨v,r,rfl,h2,h3⟩:=h
    simp only [List.cons_append,VRs]
    exact ⟨v,r ++ ws,rfl,h2,VRs.append h3 h'⟩
theorem VRs.one {d : D} {v : V} (h : VR K μ N H d v) : VRs K μ N H [d] [v]:=by
  simp only [VRs]; exact ⟨v,[],rfl,h,rfl⟩
theorem VRs.two {d e : D} {v w : V} (h : VR K μ N H d v) (h' : VR K μ N H e w) : VRs K μ N H [d,e] [v,w]:=by
  simp only [VRs]; exact ⟨v,[w],rfl,h,w,[],rfl,h',rfl⟩
theorem VRs.take : ∀ {ds : List D} {vs : List V} (n : Nat),VRs K μ N H ds vs → VRs K μ N H (ds.take n) (vs.take n)
  | [],_,n,h => by simp only [VRs] at h; subst h; simp [VRs]
  | d :: ds,_,0,h => by simp [VRs]
  | d :: ds,_,n + 1,h => by
    simp only [VRs] at h
    obtain ⟨v,r,rfl,h2,h3⟩:=h
    simp only [List.take_succ_cons,VRs]
    exact ⟨v,_,rfl,h2,VRs.take n h3⟩
theorem VRs.drop : ∀ {ds : List D} {vs : List V} (n : Nat),VRs K μ N H ds vs → VRs K μ N H (ds.drop n) (vs.drop n)
  | [],_,n,h => by simp only [VRs] at h; subst h; simp [VRs]
  | d :: ds,_,0,h => by simpa using h
  | d :: ds,_,n + 1,h => by
    simp only [VRs] at h
    obtain ⟨v,r,rfl,h2,h3⟩:=h
    simp only [List.drop_succ_cons]
    exact VRs.drop n h3
theorem VRs.set {d : D} {v : V} (hd : VR K μ N H d v) : ∀ {ds : List D} {vs : List V} (i : Nat),VRs K μ N H ds vs → VRs K μ N H (ds.set i d) (vs.set i v)
  | [],_,i,h => by simp only [VRs] at h; subst h; simp [VRs]
  | x :: ds,_,0,h => by
    simp only [VRs] at h
    obtain ⟨w,r,rfl,h2,h3⟩:=h
    simp only [List.set_cons_zero,VRs]
    exact ⟨v,r,rfl,hd,h3⟩
  | x :: ds,_,i + 1,h => by
    simp only [VRs] at h
    obtain ⟨w,r,rfl,h2,h3⟩:=h
    simp only [List.set_cons_succ,VRs]
    exact ⟨w,_,rfl,h2,VRs.set hd i h3⟩
structure CL where
  at_ : Nat → Addr
  P : PySem.W.Frag → (Nat → Addr) → Nat → Hp → Prop
  up : ∀ {K : PySem.W.Frag} {μ : Nat → Addr} {N : Nat} {H : Hp} {μ' : Nat → Addr} {N' : Nat} {H' : Hp},Ev0 K μ N H μ' N' H' → P K μ N H → P K μ' N' H'
  tabs : List NdefX.NTab
instance : CoeFun CL (fun _ => Nat → Addr):=⟨CL.at_⟩
def NdAt (fz : Bool) (H : Hp) (a : Addr) (xs : List (NestedKey × Addr × Value)) : Prop:=match fz with
  | false => H a = some (NdO a xs)
  | true => ∃ o,H a = some (.frz o (NdO a xs))
theorem NdAt.mv {fz : Bool} {a : Addr} {xs : List (NestedKey × Addr × Value)} (ha : H1 a = H a) (h : NdAt fz H a xs) : NdAt fz H1 a xs:=by
  cases fz with
  | false => exact ha.trans h
  | true => obtain ⟨o,h⟩:=h; exact ⟨o,ha.trans h⟩
def NdRow (K : PySem.W.Frag) (μ : Nat → Addr) (N : Nat) (H : Hp) (p : D × D) (x : NestedKey × Addr × Value) : Prop:=keyN p.1 = some x.1 ∧ x.1.depth ≤ 8 ∧ VR K μ N H p.1 (.ref x.2.1) ∧ ∃ v,VR K μ N H p.2 v ∧ RelV v x.2.2
structure NdOk (K : PySem.W.Frag) (μ : Nat → Addr) (N : Nat) (H : Hp) (a : Addr) (xs : List (NestedKey × Addr × Value)) (kvs : List (D × D)) : Prop where
  sys : (a == sysModules) = false
  len : xs.length ≤ sizeLine
  nd : (xs.map (·.1)).Nodup
  rows : Paired (NdRow K μ N H) kvs xs
theorem NdOk.ev0 {a : Addr} {xs : List (NestedKey × Addr × Value)} {kvs : List (D × D)} (e : Ev0 K μ N H μ1 N1 H1) (h : NdOk K μ N H a xs kvs) : NdOk K μ1 N1 H1 a xs kvs:=
  ⟨h.sys,h.len,h.nd,Paired.mapP h.rows fun _ _ r => ⟨r.1,r.2.1,r.2.2.1.ev0 e,let ⟨v,a,b⟩:=r.2.2.2; ⟨v,a.ev0 e,b⟩⟩⟩
def CellOk (K : PySem.W.Frag) (cl : CL) (μ : Nat → Addr) (N : Nat) (H : Hp) (a : Addr) : Cell → Prop
  | .lst xs => ∃ vs,H a = some (.lst vs) ∧ VRs K μ N H xs vs
  | .dic kvs => ∃ ps : List (Key × V),H a = some (.dK ps) ∧ ps.map (·.1) = kvs.map (·.1) ∧ VRs K μ N H (kvs.map (·.2)) (ps.map (·.2))
  | .ins c fs => ∃ dx ps,H a = some (.ins (cl c) dx ps) ∧ ps.map (·.1) = fs.map (·.1) ∧ VRs K μ N H (fs.map (·.2)) (ps.map (·.2))
  | .fdc kvs => ∃ (o : Obj) (ps : List (Key × V)),H a = some (.frz o (.dK ps)) ∧ ps.map (·.1) = kvs.map (·.1) ∧ VRs K μ N H (kvs.map (·.2)) (ps.map (·.2))
  | .dn fz kvs => ∃ xs : List (NestedKey × Addr × Value),NdAt fz H a xs ∧ NdOk K μ N H a xs kvs
theorem CellOk.ev0 {cl : CL} {a : Addr} {c : Cell} (e : Ev0 K μ N H μ1 N1 H1) (ha : H1 a = H a) (h : CellOk K cl μ N H a c) : CellOk K cl μ1 N1 H1 a c:=by
  cases c with
  | lst xs => obtain ⟨vs,h1,h2⟩:=h; exact ⟨vs,ha.trans h1,h2.ev0 e⟩
  | dic kvs => obtain ⟨ps,h1,h2,h3⟩:=h; exact ⟨ps,ha.trans h1,h2,h3.ev0 e⟩
  | ins c fs => obtain ⟨dx,ps,h1,h2,h3⟩:=h; exact ⟨dx,ps,ha.trans h1,h2,h3.ev0 e⟩
  | fdc kvs => obtain ⟨o,ps,h1,h2,h3⟩:=h; exact ⟨o,ps,ha.trans h1,h2,h3.ev0 e⟩
  | dn fz kvs => obtain ⟨xs,h1,h2⟩:=h; exact ⟨xs,h1.mv ha,h2.ev0 e⟩
theorem CellOk.ev {cl : CL} {a : Addr} {c : Cell} (e : Ev K μ N H μ1 N1 H1) (ha : H1 a = H a) (h : CellOk K cl μ N H a c) : CellOk K cl μ1 N1 H1 a c:=h.ev0 e.toEv0 ha
def CellH : HO → Prop
  | .lst _ => True
  | .dK _ => True
  | .ins _ _ _ => True
  | .ext φ => ¬ NotD φ
  | _ => False
theorem CellOk.there0 {cl : CL} {a : Addr} {c : Cell} (h : CellOk K cl μ N H a c) : ∃ o,H a = some o ∧ ∀ ps,o ≠ .tbl ps:=by
  cases c with
  | lst xs => obtain ⟨vs,h1,_⟩:=h; exact ⟨_,h1,fun _ e => by cases e⟩
  | dic kvs => obtain ⟨ps,h1,_⟩:=h; exact ⟨_,h1,fun _ e => by cases e⟩
  | ins c fs => obtain ⟨dx,ps,h1,_⟩:=h; exact ⟨_,h1,fun _ e => by cases e⟩
  | fdc kvs => obtain ⟨o,ps,h1,_⟩:=h; exact ⟨_,h1,fun _ e => by cases e⟩
  | dn fz kvs =>
    obtain ⟨xs,h1,_⟩:=h
    cases fz with
    | false => exact ⟨_,h1,fun _ e => by cases e⟩
    | true => obtain ⟨o,h1⟩:=h1; exact ⟨_,h1,fun _ e => by cases e⟩
def Cell.mut : Cell → Prop
  | .fdc _ => False
  | .dn fz _ => fz = false
  | _ => True
theorem CellOk.there {cl : CL} {a : Addr} {c : Cell} (h : CellOk K cl μ N H a c) (hm : c.mut) : ∃ o,H a = some o ∧ CellH o:=by
  cases c with
  | lst xs => obtain ⟨vs,h1,_⟩:=h; exact ⟨_,h1,trivial⟩
  | dic kvs => obtain ⟨ps,h1,_⟩:=h; exact ⟨_,h1,trivial⟩
  | ins c fs => obtain ⟨dx,ps,h1,_⟩:=h; exact ⟨_,h1,trivial⟩
  | fdc kvs => exact hm.elim
  | dn fz kvs =>
    obtain ⟨xs,h1,_⟩:=h
    have hm : fz = false:=hm
    subst hm
    exact ⟨_,h1,nd_not⟩
structure SR (K : PySem.W.Frag) (cl : CL) (μ : Nat → Addr) (st : Store) (H : Hp) : Prop where
  inj : ∀ m n,m < st.nxt → n < st.nxt → μ m = μ n → m = n
  cell : ∀ n,n < st.nxt → ∃ c,st.at_ n = some c ∧ CellOk K cl μ st.nxt H (μ n) c
  out : ∀ n,st.nxt ≤ n → st.at_ n = none
  pp : cl.P K μ st.nxt H
  tb : TabsD cl.tabs H
theorem SR.lt {cl : CL} {st : Store} (S : SR K cl μ st H) {n : Nat} {c : Cell} (e : st.at_ n = some c) : n < st.nxt:=by
  by_cases h : n < st.nxt
  · exact h
  · have:=S.out n (by omega)
    rw [e] at this; cases this
theorem SR.get {cl : CL} {st : Store} (S : SR K cl μ st H) {n : Nat} {c : Cell} (e : st.at_ n = some c) : CellOk K cl μ st.nxt H (μ n) c:=by
  obtain ⟨c',h1,h2⟩:=S.cell n (S.lt e)
  rw [e] at h1; cases h1
  exact h2
theorem SR.there {cl : CL} {st : Store} (S : SR K cl μ st H) {n : Nat} (h : n < st.nxt) : ∃ o,H (μ n) = some o:=by
  obtain ⟨c,_,h2⟩:=S.cell n h
  obtain ⟨o,h3,_⟩:=h2.there0
  exact ⟨o,h3⟩
theorem SR.ne_new {cl : CL} {st : Store} (S : SR K cl μ st H) {p : Addr} (hp : H p = none) : ∀ n,n < st.nxt → μ n ≠ p:=fun n hn e => by
  obtain ⟨o,h⟩:=S.there hn
  rw [e,hp] at h; cases h
theorem SqT.upd_new {p : Addr} {o : HO} (hp : H p = none) {q : Addr} {vs : List V} (h : SqT K H q vs) : SqT K (upd H p o) q vs:=by
  rcases h with (h | ⟨u,h⟩) | h
  · exact .inl (.inl (by rw [upd_ne (ne_of_none h hp)]; exact h))
  · exact .inl (.inr ⟨u,by rw [upd_ne (ne_of_none h hp)]; exact h⟩)
  · exact .inr h
theorem SqT.upd_cell {p : Addr} {o u : HO} (hp : H p = some u) (hu : CellH u) {q : Addr} {vs : List V} (h : SqT K H q vs) : SqT K (upd H p o) q vs:=by
  rcases h with (h | ⟨w,h⟩) | h
  · refine .inl (.inl ?_)
    rw [upd_ne]
    · exact h
    · rintro rfl
      rw [hp] at h; cases h; exact hu
  · refine .inl (.inr ⟨w,?_⟩)
    rw [upd_ne]
    · exact h
    · rintro rfl
      rw [hp] at h; cases h; exact hu
  · exact .inr h
theorem RoL.upd_new {p : Addr} {o : HO} (hp : H p = none) {q : Addr} {vs : List V} (h : RoL K H q vs) : RoL K (upd H p o) q vs:=by
  rcases h with ⟨u,h⟩ | h
  · exact .inl ⟨u,by rw [upd_ne (ne_of_none h hp)]; exact h⟩
  · exact .inr h
theorem RoL.upd_cell {p : Addr} {o u : HO} (hp : H p = some u) (hu : CellH u) {q : Addr} {vs : List V} (h : RoL K H q vs) : RoL K (upd H p o) q vs:=by
  rcases h with ⟨w,h⟩ | h
  · refine .inl ⟨w,?_⟩
    rw [upd_ne]
    · exact h
    · rintro rfl
      rw [hp] at h; cases h; exact hu
  · exact .inr h
theorem ext_ne_cell {p q : Addr} {u : HO} {φ : Heap → Prop} (hp : H p = some u) (hu : CellH u) (h : H q = some (.ext φ)) (n : NotD φ) : q ≠ p:=by
  rintro rfl
  rw [hp] at h
  cases h
  exact hu n
theorem xd_ne_cell {p q : Addr} {u : HO} {fs : List (Str × V)} (hp : H p = some u) (hu : CellH u) (h : H q = some (.xd fs)) : q ≠ p:=by
  rintro rfl
  rw [hp] at h
  cases h
  exact hu
theorem fz_ne_cell {p q : Addr} {u w : HO} {o : Obj} (hp : H p = some u) (hu : CellH u) (h : H q = some (.frz o w)) : q ≠ p:=by
  rintro rfl
  rw [hp] at h
  cases h
  exact hu
theorem tbl_ne_cell {p q : Addr} {u : HO} {ps : Array Value} (hp : H p = some u) (hu : CellH u) (h : H q = some (.tbl ps)) : q ≠ p:=by
  rintro rfl
  rw [hp] at h
  cases h
  exact hu
theorem CodeK.up {H H1 : Hp} {c : Addr} {q : Str} (e2 : ∀ p φ,H p = some (.ext φ) → NotD φ → H1 p = some (.ext φ)) (h : CodeK H c q) : CodeK H1 c q:=by
  unfold CodeK at h ⊢
  split at h
  · obtain ⟨P,h⟩:=h
    exact ⟨P,e2 _ _ h codeF_not⟩
  · exact e2 _ _ h code_not
theorem tabs_up {T : List NdefX.NTab} (e1 : ∀ p ps,H p = some (.tbl ps) → H1 p = some (.tbl ps)) (e2 : ∀ p φ,H p = some (.ext φ) → NotD φ → H1 p = some (.ext φ)) (e3 : ∀ p φ,H1 p = some (.ext φ) → NotD φ → H p = some (.ext φ)) (h : TabsD T H) : TabsD T H1:=by
  refine ⟨fun t ht => ?_,fun c q P hc hq => ?_⟩
  · obtain ⟨ps,h1,h2,h3⟩:=h.t t ht
    refine ⟨ps,e1 _ _ h1,h2,fun pos cv hc => ?_⟩
    obtain ⟨c,q1,q2⟩:=h3 pos cv hc
    exact ⟨c,q1,q2.up e2⟩
  · obtain ⟨⟨ps,h1,h2,h3⟩,h4,h5⟩:=h.deep c q P (e3 _ _ hc codeF_not) hq
    refine ⟨⟨ps,e1 _ _ h1,h2,fun pos cv hc => ?_⟩,h4,fun c1 q1 g1 g2 => h5 c1 q1 (e3 _ _ g1 codeF_not) g2⟩
    obtain ⟨c',P2,q1,q2⟩:=h3 pos cv hc
    exact ⟨c',P2,q1,e2 _ _ q2 codeF_not⟩
theorem upd_back {p : Addr} {o : HO} (ho : NoX o) : ∀ q φ,upd H p o q = some (.ext φ) → NotD φ → H q = some (.ext φ):=fun q φ h n => by
  by_cases e : q = p
  · rw [e,upd_same] at h
    cases h
    exact absurd n ho
  · rw [upd_ne e] at h
    exact h
theorem CellOk.nox {cl : CL} {a : Addr} {c : Cell} (h : CellOk K cl μ N H a c) : ∃ o,H a = some o ∧ NoX o:=by
  cases c with
  | lst xs => obtain ⟨vs,h1,_⟩:=h; exact ⟨_,h1,trivial⟩
  | dic kvs => obtain ⟨ps,h1,_⟩:=h; exact ⟨_,h1,trivial⟩
  | ins c fs => obtain ⟨dx,ps,h1,_⟩:=h; exact ⟨_,h1,trivial⟩
  | fdc kvs => obtain ⟨o,ps,h1,_⟩:=h; exact ⟨_,h1,trivial⟩
  | dn fz kvs =>
    obtain ⟨xs,h1,_⟩:=h
    cases fz with
    | false => exact ⟨_,h1,nd_not⟩
    | true => obtain ⟨o,h1⟩:=h1; exact ⟨_,h1,trivial⟩
theorem nox_of {cl : CL} {p : Addr} {o : HO} {c : Cell} (h : CellOk K cl μ N (upd H p o) p c) : NoX o:=by
  obtain ⟨o',h1,h2⟩:=h.nox
  rw [upd_same] at h1
  cases h1
  exact h2
theorem upd_tr {p : Addr} {o : HO} : ∀ b,H b ≠ none → upd H p o b ≠ none:=fun b h => by
  by_cases e : b = p
  · subst e; rw [upd_same]; simp
  · rw [upd_ne e]; exact h
def ext (μ : Nat → Addr) (n : Nat) (p : Addr) : Nat → Addr:=fun m => if m = n then p else μ m
theorem ext_same {n : Nat} {p : Addr} : ext μ n p n = p:=by unfold ext; rw [if_pos rfl]
theorem ext_ne {n m : Nat} {p : Addr} (h : m ≠ n) : ext μ n p m = μ m:=by unfold ext; rw [if_neg h]
theorem Ev.beside {p : Addr} {o : HO} (hp : H p = none) : Ev K μ N H μ N (upd H p o):=
  ⟨⟨Nat.le_refl _,fun _ _ => rfl,fun _ _ h => SqT.upd_new hp h,fun _ _ h => RoL.upd_new hp h,fun _ _ h _ => by rw [upd_ne (ne_of_none h hp)]; exact h,fun _ _ h => by rw [upd_ne (ne_of_none h hp)]; exact h,fun _ _ _ h => by rw [upd_ne (ne_of_none h hp)]; exact h⟩,fun b u h _ _ => by rw [upd_ne (ne_of_none h hp)]; exact h,fun n h1 h2 => absurd h2 (by omega),upd_tr⟩
theorem SR.beside {cl : CL} {st : Store} (S : SR K cl μ st H) {p : Addr} {o : HO} (hp : H p = none) (ho : NoX o:=by first | trivial | exact nd_not) : SR K cl μ st (upd H p o):=
  ⟨S.inj,fun n hn => by
    obtain ⟨c,h1,h2⟩:=S.cell n hn
    exact ⟨c,h1,h2.ev (Ev.beside hp) (upd_ne (S.ne_new hp n hn))⟩,S.out,cl.up (Ev.beside hp).toEv0 S.pp,tabs_up (fun _ _ h => by rw [upd_ne (ne_of_none h hp)]; exact h) (fun _ _ h _ => by rw [upd_ne (ne_of_none h hp)]; exact h) (upd_back ho) S.tb⟩
theorem Ev.new {p : Addr} {o : HO} (hp : H p = none) : Ev K μ N H (ext μ N p) (N + 1) (upd H p o) where
  le:=Nat.le_succ _
  mu:=fun n h => ext_ne (by omega)
  sq:=fun _ _ h => SqT.upd_new hp h
  rq:=fun _ _ h => RoL.upd_new hp h
  ex:=fun _ _ h _ => by rw [upd_ne (ne_of_none h hp)]; exact h
  xd:=fun _ _ h => by rw [upd_ne (ne_of_none h hp)]; exact h
  fz:=fun _ _ _ h => by rw [upd_ne (ne_of_none h hp)]; exact h
  kp:=fun b u h _ _ => by rw [upd_ne (ne_of_none h hp)]; exact h
  fr:=fun n h1 h2 => by
    have e : n = N:=by omega
    subst e; rw [ext_same]; exact hp
  tr:=upd_tr
theorem SR.mk_new {cl : CL} {st : Store} (S : SR K cl μ st H) {p : Addr} {o : HO} {c : Cell} (hp : H p = none) (hc : CellOk K cl (ext μ st.nxt p) (st.nxt + 1) (upd H p o) p c) : SR K cl (ext μ st.nxt p) (st.new c) (upd H p o) where
  inj:=fun m n hm hn e => by
    have hm' : m < st.nxt + 1:=hm
    have hn' : n < st.nxt + 1:=hn
    by_cases a : m = st.nxt
    · by_cases b : n = st.nxt
      · rw [a,b]
      · rw [a,ext_same,ext_ne b] at e
        exact absurd e.symm (S.ne_new hp n (by omega))
    · by_cases b : n = st.nxt
      · rw [b,ext_same,ext_ne a] at e
        exact absurd e (S.ne_new hp m (by omega))
      · rw [ext_ne a,ext_ne b] at e
        exact S.inj m n (by omega) (by omega) e
  cell:=fun n hn => by
    have hn' : n < st.nxt + 1:=hn
    by_cases b : n = st.nxt
    · subst b
      exact ⟨c,by unfold Store.new; exact if_pos rfl,by rw [ext_same]; exact hc⟩
    · obtain ⟨c',h1,h2⟩:=S.cell n (by omega)
      refine ⟨c',by unfold Store.new; exact (if_neg b).trans h1,?_⟩
      rw [ext_ne b]
      exact h2.ev (Ev.new hp) (upd_ne (S.ne_new hp n (by omega)))
  out:=fun n hn => by
    have hn' : st.nxt + 1 ≤ n:=hn
    unfold Store.new
    exact (if_neg (by omega)).trans (S.out n (by omega))
  pp:=cl.up (Ev.new hp).toEv0 S.pp
  tb:=tabs_up (fun _ _ h => by rw [upd_ne (ne_of_none h hp)]; exact h) (fun _ _ h _ => by rw [upd_ne (ne_of_none h hp)]; exact h) (upd_back (nox_of hc)) S.tb
theorem SR.new_lst {cl : CL} {st : Store} (S : SR K cl μ st H) {p : Addr} {xs : List D} {vs : List V} (hp : H p = none) (h : VRs K μ st.nxt H xs vs) : SR K cl (ext μ st.nxt p) (st.new (.lst xs)) (upd H p (.lst vs)):=
  S.mk_new hp ⟨vs,upd_same,h.ev (Ev.new hp)⟩
theorem Ev.put {n : Nat} {o u : HO} (hn : n < N) (hu : H (μ n) = some u) (hc : CellH u) : Ev K μ N H μ N (upd H (μ n) o):=
  ⟨⟨Nat.le_refl _,fun _ _ => rfl,fun _ _ h => SqT.upd_cell hu hc h,fun _ _ h => RoL.upd_cell hu hc h,fun _ _ h n => by rw [upd_ne (ext_ne_cell hu hc h n)]; exact h,fun _ _ h => by rw [upd_ne (xd_ne_cell hu hc h)]; exact h,fun _ _ _ h => by rw [upd_ne (fz_ne_cell hu hc h)]; exact h⟩,fun b w h hb _ => by rw [upd_ne (fun e => hb n hn e.symm)]; exact h,fun m h1 h2 => absurd h2 (by omega),upd_tr⟩
theorem SR.put_ {cl : CL} {st : Store} (S : SR K cl μ st H) {n : Nat} {o : HO} {c c0 : Cell} (h0 : st.at_ n = some c0) (hm : c0.mut) (hn : n < st.nxt) (hc : CellOk K cl μ st.nxt (upd H (μ n) o) (μ n) c) : SR K cl μ (st.put n c) (upd H (μ n) o) ∧ Ev K μ st.nxt H μ st.nxt (upd H (μ n) o):=by
  obtain ⟨u,hu,hcu⟩:=(S.get h0).there hm
  have e : Ev K μ st.nxt H μ st.nxt (upd H (μ n) o):=Ev.put hn hu hcu
  refine ⟨⟨S.inj,fun m hm => ?_,fun m hm => ?_,cl.up e.toEv0 S.pp,tabs_up (fun _ _ h => by rw [upd_ne (tbl_ne_cell hu hcu h)]; exact h) e.ex (upd_back (nox_of hc)) S.tb⟩,e⟩
  · have hm' : m < st.nxt:=hm
    by_cases b : m = n
    · subst b
      exact ⟨c,by unfold Store.put; exact if_pos rfl,hc⟩
    · obtain ⟨c',h1,h2⟩:=S.cell m hm'
      exact ⟨c',by unfold Store.put; exact (if_neg b).trans h1,h2.ev e (upd_ne fun q => b (S.inj m n hm' hn q))⟩
  · have hm' : st.nxt ≤ m:=hm
    unfold Store.put
    exact (if_neg (by omega)).trans (S.out m hm')
end
def clsV (cl : CL) (c : Nat) : Value:=if c < 1000 then .ref (cl c) else if c = 1000 then .type "KeyError" else .type "ZeroDivisionError"
theorem clsV_lt {cl : CL} {c : Nat} (h : c < 1000) : clsV cl c = .ref (cl c):=if_pos h
section
variable (K : PySem.W.Frag) (cl : CL)
def XR (μ : Nat → Addr) (N : Nat) (H : Hp) (c : Nat) (fs : List (Str × D)) (cls : Value) (d : Option Addr) : Prop:=
  cls = clsV cl c ∧ ((fs = [] ∧ (d = none ∨ 1000 ≤ c)) ∨ ∃ a ps,d = some a ∧ H a = some (.xd ps) ∧ ps.map (·.1) = fs.map (·.1) ∧ VRs K μ N H (fs.map (·.2)) (ps.map (·.2)))
def Post {α β : Type} (rel : (Nat → Addr) → Nat → Hp → α → β → Prop) (μ : Nat → Addr) (N : Nat) (H : Hp) (Q : β → Hp → Prop) (W : XK) : Res α → Prop
  | .ok a st' => ∀ μ' H' b,SR K cl μ' st' H' → Ev K μ N H μ' st'.nxt H' → rel μ' st'.nxt H' a b → Q b H'
  | .exc c fs st' => ∀ μ' H' cls d,SR K cl μ' st' H' → Ev K μ N H μ' st'.nxt H' → XR K cl μ' st'.nxt H' c fs cls d → W cls d H'
  | .bad => False
def PostO {α β : Type} (rel : (Nat → Addr) → Nat → Hp → α → β → Prop) (μ : Nat → Addr) (N : Nat) (H : Hp) (Q : β → Hp → Prop) : Option (α × Store) → Prop
  | some (a,st') => ∀ μ' H' b,SR K cl μ' st' H' → Ev K μ N H μ' st'.nxt H' → rel μ' st'.nxt H' a b → Q b H'
  | none => False
def Same_ {α : Type} : (Nat → Addr) → Nat → Hp → α → α → Prop:=fun _ _ _ a b => a = b
def LR (μ : Nat → Addr) (N : Nat) (H : Hp) (l : Loc) (σ : St) : Prop:=l.length = σ.length ∧ ∀ (i : Nat) (d : D),l[i]? = some (some d) → ∃ v,σ[i]? = some (some v) ∧ VR K μ N H d v
abbrev ME:=Loc → Store → Res D
abbrev MT:=Loc → Store → Res Bool
abbrev MA:=Loc → Store → Res (List D)
def rdE (W : WX) (m : ME) : TE:=fun σ H Q => ∃ μ st l,SR K cl μ st H ∧ LR K μ st.nxt H l σ ∧ Post K cl (VR K) μ st.nxt H Q (WE W σ) (m l st)
def rdT (W : WX) (m : MT) : TT:=fun σ H Q => ∃ μ st l,SR K cl μ st H ∧ LR K μ st.nxt H l σ ∧ Post K cl Same_ μ st.nxt H Q (WE W σ) (m l st)
def rdA (W : WX) (m : MA) : TA:=fun σ H Q => ∃ μ st l,SR K cl μ st H ∧ LR K μ st.nxt H l σ ∧ Post K cl (VRs K) μ st.nxt H Q (WE W σ) (m l st)
inductive RS where
  | nx (l : Loc) (st : Store)
  | rt (d : D) (st : Store)
  | bk (l : Loc) (st : Store)
  | ct (l : Loc) (st : Store)
  | exc (c : Nat) (fs : List (Str × D)) (l : Loc) (st : Store)
  | bad
abbrev MS:=Loc → Store → RS
def PostL (μ : Nat → Addr) (N : Nat) (H : Hp) (l : Loc) (st' : Store) (Q : St → Hp → Prop) : Prop:=
  ∀ μ' H' σ',SR K cl μ' st' H' → Ev K μ N H μ' st'.nxt H' → LR K μ' st'.nxt H' l σ' → Q σ' H'
def PostS (μ : Nat → Addr) (N : Nat) (H : Hp) (E : Ends) (W : WX) : RS → Prop
  | .nx l st' => PostL K cl μ N H l st' E.nx
  | .rt d st' => ∀ μ' H' v,SR K cl μ' st' H' → Ev K μ N H μ' st'.nxt H' → VR K μ' st'.nxt H' d v → E.rt v H'
  | .bk l st' => PostL K cl μ N H l st' E.bk
  | .ct l st' => PostL K cl μ N H l st' E.ct
  | .exc c fs l st' => ∀ μ' H' σ' cls d,SR K cl μ' st' H' → Ev K μ N H μ' st'.nxt H' → LR K μ' st'.nxt H' l σ' → XR K cl μ' st'.nxt H' c fs cls d → W cls d σ' H'
  | .bad => False
def rdS (W : WX) (m : MS) : TS:=fun E σ H => ∃ μ st l,SR K cl μ st H ∧ LR K μ st.nxt H l σ ∧ PostS K cl μ st.nxt H E W (m l st)
end
section
variable {K : PySem.W.Frag} {cl : CL} {μ μ1 μ2 : Nat → Addr} {N N1 N2 : Nat} {H H1 H2 : Hp}
theorem LR.ev {l : Loc} {σ : St} (h : LR K μ N H l σ) (e : Ev K μ N H μ1 N1 H1) : LR K μ1 N1 H1 l σ:=⟨h.1,fun i d q => let ⟨v,a,b⟩:=h.2 i d q; ⟨v,a,b.ev e⟩⟩
theorem LR.set {l : Loc} {σ : St} {d : D} {v : V} (h : LR K μ N H l σ) (i : Nat) (hd : VR K μ N H d v) : LR K μ N H (l.set i (some d)) (σ.set i (some v)):=by
  refine ⟨by simp [h.1],fun j e q => ?_⟩
  by_cases hj : i = j
  · subst hj
    by_cases hl : i < l.length
    · rw [List.getElem?_set_self hl] at q
      cases q
      exact ⟨v,List.getElem?_set_self (by rw [← h.1]; exact hl),hd⟩
    · rw [List.getElem?_eq_none (by simpa using hl)] at q; cases q
  · rw [List.getElem?_set_ne hj] at q
    rw [List.getElem?_set_ne hj]
    exact h.2 j e q
theorem Post.mono {α β : Type} {rel : (Nat → Addr) → Nat → Hp → α → β → Prop} {Q : β → Hp → Prop} {W : XK} {r : Res α} (e : Ev K μ N H μ1 N1 H1) (h : Post K cl rel μ N H Q W r) : Post K cl rel μ1 N1 H1 Q W r:=by
  cases r with
  | ok a st' => exact fun μ' H' b s e' q => h μ' H' b s (e.trans e') q
  | exc c fs st' => exact fun μ' H' cls d s e' q => h μ' H' cls d s (e.trans e') q
  | bad => exact h
theorem PostO.mono {α β : Type} {rel : (Nat → Addr) → Nat → Hp → α → β → Prop} {Q : β → Hp → Prop} {r : Option (α × Store)} (e : Ev K μ N H μ1 N1 H1) (h : PostO K cl rel μ N H Q r) : PostO K cl rel μ1 N1 H1 Q r:=by
  cases r with
  | some a => exact fun μ' H' b s e' q => h μ' H' b s (e.trans e') q
  | none => exact h
theorem PostS.mono {E : Ends} {W : WX} {r : RS} (e : Ev K μ N H μ1 N1 H1) (h : PostS K cl μ N H E W r) : PostS K cl μ1 N1 H1 E W r:=by
  cases r with
  | nx l st' => exact fun μ' H' σ' s e' q => h μ' H' σ' s (e.trans e') q
  | rt d st' => exact fun μ' H' v s e' q => h μ' H' v s (e.trans e') q
  | bk l st' => exact fun μ' H' σ' s e' q => h μ' H' σ' s (e.trans e') q
  | ct l st' => exact fun μ' H' σ' s e' q => h μ' H' σ' s (e.trans e') q
  | exc c fs l st' => exact fun μ' H' σ' cls d s e' q x => h μ' H' σ' cls d s (e.trans e') q x
  | bad => exact h
theorem Post.bind {α β γ δ : Type} {rel : (Nat → Addr) → Nat → Hp → α → β → Prop} {rel' : (Nat → Addr) → Nat → Hp → γ → δ → Prop} {Q : β → Hp → Prop} {Q' : δ → Hp → Prop} {W : XK} {r : Res γ} {k : γ → Store → Res α}
    (h : Post K cl rel μ N H Q W (r.bind k))
    (hk : ∀ c st1 μ1 H1 v,r = .ok c st1 → SR K cl μ1 st1 H1 → Ev K μ N H μ1 st1.nxt H1 → rel' μ1 st1.nxt H1 c v → Post K cl rel μ1 st1.nxt H1 Q W (k c st1) → Q' v H1) : Post K cl rel' μ N H Q' W r:=by
  cases r with
  | ok c st1 => exact fun μ1 H1 v s e q => hk c st1 μ1 H1 v rfl s e q (Post.mono e h)
  | exc c fs st' => exact h
  | bad => exact h
def Res.ofO {α : Type} : Option (α × Store) → Res α
  | some (a,st) => .ok a st
  | none => .bad
theorem Post.ofO {α β : Type} {rel : (Nat → Addr) → Nat → Hp → α → β → Prop} {Q : β → Hp → Prop} {W : XK} {r : Option (α × Store)} (h : Post K cl rel μ N H Q W (Res.ofO r)) : PostO K cl rel μ N H Q r:=by
  cases r with
  | some a => exact h
  | none => exact h
end
theorem PE.weak {X : Cx} {e : Expr} {t t' : TE} (h : PE X e t) (w : ∀ σ H Q,t' σ H Q → t σ H Q) : PE X e t':=⟨fun pins s σ H Q I q => h.run pins s σ H Q I (w σ H Q q)⟩
theorem PT.weak {X : Cx} {e : Expr} {t t' : TT} (h : PT X e t) (w : ∀ σ H Q,t' σ H Q → t σ H Q) : PT X e t':=⟨fun pins s σ H Q I q => h.run pins s σ H Q I (w σ H Q q)⟩
theorem PW.weak {X : Cx} {e : Expr} {t t' : TT} (h : PW X e t) (w : ∀ σ H Q,t' σ H Q → t σ H Q) : PW X e t':=⟨fun wh pins s σ H Q I q => h.run wh pins s σ H Q I (w σ H Q q)⟩
theorem PA.weak {X : Cx} {e : List Expr} {t t' : TA} (h : PA X e t) (w : ∀ σ H Q,t' σ H Q → t σ H Q) : PA X e t':=⟨fun pos pins s σ H Q I q => h.run pos pins s σ H Q I (w σ H Q q)⟩
theorem PS.weak {X : Cx} {e : Stmt} {t t' : TS} (h : PS X e t) (w : ∀ E σ H,t' E σ H → t E σ H) : PS X e t':=⟨fun pins s σ H E I q => h.run pins s σ H E I (w E σ H q)⟩
theorem PSs.weak {X : Cx} {e : List Stmt} {t t' : TS} (h : PSs X e t) (w : ∀ E σ H,t' E σ H → t E σ H) : PSs X e t':=⟨fun pins s σ H E I q => h.run pins s σ H E I (w E σ H q)⟩
abbrev SE (X : Cx) (cl : CL) (W : WX) (e : Expr) (m : ME) : Prop:=PE X e (rdE X.K cl W m)
abbrev ST (X : Cx) (cl : CL) (W : WX) (e : Expr) (m : MT) : Prop:=PT X e (rdT X.K cl W m)
abbrev SW (X : Cx) (cl : CL) (W : WX) (e : Expr) (m : MT) : Prop:=PW X e (rdT X.K cl W m)
abbrev SA (X : Cx) (cl : CL) (W : WX) (es : List Expr) (m : MA) : Prop:=PA X es (rdA X.K cl W m)
abbrev SS (X : Cx) (cl : CL) (W : WX) (st : Stmt) (m : MS) : Prop:=PS X st (rdS X.K cl W m)
abbrev SSs (X : Cx) (cl : CL) (W : WX) (st : List Stmt) (m : MS) : Prop:=PSs X st (rdS X.K cl W m)
end DV
namespace DV
open PySem L2
abbrev F1:=D → Store → Option (D × Store)
abbrev F2:=D → D → Store → Option (D × Store)
abbrev FL:=List D → Store → Option (D × Store)
def rdO (K : PySem.W.Frag) (cl : CL) (f : F2) : R2:=fun x y H Q => ∃ μ st d1 d2,SR K cl μ st H ∧ VR K μ st.nxt H d1 x ∧ VR K μ st.nxt H d2 y ∧ PostO K cl (VR K) μ st.nxt H Q (f d1 d2 st)
def rdU (K : PySem.W.Frag) (cl : CL) (f : F1) : V → Hp → VK → Prop:=fun x H Q => ∃ μ st d1,SR K cl μ st H ∧ VR K μ st.nxt H d1 x ∧ PostO K cl (VR K) μ st.nxt H Q (f d1 st)
def rdC (K : PySem.W.Frag) (cl : CL) (f : FL) : List V → Hp → VK → Prop:=fun xs H Q => ∃ μ st ds,SR K cl μ st H ∧ VRs K μ st.nxt H ds xs ∧ PostO K cl (VR K) μ st.nxt H Q (f ds st)
def rdM (K : PySem.W.Frag) (cl : CL) (f : D → FL) : V → List V → Hp → VK → Prop:=fun x xs H Q => ∃ μ st d ds,SR K cl μ st H ∧ VR K μ st.nxt H d x ∧ VRs K μ st.nxt H ds xs ∧ PostO K cl (VR K) μ st.nxt H Q (f d ds st)
abbrev OpS (X : Cx) (cl : CL) (g : Value → Value → Sem Value) (f : F2) : Prop:=OpR X g (rdO X.K cl f)
abbrev CallS (X : Cx) (cl : CL) (v : Value) (f : FL) : Prop:=CallR X v (rdC X.K cl f)
def mVar (i : Nat) : ME:=fun l st => match l[i]? with
  | some (some d) => .ok d st
  | _ => .bad
def mC (d : D) : ME:=fun _ st => .ok d st
def m2 (f : F2) (a b : ME) : ME:=fun l st => (a l st).bind fun x st1 => (b l st1).bind fun y st2 => Res.ofO (f x y st2)
def m1 (f : F1) (a : ME) : ME:=fun l st => (a l st).bind fun x st1 => Res.ofO (f x st1)
def mL (f : FL) (a : MA) : ME:=fun l st => (a l st).bind fun xs st1 => Res.ofO (f xs st1)
def maNil : MA:=fun _ st => .ok [] st
def maCons (a : ME) (b : MA) : MA:=fun l st => (a l st).bind fun x st1 => (b l st1).bind fun xs st2 => .ok (x :: xs) st2
def fTup : FL:=fun xs st => if xs.length ≤ sizeLine then some (.tup xs,st) else none
def fLst : FL:=fun xs st => if xs.length ≤ sizeLine then some (.ref st.nxt,st.new (.lst xs)) else none
def mTup (a : MA) : ME:=mL fTup a
def mLst (a : MA) : ME:=mL fLst a
def toB : D → Store → Res Bool
  | .bl b,st => .ok b st
  | _,_ => .bad
def tB_ (a : ME) : MT:=fun l st => (a l st).bind toB
def mChain (f g : F2) (a b c : ME) : ME:=fun l st => (a l st).bind fun x st1 => (b l st1).bind fun y st2 => (Res.ofO (f x y st2)).bind fun z st3 => (toB z st3).bind fun k st4 =>
  if k then (c l st4).bind fun w st5 => Res.ofO (g y w st5) else .ok (.bl false) st4
def tAnd_ (a b : MT) : MT:=fun l st => (a l st).bind fun k st1 => if k then b l st1 else .ok false st1
def tOr_ (a b : MT) : MT:=fun l st => (a l st).bind fun k st1 => if k then .ok true st1 else b l st1
def tNot_ (a : MT) : MT:=fun l st => (a l st).bind fun k st1 => .ok (!k) st1
def mAnd (a b : ME) : ME:=fun l st => (a l st).bind fun d st1 => (toB d st1).bind fun k st2 => if k then b l st2 else .ok (.bl false) st2
def mOr (a b : ME) : ME:=fun l st => (a l st).bind fun d st1 => (toB d st1).bind fun k st2 => if k then .ok (.bl true) st2 else b l st2
def mNot (a : ME) : ME:=fun l st => (a l st).bind fun d st1 => (toB d st1).bind fun k st2 => .ok (.bl (!k)) st2
def mIf (c : MT) (a b : ME) : ME:=fun l st => (c l st).bind fun k st1 => if k then a l st1 else b l st1
section
variable {X : Cx} {cl : CL} {W : WX} {a b c e : Expr} {es rest : List Expr} {ma mb mc m : ME} {mt mu : MT} {xs : MA} {pos : Pos}
theorem s_pe {t : TE} (h : PE X e t) (w : ∀ σ H Q,rdE X.K cl W m σ H Q → t σ H Q) : SE X cl W e m:=PE.weak h w
theorem s_var (i : Nat) {x : Str} (hN : X.N[i]? = some x:=by rfl) (hv : Vis X.env.scope x:=by first | exact Or.inl rfl | exact Or.inr (Or.inl rfl) | exact Or.inr (Or.inr rfl)) (hd : (x == ("__debug__" : Str)) = false:=by decide)
    (hcd : (x == ("__classdict__" : Str)) = false:=by decide) : SE X cl W (.Name x pos) (mVar i):=s_pe (pe_var (i:=i) hN hv hd hcd) fun σ H Q ⟨μ,st,l,S,L,h⟩ => by
  unfold mVar at h
  cases q : l[i]? with
  | none => rw [q] at h; exact h.elim
  | some o =>
    cases o with
    | none => rw [q] at h; exact h.elim
    | some d =>
      rw [q] at h
      obtain ⟨v,h1,h2⟩:=L.2 i d q
      exact ⟨v,h1,h μ H v S Ev.refl h2⟩
theorem s_c {d : D} {v : V} (he : PE X e (tC v)) (hv : ∀ μ N H,VR X.K μ N H d v) : SE X cl W e (mC d):=s_pe he fun σ H Q ⟨μ,st,l,S,L,h⟩ => h μ H v S Ev.refl (hv μ st.nxt H)
theorem s_int {i : Int} {j : Nat} : SE X cl W (.Constant (.int i) j pos) (mC (.int i)):=s_c pe_int fun _ _ _ => by simp only [VR]
theorem s_bl {k : Bool} {j : Nat} : SE X cl W (.Constant (.bool k) j pos) (mC (.bl k)):=s_c pe_bl fun _ _ _ => by simp only [VR]
theorem s_non {j : Nat} : SE X cl W (.Constant .none j pos) (mC .non):=s_c pe_non fun _ _ _ => by simp only [VR]
theorem s_str {x : Str} {j : Nat} : SE X cl W (.Constant (.str x) j pos) (mC (.str x)):=s_c pe_str fun _ _ _ => by simp only [VR]
theorem sa_nil : SA X cl W [] maNil:=PA.weak pa_nil fun σ H Q ⟨μ,st,l,S,L,h⟩ => h μ H [] S Ev.refl (by simp only [VRs])
theorem sa_cons (ha : SE X cl W e ma) (hr : SA X cl W es xs) (hs : starEach (e :: es) X.env = (false,eval e X.env) :: starEach es X.env:=by rfl) : SA X cl W (e :: es) (maCons ma xs):=
  PA.weak (pa_cons ha hr hs) fun σ H Q ⟨μ,st,l,S,L,h⟩ => ⟨μ,st,l,S,L,Post.bind h fun x st1 μ1 H1 v _ S1 e1 r1 h1 =>
    ⟨μ1,st1,l,S1,L.ev e1,Post.bind h1 fun ys st2 μ2 H2 vs _ S2 e2 r2 h2 => h2 μ2 H2 (v :: vs) S2 Ev.refl (by simp only [VRs]; exact ⟨v,vs,rfl,r1.ev e2,r2⟩)⟩⟩
theorem w_op {f : F2} : ∀ σ H Q,rdE X.K cl W (m2 f ma mb) σ H Q → L2.tOp (rdO X.K cl f) (rdE X.K cl W ma) (rdE X.K cl W mb) σ H Q:=fun σ H Q ⟨μ,st,l,S,L,h⟩ =>
  ⟨μ,st,l,S,L,Post.bind h fun x st1 μ1 H1 v _ S1 e1 r1 h1 => ⟨μ1,st1,l,S1,L.ev e1,Post.bind h1 fun y st2 μ2 H2 w _ S2 e2 r2 h2 => ⟨μ2,st2,x,y,S2,r1.ev e2,r2,Post.ofO h2⟩⟩⟩
theorem s_op {op : Operator} {f : F2} (ho : OpS X cl (binaryOp op) f) (ha : SE X cl W a ma) (hb : SE X cl W b mb) : SE X cl W (.BinOp a op b pos) (m2 f ma mb):=s_pe (pe_op ho ha hb) w_op
theorem s_un {op : UnaryOp} {f : F1} (ho : UnR X (unaryOp op) (rdU X.K cl f)) (ha : SE X cl W a ma) : SE X cl W (.UnaryOp op a pos) (m1 f ma):=s_pe (pe_un ho ha) fun σ H Q ⟨μ,st,l,S,L,h⟩ =>
  ⟨μ,st,l,S,L,Post.bind h fun x st1 μ1 H1 v _ S1 e1 r1 h1 => ⟨μ1,st1,x,S1,r1,Post.ofO h1⟩⟩
theorem s_cmp {op : CmpOp} {f : F2} (ho : OpS X cl (compareOp op) f) (ha : SE X cl W a ma) (hb : SE X cl W b mb) (hm : behindInMarks op b = false:=by first | exact nomark _ | rfl) : SE X cl W (.Compare a [op] [b] pos) (m2 f ma mb):=s_pe (pe_cmpR ho ha hb hm) w_op
theorem s_ix {f : F2} (hr : IxR X (rdO X.K cl f)) (ha : SE X cl W a ma) (hb : SE X cl W b mb) (hs : PlainIx b:=by intro _ _; rfl) : SE X cl W (.Subscript a b pos) (m2 f ma mb):=s_pe (pe_ix hr ha hb hs) w_op
theorem w_toB {t : TE} (w : ∀ σ H Q,rdE X.K cl W m σ H Q → t σ H Q) : ∀ σ H Q,rdT X.K cl W (tB_ m) σ H Q → (fun σ H Q => t σ H fun x H' => ∃ k,x = .bl k ∧ Q k H') σ H Q:=fun σ H Q ⟨μ,st,l,S,L,h⟩ =>
  w σ H _ ⟨μ,st,l,S,L,Post.bind h fun d st1 μ1 H1 v _ S1 e1 r1 h1 => by
    cases d with
    | bl k =>
      simp only [VR] at r1
      exact ⟨k,r1,h1 μ1 H1 k S1 Ev.refl rfl⟩
    | _ => exact h1.elim⟩
theorem t_cmp {op : CmpOp} {f : F2} (ho : OpS X cl (compareOp op) f) (ha : SE X cl W a ma) (hb : SE X cl W b mb) (hm : behindInMarks op b = false:=by first | exact nomark _ | rfl) : ST X cl W (.Compare a [op] [b] pos) (tB_ (m2 f ma mb)):=
  PT.weak (pt_cmpR ho ha hb hm) (w_toB w_op)
theorem t_val (h : SE X cl W e m) (he : ∀ whole,isTrue e X.env whole = (do let v ← whole; standAt e.pos; holding [v] (truthy v)):=by intro _; rfl) : ST X cl W e (tB_ m):=PT.weak (pt_val h he) (w_toB fun _ _ _ q => q)
theorem w_chain {f g : F2} : ∀ σ H Q,rdE X.K cl W (mChain f g ma mb mc) σ H Q → tChain (rdO X.K cl f) (rdO X.K cl g) (rdE X.K cl W ma) (rdE X.K cl W mb) (rdE X.K cl W mc) σ H Q:=fun σ H Q ⟨μ,st,l,S,L,h⟩ =>
  ⟨μ,st,l,S,L,Post.bind h fun x st1 μ1 H1 v _ S1 e1 r1 h1 => ⟨μ1,st1,l,S1,L.ev e1,Post.bind h1 fun y st2 μ2 H2 w _ S2 e2 r2 h2 => ⟨μ2,st2,x,y,S2,r1.ev e2,r2,by
    refine Post.ofO (W:=WE W σ) (Post.bind h2 fun z st3 μ3 H3 u _ S3 e3 r3 h3 => ?_)
    cases z with
    | bl k =>
      simp only [VR] at r3
      refine ⟨k,r3,?_⟩
      cases k with
      | true => exact ⟨μ3,st3,l,S3,L.ev (e1.trans (e2.trans e3)),Post.bind h3 fun z2 st4 μ4 H4 u4 _ S4 e4 r4 h4 => ⟨μ4,st4,y,z2,S4,r2.ev (e3.trans e4),r4,Post.ofO h4⟩⟩
      | false => exact h3 μ3 H3 (.bl false) S3 Ev.refl (by simp only [VR])
    | _ => exact h3.elim⟩⟩⟩
theorem s_chain {op op' : CmpOp} {f g : F2} (ho : OpS X cl (compareOp op) f) (ho' : OpS X cl (compareOp op') g) (ha : SE X cl W a ma) (hb : SE X cl W b mb) (hc : SE X cl W c mc) (hm : lastMarks [op,op'] [b,c] = false:=by with_unfolding_all rfl) :
    SE X cl W (.Compare a [op,op'] [b,c] pos) (mChain f g ma mb mc):=s_pe (pe_chain ho ho' ha hb hc hm) w_chain
theorem t_chain {op op' : CmpOp} {f g : F2} (ho : OpS X cl (compareOp op) f) (ho' : OpS X cl (compareOp op') g) (ha : SE X cl W a ma) (hb : SE X cl W b mb) (hc : SE X cl W c mc) (hm : lastMarks [op,op'] [b,c] = false:=by with_unfolding_all rfl) :
    ST X cl W (.Compare a [op,op'] [b,c] pos) (tB_ (mChain f g ma mb mc)):=PT.weak (pt_chain ho ho' ha hb hc hm) (w_toB w_chain)
theorem t_and1 (ha : ST X cl W a mt) : SW X cl W (.BoolOp .And [a] pos) mt:=pw_and1 ha
theorem t_or1 (ha : ST X cl W a mt) : SW X cl W (.BoolOp .Or [a] pos) mt:=pw_or1 ha
theorem t_and (ha : ST X cl W a mt) (hb : SW X cl W (.BoolOp .And (b :: rest) pos) mu) : SW X cl W (.BoolOp .And (a :: b :: rest) pos) (tAnd_ mt mu):=PW.weak (pw_and ha hb) fun σ H Q ⟨μ,st,l,S,L,h⟩ =>
  ⟨μ,st,l,S,L,Post.bind h fun k st1 μ1 H1 k' _ S1 e1 r1 h1 => by
    cases r1
    cases k with
    | true => exact ⟨μ1,st1,l,S1,L.ev e1,h1⟩
    | false => exact h1 μ1 H1 false S1 Ev.refl rfl⟩
theorem t_or (ha : ST X cl W a mt) (hb : SW X cl W (.BoolOp .Or (b :: rest) pos) mu) : SW X cl W (.BoolOp .Or (a :: b :: rest) pos) (tOr_ mt mu):=PW.weak (pw_or ha hb) fun σ H Q ⟨μ,st,l,S,L,h⟩ =>
  ⟨μ,st,l,S,L,Post.bind h fun k st1 μ1 H1 k' _ S1 e1 r1 h1 => by
    cases r1
    cases k with
    | false => exact ⟨μ1,st1,l,S1,L.ev e1,h1⟩
    | true => exact h1 μ1 H1 true S1 Ev.refl rfl⟩
theorem t_w (h : SW X cl W e mt) : ST X cl W e mt:=h.pt
theorem t_not (ha : ST X cl W a mt) : ST X cl W (.UnaryOp .Not a pos) (tNot_ mt):=PT.weak (pt_not ha) fun σ H Q ⟨μ,st,l,S,L,h⟩ =>
  ⟨μ,st,l,S,L,Post.bind h fun k st1 μ1 H1 k' _ S1 e1 r1 h1 => by
    cases r1
    exact h1 μ1 H1 (!k) S1 Ev.refl rfl⟩
theorem s_one {op} (h : SE X cl W a ma) : SE X cl W (.BoolOp op [a] pos) ma:=pe_one h
theorem s_and (ha : SE X cl W a ma) (hb : SE X cl W (.BoolOp .And (b :: rest) pos) mb) : SE X cl W (.BoolOp .And (a :: b :: rest) pos) (mAnd ma mb):=s_pe (pe_and ha hb) fun σ H Q ⟨μ,st,l,S,L,h⟩ =>
  ⟨μ,st,l,S,L,Post.bind h fun d st1 μ1 H1 v _ S1 e1 r1 h1 => by
    cases d with
    | bl k =>
      simp only [VR] at r1
      refine ⟨k,r1,?_⟩
      cases k with
      | true => exact ⟨μ1,st1,l,S1,L.ev e1,h1⟩
      | false => exact h1 μ1 H1 (.bl false) S1 Ev.refl (by simp only [VR])
    | _ => exact h1.elim⟩
theorem s_or (ha : SE X cl W a ma) (hb : SE X cl W (.BoolOp .Or (b :: rest) pos) mb) : SE X cl W (.BoolOp .Or (a :: b :: rest) pos) (mOr ma mb):=s_pe (pe_or ha hb) fun σ H Q ⟨μ,st,l,S,L,h⟩ =>
  ⟨μ,st,l,S,L,Post.bind h fun d st1 μ1 H1 v _ S1 e1 r1 h1 => by
    cases d with
    | bl k =>
      simp only [VR] at r1
      refine ⟨k,r1,?_⟩
      cases k with
      | false => exact ⟨μ1,st1,l,S1,L.ev e1,h1⟩
      | true => exact h1 μ1 H1 (.bl true) S1 Ev.refl (by simp only [VR])
    | _ => exact h1.elim⟩
theorem s_not (ha : SE X cl W a ma) : SE X cl W (.UnaryOp .Not a pos) (mNot ma):=s_pe (pe_not ha) fun σ H Q ⟨μ,st,l,S,L,h⟩ =>
  ⟨μ,st,l,S,L,Post.bind h fun d st1 μ1 H1 v _ S1 e1 r1 h1 => by
    cases d with
    | bl k =>
      simp only [VR] at r1
      exact ⟨k,r1,h1 μ1 H1 (.bl (!k)) S1 Ev.refl (by simp only [VR])⟩
    | _ => exact h1.elim⟩
theorem s_if (hc : ST X cl W c mt) (ha : SE X cl W a ma) (hb : SE X cl W b mb) : SE X cl W (.IfExp c a b pos) (mIf mt ma mb):=s_pe (pe_ifExp hc ha hb) fun σ H Q ⟨μ,st,l,S,L,h⟩ =>
  ⟨μ,st,l,S,L,Post.bind h fun k st1 μ1 H1 k' _ S1 e1 r1 h1 => by
    cases r1
    cases k with
    | true => exact ⟨μ1,st1,l,S1,L.ev e1,h1⟩
    | false => exact ⟨μ1,st1,l,S1,L.ev e1,h1⟩⟩
theorem s_tup {x1} (h : SA X cl W es xs) : SE X cl W (.Tuple es x1 pos) (mTup xs):=s_pe (pe_tup h) fun σ H Q ⟨μ,st,l,S,L,h⟩ =>
  ⟨μ,st,l,S,L,Post.bind h fun ds st1 μ1 H1 vs _ S1 e1 r1 h1 => by
    unfold fTup at h1
    by_cases hz : ds.length ≤ sizeLine
    · rw [if_pos hz] at h1
      refine ⟨by rw [← r1.length]; exact hz,fun p hp => h1 μ1 (upd H1 p (.tup vs)) (.ref p) (S1.beside hp) (Ev.beside hp) ?_⟩
      simp only [VR]
      exact ⟨p,vs,rfl,SqT.of upd_same,r1.ev (Ev.beside hp)⟩
    · rw [if_neg hz] at h1; exact h1.elim⟩
theorem s_lst (h : SA X cl W es xs) : SE X cl W (.List es pos) (mLst xs):=s_pe (pe_lst h) fun σ H Q ⟨μ,st,l,S,L,h⟩ =>
  ⟨μ,st,l,S,L,Post.bind h fun ds st1 μ1 H1 vs _ S1 e1 r1 h1 => by
    unfold fLst at h1
    by_cases hz : ds.length ≤ sizeLine
    · rw [if_pos hz] at h1
      refine ⟨by rw [← r1.length]; exact hz,fun p hp => h1 (ext μ1 st1.nxt p) (upd H1 p (.lst vs)) (.ref p) (S1.new_lst hp r1) (Ev.new hp) ?_⟩
      simp only [VR]
      exact ⟨Nat.lt_succ_self _,by rw [ext_same]⟩
    · rw [if_neg hz] at h1; exact h1.elim⟩
theorem w_cB {f : FL} : ∀ σ H Q,rdE X.K cl W (mL f xs) σ H Q → tCB (rdC X.K cl f) (rdA X.K cl W xs) σ H Q:=fun σ H Q ⟨μ,st,l,S,L,h⟩ =>
  ⟨μ,st,l,S,L,Post.bind h fun ds st1 μ1 H1 vs _ S1 e1 r1 h1 => ⟨μ1,st1,ds,S1,r1,Post.ofO h1⟩⟩
theorem s_callB {f : FL} {id : String} {x : Str} {p : Pos} (hc : CallS X cl (.builtin id) f) (hg : Gl X x) (hm : X.mg x = none) (hv : bootBuiltins x = some (.builtin id)) (ha : SA X cl W (e :: es) xs) (hn : x ≠ "__name__":=by decide) (hdb : (x == ("__debug__" : Str)) = false:=by decide)
    (he : starEach (e :: es) X.env = (false,eval e X.env) :: starEach es X.env:=by rfl) (hpl : (backTo pos (starEach es X.env)).any (·.1) = false:=by rfl) : SE X cl W (.Call (.Name x p) (e :: es) [] pos) (mL f xs):=s_pe (pe_callB hc hg hm hv ha hn hdb he hpl) w_cB
theorem s_callTy {f : FL} {T : String} {x : Str} {p : Pos} (hc : CallS X cl (.type T) f) (hg : Gl X x) (hm : X.mg x = none) (hv : bootBuiltins x = some (.type T)) (ha : SA X cl W (e :: es) xs) (hn : x ≠ "__name__":=by decide) (hdb : (x == ("__debug__" : Str)) = false:=by decide)
    (he : starEach (e :: es) X.env = (false,eval e X.env) :: starEach es X.env:=by rfl) (hpl : (backTo pos (starEach es X.env)).any (·.1) = false:=by rfl) : SE X cl W (.Call (.Name x p) (e :: es) [] pos) (mL f xs):=s_pe (pe_callTy hc hg hm hv ha hn hdb he hpl) w_cB
theorem s_glob {x : Str} {d : D} {v : V} {u : Value} {p : Pos} (hg : Gl X x) (hm : X.mg x = some u) (r : RelV v u) (hv : ∀ μ N H,VR X.K μ N H d v) (hd : (x == ("__debug__" : Str)) = false:=by decide) : SE X cl W (.Name x p) (mC d):=s_c (pe_glob hg hm r hd) hv
end
end DV
namespace DV
open PySem L2
section
variable {K : PySem.W.Frag} {cl : CL} {μ μ1 μ2 : Nat → Addr} {N N1 N2 : Nat} {H H1 H2 : Hp}
def Res.toS {α : Type} (r : Res α) (l : Loc) (k : α → Store → RS) : RS:=
  match r with
  | .ok a st => k a st
  | .exc c fs st => .exc c fs l st
  | .bad => .bad
theorem PostS.bind {γ δ : Type} {rel' : (Nat → Addr) → Nat → Hp → γ → δ → Prop} {E : Ends} {Q' : δ → Hp → Prop} {W : WX} {r : Res γ} {l : Loc} {σ : St} {k : γ → Store → RS}
    (h : PostS K cl μ N H E W (r.toS l k)) (L : LR K μ N H l σ)
    (hk : ∀ c st1 μ1 H1 v,r = .ok c st1 → SR K cl μ1 st1 H1 → Ev K μ N H μ1 st1.nxt H1 → rel' μ1 st1.nxt H1 c v → PostS K cl μ1 st1.nxt H1 E W (k c st1) → Q' v H1) : Post K cl rel' μ N H Q' (WE W σ) r:=by
  cases r with
  | ok c st1 => exact fun μ1 H1 v s e q => hk c st1 μ1 H1 v rfl s e q (PostS.mono e h)
  | exc c fs st' => exact fun μ' H' cls d s e x => h μ' H' σ cls d s e (L.ev e) x
  | bad => exact h
end
abbrev TGT:=D → Loc → Store → Option Loc
abbrev TGTs:=List D → Loc → Store → Option Loc
def rdG (K : PySem.W.Frag) (cl : CL) (ws : List Nat) (t : TGT) : TG:=fun v σ H Q => ∃ μ st l d l',SR K cl μ st H ∧ LR K μ st.nxt H l σ ∧ VR K μ st.nxt H d v ∧ t d l st = some l' ∧
  ∀ σ',LR K μ st.nxt H l' σ' → σ'.length = σ.length → (∀ j : Nat,j ∉ ws → σ'[j]? = σ[j]?) → Q σ' H
def rdGs (K : PySem.W.Frag) (cl : CL) (ws : List Nat) (t : TGTs) : TGs:=fun vs σ H Q => ∃ μ st l ds l',SR K cl μ st H ∧ LR K μ st.nxt H l σ ∧ VRs K μ st.nxt H ds vs ∧ t ds l st = some l' ∧
  ∀ σ',LR K μ st.nxt H l' σ' → σ'.length = σ.length → (∀ j : Nat,j ∉ ws → σ'[j]? = σ[j]?) → Q σ' H
theorem PG.weak {X : Cx} {e : Expr} {t t' : TG} (h : PG X e t) (w : ∀ v σ H Q,t' v σ H Q → t v σ H Q) : PG X e t':=⟨fun pins s σ H v u Q I r q => h.run pins s σ H v u Q I r (w v σ H Q q)⟩
theorem PGs.weak {X : Cx} {e : List Expr} {t t' : TGs} (h : PGs X e t) (w : ∀ v σ H Q,t' v σ H Q → t v σ H Q) : PGs X e t':=⟨fun pins s σ H v u Q I r q => h.run pins s σ H v u Q I r (w v σ H Q q)⟩
abbrev SG (X : Cx) (cl : CL) (e : Expr) (ws : List Nat) (t : TGT) : Prop:=PG X e (rdG X.K cl ws t)
abbrev SGs (X : Cx) (cl : CL) (e : List Expr) (ws : List Nat) (t : TGTs) : Prop:=PGs X e (rdGs X.K cl ws t)
def tgName (i : Nat) : TGT:=fun d l _ => some (l.set i (some d))
def tgNil : TGTs:=fun ds l _ => match ds with
  | [] => some l
  | _ :: _ => none
def tgCons (t : TGT) (u : TGTs) : TGTs:=fun ds l st => match ds with
  | d :: ds => (t d l st).bind fun l1 => u ds l1 st
  | [] => none
def tgTup (n : Nat) (t : TGTs) : TGT:=fun d l st => match d with
  | .tup xs => if xs.length = n then t xs l st else none
  | _ => none
section
variable {X : Cx} {cl : CL} {e : Expr} {es : List Expr} {pos : Pos}
theorem g_name (i : Nat) {x : Str} (hN : X.N.Nodup) (hi : X.N[i]? = some x:=by rfl) (hx : L2.Loc X.env.scope x:=by first | exact Or.inl rfl | exact Or.inr rfl) (hf : X.fn x = true ∨ X.env.scope.names.lookup x = some .local:=by first | exact .inl rfl | exact .inr rfl | assumption) : SG X cl (.Name x pos) [i] (tgName i):=
  PG.weak (pg_name (i:=i) hN hi hx hf) fun v σ H Q ⟨μ,st,l,d,l',S,L,r,e,h⟩ => by
    cases e
    exact h _ (L.set i r) (by simp) fun j hj => List.getElem?_set_ne (by simpa [eq_comm] using hj)
theorem g_nil : SGs X cl [] [] tgNil:=PGs.weak pgs_nil fun vs σ H Q ⟨μ,st,l,ds,l',S,L,r,e,h⟩ => by
  cases ds with
  | nil =>
    cases e
    simp only [VRs] at r
    exact ⟨r,h σ L rfl fun _ _ => rfl⟩
  | cons d ds => cases e
theorem g_cons {ws wt : List Nat} {t : TGT} {u : TGTs} (h1 : SG X cl e ws t) (h2 : SGs X cl es wt u) (hs : (assignEach (e :: es) X.env).map (·.2) = assign e X.env :: (assignEach es X.env).map (·.2):=by rfl) : SGs X cl (e :: es) (ws ++ wt) (tgCons t u):=
  PGs.weak (pgs_cons h1 h2 hs) fun vs σ H Q ⟨μ,st,l,ds,l',S,L,r,e,h⟩ => by
    cases ds with
    | nil => cases e
    | cons d ds =>
      simp only [VRs] at r
      obtain ⟨v,vr,rfl,r1,r2⟩:=r
      unfold tgCons at e
      simp only at e
      cases q : t d l st with
      | none => rw [q] at e; cases e
      | some l1 =>
        rw [q] at e
        refine ⟨v,vr,rfl,μ,st,l,d,l1,S,L,r1,q,fun σ1 L1 z1 k1 => ⟨μ,st,l1,ds,l',S,L1,r2,e,fun σ2 L2 z2 k2 => h σ2 L2 (z2.trans z1) fun j hj => ?_⟩⟩
        simp only [List.mem_append,not_or] at hj
        exact (k2 j hj.2).trans (k1 j hj.1)
theorem g_tup {ws : List Nat} {k : Nat} {t : TGTs} {n : Nat} (hc : X.calm = true) (h : SGs X cl es ws t) (hn : (assignEach es X.env).length = n:=by rfl) (hst : (assignEach es X.env).findIdx? (·.1) = none:=by rfl) : SG X cl (.Tuple es k pos) ws (tgTup n t):=
  PG.weak (pg_tup hc h hn hst) fun v σ H Q ⟨μ,st,l,d,l',S,L,r,e,h⟩ => by
    cases d with
    | tup xs =>
      simp only [VR] at r
      obtain ⟨p,vs,rfl,r1,r2⟩:=r
      unfold tgTup at e
      simp only at e
      by_cases hz : xs.length = n
      · rw [if_pos hz] at e
        exact ⟨p,vs,rfl,r1,by rw [← r2.length]; exact hz,μ,st,l,xs,l',S,L,r2,e,h⟩
      · rw [if_neg hz] at e; cases e
    | _ => cases e
end
def msNil : MS:=fun l st => .nx l st
def msSeq (a b : MS) : MS:=fun l st => match a l st with
  | .nx l' st' => b l' st'
  | r => r
def msExpr (m : ME) : MS:=fun l st => (m l st).toS l fun _ st1 => .nx l st1
def msRet (m : ME) : MS:=fun l st => (m l st).toS l fun d st1 => .rt d st1
def msIf (c : MT) (a b : MS) : MS:=fun l st => (c l st).toS l fun k st1 => if k then a l st1 else b l st1
def msAsg (m : ME) (t : TGT) : MS:=fun l st => (m l st).toS l fun d st1 => match t d l st1 with
  | some l' => .nx l' st1
  | none => .bad
def msPar (i j : Nat) (m : MA) : MS:=fun l st => (m l st).toS l fun ds st1 => match ds with
  | [x,y] => .nx ((l.set i (some x)).set j (some y)) st1
  | _ => .bad
section
variable {X : Cx} {cl : CL} {W : WX} {e c : Expr} {m : ME} {mt : MT} {xs : MA} {st₁ : Stmt} {rest sa sb : List Stmt} {ma mb : MS} {pos : Pos}
theorem ss_nil : SSs X cl W [] msNil:=PSs.weak pss_nil fun E σ H ⟨μ,st,l,S,L,h⟩ => h μ H σ S Ev.refl L
theorem w_seq : ∀ E σ H,rdS X.K cl W (msSeq ma mb) E σ H → tSeq (rdS X.K cl W ma) (rdS X.K cl W mb) E σ H:=fun E σ H ⟨μ,st,l,S,L,h⟩ => by
  refine ⟨μ,st,l,S,L,?_⟩
  unfold msSeq at h
  cases q : ma l st with
  | nx l' st' =>
    rw [q] at h
    exact fun μ' H' σ' s e L' => ⟨μ',st',l',s,L',PostS.mono e h⟩
  | rt d st' => rw [q] at h; exact h
  | bk l' st' => rw [q] at h; exact h
  | ct l' st' => rw [q] at h; exact h
  | exc c fs l' st' => rw [q] at h; exact h
  | bad => rw [q] at h; exact h
theorem ss_cons (h1 : SS X cl W st₁ ma) (h2 : SSs X cl W rest mb) : SSs X cl W (st₁ :: rest) (msSeq ma mb):=PSs.weak (pss_cons h1 h2) w_seq
theorem ss_one (h1 : SS X cl W st₁ ma) : SSs X cl W [st₁] ma:=pss_one h1
theorem ss_expr (he : SE X cl W e m) (hs : swapsWith e none pos.line X.env = pure false:=by rfl) : SS X cl W (.Expr e pos) (msExpr m):=PS.weak (ps_expr he hs) fun E σ H ⟨μ,st,l,S,L,h⟩ =>
  ⟨μ,st,l,S,L,PostS.bind h L fun d st1 μ1 H1 v _ S1 e1 r1 h1 => h1 μ1 H1 σ S1 Ev.refl (L.ev e1)⟩
theorem ss_ret (he : SE X cl W e m) : SS X cl W (.Return (some e) pos) (msRet m):=PS.weak (ps_ret he) fun E σ H ⟨μ,st,l,S,L,h⟩ =>
  ⟨μ,st,l,S,L,PostS.bind h L fun d st1 μ1 H1 v _ S1 e1 r1 h1 => h1 μ1 H1 v S1 Ev.refl r1⟩
theorem ss_if (hc : ST X cl W c mt) (ha : SSs X cl W sa ma) (hb : SSs X cl W sb mb) : SS X cl W (.If c sa sb pos) (msIf mt ma mb):=PS.weak (ps_if hc ha hb) fun E σ H ⟨μ,st,l,S,L,h⟩ =>
  ⟨μ,st,l,S,L,PostS.bind h L fun k st1 μ1 H1 k' _ S1 e1 r1 h1 => by
    cases r1
    cases k with
    | true => exact ⟨μ1,st1,l,S1,L.ev e1,h1⟩
    | false => exact ⟨μ1,st1,l,S1,L.ev e1,h1⟩⟩
theorem w_asg {t : TGT} {ws : List Nat} : ∀ E σ H,rdS X.K cl W (msAsg m t) E σ H → tAsg (rdE X.K cl W m) (rdG X.K cl ws t) E σ H:=fun E σ H ⟨μ,st,l,S,L,h⟩ =>
  ⟨μ,st,l,S,L,PostS.bind h L fun d st1 μ1 H1 v _ S1 e1 r1 h1 => by
    cases q : t d l st1 with
    | none => rw [q] at h1; exact h1.elim
    | some l' =>
      rw [q] at h1
      exact ⟨μ1,st1,l,d,l',S1,L.ev e1,r1,q,fun σ' L' _ _ => h1 μ1 H1 σ' S1 Ev.refl L'⟩⟩
theorem ss_asg {tg : Expr} {t : TGT} {ws : List Nat} (he : SE X cl W e m) (hg : SG X cl tg ws t) (hs : swapsWithSole [tg] e pos.line X.env = pure false:=by rfl) (hw : swappedStores [tg] e X.env = pure none:=by rfl) (h1 : (assignEach [tg] X.env).map (·.2) = [assign tg X.env]:=by rfl) :
    SS X cl W (.Assign [tg] e pos) (msAsg m t):=PS.weak (ps_asg he hg hs hw h1) w_asg
theorem ss_set (i : Nat) {x : Str} {pos' : Pos} (hN : X.N.Nodup) (he : SE X cl W e m) (hi : X.N[i]? = some x:=by rfl) (hx : L2.Loc X.env.scope x:=by first | exact Or.inl rfl | exact Or.inr rfl) (hs : swapsWith e (some (.Name x pos')) pos.line X.env = pure false:=by rfl)
    (hf : X.fn x = true ∨ X.env.scope.names.lookup x = some .local:=by first | exact .inl rfl | exact .inr rfl | assumption) : SS X cl W (.Assign [.Name x pos'] e pos) (msAsg m (tgName i)):=PS.weak (ps_set (i:=i) hN hi hx he hs hf) fun E σ H ⟨μ,st,l,S,L,h⟩ =>
  ⟨μ,st,l,S,L,PostS.bind h L fun d st1 μ1 H1 v _ S1 e1 r1 h1 => h1 μ1 H1 _ S1 Ev.refl ((L.ev e1).set i r1)⟩
theorem ss_par (i j : Nat) {x y : Str} {a b : Expr} {px py pt : Pos} {kt k2 pt2} (hc : X.calm = true) (hN : X.N.Nodup) (ha : SA X cl W [a,b] xs) (hi : X.N[i]? = some x:=by rfl) (hj : X.N[j]? = some y:=by rfl) (hij : i ≠ j:=by decide)
    (hx : X.env.scope.names.lookup x = some .local:=by rfl) (hy : X.env.scope.names.lookup y = some .local:=by rfl)
    (hw : swappedStores [.Tuple [.Name x px,.Name y py] kt pt] (.Tuple [a,b] k2 pt2) X.env = pure (some [x,y]):=by rfl)
    (hs : swapsWithSole [.Tuple [.Name x px,.Name y py] kt pt] (.Tuple [a,b] k2 pt2) pos.line X.env = pure false:=by rfl) :
    SS X cl W (.Assign [.Tuple [.Name x px,.Name y py] kt pt] (.Tuple [a,b] k2 pt2) pos) (msPar i j xs):=PS.weak (ps_par (i:=i) (j:=j) hc hN hi hj hij hx hy ha hw hs) fun E σ H ⟨μ,st,l,S,L,h⟩ =>
  ⟨μ,st,l,S,L,PostS.bind h L fun ds st1 μ1 H1 vs _ S1 e1 r1 h1 => by
    match ds,r1,h1 with
    | [d1,d2],r1,h1 =>
      simp only [VRs] at r1
      obtain ⟨v,_,rfl,r,w,_,rfl,r',rfl⟩:=r1
      exact ⟨v,w,rfl,h1 μ1 H1 _ S1 Ev.refl (((L.ev e1).set i r).set j r')⟩
    | [],_,h1 => exact h1.elim
    | [_],_,h1 => exact h1.elim
    | _ :: _ :: _ :: _,_,h1 => exact h1.elim⟩
end
instance : Coe (List D) Cell:=⟨Cell.lst⟩
structure Iter where
  srcs : List (Nat × Cell)
  items : List D
abbrev MI:=Loc → Store → Res Iter
def SrcOk (srcs : List (Nat × Cell)) (st : Store) : Prop:=∀ p ∈ srcs,st.at_ p.1 = some p.2
def IterR (K : PySem.W.Frag) (cl : CL) (μ₀ : Nat → Addr) (N₀ : Nat) (H₀ : Hp) (it : Iter) (J : It) : Prop:=∀ μ st H,SR K cl μ st H → Ev K μ₀ N₀ H₀ μ st.nxt H → SrcOk it.srcs st →
  (∀ i d,it.items[i]? = some d → J.go i H ∧ ∀ x H',J.yld i H x H' → SR K cl μ st H' ∧ Ev K μ st.nxt H μ st.nxt H' ∧ VR K μ st.nxt H' d x) ∧ J.stop it.items.length H
def rdI (K : PySem.W.Frag) (cl : CL) (W : WX) (m : MI) : TI:=fun σ H R => ∃ μ st l,SR K cl μ st H ∧ LR K μ st.nxt H l σ ∧ Post K cl (IterR K cl) μ st.nxt H R (WE W σ) (m l st)
abbrev SI (X : Cx) (cl : CL) (W : WX) (tg iter : Expr) (m : MI) : Prop:=PI X tg iter (rdI X.K cl W m)
theorem PI.weak {X : Cx} {tg iter : Expr} {t t' : TI} (h : PI X tg iter t) (w : ∀ σ H Q,t' σ H Q → t σ H Q) : PI X tg iter t':=⟨fun pins s σ H R I q => h.run pins s σ H R I (w σ H R q)⟩
open Classical in
noncomputable def loopS (t : TGT) (body : MS) (srcs : List (Nat × Cell)) : List D → Loc → Store → RS
  | [],l,st => if SrcOk srcs st then .nx l st else .bad
  | d :: ds,l,st => if SrcOk srcs st then (match t d l st with
    | none => .bad
    | some l1 => match body l1 st with
      | .nx l2 st2 => loopS t body srcs ds l2 st2
      | .ct l2 st2 => loopS t body srcs ds l2 st2
      | .bk l2 st2 => .nx l2 st2
      | r => r) else .bad
noncomputable def msFor (mi : MI) (t : TGT) (body : MS) : MS:=fun l st => (mi l st).toS l fun it st1 => loopS t body it.srcs it.items l st1
section
variable {X : Cx} {cl : CL} {W : WX}
theorem ss_for {tg iter : Expr} {body : List Stmt} {mi : MI} {t : TGT} {ws : List Nat} {mb : MS} {pos : Pos} (hp : PassesOwn (model X.prog X.w) X.A X.env X.xe) (hc : X.calm = true) (hi : SI X cl W tg iter mi) (hg : SG X cl tg ws t) (hb : SSs X cl W body mb)
    (hs : ∀ x,foldedSetIterable iter X.env x = pure x:=by intro _; rfl) : SS X cl W (.For tg iter body [] pos) (msFor mi t mb):=PS.weak (ps_for hp hc hi hg hb hs) fun E σ H ⟨μ,st,l,S,L,h⟩ => by
  refine ⟨μ,st,l,S,L,PostS.bind h L fun it st0 μ0 H0 J _ S0 e0 RJ h0 => ?_⟩
  refine ⟨fun i m σ H => m = it.items.length - i ∧ i ≤ it.items.length ∧ ∃ μ st l,SR X.K cl μ st H ∧ LR X.K μ st.nxt H l σ ∧ Ev X.K μ0 st0.nxt H0 μ st.nxt H ∧ PostS X.K cl μ st.nxt H E W (loopS t mb it.srcs (it.items.drop i) l st),
    ⟨it.items.length,by simp,Nat.zero_le _,μ0,st0,l,S0,L.ev e0,Ev.refl,by simpa using h0⟩,?_⟩
  rintro i m σ1 H1 ⟨rfl,hi,μ1,st1,l1,S1,L1,e1,h1⟩
  by_cases hlt : i < it.items.length
  · rw [List.drop_eq_getElem_cons hlt] at h1
    unfold loopS at h1
    by_cases so : SrcOk it.srcs st1
    · rw [if_pos so] at h1
      obtain ⟨g1,g2⟩:=(RJ μ1 st1 H1 S1 e1 so).1 i it.items[i] (List.getElem?_eq_getElem hlt)
      refine .inr ⟨g1,fun σ' H' => it.items.length - (i + 1) = it.items.length - (i + 1) ∧ i + 1 ≤ it.items.length ∧ ∃ μ st l,SR X.K cl μ st H' ∧ LR X.K μ st.nxt H' l σ' ∧ Ev X.K μ0 st0.nxt H0 μ st.nxt H' ∧ PostS X.K cl μ st.nxt H' E W (loopS t mb it.srcs (it.items.drop (i + 1)) l st),
        fun σ' H' q => ⟨it.items.length - (i + 1),by omega,q⟩,fun x H' y => ?_⟩
      obtain ⟨S2,e2,r2⟩:=g2 x H' y
      cases q : t it.items[i] l1 st1 with
      | none => rw [q] at h1; exact h1.elim
      | some l2 =>
        rw [q] at h1
        refine ⟨μ1,st1,l1,it.items[i],l2,S2,L1.ev e2,r2,q,fun σ3 L3 _ _ => ⟨μ1,st1,l2,S2,L3,?_⟩⟩
        have h1:=PostS.mono e2 h1
        cases z : mb l2 st1 with
        | nx l4 st4 =>
          simp only [z] at h1
          exact fun μ' H'' σ' s e L' => ⟨rfl,hlt,μ',st4,l4,s,L',e1.trans (e2.trans e),PostS.mono e h1⟩
        | ct l4 st4 =>
          simp only [z] at h1
          exact fun μ' H'' σ' s e L' => ⟨rfl,hlt,μ',st4,l4,s,L',e1.trans (e2.trans e),PostS.mono e h1⟩
        | bk l4 st4 => simp only [z] at h1; exact h1
        | rt d st4 => simp only [z] at h1; exact h1
        | exc c fs l4 st4 => simp only [z] at h1; exact h1
        | bad => simp only [z] at h1; exact h1
    · rw [if_neg so] at h1; exact h1.elim
  · have e : i = it.items.length:=by omega
    subst e
    rw [List.drop_length] at h1
    unfold loopS at h1
    by_cases so : SrcOk it.srcs st1
    · rw [if_pos so] at h1
      exact .inl ⟨(RJ μ1 st1 H1 S1 e1 so).2,h1 μ1 H1 σ1 S1 Ev.refl L1⟩
    · rw [if_neg so] at h1; exact h1.elim
end
def wipeL (l : Loc) : List Nat → Loc
  | [] => l
  | v :: vs => (wipeL l vs).set v none
theorem wipeL_length (l : Loc) : ∀ vs : List Nat,(wipeL l vs).length = l.length
  | [] => rfl
  | v :: vs => by unfold wipeL; rw [List.length_set,wipeL_length l vs]
theorem wipeL_get {l : Loc} {i : Nat} : ∀ {vs : List Nat},(wipeL l vs)[i]? = if i ∈ vs ∧ i < l.length then some none else l[i]?
  | [] => by simp [wipeL]
  | v :: vs => by
    unfold wipeL
    rw [List.getElem?_set,wipeL_length,wipeL_get]
    by_cases hv : v = i
    · subst hv
      by_cases hl : v < l.length <;> simp [hl]
    · have : (i = v) ↔ False:=⟨fun e => hv e.symm,False.elim⟩
      simp [hv,this]
theorem wipe_get {σ : St} {i : Nat} : ∀ {vs : List Nat},(wipe σ vs)[i]? = if i ∈ vs ∧ i < σ.length then some none else σ[i]?
  | [] => by simp [wipe]
  | v :: vs => by
    unfold wipe
    rw [List.getElem?_set,wipe_length,wipe_get]
    by_cases hv : v = i
    · subst hv
      by_cases hl : v < σ.length <;> simp [hl]
    · have : (i = v) ↔ False:=⟨fun e => hv e.symm,False.elim⟩
      simp [hv,this]
theorem LR.wipe {K : PySem.W.Frag} {μ : Nat → Addr} {N : Nat} {H : Hp} {l : Loc} {σ : St} (L : LR K μ N H l σ) (vs : List Nat) : LR K μ N H (wipeL l vs) (wipe σ vs):=by
  refine ⟨by rw [wipeL_length,wipe_length]; exact L.1,fun i d q => ?_⟩
  rw [wipeL_get] at q
  by_cases h : i ∈ vs ∧ i < l.length
  · rw [if_pos h] at q; cases q
  · rw [if_neg h] at q
    rw [wipe_get,← L.1,if_neg h]
    exact L.2 i d q
open Classical in
noncomputable def loopC (t : TGT) (mt : MT) (me : ME) (srcs : List (Nat × Cell)) (l0 : Loc) : List D → Store → Res (List D)
  | [],st => if SrcOk srcs st then .ok [] st else .bad
  | d :: ds,st => if SrcOk srcs st then (match t d l0 st with
    | none => .bad
    | some l1 => match mt l1 st with
      | .ok true st1 => (match me l1 st1 with
        | .ok y st2 => (match loopC t mt me srcs l0 ds st2 with
          | .ok ys st3 => .ok (y :: ys) st3
          | _ => .bad)
        | _ => .bad)
      | .ok false st1 => loopC t mt me srcs l0 ds st1
      | _ => .bad) else .bad
open Classical in
noncomputable def mLc (mi : MI) (t : TGT) (mt : MT) (me : ME) (vs : List Nat) : ME:=fun l st => (mi l st).bind fun it st1 => match loopC t mt me it.srcs (wipeL l vs) it.items st1 with
  | .ok ys st2 => if ys.length ≤ sizeLine then .ok (.ref st2.nxt) (st2.new (.lst ys)) else .bad
  | _ => .bad
section
variable {K : PySem.W.Frag} {cl : CL} {μ μ1 : Nat → Addr} {N N1 : Nat} {H H1 : Hp}
theorem Ev.off {D : Addr} {o u : HO} (e : Ev K μ1 N1 H1 μ N H) (hD : H1 D = none) (hu : H D = some u) (hc : CellH u) : Ev K μ1 N1 H1 μ N (upd H D o) where
  le:=e.le
  mu:=e.mu
  sq:=fun p vs h => SqT.upd_cell hu hc (e.sq p vs h)
  rq:=fun p vs h => RoL.upd_cell hu hc (e.rq p vs h)
  ex:=fun p φ h n => by rw [upd_ne (ne_of_none h hD)]; exact e.ex p φ h n
  xd:=fun p fs h => by rw [upd_ne (ne_of_none h hD)]; exact e.xd p fs h
  fz:=fun p o u h => by rw [upd_ne (ne_of_none h hD)]; exact e.fz p o u h
  kp:=fun b w h hn ht => by rw [upd_ne (ne_of_none h hD)]; exact e.kp b w h hn ht
  fr:=e.fr
  tr:=fun b h => upd_tr b (e.tr b h)
theorem Ev0.off {D : Addr} {o u : HO} (hu : H D = some u) (hc : CellH u) : Ev0 K μ N H μ N (upd H D o):=⟨Nat.le_refl _,fun _ _ => rfl,fun _ _ h => SqT.upd_cell hu hc h,fun _ _ h => RoL.upd_cell hu hc h,fun _ _ h n => by rw [upd_ne (ext_ne_cell hu hc h n)]; exact h,fun _ _ h => by rw [upd_ne (xd_ne_cell hu hc h)]; exact h,fun _ _ _ h => by rw [upd_ne (fz_ne_cell hu hc h)]; exact h⟩
theorem SR.off {st : Store} {D : Addr} {o u : HO} (S : SR K cl μ st H) (hu : H D = some u) (hc : CellH u) (hD : ∀ n,n < st.nxt → μ n ≠ D) (ho : NoX o:=by first | trivial | exact nd_not) : SR K cl μ st (upd H D o):=
  ⟨S.inj,fun n hn => by
    obtain ⟨c,h1,h2⟩:=S.cell n hn
    exact ⟨c,h1,h2.ev0 (Ev0.off hu hc) (upd_ne (hD n hn))⟩,S.out,cl.up (Ev0.off hu hc) S.pp,tabs_up (fun _ _ h => by rw [upd_ne (tbl_ne_cell hu hc h)]; exact h) (Ev0.off (K:=K) (μ:=μ) (N:=st.nxt) hu hc).ex (upd_back ho) S.tb⟩
theorem Ev.adopt {D : Addr} (e : Ev K μ1 N1 H1 μ N H) (hD : H1 D = none) : Ev K μ1 N1 H1 (ext μ N D) (N + 1) H where
  le:=Nat.le_succ_of_le e.le
  mu:=fun n h => (ext_ne (by have:=e.le; omega)).trans (e.mu n h)
  sq:=e.sq
  rq:=e.rq
  ex:=e.ex
  xd:=e.xd
  fz:=e.fz
  kp:=e.kp
  fr:=fun n h1 h2 => by
    by_cases b : n = N
    · subst b; rw [ext_same]; exact hD
    · rw [ext_ne b]; exact e.fr n h1 (by omega)
  tr:=e.tr
theorem SR.adopt {st : Store} {D : Addr} {c : Cell} (S : SR K cl μ st H) (hD : ∀ n,n < st.nxt → μ n ≠ D) (hc : CellOk K cl μ st.nxt H D c) : SR K cl (ext μ st.nxt D) (st.new c) H:=by
  have e : Ev0 K μ st.nxt H (ext μ st.nxt D) (st.nxt + 1) H:=⟨Nat.le_succ _,fun n h => ext_ne (by omega),fun _ _ h => h,fun _ _ h => h,fun _ _ h _ => h,fun _ _ h => h,fun _ _ _ h => h⟩
  refine ⟨fun m n hm hn q => ?_,fun n hn => ?_,fun n hn => ?_,cl.up e S.pp,S.tb⟩
  · have hm' : m < st.nxt + 1:=hm
    have hn' : n < st.nxt + 1:=hn
    by_cases a : m = st.nxt
    · by_cases b : n = st.nxt
      · rw [a,b]
      · rw [a,ext_same,ext_ne b] at q
        exact absurd q.symm (hD n (by omega))
    · by_cases b : n = st.nxt
      · rw [b,ext_same,ext_ne a] at q
        exact absurd q (hD m (by omega))
      · rw [ext_ne a,ext_ne b] at q
        exact S.inj m n (by omega) (by omega) q
  · have hn' : n < st.nxt + 1:=hn
    by_cases b : n = st.nxt
    · subst b
      exact ⟨c,by unfold Store.new; exact if_pos rfl,by rw [ext_same]; exact hc.ev0 e rfl⟩
    · obtain ⟨c',h1,h2⟩:=S.cell n (by omega)
      refine ⟨c',by unfold Store.new; exact (if_neg b).trans h1,?_⟩
      rw [ext_ne b]
      exact h2.ev0 e rfl
  · have hn' : st.nxt + 1 ≤ n:=hn
    unfold Store.new
    exact (if_neg (by omega)).trans (S.out n (by omega))
theorem Ev.apart {D : Addr} (e : Ev K μ N H μ1 N1 H1) (hD : ∀ n,n < N → μ n ≠ D) (h : H D ≠ none) : ∀ n,n < N1 → μ1 n ≠ D:=fun n hn => by
  by_cases b : n < N
  · rw [e.mu n b]; exact hD n b
  · intro q
    have:=e.fr n (by omega) hn
    rw [q] at this; exact h this
end
end DV
namespace DV
open PySem PySem.Spec PyProof.Rows L2
abbrev W0 : WX:=fun _ _ _ _ => False
def tYes_ : MT:=fun _ st => .ok true st
abbrev STs (X : Cx) (cl : CL) (W : WX) (es : List Expr) (m : MT) : Prop:=PTs X es (rdT X.K cl W m)
theorem PTs.weak {X : Cx} {e : List Expr} {t t' : TT} (h : PTs X e t) (w : ∀ σ H Q,t' σ H Q → t σ H Q) : PTs X e t':=⟨fun pins s σ H Q I q => h.run pins s σ H Q I (w σ H Q q)⟩
section
variable {X : Cx} {cl : CL} {W : WX}
theorem ts_nil : STs X cl W [] tYes_:=PTs.weak pts_nil fun σ H Q ⟨μ,st,l,S,L,h⟩ => h μ H true S Ev.refl rfl
theorem ts_one {c : Expr} {mt : MT} (h : ST X cl W c mt) : STs X cl W [c] mt:=pts_one h
theorem wipe_ws {σ σ' : L2.St} {vs ws : List Nat} (hl : σ'.length = σ.length) (hw : ∀ j : Nat,j ∉ ws → σ'[j]? = σ[j]?) (hs : ∀ j ∈ ws,j ∈ vs) : wipe σ' vs = wipe σ vs:=by
  apply List.ext_getElem?
  intro i
  rw [wipe_get,wipe_get,hl]
  by_cases h : i ∈ vs ∧ i < σ.length
  · rw [if_pos h,if_pos h]
  · rw [if_neg h,if_neg h]
    by_cases hi : i ∈ ws
    · have hv:=hs i hi
      have hz : ¬ i < σ.length:=fun q => h ⟨hv,q⟩
      rw [List.getElem?_eq_none (by omega),List.getElem?_eq_none (by omega)]
    · exact hw i hi
theorem wipe_wipe {σ : L2.St} {vs : List Nat} : wipe (wipe σ vs) vs = wipe σ vs:=by
  apply List.ext_getElem?
  intro i
  rw [wipe_get,wipe_length,wipe_get]
  by_cases h : i ∈ vs ∧ i < σ.length
  · rw [if_pos h,if_pos h]
  · rw [if_neg h]
theorem w_lc {mi : MI} {t : TGT} {ws vs : List Nat} {mt : MT} {me : ME} (hws : ∀ j ∈ ws,j ∈ vs) : ∀ σ H Q,rdE X.K cl W (mLc mi t mt me vs) σ H Q → tLc (rdI X.K cl W mi) (rdG X.K cl ws t) (rdT X.K cl W0 mt) (rdE X.K cl W0 me) vs σ H Q:=fun σ H Q ⟨μ,st,l,S,L,h⟩ => by
  refine ⟨μ,st,l,S,L,Post.bind h fun it st1 μ1 H1 J _ S1 e1 RJ h1 => fun D hD => ?_⟩
  cases q : loopC t mt me it.srcs (wipeL l vs) it.items st1 with
  | exc c fs st2 => rw [q] at h1; exact h1.elim
  | bad => rw [q] at h1; exact h1.elim
  | ok ys st2 =>
    rw [q] at h1
    simp only at h1
    by_cases hz : ys.length ≤ sizeLine
    · rw [if_pos hz] at h1
      have h0 : upd H1 D (.lst []) D = some (.lst []):=upd_same
      refine ⟨fun i m H => m = it.items.length - i ∧ i ≤ it.items.length ∧ ∃ μ st acc accV ys',SR X.K cl μ st H ∧ Ev X.K μ1 st1.nxt H1 μ st.nxt H ∧ H D = some (.lst accV) ∧ VRs X.K μ st.nxt H acc accV ∧ (∀ n,n < st.nxt → μ n ≠ D) ∧
        loopC t mt me it.srcs (wipeL l vs) (it.items.drop i) st = .ok ys' st2 ∧ acc ++ ys' = ys,
        ⟨it.items.length,by simp,Nat.zero_le _,μ1,st1,[],[],ys,S1.beside hD,Ev.beside hD,h0,by simp only [VRs],S1.ne_new hD,by simpa using q,rfl⟩,?_⟩
      rintro i m H3 ⟨rfl,hi,μ3,st3,acc,accV,ys',S3,e3,hD3,racc,ap3,q3,eys⟩
      have L3:=(L.ev (e1.trans e3)).wipe vs
      by_cases hlt : i < it.items.length
      · rw [List.drop_eq_getElem_cons hlt] at q3
        unfold loopC at q3
        by_cases so : SrcOk it.srcs st3
        · rw [if_pos so] at q3
          obtain ⟨g1,g2⟩:=(RJ μ3 st3 H3 S3 e3 so).1 i it.items[i] (List.getElem?_eq_getElem hlt)
          refine .inr ⟨g1,fun H' => it.items.length - (i + 1) = it.items.length - (i + 1) ∧ i + 1 ≤ it.items.length ∧ ∃ μ st acc accV ys',SR X.K cl μ st H' ∧ Ev X.K μ1 st1.nxt H1 μ st.nxt H' ∧ H' D = some (.lst accV) ∧ VRs X.K μ st.nxt H' acc accV ∧ (∀ n,n < st.nxt → μ n ≠ D) ∧
            loopC t mt me it.srcs (wipeL l vs) (it.items.drop (i + 1)) st = .ok ys' st2 ∧ acc ++ ys' = ys,fun H' z => ⟨it.items.length - (i + 1),by omega,z⟩,fun x H' y => ?_⟩
          obtain ⟨S4,e4,r4⟩:=g2 x H' y
          cases q1 : t it.items[i] (wipeL l vs) st3 with
          | none => simp only [q1] at q3; cases q3
          | some l1 =>
            simp only [q1] at q3
            refine ⟨μ3,st3,wipeL l vs,it.items[i],l1,S4,L3.ev e4,r4,q1,fun σ2 L5 z5 k5 => ⟨(wipe_ws z5 k5 hws).trans wipe_wipe,?_⟩⟩
            refine ⟨μ3,st3,l1,S4,L5,?_⟩
            have hD4 : H' D = some (.lst accV):=e4.kp D _ hD3 ap3 (fun _ e => by cases e)
            cases q5 : mt l1 st3 with
            | exc c fs st5 => simp only [q5] at q3; cases q3
            | bad => simp only [q5] at q3; cases q3
            | ok b st5 =>
              rintro μ5 H5 b' S5 e5 rfl
              have hD5 : H5 D = some (.lst accV):=e5.kp D _ hD4 ap3 (fun _ e => by cases e)
              have ap5 : ∀ n,n < st5.nxt → μ5 n ≠ D:=e5.apart ap3 (by rw [hD4]; simp)
              cases b with
              | false =>
                simp only [q5] at q3
                rw [if_neg (by decide)]
                exact ⟨rfl,hlt,μ5,st5,acc,accV,ys',S5,e3.trans (e4.trans e5),hD5,(racc.ev e4).ev e5,ap5,q3,eys⟩
              | true =>
                simp only [q5] at q3
                rw [if_pos rfl]
                refine ⟨μ5,st5,l1,S5,L5.ev e5,?_⟩
                cases q6 : me l1 st5 with
                | exc c fs st6 => simp only [q6] at q3; cases q3
                | bad => simp only [q6] at q3; cases q3
                | ok y6 st6 =>
                  simp only [q6] at q3
                  intro μ6 H6 v6 S6 e6 r6
                  have hD6 : H6 D = some (.lst accV):=e6.kp D _ hD5 ap5 (fun _ e => by cases e)
                  have ap6 : ∀ n,n < st6.nxt → μ6 n ≠ D:=e6.apart ap5 (by rw [hD5]; simp)
                  cases q7 : loopC t mt me it.srcs (wipeL l vs) (it.items.drop (i + 1)) st6 with
                  | exc c fs st7 => simp only [q7] at q3; cases q3
                  | bad => simp only [q7] at q3; cases q3
                  | ok ys7 st7 =>
                    simp only [q7] at q3
                    cases q3
                    have r7 : VRs X.K μ6 st6.nxt H6 acc accV:=((racc.ev e4).ev e5).ev e6
                    have ln:=r7.length
                    refine ⟨accV,hD6,?_,rfl,hlt,μ6,st6,acc ++ [y6],accV ++ [v6],ys7,S6.off hD6 trivial ap6,(e3.trans (e4.trans (e5.trans e6))).off hD hD6 trivial,upd_same,VRs.ev0 (Ev0.off hD6 trivial) (r7.append (VRs.one r6)),ap6,q7,by rw [List.append_assoc]; exact eys⟩
                    have:=congrArg List.length eys
                    simp only [List.length_append,List.length_cons] at this
                    omega
        · rw [if_neg so] at q3; cases q3
      · have e : i = it.items.length:=by omega
        subst e
        rw [List.drop_length] at q3
        unfold loopC at q3
        by_cases so : SrcOk it.srcs st3
        · rw [if_pos so] at q3
          cases q3
          rw [List.append_nil] at eys
          subst eys
          refine .inl ⟨(RJ μ3 _ H3 S3 e3 so).2,h1 (ext μ3 _ D) H3 (.ref D) (S3.adopt (c:=.lst acc) ap3 ⟨accV,hD3,racc⟩) (e3.adopt hD) ?_⟩
          simp only [VR]
          exact ⟨Nat.lt_succ_self _,by rw [ext_same]⟩
        · rw [if_neg so] at q3; cases q3
    · rw [if_neg hz] at h1; exact h1.elim
theorem s_lc (own : List (Str × Nat)) {elt tg iter : Expr} {ifs : List Expr} {scope : Scope} {pos : Pos} {mi : MI} {t : TGT} {ws : List Nat} {mt : MT} {me : ME} (hc : X.calm = true) (hN : X.N.Nodup) (hi : SI X cl W tg iter mi) (ok : BlkOk X.N X.env.scope scope own)
    (hg : ∀ (s : Shared) (H : Hp) (C : Addr) (c : List (Str × Addr)) (fp : List Addr),SG (X.blk s H scope (compEnvC scope c C X.env) fp) cl tg ws t)
    (ht : ∀ (s : Shared) (H : Hp) (C : Addr) (c : List (Str × Addr)) (fp : List Addr),STs (X.blk s H scope (compEnvC scope c C X.env) fp) cl W0 ifs mt)
    (he : ∀ (s : Shared) (H : Hp) (C : Addr) (c : List (Str × Addr)) (fp : List Addr),SE (X.blk s H scope (compEnvC scope c C X.env) fp) cl W0 elt me)
    (hws : ∀ j ∈ ws,j ∈ own.map (·.2):=by decide) (hs : ∀ x,foldedSetIterable iter X.env x = pure x:=by intro _; rfl) : SE X cl W (.ListComp elt [⟨tg,iter,ifs,0⟩] scope pos) (mLc mi t mt me (own.map (·.2))):=
  s_pe (pe_lc hc hN hi ok hg ht he hs) (w_lc hws)
end
abbrev FD:=List D → Store → Res D
def spF (K : PySem.W.Frag) (cl : CL) (F : FD) : Sp:=fun vs H Q E => ∃ μ st ds,SR K cl μ st H ∧ VRs K μ st.nxt H ds vs ∧ Post K cl (VR K) μ st.nxt H Q E (F ds st)
def mDef (n len : Nat) (body : MS) : FD:=fun ds st => if ds.length = n then (match body (ds.map some ++ List.replicate (len - n) none) st with
  | .rt d st' => .ok d st'
  | .nx _ st' => .ok .non st'
  | .exc c fs _ st' => .exc c fs st'
  | _ => .bad) else .bad
structure RoomG (k : Nat) (A : Around) : Prop where
  room : Room k A
  g : A.guards = some []
theorem RoomG.mono {j k : Nat} {A : Around} (r : RoomG k A) (h : j ≤ k) : RoomG j A:=⟨r.room.mono h,r.g⟩
theorem RoomG.hu {k : Nat} {A : Around} (r : RoomG k A) : A.units + 64 < cLine:=r.room.units
structure FnS (P : Program) (w : World) (K : PySem.W.Frag) (mg : Str → Option Value) (base : Heap) (cl : CL) (k : Nat) (f : Addr) (fd : FuncData) (ps : List Str) (F : FD) : Prop where
  len : ∀ ds st,F ds st ≠ .bad → ds.length = ps.length
  run : ∀ (A : Around) (outer : List Env) (s : Shared) (H : Hp) (args : Args) (us : List Value) (vs : List V) (Q : VK) (E : XK),RoomG k A → Env0 P w K mg base A outer s H → BindsTo s fd args (ps.zip us) → Vals vs us → spF K cl F vs H Q E →
    codeAny (model P w) A (.call (.ref f) args) (CR (L2.CX P w) outer P w H s Q E) s
theorem FnS.mono {P : Program} {w : World} {K : PySem.W.Frag} {mg : Str → Option Value} {base : Heap} {cl : CL} {j k : Nat} {f : Addr} {fd : FuncData} {ps : List Str} {F : FD} (G : FnS P w K mg base cl j f fd ps F) (h : j ≤ k) : FnS P w K mg base cl k f fd ps F:=
  ⟨G.len,fun A outer s H args us vs Q E hr => G.run A outer s H args us vs Q E (hr.mono h)⟩
theorem Post.nb {K : PySem.W.Frag} {cl : CL} {μ : Nat → Addr} {N : Nat} {H : Hp} {α β : Type} {rel : (Nat → Addr) → Nat → Hp → α → β → Prop} {Q : β → Hp → Prop} {W : XK} {r : Res α} (h : Post K cl rel μ N H Q W r) : r ≠ .bad:=by
  rintro rfl
  exact h
theorem VRs.start {K : PySem.W.Frag} {μ : Nat → Addr} {N : Nat} {H : Hp} {ds : List D} {vs : List V} {len : Nat} {ns : List Str} (h : VRs K μ N H ds vs) (hl : ns.length = len) : LR K μ N H (ds.map some ++ List.replicate (len - ds.length) none) (L2.start ns vs):=by
  have ln:=h.length
  unfold L2.start
  refine ⟨by simp [ln,hl],fun i d q => ?_⟩
  by_cases hi : i < ds.length
  · rw [List.getElem?_append_left (by simpa using hi),List.getElem?_map] at q
    have q' : ds[i]? = some d:=by
      cases z : ds[i]? with
      | none => rw [z] at q; cases q
      | some e => rw [z] at q; simpa using q
    obtain ⟨v,a,b⟩:=h.get q'
    refine ⟨v,?_,b⟩
    rw [List.getElem?_append_left (by simpa [← ln] using hi),List.getElem?_map,a]
    rfl
  · rw [List.getElem?_append_right (by simpa using hi)] at q
    have:=List.mem_of_getElem? q
    simp at this
section
variable {P : Program} {w : World} {K : PySem.W.Frag} {mg : Str → Option Value} {base : Heap} {cl : CL}
abbrev cxD (P : Program) (w : World) (K : PySem.W.Frag) (mg : Str → Option Value) (base : Heap) (N : List Str) (qual : Str) (st : Stmt) (f : Addr) (cdv : Value) (A : Around) (outer : List Env) (s : Shared) (H : Hp) (E : XK) : Cx:=cxOf (L2.CX P w) P w K mg base N qual (defScope st) f cdv A outer s H E
structure FunA (K : PySem.W.Frag) (x qual : Str) (st : Stmt) (f : Addr) (fd : FuncData) : Prop where
  ex : ∃ (oc : Value) (od : Option Addr) (dV kV doc pm : Value) (an : Option Addr) (cdv ct : Value) (osl : Array (Option Value)),
    fd = PySem.W.fnOf x qual (defArgs st) (defBody st) (defScope st) dV kV doc pm an cdv ct ∧ K.lookup f = some ⟨oc,od,.func fd,osl⟩ ∧ PySem.W.codeIn K cdv qual = true
  kp : PySem.W.keepIn K (.ref f) = true
theorem fn_s {x qual : Str} {st : Stmt} {f : Addr} {fd : FuncData} {N ps : List Str} {k len n : Nat} {mb : MS} (F : FunA K x qual st f fd) (S : FnScope N ps (defScope st)) (hn : ps.length = n) (hl : N.length = len)
    (hbody : ∀ (cdv : Value) (A : Around) (outer : List Env) (s : Shared) (H : Hp) (E : XK),RoomG k (A.deeper (envOfC qual (defScope st) s.heap.objs.size f cdv)) →
      Takes (cxD P w K mg base N qual st f cdv A outer s H E) (fun cls d _ H => E cls d H) →
      SSs (cxD P w K mg base N qual st f cdv A outer s H E) cl (fun cls d _ H => E cls d H) (defBody st) mb) : FnS P w K mg base cl (k + 1) f fd ps (mDef n len mb):=by
  obtain ⟨oc,od,dV,kV,doc,pm,an,cdv,ct,osl,efd,lk,hcd⟩:=F.ex
  have hlen : ∀ ds st,mDef n len mb ds st ≠ .bad → ds.length = ps.length:=fun ds t h => by
    unfold mDef at h
    by_cases z : ds.length = n
    · rw [z,hn]
    · rw [if_neg z] at h; exact absurd rfl h
  refine ⟨hlen,fun A outer s H args us vs Q E hr e0 hb r ⟨μ,t,ds,SS,rv,h⟩ => ?_⟩
  subst efd
  have hvl : vs.length = ps.length:=by rw [← rv.length]; exact hlen ds t h.nb
  have kin0 : K.In s.heap:=e0.mod.kin.keeps fun b o e => (e0.bs b o e).1
  have nolim : s.heap.NoLimit:=
    e0.mod.nolimit.keeps fun b o e => (e0.bs b o e).1
  have binds : ∀ y ∈ ps.zip us,(defScope st).names.lookup y.1 = some .local ∨ ((defScope st).names.lookup y.1 = some .cell ∧ ((cellsFrom (s.heap.objs.size + 1) (defScope st).names []).lookup y.1).isSome = true):=by
    rintro ⟨n,v⟩ hy
    rcases S.par n (List.of_mem_zip hy).1 with c | c
    · exact .inl c
    · exact .inr ⟨c,PySem.W.cellsFrom_some _ _ _ (.inl c)⟩
  have hr1 : RoomG k (A.deeper (envOfC qual (defScope st) s.heap.objs.size f cdv)):=⟨hr.room.deeper _,hr.g⟩
  refine codeAny_call_function hr.room.depth (kin0 _ _ lk) rfl S.co S.gen rfl
    (PySem.W.codeRec_of kin0 hcd) (hb _ _ _ _ ?_)
  refine wpAny_newFunctionEnv_cells S.kind binds fun env1 henv t1 icc => ?_
  subst henv
  refine ⟨nolim.keeps icc.toInCall.keep,codeAny_func ?_⟩
  have body:=hbody cdv A outer s H E hr1 (takes_of rfl rfl rfl rfl)
  have I0 : Inv (cxD P w K mg base N qual st f cdv A outer s H E) [] (L2.start N vs) H t1:=
    inv_start S hr.room.hd e0 hvl r icc
  have want : rdS K cl (fun cls d _ H => E cls d H) mb { nx:=fun _ H' => Q .non H',rt:=Q } (L2.start N vs) H:=by
    refine ⟨μ,t,_,SS,rv.start hl,?_⟩
    unfold mDef at h
    have z : ds.length = n:=by rw [rv.length,hvl,hn]
    rw [if_pos z] at h
    rw [z]
    cases q : mb (ds.map some ++ List.replicate (len - n) none) t with
    | rt d st' => rw [q] at h; exact h
    | nx l st' =>
      rw [q] at h
      exact fun μ' H' σ' s e _ => h μ' H' .non s e (by simp only [VR])
    | exc c fs l st' =>
      rw [q] at h
      exact fun μ' H' σ' cls d s e _ x => h μ' H' cls d s e x
    | bk l st' => rw [q] at h; exact h.elim
    | ct l st' => rw [q] at h; exact h.elim
    | bad => rw [q] at h; exact h.elim
  refine wpAny_mono (body.run [] t1 (L2.start N vs) H _ I0 want) (fun fl t2 hs => ?_) fun _ _ hs => hs
  cases fl with
  | ret u =>
    obtain ⟨v,σ',H',J,rv,q⟩:=hs
    exact ⟨v,H',J.os,J.bare,J.base,J.hok,rv,q⟩
  | next =>
    obtain ⟨σ',H',J,q⟩:=hs
    exact ⟨V.non,H',J.os,J.bare,J.base,J.hok,rfl,q⟩
  | brk => exact hs.elim fun _ h => h.elim fun _ h => h.2.elim
  | cont => exact hs.elim fun _ h => h.elim fun _ h => h.2.elim
end
def mCall (F : FD) (dds : List D) (a : MA) : ME:=fun l st => (a l st).bind fun ds st1 => F (ds ++ dds) st1
def Dfl (K : PySem.W.Frag) (dds : List D) (dvs : List V) : Prop:=∀ μ N H,VRs K μ N H dds dvs
theorem dfl_nil {K : PySem.W.Frag} : Dfl K [] []:=fun _ _ _ => by simp only [VRs]
section
variable {X : Cx} {cl : CL} {W : WX} {e : Expr} {es : List Expr} {xs : MA} {k : Nat} {f : Addr} {fd : FuncData} {ps : List Str} {F : FD} {x : Str} {p pos : Pos} {dds : List D} {dvs : List V} {ds : List Value}
theorem run_g {pins : List (Addr × Obj)} {σ : L2.St} {H : Hp} {s : Shared} {Q : VK} {us : List Value} {vs : List V} {args : Args} (G : FnS X.prog X.w X.K X.mg X.base cl k f fd ps F) (hr : RoomG k X.A) (tk : Takes X W) (I : Inv X pins σ H s)
    (hb : us.length = ps.length → BindsTo s fd args (ps.zip us)) (r : Vals vs us) (h : spF X.K cl F vs H Q (WE W σ)) : codeAny (model X.prog X.w) X.A (.call (.ref f) args) (fun r s' => match r with
      | .ok (.ret u) => EP X pins σ Q u s'
      | .ok _ => False
      | .error e => X.xe e s') s:=by
  have hl : us.length = ps.length:=by
    obtain ⟨μ,st,ds,S,rv,h⟩:=h
    rw [← r.length,← rv.length]
    exact G.len ds st h.nb
  refine codeAny_mono (G.run X.A X.stack s H args us vs Q (WE W σ) hr I.env0 (hb hl) r h) fun r s' hq => ?_
  cases r with
  | error e => exact passAt tk σ pins H s e s' I hq
  | ok fl =>
    cases fl with
    | ret u => exact I.after hq
    | next => exact hq
    | brk => exact hq
    | cont => exact hq
theorem run_call {pins : List (Addr × Obj)} {σ : L2.St} {H : Hp} {s : Shared} {Q : VK} {us : List Value} {vs : List V} (G : FnS X.prog X.w X.K X.mg X.base cl k f fd ps F) (hr : RoomG k X.A) (tk : Takes X W) (hb : Binds X.K fd ps ds) (hd : Vals dvs ds) (I : Inv X pins σ H s)
    (r : Vals vs us) (h : spF X.K cl F (vs ++ dvs) H Q (WE W σ)) : wpAny (model X.prog X.w) X.A (call (.ref f) us) (EP X pins σ Q) X.xe s:=by
  refine wpAny_call (codeAny_mono (run_g (args:=⟨us,[]⟩) G hr tk I (fun hl => hb s us I.kIn hl) (r.append hd) h) fun r s' hq => ?_)
  cases r with
  | error e => exact hq
  | ok fl =>
    cases fl with
    | ret u => exact hq
    | next => exact hq
    | brk => exact hq
    | cont => exact hq
theorem s_call (G : FnS X.prog X.w X.K X.mg X.base cl k f fd ps F) (hr : RoomG k X.A) (tk : Takes X W) (hm : X.mg x = some (.ref f)) (hk : PySem.W.keepIn X.K (.ref f) = true) (hb : Binds X.K fd ps ds) (hd : Vals dvs ds) (hD : Dfl X.K dds dvs) (ha : SA X cl W (e :: es) xs) (hg : Gl X x:=by rfl)
    (hdb : (x == ("__debug__" : Str)) = false:=by decide) (he : starEach (e :: es) X.env = (false,eval e X.env) :: starEach es X.env:=by rfl) (hpl : (backTo pos (starEach es X.env)).any (·.1) = false:=by rfl) :
    SE X cl W (.Call (.Name x p) (e :: es) [] pos) (mCall F dds xs):=by
  refine ⟨fun pins s σ H Q I ⟨μ,st,l,S,L,h⟩ => ?_⟩
  refine wpAny_Call_Name_kw (ld_glob I hg hm ?_ hdb)
  have want : rdA X.K cl W xs σ H fun vs H1 => spF X.K cl F (vs ++ dvs) H1 Q (WE W σ):=
    ⟨μ,st,l,S,L,Post.bind h fun d st1 μ1 H1 vs _ S1 e1 r1 h1 => ⟨μ1,st1,d ++ dds,S1,r1.append (hD _ _ _),h1⟩⟩
  refine PySem.W.callWith_K (h₀:=X.base) I.ok.mod.kin hk (thn (ha.run pos pins s σ H _ I want) fun us s1 hh => ?_) he hpl
  obtain ⟨vs,H1,I1,r,q⟩:=hh
  exact ⟨I1.kIn,run_call G hr tk hb hd I1 r q⟩
end
end DV
namespace DV
open PySem PySem.Spec PyProof.Rows L2
def optL {α β : Type} (f : α → Option β) : List α → Option (List β)
  | [] => some []
  | a :: r => match f a with
    | none => none
    | some b => match optL f r with
      | none => none
      | some bs => some (b :: bs)
def toData (st : Store) : Nat → D → Option PyData
  | 0,_ => none
  | n + 1,d => match d with
    | .non => some .none
    | .bl b => some (.bool b)
    | .int i => some (.int i)
    | .str x => if PyData.strOk x then some (.str x) else none
    | .tup xs => match optL (toData st n) xs with
      | none => none
      | some ds => some (.tuple ds)
    | .rol xs => match optL (toData st n) xs with
      | none => none
      | some ds => some (.list ds)
    | .ref r => match st.at_ r with
      | some (.lst xs) => (match optL (toData st n) xs with
        | none => none
        | some ds => some (.list ds))
      | _ => none
    | .cst _ => none
section
variable {K : PySem.W.Frag} {cl : CL} {μ : Nat → Addr} {N : Nat} {H : Hp} {st : Store}
theorem dp_all {f : D → Option PyData} (hf : ∀ d v x,VR K μ N H d v → f d = some x → Dp K H v x) : ∀ {ds : List D} {vs : List V} {xs : List PyData},VRs K μ N H ds vs → optL f ds = some xs → DpAll K H vs xs
  | [],vs,xs,r,h => by
    simp only [VRs] at r
    subst r
    cases h
    exact .nil
  | d :: ds,vs,xs,r,h => by
    simp only [VRs] at r
    obtain ⟨v,vr,rfl,r1,r2⟩:=r
    unfold optL at h
    cases q : f d with
    | none => rw [q] at h; cases h
    | some b =>
      rw [q] at h
      cases q2 : optL f ds with
      | none => simp only [q2] at h; cases h
      | some bs =>
        simp only [q2] at h
        cases h
        exact .cons (hf d v b r1 q) (dp_all hf r2 q2)
theorem toData_dp (S : SR K cl μ st H) : ∀ (n : Nat) (d : D) (v : V) (x : PyData),VR K μ st.nxt H d v → toData st n d = some x → Dp K H v x
  | 0,d,v,x,r,h => by cases h
  | n + 1,d,v,x,r,h => by
    unfold toData at h
    cases d with
    | non => cases h; simp only [VR] at r; subst r; exact .non
    | bl b => cases h; simp only [VR] at r; subst r; exact .bl b
    | int i => cases h; simp only [VR] at r; subst r; exact .int i
    | str z =>
      simp only at h
      by_cases hz : PyData.strOk z = true
      · rw [if_pos hz] at h
        cases h; simp only [VR] at r; subst r; exact .str z
      · rw [if_neg hz] at h; cases h
    | tup xs =>
      simp only at h
      cases q : optL (toData st n) xs with
      | none => rw [q] at h; cases h
      | some ds =>
        rw [q] at h
        cases h
        simp only [VR] at r
        obtain ⟨p,vs,rfl,r1,r2⟩:=r
        exact .tup r1 (dp_all (fun d v x => toData_dp S n d v x) r2 q)
    | rol xs =>
      simp only at h
      cases q : optL (toData st n) xs with
      | none => rw [q] at h; cases h
      | some ds =>
        rw [q] at h
        cases h
        simp only [VR] at r
        obtain ⟨p,vs,rfl,r1,r2⟩:=r
        exact .lst r1.sq (dp_all (fun d v x => toData_dp S n d v x) r2 q)
    | ref m =>
      simp only at h
      simp only [VR] at r
      obtain ⟨hm,rfl⟩:=r
      cases z : st.at_ m with
      | none => rw [z] at h; cases h
      | some c =>
        rw [z] at h
        cases c with
        | lst xs =>
          simp only at h
          cases q : optL (toData st n) xs with
          | none => rw [q] at h; cases h
          | some ds =>
            rw [q] at h
            cases h
            obtain ⟨vs,h1,h2⟩:=S.get z
            exact .lst (SqL.of h1) (dp_all (fun d v x => toData_dp S n d v x) h2 q)
        | dic kvs => cases h
        | ins c fs => cases h
        | fdc _ => cases h
        | dn _ _ => cases h
    | cst w => cases h
end
theorem lay_all {f : D → Option PyData} (hf : ∀ d x,f d = some x → x.canLay0 = true) : ∀ {ds : List D} {xs : List PyData},optL f ds = some xs → PyData.canLayAll0 xs = true
  | [],xs,h => by cases h; rfl
  | d :: ds,xs,h => by
    unfold optL at h
    cases q : f d with
    | none => rw [q] at h; cases h
    | some b =>
      rw [q] at h
      cases q2 : optL f ds with
      | none => simp only [q2] at h; cases h
      | some bs =>
        simp only [q2] at h
        cases h
        simp only [PyData.canLayAll0,Bool.and_eq_true]
        exact ⟨hf d b q,lay_all hf q2⟩
theorem depth_all {f : D → Option PyData} {n : Nat} (hf : ∀ d x,f d = some x → x.depth ≤ n) : ∀ {ds : List D} {xs : List PyData},optL f ds = some xs → PyData.depthAll xs ≤ n
  | [],xs,h => by cases h; simp [PyData.depthAll]
  | d :: ds,xs,h => by
    unfold optL at h
    cases q : f d with
    | none => rw [q] at h; cases h
    | some b =>
      rw [q] at h
      cases q2 : optL f ds with
      | none => simp only [q2] at h; cases h
      | some bs =>
        simp only [q2] at h
        cases h
        have h1:=hf d b q
        have h2:=depth_all hf q2
        simp only [PyData.depthAll]
        omega
theorem toData_lay {st : Store} : ∀ (n : Nat) (d : D) (x : PyData),toData st n d = some x → x.canLay0 = true
  | 0,d,x,h => by cases h
  | n + 1,d,x,h => by
    unfold toData at h
    cases d with
    | non => cases h; rfl
    | bl b => cases h; rfl
    | int i => cases h; rfl
    | str z =>
      simp only at h
      by_cases hz : PyData.strOk z = true
      · rw [if_pos hz] at h; cases h; simpa [PyData.canLay0] using hz
      · rw [if_neg hz] at h; cases h
    | tup xs =>
      simp only at h
      cases q : optL (toData st n) xs with
      | none => rw [q] at h; cases h
      | some ds => rw [q] at h; cases h; simpa [PyData.canLay0] using lay_all (toData_lay n) q
    | rol xs =>
      simp only at h
      cases q : optL (toData st n) xs with
      | none => rw [q] at h; cases h
      | some ds => rw [q] at h; cases h; simpa [PyData.canLay0] using lay_all (toData_lay n) q
    | ref m =>
      simp only at h
      cases z : st.at_ m with
      | none => rw [z] at h; cases h
      | some c =>
        rw [z] at h
        cases c with
        | lst xs =>
          simp only at h
          cases q : optL (toData st n) xs with
          | none => rw [q] at h; cases h
          | some ds => rw [q] at h; cases h; simpa [PyData.canLay0] using lay_all (toData_lay n) q
        | dic kvs => cases h
        | ins c fs => cases h
        | fdc _ => cases h
        | dn _ _ => cases h
    | cst w => cases h
theorem toData_depth {st : Store} : ∀ (n : Nat) (d : D) (x : PyData),toData st n d = some x → x.depth ≤ n
  | 0,d,x,h => by cases h
  | n + 1,d,x,h => by
    unfold toData at h
    cases d with
    | non => cases h; simp [PyData.depth]
    | bl b => cases h; simp [PyData.depth]
    | int i => cases h; simp [PyData.depth]
    | str z =>
      simp only at h
      by_cases hz : PyData.strOk z = true
      · rw [if_pos hz] at h; cases h; simp [PyData.depth]
      · rw [if_neg hz] at h; cases h
    | tup xs =>
      simp only at h
      cases q : optL (toData st n) xs with
      | none => rw [q] at h; cases h
      | some ds =>
        rw [q] at h; cases h
        have:=depth_all (toData_depth n) q
        simp only [PyData.depth]; omega
    | rol xs =>
      simp only at h
      cases q : optL (toData st n) xs with
      | none => rw [q] at h; cases h
      | some ds =>
        rw [q] at h; cases h
        have:=depth_all (toData_depth n) q
        simp only [PyData.depth]; omega
    | ref m =>
      simp only at h
      cases z : st.at_ m with
      | none => rw [z] at h; cases h
      | some c =>
        rw [z] at h
        cases c with
        | lst xs =>
          simp only at h
          cases q : optL (toData st n) xs with
          | none => rw [q] at h; cases h
          | some ds =>
            rw [q] at h; cases h
            have:=depth_all (toData_depth n) q
            simp only [PyData.depth]; omega
        | dic kvs => cases h
        | ins c fs => cases h
        | fdc _ => cases h
        | dn _ _ => cases h
    | cst w => cases h
theorem toData_shaped {st : Store} {n : Nat} {d : D} {x : PyData} (h : toData st n d = some x) (hn : n ≤ 64) : SeqAt.shaped x = true:=by
  unfold SeqAt.shaped
  rw [Bool.and_eq_true]
  exact ⟨toData_lay n d x h,decide_eq_true (Nat.le_trans (toData_depth n d x h) hn)⟩
def scalEq : D → D → Option Bool
  | .non,.non => some true
  | .non,.int _ => some false | .int _,.non => some false | .non,.bl _ => some false | .bl _,.non => some false | .non,.str _ => some false | .str _,.non => some false
  | .int i,.int j => some (decide (i = j)) | .bl i,.bl j => some (decide (i = j)) | .str i,.str j => some (decide (i = j))
  | .int _,.str _ => some false | .str _,.int _ => some false | .bl _,.str _ => some false | .str _,.bl _ => some false
  | _,_ => none
def dataEq (x y : D) (st : Store) : Option Bool:=match scalEq x y with
  | some b => some b
  | none => match toData st 20 x,toData st 20 y with
    | some a,some b => some (PyData.eqv a b)
    | _,_ => none
def fEq : F2:=fun x y st => (dataEq x y st).map fun b => (.bl b,st)
def fNe : F2:=fun x y st => (dataEq x y st).map fun b => (.bl (!b),st)
theorem scal_of {K : PySem.W.Frag} {μ : Nat → Addr} {N : Nat} {H : Hp} {x y : D} {v w : V} {b : Bool} (h : scalEq x y = some b) (rx : VR K μ N H x v) (ry : VR K μ N H y w) : scal v w = true ∧ decide (v = w) = b:=by
  cases x <;> cases y <;> simp only [scalEq,Option.some.injEq,reduceCtorEq] at h <;> simp only [VR] at rx ry <;> subst rx ry <;> subst h <;> refine ⟨rfl,?_⟩ <;> simp
section
variable {X : Cx} {cl : CL}
theorem o_eq (hu : X.A.units + 64 < cLine) : OpS X cl (compareOp .Eq) fEq:=by
  intro pins s σ H x y v u Q I rx ry ⟨μ,st,d1,d2,S,r1,r2,h⟩
  unfold fEq dataEq at h
  cases q : scalEq d1 d2 with
  | some b =>
    rw [q] at h
    obtain ⟨h1,h2⟩:=scal_of q r1 r2
    exact op_eq pins s σ H x y v u Q I rx ry ⟨h1,h μ H _ S Ev.refl (by simp only [VR]; rw [h2])⟩
  | none =>
    rw [q] at h
    simp only at h
    cases q1 : toData st 20 d1 with
    | none => rw [q1] at h; exact h.elim
    | some a =>
      cases q2 : toData st 20 d2 with
      | none => rw [q1,q2] at h; exact h.elim
      | some b =>
        rw [q1,q2] at h
        exact op_eqD hu pins s σ H x y v u Q I rx ry ⟨a,b,toData_dp S 20 d1 x a r1 q1,toData_dp S 20 d2 y b r2 q2,toData_shaped q1 (by decide),toData_shaped q2 (by decide),h μ H _ S Ev.refl (by simp only [VR])⟩
theorem o_ne (hu : X.A.units + 64 < cLine) : OpS X cl (compareOp .NotEq) fNe:=by
  intro pins s σ H x y v u Q I rx ry ⟨μ,st,d1,d2,S,r1,r2,h⟩
  unfold fNe dataEq at h
  cases q : scalEq d1 d2 with
  | some b =>
    rw [q] at h
    obtain ⟨h1,h2⟩:=scal_of q r1 r2
    exact op_ne pins s σ H x y v u Q I rx ry ⟨h1,h μ H _ S Ev.refl (by simp only [VR]; rw [h2])⟩
  | none =>
    rw [q] at h
    simp only at h
    cases q1 : toData st 20 d1 with
    | none => rw [q1] at h; exact h.elim
    | some a =>
      cases q2 : toData st 20 d2 with
      | none => rw [q1,q2] at h; exact h.elim
      | some b =>
        rw [q1,q2] at h
        exact op_neD hu pins s σ H x y v u Q I rx ry ⟨a,b,toData_dp S 20 d1 x a r1 q1,toData_dp S 20 d2 y b r2 q2,toData_shaped q1 (by decide),toData_shaped q2 (by decide),h μ H _ S Ev.refl (by simp only [VR])⟩
def fI (C : Int → Int → Prop) [∀ i j,Decidable (C i j)] (g : Int → Int → D) : F2:=fun x y st => match x,y with
  | .int i,.int j => if C i j then some (g i j,st) else none
  | _,_ => none
theorem o_I {op : Value → Value → Sem Value} {C : Int → Int → Prop} [∀ i j,Decidable (C i j)] {g : Int → Int → D} {gv : Int → Int → V} (ho : OpR X op (rI C gv)) (hg : ∀ μ N H i j,VR X.K μ N H (g i j) (gv i j)) : OpS X cl op (fI C g):=by
  intro pins s σ H x y v u Q I rx ry ⟨μ,st,d1,d2,S,r1,r2,h⟩
  unfold fI at h
  cases d1 with
  | int i =>
    cases d2 with
    | int j =>
      simp only [VR] at r1 r2
      subst r1 r2
      simp only at h
      by_cases c : C i j
      · rw [if_pos c] at h
        exact ho pins s σ H _ _ v u Q I rx ry ⟨i,j,rfl,rfl,c,h μ H _ S Ev.refl (hg _ _ _ i j)⟩
      · rw [if_neg c] at h; exact h.elim
    | _ => exact h.elim
  | _ => exact h.elim
theorem OpR.rI_of {op : Value → Value → Sem Value} {g : Int → Int → V} (h : OpR X op (rI0 g)) : OpR X op (rI (fun _ _ => True) g):=by
  intro pins s σ H x y v u Q I rx ry ⟨i,j,e1,e2,_,q⟩
  exact h pins s σ H x y v u Q I rx ry ⟨i,j,e1,e2,q⟩
def fSub : F2:=fI (fun _ _ => True) fun i j => .int (i - j)
theorem o_sub : OpS X cl (binaryOp .Sub) fSub:=o_I (OpR.rI_of op_sub) fun _ _ _ _ _ => by simp only [VR]
instance (i j : Int) : Decidable (CMul i j):=by unfold CMul; infer_instance
instance (i j : Int) : Decidable (CDiv i j):=by unfold CDiv; infer_instance
instance (i j : Int) : Decidable (CPow i j):=by unfold CPow; infer_instance
def fMod : F2:=fI (fun _ j => 0 < j) fun i j => .int (i % j)
theorem o_mod : OpS X cl (binaryOp .Mod) fMod:=o_I op_mod fun _ _ _ _ _ => by simp only [VR]
def fPow : F2:=fI CPow fun i j => .int (i ^ j.toNat)
theorem o_pow : OpS X cl (binaryOp .Pow) fPow:=o_I op_pow fun _ _ _ _ _ => by simp only [VR]
def fLt : F2:=fun x y st => match x,y with
  | .int i,.int j => some (.bl (decide (i < j)),st)
  | .str i,.str j => some (.bl (decide (i.cps.toList < j.cps.toList)),st)
  | _,_ => none
def fLe : F2:=fun x y st => match x,y with
  | .int i,.int j => some (.bl (decide (i ≤ j)),st)
  | _,_ => none
def fGt : F2:=fun x y st => match x,y with
  | .int i,.int j => some (.bl (decide (j < i)),st)
  | _,_ => none
def fGe : F2:=fun x y st => match x,y with
  | .int i,.int j => some (.bl (decide (j ≤ i)),st)
  | .str i,.str j => some (.bl (!decide (i.cps.toList < j.cps.toList)),st)
  | _,_ => none
theorem o_lt : OpS X cl (compareOp .Lt) fLt:=by
  intro pins s σ H x y v u Q I rx ry ⟨μ,st,d1,d2,S,r1,r2,h⟩
  unfold fLt at h
  cases d1 with
  | int i =>
    cases d2 with
    | int j =>
      simp only [VR] at r1 r2
      subst r1 r2
      exact op_lt pins s σ H _ _ v u Q I rx ry ⟨i,j,rfl,rfl,h μ H _ S Ev.refl (by simp only [VR])⟩
    | _ => exact h.elim
  | str i =>
    cases d2 with
    | str j =>
      simp only [VR] at r1 r2
      subst r1 r2
      exact op_lt_str pins s σ H _ _ v u Q I rx ry ⟨i,j,rfl,rfl,h μ H _ S Ev.refl (by simp only [VR])⟩
    | _ => exact h.elim
  | _ => exact h.elim
theorem o_le : OpS X cl (compareOp .LtE) fLe:=by
  intro pins s σ H x y v u Q I rx ry ⟨μ,st,d1,d2,S,r1,r2,h⟩
  unfold fLe at h
  cases d1 with
  | int i =>
    cases d2 with
    | int j =>
      simp only [VR] at r1 r2
      subst r1 r2
      exact op_le pins s σ H _ _ v u Q I rx ry ⟨i,j,rfl,rfl,h μ H _ S Ev.refl (by simp only [VR])⟩
    | _ => exact h.elim
  | _ => exact h.elim
theorem o_gt : OpS X cl (compareOp .Gt) fGt:=by
  intro pins s σ H x y v u Q I rx ry ⟨μ,st,d1,d2,S,r1,r2,h⟩
  unfold fGt at h
  cases d1 with
  | int i =>
    cases d2 with
    | int j =>
      simp only [VR] at r1 r2
      subst r1 r2
      exact op_gt pins s σ H _ _ v u Q I rx ry ⟨i,j,rfl,rfl,h μ H _ S Ev.refl (by simp only [VR])⟩
    | _ => exact h.elim
  | _ => exact h.elim
def fAdd : F2:=fun x y st => match x,y with
  | .int i,.int j => some (.int (i + j),st)
  | .str a,.str b => if a.length + b.length ≤ sizeLine then some (.str (a ++ b),st) else none
  | .tup xs,.tup ys => if xs.length + ys.length ≤ sizeLine then some (.tup (xs ++ ys),st) else none
  | .ref m,.ref n => match st.at_ m,st.at_ n with
    | some (.lst xs),some (.lst ys) => if xs.length + ys.length ≤ sizeLine then some (.ref st.nxt,st.new (.lst (xs ++ ys))) else none
    | _,_ => none
  | _,_ => none
theorem o_add : OpS X cl (binaryOp .Add) fAdd:=by
  intro pins s σ H x y v u Q I rx ry ⟨μ,st,d1,d2,S,r1,r2,h⟩
  unfold fAdd at h
  cases d1 with
  | int i =>
    cases d2 with
    | int j =>
      simp only [VR] at r1 r2
      subst r1 r2
      exact op_add pins s σ H _ _ v u Q I rx ry ⟨i,j,rfl,rfl,h μ H _ S Ev.refl (by simp only [VR])⟩
    | _ => exact h.elim
  | str i =>
    cases d2 with
    | str j =>
      simp only [VR] at r1 r2
      subst r1 r2
      simp only at h
      by_cases c : i.length + j.length ≤ sizeLine
      · rw [if_pos c] at h
        exact op_add_str pins s σ H _ _ v u Q I rx ry ⟨i,j,rfl,rfl,c,h μ H _ S Ev.refl (by simp only [VR])⟩
      · rw [if_neg c] at h; exact h.elim
    | _ => exact h.elim
  | tup xs =>
    cases d2 with
    | tup ys =>
      simp only [VR] at r1 r2
      obtain ⟨p,vs,rfl,s1,t1⟩:=r1
      obtain ⟨q,ws,rfl,s2,t2⟩:=r2
      simp only at h
      have l1:=t1.length
      have l2:=t2.length
      by_cases c : xs.length + ys.length ≤ sizeLine
      · rw [if_pos c] at h
        refine op_catA pins s σ H _ _ v u Q I rx ry ⟨p,q,vs,ws,rfl,rfl,s1,s2,by omega,fun e => ?_,fun _ e => ?_,fun _ _ a ha => ?_⟩
        · subst e
          cases xs with
          | nil => exact h μ H _ S Ev.refl (by simp only [VR]; exact ⟨q,ws,rfl,s2,t2⟩)
          | cons d ds => simp at l1
        · subst e
          cases ys with
          | nil => exact h μ H _ S Ev.refl (by simp only [VR,List.append_nil]; exact ⟨p,vs,rfl,s1,t1⟩)
          | cons d ds => simp at l2
        · exact h μ _ _ (S.beside ha) (Ev.beside ha) (by simp only [VR]; exact ⟨a,vs ++ ws,rfl,SqT.of upd_same,(t1.append t2).ev (Ev.beside ha)⟩)
      · rw [if_neg c] at h; exact h.elim
    | _ => exact h.elim
  | ref m =>
    cases d2 with
    | ref n =>
      simp only [VR] at r1 r2
      obtain ⟨hm,rfl⟩:=r1
      obtain ⟨hn,rfl⟩:=r2
      simp only at h
      cases z1 : st.at_ m with
      | none => rw [z1] at h; exact h.elim
      | some c1 =>
        cases z2 : st.at_ n with
        | none => rw [z1,z2] at h; cases c1 <;> exact h.elim
        | some c2 =>
          rw [z1,z2] at h
          cases c1 with
          | lst xs =>
            cases c2 with
            | lst ys =>
              simp only at h
              obtain ⟨vs,g1,t1⟩:=S.get z1
              obtain ⟨ws,g2,t2⟩:=S.get z2
              have l1:=t1.length
              have l2:=t2.length
              by_cases c : xs.length + ys.length ≤ sizeLine
              · rw [if_pos c] at h
                exact op_cat pins s σ H _ _ v u Q I rx ry ⟨μ m,μ n,vs,ws,rfl,rfl,g1,g2,by omega,fun a ha => h _ _ _ (S.new_lst ha (t1.append t2)) (Ev.new ha) (by simp only [VR]; exact ⟨Nat.lt_succ_self _,by rw [ext_same]⟩)⟩
              · rw [if_neg c] at h; exact h.elim
            | _ => exact h.elim
          | _ => exact h.elim
    | _ => exact h.elim
  | _ => exact h.elim
def repL (n : Nat) (xs : List D) : List D:=(List.replicate n xs).flatten
theorem VRs.rep {K : PySem.W.Frag} {μ : Nat → Addr} {N : Nat} {H : Hp} {xs : List D} {vs : List V} (h : VRs K μ N H xs vs) : ∀ n,VRs K μ N H (repL n xs) (List.replicate n vs).flatten
  | 0 => by simp [repL,VRs]
  | n + 1 => by
    simp only [repL,List.replicate_succ,List.flatten_cons]
    exact h.append (VRs.rep h n)
def fMul : F2:=fun x y st => match x,y with
  | .int i,.int j => if CMul i j then some (.int (i * j),st) else none
  | .ref m,.int k => match st.at_ m with
    | some (.lst xs) => if -(2 ^ 63) ≤ k ∧ k < 2 ^ 63 ∧ xs.length * k.toNat ≤ sizeLine then some (.ref st.nxt,st.new (.lst (repL k.toNat xs))) else none
    | _ => none
  | _,_ => none
theorem o_mul : OpS X cl (binaryOp .Mult) fMul:=by
  intro pins s σ H x y v u Q I rx ry ⟨μ,st,d1,d2,S,r1,r2,h⟩
  unfold fMul at h
  cases d1 with
  | int i =>
    cases d2 with
    | int j =>
      simp only [VR] at r1 r2
      subst r1 r2
      simp only at h
      by_cases c : CMul i j
      · rw [if_pos c] at h
        exact op_mul pins s σ H _ _ v u Q I rx ry ⟨i,j,rfl,rfl,c,h μ H _ S Ev.refl (by simp only [VR])⟩
      · rw [if_neg c] at h; exact h.elim
    | _ => exact h.elim
  | ref m =>
    cases d2 with
    | int k =>
      simp only [VR] at r1 r2
      obtain ⟨hm,rfl⟩:=r1
      subst r2
      simp only at h
      cases z1 : st.at_ m with
      | none => rw [z1] at h; exact h.elim
      | some c1 =>
        rw [z1] at h
        cases c1 with
        | lst xs =>
          simp only at h
          obtain ⟨vs,g1,t1⟩:=S.get z1
          have l1:=t1.length
          by_cases c : -(2 ^ 63) ≤ k ∧ k < 2 ^ 63 ∧ xs.length * k.toNat ≤ sizeLine
          · rw [if_pos c] at h
            exact op_rep pins s σ H _ _ v u Q I rx ry ⟨μ m,k,vs,rfl,rfl,g1,c.1,c.2.1,by rw [← l1]; exact c.2.2,fun a ha => h _ _ _ (S.new_lst ha (t1.rep _)) (Ev.new ha) (by simp only [VR]; exact ⟨Nat.lt_succ_self _,by rw [ext_same]⟩)⟩
          · rw [if_neg c] at h; exact h.elim
        | _ => exact h.elim
    | _ => exact h.elim
  | _ => exact h.elim
def fNeg : F1:=fun x st => match x with
  | .int i => some (.int (-i),st)
  | _ => none
theorem u_neg : UnR X (unaryOp .USub) (rdU X.K cl fNeg):=by
  intro pins s σ H x v Q I rx ⟨μ,st,d1,S,r1,h⟩
  unfold fNeg at h
  cases d1 with
  | int i =>
    simp only [VR] at r1
    subst r1
    exact un_neg pins s σ H _ v Q I rx ⟨i,rfl,h μ H _ S Ev.refl (by simp only [VR])⟩
  | _ => exact h.elim
def fIsN : F2:=fun x y st => match y with
  | .non => match x with
    | .cst _ => none
    | .non => some (.bl true,st)
    | _ => some (.bl false,st)
  | _ => none
def fNotN : F2:=fun x y st => match y with
  | .non => match x with
    | .cst _ => none
    | .non => some (.bl false,st)
    | _ => some (.bl true,st)
  | _ => none
theorem o_isN : OpS X cl (compareOp .Is) fIsN:=by
  intro pins s σ H x y v u Q I rx ry ⟨μ,st,d1,d2,S,r1,r2,h⟩
  unfold fIsN at h
  cases d2 with
  | non =>
    simp only [VR] at r2
    subst r2
    cases d1 with
    | cst w => exact h.elim
    | non =>
      simp only [VR] at r1
      subst r1
      exact op_isN pins s σ H _ _ v u Q I rx ry ⟨rfl,h μ H _ S Ev.refl (by simp only [VR]; simp)⟩
    | tup xs =>
      simp only [VR] at r1
      obtain ⟨p,vs,rfl,_⟩:=r1
      exact op_isN pins s σ H _ _ v u Q I rx ry ⟨rfl,h μ H _ S Ev.refl (by simp only [VR]; simp)⟩
    | rol xs =>
      simp only [VR] at r1
      obtain ⟨p,vs,rfl,_⟩:=r1
      exact op_isN pins s σ H _ _ v u Q I rx ry ⟨rfl,h μ H _ S Ev.refl (by simp only [VR]; simp)⟩
    | ref n =>
      simp only [VR] at r1
      obtain ⟨_,rfl⟩:=r1
      exact op_isN pins s σ H _ _ v u Q I rx ry ⟨rfl,h μ H _ S Ev.refl (by simp only [VR]; simp)⟩
    | _ =>
      simp only [VR] at r1
      subst r1
      exact op_isN pins s σ H _ _ v u Q I rx ry ⟨rfl,h μ H _ S Ev.refl (by simp only [VR]; simp)⟩
  | _ => exact h.elim
theorem o_notN : OpS X cl (compareOp .IsNot) fNotN:=by
  intro pins s σ H x y v u Q I rx ry ⟨μ,st,d1,d2,S,r1,r2,h⟩
  unfold fNotN at h
  cases d2 with
  | non =>
    simp only [VR] at r2
    subst r2
    cases d1 with
    | cst w => exact h.elim
    | non =>
      simp only [VR] at r1
      subst r1
      exact op_notN pins s σ H _ _ v u Q I rx ry ⟨rfl,h μ H _ S Ev.refl (by simp only [VR]; simp)⟩
    | tup xs =>
      simp only [VR] at r1
      obtain ⟨p,vs,rfl,_⟩:=r1
      exact op_notN pins s σ H _ _ v u Q I rx ry ⟨rfl,h μ H _ S Ev.refl (by simp only [VR]; simp)⟩
    | rol xs =>
      simp only [VR] at r1
      obtain ⟨p,vs,rfl,_⟩:=r1
      exact op_notN pins s σ H _ _ v u Q I rx ry ⟨rfl,h μ H _ S Ev.refl (by simp only [VR]; simp)⟩
    | ref n =>
      simp only [VR] at r1
      obtain ⟨_,rfl⟩:=r1
      exact op_notN pins s σ H _ _ v u Q I rx ry ⟨rfl,h μ H _ S Ev.refl (by simp only [VR]; simp)⟩
    | _ =>
      simp only [VR] at r1
      subst r1
      exact op_notN pins s σ H _ _ v u Q I rx ry ⟨rfl,h μ H _ S Ev.refl (by simp only [VR]; simp)⟩
  | _ => exact h.elim
def inB (x y : D) (st : Store) : Option Bool:=match x,y with
  | .str a,.str b => if a.length = 1 then some (decide (a.cps.getD 0 0 ∈ b.cps.toList)) else none
  | _,.tup ys => (match toData st 20 x,optL (toData st 20) ys with
    | some d,some ds => some (ds.any fun z => PyData.eqv z d)
    | _,_ => none)
  | _,.rol ys => (match toData st 20 x,optL (toData st 20) ys with
    | some d,some ds => some (ds.any fun z => PyData.eqv z d)
    | _,_ => none)
  | _,.ref m => (match st.at_ m with
    | some (.lst ys) => (match toData st 20 x,optL (toData st 20) ys with
      | some d,some ds => some (ds.any fun z => PyData.eqv z d)
      | _,_ => none)
    | some (.dic kvs) => (match x with
      | .str a => some (kvs.any fun p => decide (p.1 = Sum.inr a))
      | .int a => some (kvs.any fun p => decide (p.1 = Sum.inl a))
      | _ => none)
    | _ => none)
  | _,_ => none
def fIn : F2:=fun x y st => (inB x y st).map fun b => (.bl b,st)
def fNin : F2:=fun x y st => (inB x y st).map fun b => (.bl (!b),st)
end
end DV
namespace DV
open PySem PySem.Spec PyProof.Rows L2
section
variable {X : Cx} {cl : CL}
theorem reads_of {pins : List (Addr × Obj)} {s : Shared} {σ : L2.St} {H : Hp} (I : Inv X pins σ H s) {μ : Nat → Addr} {st : Store} (S : SR X.K cl μ st H) {x : D} {v : V} {u : Value} {d : PyData} (r : VR X.K μ st.nxt H x v) (ru : RelV v u) (h : toData st 20 x = some d) :
    ∃ as,Reads s.heap u d as:=Dp.reads I d v u (toData_dp S 20 x v d r h) ru
theorem depth_in {ds : List PyData} {st : Store} {ys : List D} (h : optL (toData st 20) ys = some ds) : PyData.depthAll ds ≤ 20:=depth_all (toData_depth 20) h
theorem in_seq {pins : List (Addr × Obj)} {s : Shared} {σ : L2.St} {H : Hp} {Q : VK} (hu : X.A.units + 64 < cLine) (I : Inv X pins σ H s) {μ : Nat → Addr} {st : Store} (S : SR X.K cl μ st H) {x : D} {v : V} {u uc : Value} {p : Addr} {ys : List D} {vs : List V} {neg : Bool}
    (rx : VR X.K μ st.nxt H x v) (ru : RelV v u) (rc : uc = .ref p) (hp : SqT X.K H p vs ∨ SqL X.K H p vs) (rs : VRs X.K μ st.nxt H ys vs) {d : PyData} {ds : List PyData} (hd : toData st 20 x = some d) (hds : optL (toData st 20) ys = some ds)
    (h : Q (.bl (xor neg (ds.any fun z => PyData.eqv z d))) H) : wpAny (model X.prog X.w) X.A (compareOp (if neg then .NotIn else .In) u uc) (EP X pins σ Q) X.xe s:=by
  subst rc
  obtain ⟨as,r1⟩:=reads_of I S rx ru hd
  have ha : DpAll X.K H vs ds:=dp_all (fun d v x => toData_dp S 20 d v x) rs hds
  have l1:=lay_all (toData_lay 20) hds
  have l2:=toData_lay 20 x d hd
  have dp:=depth_in hds
  have room : X.A.units + 1 + min (PyData.depthAll ds) d.depth < cLine:=by
    have:=Nat.min_le_left (PyData.depthAll ds) d.depth
    omega
  rcases hp with hp | hp
  · obtain ⟨bs,r2⟩:=Dp.reads I (.tuple ds) (.ref p) (.ref p) (.tup hp ha) rfl
    cases neg with
    | false => exact SeqAt.in_tuple_reads r2 r1 l1 l2 room ⟨.bl _,H,I,rfl,by simpa using h⟩
    | true => exact SeqAt.notIn_tuple_reads r2 r1 l1 l2 room ⟨.bl _,H,I,rfl,by simpa using h⟩
  · obtain ⟨bs,r2⟩:=Dp.reads I (.list ds) (.ref p) (.ref p) (.lst hp ha) rfl
    cases neg with
    | false => exact SeqAt.in_list_reads r2 r1 l1 l2 room ⟨.bl _,H,I,rfl,by simpa using h⟩
    | true => exact SeqAt.notIn_list_reads r2 r1 l1 l2 room ⟨.bl _,H,I,rfl,by simpa using h⟩
theorem str_one {a : Str} (h : a.length = 1) : a = ⟨#[a.cps.getD 0 0]⟩:=by
  obtain ⟨c⟩:=a
  obtain ⟨l⟩:=c
  have h' : l.length = 1:=h
  match l,h' with
  | [x],_ => rfl
def dLook (kvs : List (Key × D)) (k : Key) : Option D:=(kvs.find? fun kv => decide (kv.1 = k)).map (·.2)
def dPut (kvs : List (Key × D)) (k : Key) (v : D) : List (Key × D):=if (kvs.any fun kv => decide (kv.1 = k)) = true then kvs.map (fun kv => if kv.1 = k then (kv.1,v) else kv) else kvs ++ [(k,v)]
theorem look_rel {K : PySem.W.Frag} {μ : Nat → Addr} {N : Nat} {H : Hp} {k : Key} : ∀ {kvs : List (Key × D)} {ps : List (Key × V)},ps.map (·.1) = kvs.map (·.1) → VRs K μ N H (kvs.map (·.2)) (ps.map (·.2)) →
    (dLook kvs k = none ∧ valV ps k = none) ∨ ∃ d v,dLook kvs k = some d ∧ valV ps k = some v ∧ VR K μ N H d v
  | [],[],_,_ => .inl ⟨rfl,rfl⟩
  | [],_ :: _,e,_ => by cases e
  | _ :: _,[],e,_ => by cases e
  | (a,d) :: kvs,(b,v) :: ps,e,r => by
    simp only [List.map_cons,List.cons.injEq] at e
    simp only [List.map_cons,VRs] at r
    obtain ⟨v',r',q,r1,r2⟩:=r
    cases q
    obtain ⟨rfl,e2⟩:=e
    by_cases h : b = k
    · refine .inr ⟨d,v,by simp [dLook,h],by simp [valV,h],r1⟩
    · have h1 : dLook ((b,d) :: kvs) k = dLook kvs k:=by simp [dLook,h]
      have h2 : valV ((b,v) :: ps) k = valV ps k:=by simp [valV,h]
      rw [h1,h2]
      exact look_rel e2 r2
theorem any_rel {k : Key} : ∀ {kvs : List (Key × D)} {ps : List (Key × V)},ps.map (·.1) = kvs.map (·.1) → (kvs.any fun p => decide (p.1 = k)) = (ps.any fun p => decide (p.1 = k))
  | [],[],_ => rfl
  | [],_ :: _,e => by cases e
  | _ :: _,[],e => by cases e
  | (a,d) :: kvs,(b,v) :: ps,e => by
    simp only [List.map_cons,List.cons.injEq] at e
    obtain ⟨rfl,e2⟩:=e
    simp only [List.any_cons]
    rw [any_rel e2]
theorem some_any {k : Key} : ∀ (ps : List (Key × V)),(valV ps k).isSome = (ps.any fun p => decide (p.1 = k))
  | [] => rfl
  | (b,v) :: ps => by
    by_cases h : b = k
    · simp [valV,h]
    · have h2 : valV ((b,v) :: ps) k = valV ps k:=by simp [valV,h]
      rw [h2,some_any ps]
      simp [h]
theorem put_rel {K : PySem.W.Frag} {μ : Nat → Addr} {N : Nat} {H : Hp} {k : Key} {d : D} {v : V} (hd : VR K μ N H d v) {kvs : List (Key × D)} {ps : List (Key × V)} (e : ps.map (·.1) = kvs.map (·.1)) (r : VRs K μ N H (kvs.map (·.2)) (ps.map (·.2))) :
    (putK ps k v).map (·.1) = (dPut kvs k d).map (·.1) ∧ VRs K μ N H ((dPut kvs k d).map (·.2)) ((putK ps k v).map (·.2)):=by
  have go : ∀ {kvs : List (Key × D)} {ps : List (Key × V)},ps.map (·.1) = kvs.map (·.1) → VRs K μ N H (kvs.map (·.2)) (ps.map (·.2)) →
      (ps.map (fun kv => if kv.1 = k then (kv.1,v) else kv)).map (·.1) = (kvs.map (fun kv => if kv.1 = k then (kv.1,d) else kv)).map (·.1) ∧
      VRs K μ N H ((kvs.map (fun kv => if kv.1 = k then (kv.1,d) else kv)).map (·.2)) ((ps.map (fun kv => if kv.1 = k then (kv.1,v) else kv)).map (·.2)):=by
    intro kvs
    induction kvs with
    | nil =>
      intro ps e r
      cases ps with
      | nil => exact ⟨rfl,by simp only [List.map_nil,VRs]⟩
      | cons _ _ => cases e
    | cons a kvs ih =>
      intro ps e r
      cases ps with
      | nil => cases e
      | cons b ps =>
        obtain ⟨a1,a2⟩:=a
        obtain ⟨b1,b2⟩:=b
        simp only [List.map_cons,List.cons.injEq] at e
        simp only [List.map_cons,VRs] at r
        obtain ⟨v',r',q,r1,r2⟩:=r
        cases q
        obtain ⟨rfl,e2⟩:=e
        obtain ⟨h1,h2⟩:=ih e2 r2
        by_cases h : b1 = k
        · simp only [List.map_cons,if_pos h,VRs]
          exact ⟨by rw [h1],v,_,rfl,hd,h2⟩
        · simp only [List.map_cons,if_neg h,VRs]
          exact ⟨by rw [h1],_,_,rfl,r1,h2⟩
  unfold putK dPut
  rw [any_rel e]
  by_cases c : (ps.any fun kv => decide (kv.1 = k)) = true
  · rw [if_pos c,if_pos c]
    exact go e r
  · rw [if_neg c,if_neg c]
    simp only [List.map_append,List.map_cons,List.map_nil]
    exact ⟨by rw [e],r.append (VRs.one hd)⟩
theorem in_gen (hu : X.A.units + 64 < cLine) {pins : List (Addr × Obj)} {s : Shared} {σ : L2.St} {H : Hp} {Q : VK} (I : Inv X pins σ H s) {μ : Nat → Addr} {st : Store} (S : SR X.K cl μ st H) {d1 d2 : D} {x y : V} {v u : Value} {neg : Bool}
    (rx : RelV x v) (ry : RelV y u) (r1 : VR X.K μ st.nxt H d1 x) (r2 : VR X.K μ st.nxt H d2 y) {b : Bool} (e : inB d1 d2 st = some b) (h : Q (.bl (xor neg b)) H) :
    wpAny (model X.prog X.w) X.A (compareOp (if neg then .NotIn else .In) v u) (EP X pins σ Q) X.xe s:=by
  unfold inB at e
  have seq : ∀ {ys : List D} {vs : List V} {p : Addr},u = .ref p → (SqT X.K H p vs ∨ SqL X.K H p vs) → VRs X.K μ st.nxt H ys vs → (match toData st 20 d1,optL (toData st 20) ys with
      | some d,some ds => some (ds.any fun z => PyData.eqv z d)
      | _,_ => none) = some b → wpAny (model X.prog X.w) X.A (compareOp (if neg then .NotIn else .In) v u) (EP X pins σ Q) X.xe s:=by
    intro ys vs p eu hp rs e
    cases q1 : toData st 20 d1 with
    | none => rw [q1] at e; cases e
    | some d =>
      cases q2 : optL (toData st 20) ys with
      | none => rw [q1,q2] at e; cases e
      | some ds =>
        rw [q1,q2] at e
        cases e
        exact in_seq hu I S r1 rx eu hp rs q1 q2 h
  have dic : ∀ {k : Key} {kvs : List (Key × D)} {m : Nat},m < st.nxt → y = .ref (μ m) → st.at_ m = some (.dic kvs) → x = kV k → some (kvs.any fun p => decide (p.1 = k)) = some b → wpAny (model X.prog X.w) X.A (compareOp (if neg then .NotIn else .In) v u) (EP X pins σ Q) X.xe s:=by
    intro k kvs m hm ey z ex e
    subst ey
    cases ry
    obtain ⟨ps,g1,g2,g3⟩:=S.get z
    have g : DGet H (μ m) x (valV ps k):=by rw [ex]; exact DGet.k g1
    rw [any_rel g2,← some_any] at e
    cases e
    cases neg with
    | false => exact d_in (by omega) I g rx fun s3 I3 => ⟨.bl _,H,I3,rfl,by simpa using h⟩
    | true => exact d_notIn (by omega) I g rx fun s3 I3 => ⟨.bl _,H,I3,rfl,by simpa using h⟩
  cases d2 with
  | str z =>
    cases d1 with
    | str a =>
      simp only at e
      by_cases hl : a.length = 1
      · rw [if_pos hl] at e
        cases e
        simp only [VR] at r1 r2
        subst r1 r2
        cases neg with
        | false => exact op_in_sign pins s σ H _ _ v u Q I rx ry ⟨_,z,congrArg V.str (str_one hl),rfl,by simpa using h⟩
        | true => exact op_notIn_sign pins s σ H _ _ v u Q I rx ry ⟨_,z,congrArg V.str (str_one hl),rfl,by simpa using h⟩
      · rw [if_neg hl] at e; cases e
    | _ => cases e
  | tup ys =>
    simp only [VR] at r2
    obtain ⟨p,vs,rfl,s1,t1⟩:=r2
    cases ry
    exact seq rfl (.inl s1) t1 (by cases d1 <;> exact e)
  | rol ys =>
    simp only [VR] at r2
    obtain ⟨p,vs,rfl,s1,t1⟩:=r2
    cases ry
    exact seq rfl (.inr s1.sq) t1 (by cases d1 <;> exact e)
  | ref m =>
    simp only [VR] at r2
    obtain ⟨hm,rfl⟩:=r2
    have e' : (match st.at_ m with
      | some (.lst ys) => (match toData st 20 d1,optL (toData st 20) ys with
        | some d,some ds => some (ds.any fun z => PyData.eqv z d)
        | _,_ => none)
      | some (.dic kvs) => (match d1 with
        | .str a => some (kvs.any fun p => decide (p.1 = Sum.inr a))
        | .int a => some (kvs.any fun p => decide (p.1 = Sum.inl a))
        | _ => none)
      | _ => none) = some b:=by cases d1 <;> exact e
    cases z : st.at_ m with
    | none => rw [z] at e'; cases e'
    | some c =>
      rw [z] at e'
      cases c with
      | lst ys =>
        obtain ⟨vs,g1,g2⟩:=S.get z
        cases ry
        exact seq rfl (.inr (SqL.of g1)) g2 e'
      | dic kvs =>
        cases d1 with
        | str a => simp only [VR] at r1; exact dic (k:=Sum.inr a) hm rfl z r1 e'
        | int a => simp only [VR] at r1; exact dic (k:=Sum.inl a) hm rfl z r1 e'
        | _ => cases e'
      | ins c fs => cases e'
      | fdc _ => cases e'
      | dn _ _ => cases e'
  | _ => cases d1 <;> cases e
theorem o_in (hu : X.A.units + 64 < cLine) : OpS X cl (compareOp .In) fIn:=by
  intro pins s σ H x y v u Q I rx ry ⟨μ,st,d1,d2,S,r1,r2,h⟩
  unfold fIn at h
  cases q : inB d1 d2 st with
  | none => rw [q] at h; exact h.elim
  | some b =>
    rw [q] at h
    exact in_gen (neg:=false) hu I S rx ry r1 r2 q (by simpa using h μ H (.bl b) S Ev.refl (by simp only [VR]))
theorem o_nin (hu : X.A.units + 64 < cLine) : OpS X cl (compareOp .NotIn) fNin:=by
  intro pins s σ H x y v u Q I rx ry ⟨μ,st,d1,d2,S,r1,r2,h⟩
  unfold fNin at h
  cases q : inB d1 d2 st with
  | none => rw [q] at h; exact h.elim
  | some b =>
    rw [q] at h
    exact in_gen (neg:=true) hu I S rx ry r1 r2 q (by simpa using h μ H (.bl (!b)) S Ev.refl (by simp only [VR]))
def fIx : F2:=fun x y st => match x,y with
  | .tup xs,.int i => (atI xs i).map fun d => (d,st)
  | .rol xs,.int i => (atI xs i).map fun d => (d,st)
  | .str z,.int i => if z.length ≤ sizeLine then (atI z.cps.toList i).map fun c => (.str ⟨#[c]⟩,st) else none
  | .ref m,k => (match st.at_ m with
    | some (.lst xs) => (match k with
      | .int i => (atI xs i).map fun d => (d,st)
      | _ => none)
    | some (.dic kvs) => (match k with
      | .str a => (dLook kvs (Sum.inr a)).map fun d => (d,st)
      | .int a => (dLook kvs (Sum.inl a)).map fun d => (d,st)
      | _ => none)
    | some (.fdc kvs) => (match k with
      | .str a => (dLook kvs (Sum.inr a)).map fun d => (d,st)
      | .int a => (dLook kvs (Sum.inl a)).map fun d => (d,st)
      | _ => none)
    | _ => none)
  | _,_ => none
theorem VRs.atI {K : PySem.W.Frag} {μ : Nat → Addr} {N : Nat} {H : Hp} {ds : List D} {vs : List V} {i : Int} {d : D} (r : VRs K μ N H ds vs) (h : L2.atI ds i = some d) : ∃ v,L2.atI vs i = some v ∧ VR K μ N H d v:=by
  unfold L2.atI at h ⊢
  rw [← r.length]
  cases q : ixN ds.length i with
  | none => rw [q] at h; cases h
  | some j =>
    rw [q] at h
    exact r.get h
theorem x_ix (hu : X.A.units + 64 < cLine) : IxR X (rdO X.K cl fIx):=by
  intro value slice pins s σ H x y v u Q I rx ry ⟨μ,st,d1,d2,S,r1,r2,h⟩ hs
  unfold fIx at h
  have rdd : ∀ {k : Key} {kvs : List (Key × D)} {ps : List (Key × V)} {m : Nat},x = .ref (μ m) → Rd H (μ m) (.dK ps) → ps.map (·.1) = kvs.map (·.1) → VRs X.K μ st.nxt H (kvs.map (·.2)) (ps.map (·.2)) → y = kV k → PostO X.K cl (VR X.K) μ st.nxt H Q ((dLook kvs k).map fun d => (d,st)) → wpAny (model X.prog X.w) X.A (subscriptTail value slice v u) (EP X pins σ Q) X.xe s:=by
    intro k kvs ps m ex g1 g2 g3 ey h
    subst ex
    cases rx
    rcases look_rel (k:=k) g2 g3 with ⟨e1,e2⟩ | ⟨d,w',e1,e2,r⟩
    · rw [e1] at h; exact h.elim
    · rw [e1] at h
      have g : DGet H (μ m) y (some w'):=by rw [ey,← e2]; exact .inl ⟨ps,k,g1,rfl,rfl⟩
      exact tail_any (dict_typeIs I g) PySem.F.slot_dict_getitem.lookup (d_getItem (by omega) I g ry fun w2 s3 I3 r3 => ⟨w',H,I3,r3,h μ H w' S Ev.refl r⟩) hs
  cases d1 with
  | tup xs =>
    cases d2 with
    | int i =>
      simp only [VR] at r1 r2
      obtain ⟨p,vs,rfl,s1,t1⟩:=r1
      subst r2
      simp only at h
      cases q : L2.atI xs i with
      | none => rw [q] at h; exact h.elim
      | some d =>
        rw [q] at h
        obtain ⟨w',e,r⟩:=t1.atI q
        exact ix_tup value slice pins s σ H _ _ v u Q I rx ry ⟨p,vs,i,w',rfl,rfl,s1,e,h μ H w' S Ev.refl r⟩ hs
    | _ => exact h.elim
  | rol xs =>
    cases d2 with
    | int i =>
      simp only [VR] at r1 r2
      obtain ⟨p,vs,rfl,s1,t1⟩:=r1
      subst r2
      simp only at h
      cases q : L2.atI xs i with
      | none => rw [q] at h; exact h.elim
      | some d =>
        rw [q] at h
        obtain ⟨w',e,r⟩:=t1.atI q
        exact ix_list value slice pins s σ H _ _ v u Q I rx ry ⟨p,vs,i,w',rfl,rfl,s1.sq,e,h μ H w' S Ev.refl r⟩ hs
    | _ => exact h.elim
  | str z =>
    cases d2 with
    | int i =>
      simp only [VR] at r1 r2
      subst r1 r2
      simp only at h
      by_cases hz : z.length ≤ sizeLine
      · rw [if_pos hz] at h
        cases q : L2.atI z.cps.toList i with
        | none => rw [q] at h; exact h.elim
        | some c =>
          rw [q] at h
          exact ix_str value slice pins s σ H _ _ v u Q I rx ry ⟨z,i,c,rfl,rfl,hz,q,h μ H _ S Ev.refl (by simp only [VR])⟩ hs
      · rw [if_neg hz] at h; exact h.elim
    | _ => exact h.elim
  | ref m =>
    simp only [VR] at r1
    obtain ⟨hm,rfl⟩:=r1
    simp only at h
    cases z : st.at_ m with
    | none => rw [z] at h; exact h.elim
    | some c =>
      rw [z] at h
      cases c with
      | lst xs =>
        cases d2 with
        | int i =>
          simp only [VR] at r2
          subst r2
          simp only at h
          cases q : L2.atI xs i with
          | none => rw [q] at h; exact h.elim
          | some d =>
            rw [q] at h
            obtain ⟨vs,g1,g2⟩:=S.get z
            obtain ⟨w',e,r⟩:=g2.atI q
            exact ix_list value slice pins s σ H _ _ v u Q I rx ry ⟨μ m,vs,i,w',rfl,rfl,SqL.of g1,e,h μ H w' S Ev.refl r⟩ hs
        | _ => exact h.elim
      | dic kvs =>
        obtain ⟨ps,g1,g2,g3⟩:=S.get z
        cases d2 with
        | str a => simp only [VR] at r2; exact rdd (k:=Sum.inr a) rfl (.inl g1) g2 g3 r2 h
        | int a => simp only [VR] at r2; exact rdd (k:=Sum.inl a) rfl (.inl g1) g2 g3 r2 h
        | _ => exact h.elim
      | dn _ _ => exact h.elim
      | fdc kvs =>
        obtain ⟨o,ps,g1,g2,g3⟩:=S.get z
        cases d2 with
        | str a => simp only [VR] at r2; exact rdd (k:=Sum.inr a) rfl (.inr ⟨o,g1⟩) g2 g3 r2 h
        | int a => simp only [VR] at r2; exact rdd (k:=Sum.inl a) rfl (.inr ⟨o,g1⟩) g2 g3 r2 h
        | _ => exact h.elim
      | ins c fs => exact h.elim
  | _ => exact h.elim
abbrev MO:=Loc → Store → Res (Option Int)
def rdP (K : PySem.W.Frag) (cl : CL) (W : WX) (m : MO) : TO:=fun σ H Q => ∃ μ st l,SR K cl μ st H ∧ LR K μ st.nxt H l σ ∧ Post K cl Same_ μ st.nxt H Q (WE W σ) (m l st)
def moNone : MO:=fun _ st => .ok none st
def moSome (m : ME) : MO:=fun l st => (m l st).bind fun d st1 => match d with
  | .int i => .ok (some i) st1
  | _ => .bad
abbrev SO (X : Cx) (cl : CL) (W : WX) (e : Option Expr) (m : MO) : Prop:=PO X e (rdP X.K cl W m)
theorem PO.weak {e : Option Expr} {t t' : TO} (h : PO X e t) (w : ∀ σ H Q,t' σ H Q → t σ H Q) : PO X e t':=⟨fun pins s σ H Q I q => h.run pins s σ H Q I (w σ H Q q)⟩
theorem so_none {W : WX} : SO X cl W none moNone:=PO.weak po_none fun σ H Q ⟨μ,st,l,S,L,h⟩ => h μ H none S Ev.refl rfl
theorem so_some {W : WX} {e : Expr} {m : ME} (he : SE X cl W e m) : SO X cl W (some e) (moSome m):=PO.weak (po_some he) fun σ H Q ⟨μ,st,l,S,L,h⟩ =>
  ⟨μ,st,l,S,L,Post.bind h fun d st1 μ1 H1 v _ S1 e1 r1 h1 => by
    cases d with
    | int i => simp only [VR] at r1; exact ⟨i,r1,h1 μ1 H1 (some i) S1 Ev.refl rfl⟩
    | _ => exact h1.elim⟩
def cutD (xs : List D) (lo hi : Option Int) : List D:=(xs.drop (HT.sIx xs.length 0 lo)).take (HT.sIx xs.length xs.length hi - HT.sIx xs.length 0 lo)
def fSl (x : D) (lo hi : Option Int) (st : Store) : Option (D × Store):=match x with
  | .tup xs => some (.tup (cutD xs lo hi),st)
  | .rol xs => some (.ref st.nxt,st.new (.lst (cutD xs lo hi)))
  | .ref m => (match st.at_ m with
    | some (.lst xs) => some (.ref st.nxt,st.new (.lst (cutD xs lo hi)))
    | _ => none)
  | _ => none
theorem VRs.cut {K : PySem.W.Frag} {μ : Nat → Addr} {N : Nat} {H : Hp} {ds : List D} {vs : List V} (r : VRs K μ N H ds vs) (lo hi : Option Int) : VRs K μ N H (cutD ds lo hi) (cutV vs lo hi):=by
  unfold cutD cutV
  rw [r.length]
  exact (r.drop _).take _
theorem x_sl : SlR X fun x lo hi H Q => ∃ μ st d,SR X.K cl μ st H ∧ VR X.K μ st.nxt H d x ∧ PostO X.K cl (VR X.K) μ st.nxt H Q (fSl d lo hi st):=by
  intro pins s σ H x v vl vu lo hi sl Q I rx hs pl pu ⟨μ,st,d,S,r,h⟩
  unfold fSl at h
  cases d with
  | tup xs =>
    simp only [VR] at r
    obtain ⟨p,vs,rfl,s1,t1⟩:=r
    simp only at h
    refine sl_tupA pins s σ H _ v vl vu lo hi sl Q I rx hs pl pu ⟨p,vs,rfl,s1,fun hw => ?_,fun hw a ha => ?_⟩
    · have e : cutD xs lo hi = xs:=by
        unfold cutD
        rw [t1.length,hw.1,hw.2]
        rw [List.drop_zero]
        exact List.take_of_length_le (by rw [t1.length]; omega)
      rw [e] at h
      exact h μ H _ S Ev.refl (by simp only [VR]; exact ⟨p,vs,rfl,s1,t1⟩)
    · exact h μ _ _ (S.beside ha) (Ev.beside ha) (by simp only [VR]; exact ⟨a,_,rfl,SqT.of upd_same,(t1.cut lo hi).ev (Ev.beside ha)⟩)
  | rol xs =>
    simp only [VR] at r
    obtain ⟨p,vs,rfl,s1,t1⟩:=r
    exact sl_list pins s σ H _ v vl vu lo hi sl Q I rx hs pl pu ⟨p,vs,rfl,s1.sq,fun a ha => h _ _ _ (S.new_lst ha (t1.cut lo hi)) (Ev.new ha) (by simp only [VR]; exact ⟨Nat.lt_succ_self _,by rw [ext_same]⟩)⟩
  | ref m =>
    simp only [VR] at r
    obtain ⟨hm,rfl⟩:=r
    simp only at h
    cases z : st.at_ m with
    | none => rw [z] at h; exact h.elim
    | some c =>
      rw [z] at h
      cases c with
      | lst xs =>
        obtain ⟨vs,g1,t1⟩:=S.get z
        exact sl_list pins s σ H _ v vl vu lo hi sl Q I rx hs pl pu ⟨μ m,vs,rfl,SqL.of g1,fun a ha => h _ _ _ (S.new_lst ha (t1.cut lo hi)) (Ev.new ha) (by simp only [VR]; exact ⟨Nat.lt_succ_self _,by rw [ext_same]⟩)⟩
      | _ => exact h.elim
  | _ => exact h.elim
def mSl (a : ME) (lo hi : MO) : ME:=fun l st => (a l st).bind fun x st1 => (lo l st1).bind fun i st2 => (hi l st2).bind fun j st3 => Res.ofO (fSl x i j st3)
theorem s_sl {W : WX} {e : Expr} {lo hi : Option Expr} {ma : ME} {mi mj : MO} {pos p2 : Pos} (he : SE X cl W e ma) (hl : SO X cl W lo mi) (hh : SO X cl W hi mj) : SE X cl W (.Subscript e (.Slice lo hi none p2) pos) (mSl ma mi mj):=
  s_pe (pe_slice x_sl he hl hh) fun σ H Q ⟨μ,st,l,S,L,h⟩ => ⟨μ,st,l,S,L,Post.bind h fun x st1 μ1 H1 v _ S1 e1 r1 h1 => ⟨μ1,st1,l,S1,L.ev e1,Post.bind h1 fun i st2 μ2 H2 i' _ S2 e2 ri h2 =>
    ⟨μ2,st2,l,S2,L.ev (e1.trans e2),Post.bind h2 fun j st3 μ3 H3 j' _ S3 e3 rj h3 => by
      cases ri
      cases rj
      exact ⟨μ3,st3,x,S3,(r1.ev e2).ev e3,Post.ofO h3⟩⟩⟩⟩
end
end DV
namespace DV
open PySem PySem.Spec PyProof.Rows L2
def fSet (o i v : D) (st : Store) : Option Store:=match o with
  | .ref m => (match st.at_ m with
    | some (.lst xs) => (match i with
      | .int k => (match ixN xs.length k with
        | some j => some (st.put m (.lst (xs.set j v)))
        | none => none)
      | _ => none)
    | some (.dic kvs) => if kvs.length < sizeLine then (match i with
      | .str a => some (st.put m (.dic (dPut kvs (Sum.inr a) v)))
      | .int a => some (st.put m (.dic (dPut kvs (Sum.inl a) v)))
      | _ => none) else none
    | _ => none)
  | _ => none
def rdSet (K : PySem.W.Frag) (cl : CL) : TSet:=fun o i v H Q => ∃ μ st d1 d2 d3 st',SR K cl μ st H ∧ VR K μ st.nxt H d1 o ∧ VR K μ st.nxt H d2 i ∧ VR K μ st.nxt H d3 v ∧ fSet d1 d2 d3 st = some st' ∧ ∀ H',SR K cl μ st' H' → Ev K μ st.nxt H μ st'.nxt H' → Q H'
def msSub (m o i : ME) : MS:=fun l st => (m l st).toS l fun d3 st1 => ((o l st1).toS l fun d1 st2 => (i l st2).toS l fun d2 st3 => match fSet d1 d2 d3 st3 with
  | some st4 => .nx l st4
  | none => .bad)
section
variable {X : Cx} {cl : CL}
theorem x_set (hu : X.A.units + 64 < cLine) : PSet X (rdSet X.K cl):=by
  intro pins s σ H o i v ov iv u Q I ro ri rv ⟨μ,st,d1,d2,d3,st',S,r1,r2,r3,e,h⟩
  unfold fSet at e
  cases d1 with
  | ref m =>
    simp only [VR] at r1
    obtain ⟨hm,rfl⟩:=r1
    simp only at e
    cases z : st.at_ m with
    | none => rw [z] at e; cases e
    | some c =>
      rw [z] at e
      cases c with
      | lst xs =>
        simp only at e
        cases d2 with
        | int k =>
          simp only at e
          simp only [VR] at r2
          subst r2
          obtain ⟨vs,g1,g2⟩:=S.get z
          cases q : ixN xs.length k with
          | none => rw [q] at e; cases e
          | some j =>
            rw [q] at e
            cases e
            have ob : CellOk X.K cl μ st.nxt (upd H (μ m) (.lst (vs.set j v))) (μ m) (.lst (xs.set j d3)):=⟨_,upd_same,(g2.set r3 j).ev0 (Ev0.off g1 trivial)⟩
            obtain ⟨S',e'⟩:=S.put_ (c:=.lst (xs.set j d3)) z trivial hm ob
            exact set_list pins s σ H _ _ v ov iv u Q I ro ri rv ⟨μ m,vs,k,j,rfl,rfl,g1,by rw [← g2.length]; exact q,h _ S' e'⟩
        | _ => cases e
      | dic kvs =>
        simp only at e
        obtain ⟨ps,g1,g2,g3⟩:=S.get z
        have ln : ps.length = kvs.length:=by have:=congrArg List.length g2; simpa using this
        have go : ∀ k : Key,i = kV k → st' = st.put m (.dic (dPut kvs k d3)) → kvs.length < sizeLine → wpAny (model X.prog X.w) X.A (setItem ov iv u) (fun _ s' => ∃ H',Inv X pins σ H' s' ∧ Q H') X.xe s:=by
          intro k ek es hz
          subst es
          cases ro
          obtain ⟨p1,p2⟩:=put_rel (k:=k) r3 g2 g3
          have ob : CellOk X.K cl μ st.nxt (upd H (μ m) (.dK (putK ps k v))) (μ m) (.dic (dPut kvs k d3)):=⟨_,upd_same,p1,p2.ev0 (Ev0.off g1 trivial)⟩
          obtain ⟨S',e'⟩:=S.put_ (c:=.dic (dPut kvs k d3)) z trivial hm ob
          have g : DPut H (μ m) i v (upd H (μ m) (.dK (putK ps k v))):=by rw [ek]; exact DPut.k g1 (by omega)
          exact d_setItem (by omega) I g ri rv fun s4 I4 => ⟨_,I4,h _ S' e'⟩
        by_cases hz : kvs.length < sizeLine
        · rw [if_pos hz] at e
          cases d2 with
          | str a => simp only [VR] at r2; cases e; exact go (Sum.inr a) r2 rfl hz
          | int a => simp only [VR] at r2; cases e; exact go (Sum.inl a) r2 rfl hz
          | _ => cases e
        · rw [if_neg hz] at e; cases e
      | ins c fs => cases e
      | fdc _ => cases e
      | dn _ _ => cases e
  | _ => cases e
theorem ss_sub {W : WX} {o i e : Expr} {m mo mi : ME} {pos' pos : Pos} (hu : X.A.units + 64 < cLine) (he : SE X cl W e m) (ho : SE X cl W o mo) (hi : SE X cl W i mi)
    (ha : ∀ v,assign (.Subscript o i pos') X.env v = (do
      let ov ← holding [v] (eval o X.env)
      let iv ← holding [v,ov] (eval i X.env)
      standAt pos'
      holding [v,ov,iv] (setItem ov iv v)
      release [v,ov,iv] []):=by intro _; rfl)
    (hs : swapsWithSole [.Subscript o i pos'] e pos.line X.env = pure false:=by rfl) (hw : swappedStores [.Subscript o i pos'] e X.env = pure none:=by rfl)
    (h1 : (assignEach [.Subscript o i pos'] X.env).map (·.2) = [assign (.Subscript o i pos') X.env]:=by rfl) : SS X cl W (.Assign [.Subscript o i pos'] e pos) (msSub m mo mi):=
  PS.weak (ps_asg he (pg_sub ho hi (x_set hu) ha) hs hw h1) fun E σ H ⟨μ,st,l,S,L,h⟩ => ⟨μ,st,l,S,L,PostS.bind h L fun d3 st1 μ1 H1 v _ S1 e1 r1 h1 =>
    ⟨μ1,st1,l,S1,L.ev e1,PostS.bind h1 (L.ev e1) fun d1 st2 μ2 H2 w _ S2 e2 r2 h2 => ⟨μ2,st2,l,S2,L.ev (e1.trans e2),PostS.bind h2 (L.ev (e1.trans e2)) fun d2 st3 μ3 H3 z _ S3 e3 r3 h3 => by
      cases q : fSet d1 d2 d3 st3 with
      | none => rw [q] at h3; exact h3.elim
      | some st4 =>
        rw [q] at h3
        exact ⟨μ3,st3,d1,d2,d3,st4,S3,r2.ev e3,r3,(r1.ev e2).ev e3,q,fun H4 S4 e4 => h3 μ3 H4 σ S4 e4 (L.ev (e1.trans (e2.trans (e3.trans e4))))⟩⟩⟩⟩
def tyD (T : String) (x : D) (st : Store) : Bool:=match x with
  | .str _ => T == "str"
  | .ref m => (match st.at_ m with
    | some (.lst _) => T == "list"
    | some (.dic _) => T == "dict"
    | _ => false)
  | _ => false
theorem tyD_ok {K : PySem.W.Frag} {μ : Nat → Addr} {st : Store} {H : Hp} {T : String} {x : D} {v : V} (S : SR K cl μ st H) (r : VR K μ st.nxt H x v) (h : tyD T x st = true) : tyV K T v H:=by
  unfold tyD at h
  cases x with
  | str a =>
    simp only [VR] at r
    subst r
    exact beq_iff_eq.mp h
  | ref m =>
    simp only [VR] at r
    obtain ⟨hm,rfl⟩:=r
    simp only at h
    cases z : st.at_ m with
    | none => rw [z] at h; cases h
    | some c =>
      rw [z] at h
      cases c with
      | lst xs => obtain ⟨vs,g,_⟩:=S.get z; exact .inl ⟨beq_iff_eq.mp h,vs,SqL.of g⟩
      | dic kvs => obtain ⟨ps,g,_⟩:=S.get z; exact .inr (.inr (.inl ⟨beq_iff_eq.mp h,.inl ⟨ps,g⟩⟩))
      | ins c fs => cases h
      | fdc _ => cases h
      | dn _ _ => cases h
  | _ => cases h
def mM (T : String) (f : D → FL) (o : ME) (a : MA) : ME:=fun l st => (o l st).bind fun x st1 => if tyD T x st1 then (a l st1).bind fun xs st2 => Res.ofO (f x xs st2) else .bad
theorem s_bm {W : WX} {o e : Expr} {es : List Expr} {mo : ME} {xs : MA} {name : Str} {apos cpos : Pos} {T id : String} {f : D → FL} (pa : PlainAttrs T) (slot : Slot T name id) (hty : typeOf (.builtin id) = pure (.type "method_descriptor"))
    (hm : MtR X id (rdM X.K cl f)) (ho : SE X cl W o mo) (ha : SA X cl W (e :: es) xs) (hbase : attributeBase o name X.env (eval o X.env) = eval o X.env:=by rfl)
    (hfew : ((backTo cpos (starEach (e :: es) X.env)).all (fun x => !x.1) && (backToKw cpos (keywordEach [] X.env)).all (fun x => x.1.isSome)
      && decide ((e :: es).length + ([] : List Keyword).length + (if ([] : List Keyword).isEmpty then 0 else 1) < 30)) = true:=by rfl)
    (hline : (apos.endLine == cpos.line) = true:=by rfl) (hs : starEach (e :: es) X.env = (false,eval e X.env) :: starEach es X.env:=by rfl) (hplain : (backTo cpos (starEach es X.env)).any (·.1) = false:=by rfl) :
    SE X cl W (.Call (.Attribute o name apos) (e :: es) [] cpos) (mM T f mo xs):=
  s_pe (pe_bm pa slot hty hm ho ha hbase hfew hline hs hplain) fun σ H Q ⟨μ,st,l,S,L,h⟩ => ⟨μ,st,l,S,L,Post.bind h fun x st1 μ1 H1 v _ S1 e1 r1 h1 => by
    by_cases c : tyD T x st1 = true
    · rw [if_pos c] at h1
      exact ⟨tyD_ok S1 r1 c,μ1,st1,l,S1,L.ev e1,Post.bind h1 fun ys st2 μ2 H2 vs _ S2 e2 r2 h2 => ⟨μ2,st2,x,ys,S2,r1.ev e2,r2,Post.ofO h2⟩⟩
    · rw [if_neg c] at h1; exact h1.elim⟩
def fAppend : D → FL:=fun x xs st => match x,xs with
  | .ref m,[y] => (match st.at_ m with
    | some (.lst zs) => if zs.length < sizeLine then some (.non,st.put m (.lst (zs ++ [y]))) else none
    | _ => none)
  | _,_ => none
theorem m_append : MtR X "list.append" (rdM X.K cl fAppend):=by
  intro pins s σ H x xs v us Q I rx rxs ⟨μ,st,d,ds,S,r1,r2,h⟩
  unfold fAppend at h
  cases d with
  | ref m =>
    match ds,r2,h with
    | [y],r2,h =>
      simp only [VR] at r1
      simp only [VRs] at r2
      obtain ⟨hm,rfl⟩:=r1
      obtain ⟨w,_,rfl,ry,rfl⟩:=r2
      simp only at h
      cases z : st.at_ m with
      | none => rw [z] at h; exact h.elim
      | some c =>
        rw [z] at h
        cases c with
        | lst zs =>
          simp only at h
          by_cases hz : zs.length < sizeLine
          · rw [if_pos hz] at h
            obtain ⟨vs,g1,g2⟩:=S.get z
            have ob : CellOk X.K cl μ st.nxt (upd H (μ m) (.lst (vs ++ [w]))) (μ m) (.lst (zs ++ [y])):=⟨_,upd_same,(g2.append (VRs.one ry)).ev0 (Ev0.off g1 trivial)⟩
            obtain ⟨S',e'⟩:=S.put_ (c:=.lst (zs ++ [y])) z trivial hm ob
            exact mt_append pins s σ H _ _ v us Q I rx rxs ⟨μ m,vs,w,rfl,rfl,g1,by rw [← g2.length]; exact hz,h μ _ .non S' e' (by simp only [VR])⟩
          · rw [if_neg hz] at h; exact h.elim
        | _ => exact h.elim
    | [],_,h => exact h.elim
    | _ :: _ :: _,_,h => exact h.elim
  | _ => exact h.elim
theorem s_append {W : WX} {o e : Expr} {mo me : ME} {apos cpos : Pos} (ho : SE X cl W o mo) (he : SE X cl W e me) (hbase : attributeBase o "append" X.env (eval o X.env) = eval o X.env:=by rfl)
    (hfew : ((backTo cpos (starEach [e] X.env)).all (fun x => !x.1) && (backToKw cpos (keywordEach [] X.env)).all (fun x => x.1.isSome)
      && decide (([e] : List Expr).length + ([] : List Keyword).length + (if ([] : List Keyword).isEmpty then 0 else 1) < 30)) = true:=by rfl)
    (hline : (apos.endLine == cpos.line) = true:=by rfl) (hs : starEach [e] X.env = (false,eval e X.env) :: starEach [] X.env:=by rfl) (hplain : (backTo cpos (starEach [] X.env)).any (·.1) = false:=by rfl) :
    SE X cl W (.Call (.Attribute o "append" apos) [e] [] cpos) (mM "list" fAppend mo (maCons me maNil)):=
  s_bm PySem.F.plainAttrs_list PySem.F.slot_list_append PySem.F.type_list_append m_append ho (sa_cons he sa_nil hs) hbase hfew hline hs hplain
def f1 (f : D → Store → Option (D × Store)) : FL:=fun xs st => match xs with
  | [x] => f x st
  | _ => none
theorem c_one {v : Value} {f : D → Store → Option (D × Store)} (h : ∀ (pins : List (Addr × Obj)) (s : Shared) (σ : L2.St) (H : Hp) (x : V) (us : List Value) (Q : VK) (μ : Nat → Addr) (st : Store) (d : D),Inv X pins σ H s → Vals [x] us → SR X.K cl μ st H → VR X.K μ st.nxt H d x →
      PostO X.K cl (VR X.K) μ st.nxt H Q (f d st) → wpAny (model X.prog X.w) X.A (call v us) (EP X pins σ Q) X.xe s) : CallS X cl v (f1 f):=by
  intro pins s σ H xs us Q I r ⟨μ,st,ds,S,rs,q⟩
  match ds,rs,q with
  | [d],rs,q =>
    simp only [VRs] at rs
    obtain ⟨x,_,rfl,rd,rfl⟩:=rs
    exact h pins s σ H x us Q μ st d I r S rd q
  | [],_,q => exact q.elim
  | _ :: _ :: _,_,q => exact q.elim
def lenD (x : D) (st : Store) : Option (D × Store):=match x with
  | .str z => if z.length ≤ sizeLine then some (.int z.length,st) else none
  | .tup xs => some (.int xs.length,st)
  | .rol xs => some (.int xs.length,st)
  | .ref m => (match st.at_ m with
    | some (.lst xs) => some (.int xs.length,st)
    | some (.dic kvs) => some (.int kvs.length,st)
    | _ => none)
  | _ => none
theorem c_len : CallS X cl (.builtin "len") (f1 lenD):=c_one fun pins s σ H x us Q μ st d I r S rd h => by
  unfold lenD at h
  cases d with
  | str z =>
    simp only [VR] at rd
    subst rd
    simp only at h
    by_cases hz : z.length ≤ sizeLine
    · rw [if_pos hz] at h
      exact call_len pins s σ H _ us Q I r ⟨_,z.length,rfl,⟨hz,rfl⟩,h μ H _ S Ev.refl (by simp only [VR])⟩
    · rw [if_neg hz] at h; exact h.elim
  | tup xs =>
    simp only [VR] at rd
    obtain ⟨p,vs,rfl,s1,t1⟩:=rd
    exact call_len pins s σ H _ us Q I r ⟨_,vs.length,rfl,.inr ⟨vs,s1,rfl⟩,h μ H _ S Ev.refl (by simp only [VR]; rw [t1.length])⟩
  | rol xs =>
    simp only [VR] at rd
    obtain ⟨p,vs,rfl,s1,t1⟩:=rd
    exact call_len pins s σ H _ us Q I r ⟨_,vs.length,rfl,.inl ⟨vs,s1.sq,rfl⟩,h μ H _ S Ev.refl (by simp only [VR]; rw [t1.length])⟩
  | ref m =>
    simp only [VR] at rd
    obtain ⟨hm,rfl⟩:=rd
    simp only at h
    cases z : st.at_ m with
    | none => rw [z] at h; exact h.elim
    | some c =>
      rw [z] at h
      cases c with
      | lst xs =>
        obtain ⟨vs,g1,t1⟩:=S.get z
        exact call_len pins s σ H _ us Q I r ⟨_,vs.length,rfl,.inl ⟨vs,SqL.of g1,rfl⟩,h μ H _ S Ev.refl (by simp only [VR]; rw [t1.length])⟩
      | dic kvs =>
        obtain ⟨ps,g1,g2,g3⟩:=S.get z
        have ln : ps.length = kvs.length:=by have:=congrArg List.length g2; simpa using this
        exact call_lenD pins s σ H _ us Q I r ⟨_,ps,rfl,g1,h μ H _ S Ev.refl (by simp only [VR]; rw [ln])⟩
      | ins c fs => exact h.elim
      | fdc _ => exact h.elim
      | dn _ _ => exact h.elim
  | _ => exact h.elim
def absD (x : D) (st : Store) : Option (D × Store):=match x with
  | .int i => some (.int (if i < 0 then -i else i),st)
  | _ => none
theorem c_abs : CallS X cl (.builtin "abs") (f1 absD):=c_one fun pins s σ H x us Q μ st d I r S rd h => by
  unfold absD at h
  cases d with
  | int i =>
    simp only [VR] at rd
    subst rd
    exact call_abs pins s σ H _ us Q I r ⟨i,rfl,h μ H _ S Ev.refl (by simp only [VR])⟩
  | _ => exact h.elim
def intD (x : D) (st : Store) : Option (D × Store):=match x with
  | .int i => some (.int i,st)
  | _ => none
theorem c_int : CallS X cl (.type "int") (f1 intD):=c_one fun pins s σ H x us Q μ st d I r S rd h => by
  unfold intD at h
  cases d with
  | int i =>
    simp only [VR] at rd
    subst rd
    exact call_int1 pins s σ H _ us Q I r (.inl ⟨i,rfl,h μ H _ S Ev.refl (by simp only [VR])⟩)
  | _ => exact h.elim
def tupleD (x : D) (st : Store) : Option (D × Store):=match x with
  | .tup xs => some (.tup xs,st)
  | .ref m => (match st.at_ m with
    | some (.lst xs) => some (.tup xs,st)
    | _ => none)
  | _ => none
theorem c_tuple : CallS X cl (.type "tuple") (f1 tupleD):=c_one fun pins s σ H x us Q μ st d I r S rd h => by
  unfold tupleD at h
  cases d with
  | tup xs =>
    have rd':=rd
    simp only [VR] at rd
    obtain ⟨p,vs,rfl,s1,t1⟩:=rd
    exact call_tuple_of pins s σ H _ us Q I r ⟨p,vs,rfl,.inr ⟨s1,h μ H _ S Ev.refl rd'⟩⟩
  | ref m =>
    simp only [VR] at rd
    obtain ⟨hm,rfl⟩:=rd
    simp only at h
    cases z : st.at_ m with
    | none => rw [z] at h; exact h.elim
    | some c =>
      rw [z] at h
      cases c with
      | lst xs =>
        obtain ⟨vs,g1,t1⟩:=S.get z
        exact call_tuple_of pins s σ H _ us Q I r ⟨_,vs,rfl,.inl ⟨SqL.of g1,fun a ha => h μ _ (.ref a) (S.beside ha) (Ev.beside ha) (by simp only [VR]; exact ⟨a,vs,rfl,SqT.of upd_same,t1.ev (Ev.beside ha)⟩)⟩⟩
      | _ => exact h.elim
  | _ => exact h.elim
def dictD (x : D) (st : Store) : Option (D × Store):=match x with
  | .ref m => (match st.at_ m with
    | some (.dic kvs) => some (.ref st.nxt,st.new (.dic kvs))
    | _ => none)
  | _ => none
def boolsD : List D → Option (List Bool)
  | [] => some []
  | .bl b :: r => (boolsD r).map (b :: ·)
  | _ :: _ => none
theorem bools_rel {K : PySem.W.Frag} {μ : Nat → Addr} {N : Nat} {H : Hp} : ∀ {ds : List D} {vs : List V} {bs : List Bool},VRs K μ N H ds vs → boolsD ds = some bs → vs = bs.map V.bl
  | [],vs,bs,r,h => by
    cases h
    simp only [VRs] at r
    exact r
  | d :: ds,vs,bs,r,h => by
    simp only [VRs] at r
    obtain ⟨v,vr,rfl,r1,r2⟩:=r
    cases d with
    | bl b =>
      simp only [VR] at r1
      subst r1
      simp only [boolsD] at h
      cases q : boolsD ds with
      | none => rw [q] at h; cases h
      | some cs =>
        rw [q] at h
        cases h
        rw [bools_rel r2 q]
        rfl
    | _ => cases h
def allD (all : Bool) (x : D) (st : Store) : Option (D × Store):=match x with
  | .ref m => (match st.at_ m with
    | some (.lst xs) => (boolsD xs).map fun bs => (.bl (if all then bs.all id else bs.any id),st)
    | _ => none)
  | _ => none
theorem c_all (hc : X.calm = true) : CallS X cl (.builtin "all") (f1 (allD true)):=c_one fun pins s σ H x us Q μ st d I r S rd h => by
  unfold allD at h
  cases d with
  | ref m =>
    simp only [VR] at rd
    obtain ⟨hm,rfl⟩:=rd
    simp only at h
    cases z : st.at_ m with
    | none => rw [z] at h; exact h.elim
    | some c =>
      rw [z] at h
      cases c with
      | lst xs =>
        obtain ⟨vs,g1,t1⟩:=S.get z
        simp only at h
        cases q : boolsD xs with
        | none => rw [q] at h; exact h.elim
        | some bs =>
          rw [q] at h
          have e:=bools_rel t1 q
          subst e
          exact cr_all hc pins s σ H _ us Q I r ⟨_,bs,rfl,SqL.of g1,h μ H _ S Ev.refl (by simp only [VR]; rfl)⟩
      | _ => exact h.elim
  | _ => exact h.elim
def f2I (g : Int → Int → Int) : FL:=fun xs st => match xs with
  | [.int i,.int j] => some (.int (g i j),st)
  | _ => none
theorem c_two {v : Value} {g : Int → Int → Int} (h : CallR X v (fun xs H Q => ∃ i j,xs = [.int i,.int j] ∧ Q (.int (g i j)) H)) : CallS X cl v (f2I g):=by
  intro pins s σ H xs us Q I r ⟨μ,st,ds,S,rs,q⟩
  unfold f2I at q
  split at q
  · simp only [VRs,VR] at rs
    obtain ⟨_,_,rfl,rfl,_,_,rfl,rfl,rfl⟩:=rs
    exact h pins s σ H _ us Q I r ⟨_,_,rfl,q μ H _ S Ev.refl (by simp only [VR])⟩
  · exact q.elim
def maxI (i j : Int) : Int:=if j > i then j else i
def minI (i j : Int) : Int:=if j < i then j else i
theorem c_max2 (hc : X.calm = true) : CallS X cl (.builtin "max") (f2I maxI):=c_two (call_max2 hc)
theorem c_min2 (hc : X.calm = true) : CallS X cl (.builtin "min") (f2I minI):=c_two (call_min2 hc)
def reprD (x : D) (st : Store) : Option (D × Store):=match x with
  | .tup _ => (match toData st 20 x with
    | some d => if d.showable = true ∧ d.shown.length ≤ sizeLine then some (.str d.shown,st) else none
    | none => none)
  | .ref _ => (match toData st 20 x with
    | some d => if d.showable = true ∧ d.shown.length ≤ sizeLine then some (.str d.shown,st) else none
    | none => none)
  | .non => some (.str "None",st)
  | .bl b => some (.str (if b then "True" else "False"),st)
  | _ => none
theorem c_reprU (hg : X.A.guards = some []) (hu : X.A.units + 64 < cLine) : CallS X cl (.builtin "repr") (f1 reprD):=c_one fun pins s σ H x us Q μ st d I r S rd h => by
  have go : ∀ {p : Addr},x = .ref p → PostO X.K cl (VR X.K) μ st.nxt H Q (match toData st 20 d with
    | some d => if d.showable = true ∧ d.shown.length ≤ sizeLine then some (.str d.shown,st) else none
    | none => none) → wpAny (model X.prog X.w) X.A (call (.builtin "repr") us) (EP X pins σ Q) X.xe s:=by
    intro p ex h
    cases q : toData st 20 d with
    | none => rw [q] at h; exact h.elim
    | some t =>
      rw [q] at h
      simp only at h
      by_cases c : t.showable = true ∧ t.shown.length ≤ sizeLine
      · rw [if_pos c] at h
        subst ex
        rw [Vals.ref1 r]
        obtain ⟨as,rr⟩:=reads_of I S rd (u:=.ref p) rfl q
        have dp:=toData_depth 20 d t q
        refine repr_of_reads' rr c.1 (PyData.noDict_hsm (PyData.hasDict_of_canLay t (toData_lay 20 d t q))) hg (by omega) (fun b o e => e) (fun h' u tk hk => ?_) c.2
        exact ⟨.str t.shown,H,I.kept hk,⟨u,rfl⟩,h μ H _ S Ev.refl (by simp only [VR])⟩
      · rw [if_neg c] at h; exact h.elim
  unfold reprD at h
  cases d with
  | tup xs =>
    have rd':=rd
    simp only [VR] at rd'
    obtain ⟨p,vs,e,_⟩:=rd'
    exact go e h
  | ref m =>
    have rd':=rd
    simp only [VR] at rd'
    exact go rd'.2 h
  | non =>
    simp only [VR] at rd
    subst rd
    obtain ⟨u,rfl,hu⟩:=vals1 r
    obtain rfl : u = .none:=hu
    exact PySem.P.repr_of_none ⟨.str "None",H,I.tok _,⟨_,rfl⟩,h μ H _ S Ev.refl (by simp only [VR])⟩
  | bl b =>
    simp only [VR] at rd
    subst rd
    obtain ⟨u,rfl,hu⟩:=vals1 r
    obtain rfl : u = .bool b:=hu
    exact PySem.P.repr_of_bool ⟨.str (if b then "True" else "False"),H,I.tok _,⟨_,rfl⟩,h μ H _ S Ev.refl (by simp only [VR])⟩
  | _ => exact h.elim
end
end DV
namespace DV
open PySem PySem.Spec PyProof.Rows L2
section
variable {X : Cx} {cl : CL} {W : WX}
theorem o_ge : OpS X cl (compareOp .GtE) fGe:=by
  intro pins s σ H x y v u Q I rx ry ⟨μ,st,d1,d2,S,r1,r2,h⟩
  unfold fGe at h
  cases d1 with
  | int i =>
    cases d2 with
    | int j =>
      simp only [VR] at r1 r2
      subst r1 r2
      exact op_ge pins s σ H _ _ v u Q I rx ry ⟨i,j,rfl,rfl,h μ H _ S Ev.refl (by simp only [VR])⟩
    | _ => exact h.elim
  | str i =>
    cases d2 with
    | str j =>
      simp only [VR] at r1 r2
      subst r1 r2
      exact op_ge_str pins s σ H _ _ v u Q I rx ry ⟨i,j,rfl,rfl,h μ H _ S Ev.refl (by simp only [VR])⟩
    | _ => exact h.elim
  | _ => exact h.elim
instance (i j : Int) : Decidable (CDivW i j):=by unfold CDivW; infer_instance
def fFdiv : F2:=fI CDivW fun i j => .int (i / j)
theorem o_fdiv : OpS X cl (binaryOp .FloorDiv) fFdiv:=o_I op_fdivW fun _ _ _ _ _ => by simp only [VR]
inductive TyN where
  | b (n : String)
  | o (c : Nat)
def tyN (st : Store) : D → Option TyN
  | .non => some (.b "NoneType")
  | .bl _ => some (.b "bool")
  | .int _ => some (.b "int")
  | .str _ => some (.b "str")
  | .tup _ => some (.b "tuple")
  | .rol _ => some (.b "list")
  | .ref m => (match st.at_ m with
    | some (.lst _) => some (.b "list")
    | some (.dic _) => some (.b "dict")
    | some (.ins c _) => some (.o c)
    | some (.fdc _) => none
    | some (.dn _ _) => none
    | none => none)
  | .cst _ => none
def tyV (cl : CL) : TyN → Value
  | .b n => .type n
  | .o c => .ref (cl c)
structure ClsA (K : PySem.W.Frag) (C : Addr) : Prop where
  cl : Cls K C
  ha : PySem.W.findIn K (.ref C) "__class__" = some (some (.builtin "object.__class__"))
  hn : PySem.W.specialIn K (.builtin "object.__class__") "__get__" = some (some (.builtin "getset_descriptor.__get__"))
  htk : PySem.W.takesIn K (.builtin "object.__class__") = some true
  hm : PySem.W.mroIn K C (.type "object") = some true
theorem tyN_ok {K : PySem.W.Frag} {μ : Nat → Addr} {H : Hp} {st : Store} {d : D} {v : V} {t : TyN} (S : SR K cl μ st H) (r : VR K μ st.nxt H d v) (h : tyN st d = some t) (hc : ∀ c,t = .o c → ClsA K (cl c)) : TyX K H v (tyV cl t):=by
  unfold tyN at h
  cases d with
  | non => cases h; simp only [VR] at r; subst r; exact .base .non
  | bl b => cases h; simp only [VR] at r; subst r; exact .base (.bl b)
  | int b => cases h; simp only [VR] at r; subst r; exact .base (.int b)
  | str b => cases h; simp only [VR] at r; subst r; exact .base (.str b)
  | cst w => cases h
  | tup xs =>
    cases h
    simp only [VR] at r
    obtain ⟨p,vs,rfl,r1,r2⟩:=r
    rcases r1 with (h | ⟨u,h⟩) | ⟨o,its,n,h1,h2,h3,h4,h5⟩
    · exact .base (.tup h)
    · exact .fTuple h
    · exact .kTuple h1 h2
  | rol xs =>
    cases h
    simp only [VR] at r
    obtain ⟨p,vs,rfl,r1,r2⟩:=r
    rcases r1 with ⟨u,h⟩ | ⟨o,its,n,h1,h2,h3,h4,h5,_⟩
    · exact .base (.frz h)
    · exact .kList h1 h2
  | ref m =>
    simp only [VR] at r
    obtain ⟨hm,rfl⟩:=r
    simp only at h
    cases z : st.at_ m with
    | none => rw [z] at h; cases h
    | some c =>
      rw [z] at h
      have g:=S.get z
      cases c with
      | lst xs => cases h; obtain ⟨vs,g1,_⟩:=g; exact .base (.lst g1)
      | dic kvs => cases h; obtain ⟨ps,g1,_⟩:=g; exact .base (.dK g1)
      | ins c fs =>
        cases h
        obtain ⟨dx,ps,g1,_⟩:=g
        have:=hc c rfl
        exact .base (.ins g1 this.cl this.ha this.hn this.htk this.hm)
      | fdc _ => cases h
      | dn _ _ => cases h
def isiD (f : TyN → Option Bool) : D → Store → Option (D × Store):=fun d st => (tyN st d).bind fun t => (f t).map fun b => (.bl b,st)
structure IsiOk (K : PySem.W.Frag) (cl : CL) (u : Value) (f : TyN → Option Bool) : Prop where
  one : ∀ t b,f t = some b → PySem.W.kitOne K (tyV cl t) u = some b
  own : ∀ c b,f (.o c) = some b → ClsA K (cl c)
def fTy (n : String) : TyN → Option Bool
  | .b m => kitB m n
  | .o _ => none
theorem isi_ty {K : PySem.W.Frag} {n : String} : IsiOk K cl (.type n) (fTy n) where
  one:=fun t b h => by
    cases t with
    | b m => exact kit_ty h
    | o c => cases h
  own:=fun c b h => by cases h
def fOwn (c : Nat) (bs : List String) : TyN → Option Bool
  | .b m => if m ∈ bs then some false else none
  | .o c' => if c' = c then some true else none
theorem isi_own {K : PySem.W.Frag} {c : Nat} {bs : List String} (A : ClsA K (cl c)) (hb : ∀ m ∈ bs,PySem.W.kitOne K (.type m) (.ref (cl c)) = some false) (h1 : PySem.W.kitOne K (.ref (cl c)) (.ref (cl c)) = some true) : IsiOk K cl (.ref (cl c)) (fOwn c bs) where
  one:=fun t b h => by
    cases t with
    | b m =>
      unfold fOwn at h
      simp only at h
      by_cases z : m ∈ bs
      · rw [if_pos z] at h; cases h; exact hb m z
      · rw [if_neg z] at h; cases h
    | o c' =>
      unfold fOwn at h
      simp only at h
      by_cases z : c' = c
      · rw [if_pos z] at h; cases h; subst z; exact h1
      · rw [if_neg z] at h; cases h
  own:=fun c' b h => by
    unfold fOwn at h
    simp only at h
    by_cases z : c' = c
    · rw [z]; exact A
    · rw [if_neg z] at h; cases h
structure ClsE (X : Cx) (e : Expr) (v : V) (u : Value) : Prop where
  pe : PE X e (tC v)
  cls : ClsV v u
theorem ce_ty {x : Str} {n : String} {pos : Pos} (hg : Gl X x) (hm : X.mg x = none) (hv : bootBuiltins x = some (.type n)) (hn : x ≠ "__name__":=by decide) (hd : (x == ("__debug__" : Str)) = false:=by decide) : ClsE X (.Name x pos) (.ty n) (.type n):=
  ⟨pe_bltn hg hm hv rfl hn hd,.ty n⟩
theorem ce_own {x : Str} {C : Addr} {pos : Pos} (hg : Gl X x) (hm : X.mg x = some (.ref C)) (hd : (x == ("__debug__" : Str)) = false:=by decide) : ClsE X (.Name x pos) (.ref C) (.ref C):=
  ⟨pe_glob hg hm rfl hd,.own C⟩
def mIsi (f : TyN → Option Bool) (m : ME) : ME:=m1 (isiD f) m
theorem s_isi {e c : Expr} {m : ME} {v : V} {u : Value} {f : TyN → Option Bool} {p pos : Pos} (hf : IsiOk X.K cl u f) (hc : ClsE X c v u) (he : SE X cl W e m) (hg : Gl X "isinstance":=by rfl) (hm : X.mg "isinstance" = none)
    (hv : bootBuiltins "isinstance" = some (.builtin "isinstance"):=by rfl)
    (h1 : starEach (e :: [c]) X.env = (false,eval e X.env) :: starEach [c] X.env:=by rfl) (h2 : starEach (c :: []) X.env = (false,eval c X.env) :: starEach [] X.env:=by rfl) (hpl : (backTo pos (starEach [c] X.env)).any (·.1) = false:=by rfl) :
    SE X cl W (.Call (.Name "isinstance" p) [e,c] [] pos) (mIsi f m):=
  s_pe (pe_callB call_isi hg hm hv (pa_cons he (pa_cons hc.pe pa_nil h2) h1) (by decide) (by decide) h1 hpl) fun σ H Q ⟨μ,st,l,S,L,h⟩ =>
    ⟨μ,st,l,S,L,Post.bind h fun d st1 μ1 H1 x _ S1 e1 r1 h1 => by
      refine ⟨x,v,?_⟩
      unfold isiD at h1
      cases q : tyN st1 d with
      | none => rw [q] at h1; exact h1.elim
      | some t =>
        rw [q] at h1
        simp only [Option.bind] at h1
        cases q2 : f t with
        | none => rw [q2] at h1; exact h1.elim
        | some b =>
          rw [q2] at h1
          exact ⟨tyV cl t,u,b,rfl,hc.cls,tyN_ok S1 r1 q fun c ec => hf.own c b (by rw [← ec]; exact q2),hf.one t b q2,h1 μ1 H1 _ S1 Ev.refl (by simp only [VR])⟩⟩
def mDnew : ME:=fun _ st => .ok (.ref st.nxt) (st.new (.dic []))
def intsFrom : Int → Nat → List D
  | _,0 => []
  | i,n + 1 => .int i :: intsFrom (i + 1) n
theorem intsFrom_get : ∀ (n : Nat) (i : Int) (j : Nat),(intsFrom i n)[j]? = if j < n then some (.int (i + j)) else none
  | 0,i,j => by simp [intsFrom]
  | n + 1,i,0 => by simp [intsFrom]
  | n + 1,i,j + 1 => by
    simp only [intsFrom,List.getElem?_cons_succ]
    rw [intsFrom_get n (i + 1) j]
    by_cases h : j < n
    · rw [if_pos h,if_pos (by omega)]
      congr 2
      omega
    · rw [if_neg h,if_neg (by omega)]
theorem intsFrom_len (n : Nat) : ∀ i,(intsFrom i n).length = n:=by
  induction n with
  | zero => intro i; rfl
  | succ n ih => intro i; simp [intsFrom,ih]
def rng1 : List D → Option Iter
  | [.int j] => if -(2 ^ 62) ≤ j ∧ j < 2 ^ 62 then some ⟨[],intsFrom 0 j.toNat⟩ else none
  | _ => none
def miRng (f : List D → Option Iter) (a : MA) : MI:=fun l st => (a l st).bind fun ds st1 => match f ds with
  | some it => .ok it st1
  | none => .bad
theorem rng_it {K : PySem.W.Frag} {μ : Nat → Addr} {N : Nat} {H : Hp} {i : Int} {n : Nat} : IterR K cl μ N H ⟨[],intsFrom i n⟩ (Itr i n):=fun μ' st' H' S e so => by
  refine ⟨fun j d q => ?_,?_⟩
  · rw [intsFrom_get] at q
    by_cases hj : j < n
    · rw [if_pos hj] at q
      cases q
      refine ⟨hj,fun x H2 y => ?_⟩
      obtain ⟨rfl,rfl⟩:=y
      exact ⟨S,Ev.refl,by simp only [VR]⟩
    · rw [if_neg hj] at q; cases q
  · show n ≤ (intsFrom i n).length
    rw [intsFrom_len]
    exact Nat.le_refl _
theorem rng1_inv {ds : List D} {it : Iter} (h : rng1 ds = some it) : ∃ j,ds = [.int j] ∧ -(2 ^ 62) ≤ j ∧ j < 2 ^ 62 ∧ it = ⟨[],intsFrom 0 j.toNat⟩:=by
  unfold rng1 at h
  split at h
  · rename_i j
    by_cases c : -(2 ^ 62) ≤ j ∧ j < 2 ^ 62
    · rw [if_pos c] at h; exact ⟨j,rfl,c.1,c.2,(Option.some.inj h).symm⟩
    · rw [if_neg c] at h; cases h
  · cases h
theorem i_rng1 {tg a : Expr} {ma : MA} {p pos : Pos} (hm : X.mg "range" = none) (ha : SA X cl W [a] ma) (hg : Gl X "range":=by rfl) (hs : starEach [a] X.env = [(false,eval a X.env)]:=by rfl) : SI X cl W tg (.Call (.Name "range" p) [a] [] pos) (miRng rng1 ma):=
  PI.weak (pi_range1 hg hm ha hs) fun σ H Q ⟨μ,st,l,S,L,h⟩ => ⟨μ,st,l,S,L,Post.bind h fun ds st1 μ1 H1 vs _ S1 e1 r1 h1 => by
    cases hit : rng1 ds with
    | none => rw [hit] at h1; exact h1.elim
    | some it =>
      rw [hit] at h1
      obtain ⟨j,rfl,c1,c2,rfl⟩:=rng1_inv hit
      simp only [VRs,VR] at r1
      obtain ⟨_,_,rfl,rfl,rfl⟩:=r1
      exact ⟨j,rfl,c1,c2,h1 μ1 H1 _ S1 Ev.refl rng_it⟩⟩
def SqA (K : PySem.W.Frag) (H : Hp) (a : Addr) (k : Bool) (vs : List V) : Prop:=if k then SqL K H a vs else SqT K H a vs
def seqOf (d : D) (st : Store) : Option Iter:=match d with
  | .tup xs => some ⟨[],xs⟩
  | .rol xs => some ⟨[],xs⟩
  | .ref m => (match st.at_ m with
    | some (.lst xs) => some ⟨[(m,xs)],xs⟩
    | _ => none)
  | _ => none
theorem seqOf_ok {K : PySem.W.Frag} {μ : Nat → Addr} {st : Store} {H : Hp} {d : D} {v : V} {it : Iter} (S : SR K cl μ st H) (r : VR K μ st.nxt H d v) (h : seqOf d st = some it) :
    ∃ a k,v = .ref a ∧ (∃ vs,SqA K H a k vs) ∧ ∀ μ' st' H',SR K cl μ' st' H' → Ev K μ st.nxt H μ' st'.nxt H' → SrcOk it.srcs st' → ∃ vs,SqA K H' a k vs ∧ VRs K μ' st'.nxt H' it.items vs:=by
  unfold seqOf at h
  cases d with
  | tup xs =>
    cases h
    simp only [VR] at r
    obtain ⟨p,vs,rfl,r1,r2⟩:=r
    exact ⟨p,false,rfl,⟨vs,r1⟩,fun μ' st' H' S' e _ => ⟨vs,e.sq p vs r1,r2.ev e⟩⟩
  | rol xs =>
    cases h
    simp only [VR] at r
    obtain ⟨p,vs,rfl,r1,r2⟩:=r
    exact ⟨p,true,rfl,⟨vs,r1.sq⟩,fun μ' st' H' S' e _ => ⟨vs,(e.rq p vs r1).sq,r2.ev e⟩⟩
  | ref m =>
    simp only [VR] at r
    obtain ⟨hm,rfl⟩:=r
    simp only at h
    cases z : st.at_ m with
    | none => rw [z] at h; cases h
    | some c =>
      rw [z] at h
      cases c with
      | lst xs =>
        cases h
        obtain ⟨vs,g1,g2⟩:=S.get z
        refine ⟨μ m,true,rfl,⟨vs,SqL.of g1⟩,fun μ' st' H' S' e so => ?_⟩
        have q:=so (m,xs) (by simp)
        obtain ⟨ws,f1,f2⟩:=S'.get q
        refine ⟨ws,?_,f2⟩
        rw [e.mu m hm] at f1
        exact SqL.of f1
      | _ => cases h
  | _ => cases h
def Its (K : PySem.W.Frag) (k : Bool) (a : Addr) : It:=if k then Itl K a else Itt K a
theorem its_it {K : PySem.W.Frag} {μ : Nat → Addr} {st : Store} {H : Hp} {it : Iter} {a : Addr} {k : Bool}
    (hh : ∀ μ' st' H',SR K cl μ' st' H' → Ev K μ st.nxt H μ' st'.nxt H' → SrcOk it.srcs st' → ∃ vs,SqA K H' a k vs ∧ VRs K μ' st'.nxt H' it.items vs) : IterR K cl μ st.nxt H it (Its K k a):=fun μ' st' H' S e so => by
  obtain ⟨vs,q1,q2⟩:=hh μ' st' H' S e so
  have ln:=q2.length
  cases k with
  | true =>
    refine ⟨fun j d q => ?_,?_⟩
    · obtain ⟨v,h1,h2⟩:=q2.get q
      refine ⟨⟨vs,v,q1,h1⟩,fun x H2 y => ?_⟩
      obtain ⟨rfl,y⟩:=y
      have:=y vs q1
      rw [h1] at this
      cases this
      exact ⟨S,Ev.refl,h2⟩
    · exact ⟨vs,q1,by omega⟩
  | false =>
    refine ⟨fun j d q => ?_,?_⟩
    · obtain ⟨v,h1,h2⟩:=q2.get q
      refine ⟨⟨vs,v,q1,h1⟩,fun x H2 y => ?_⟩
      obtain ⟨rfl,y⟩:=y
      have:=y vs q1
      rw [h1] at this
      cases this
      exact ⟨S,Ev.refl,h2⟩
    · exact ⟨vs,q1,by omega⟩
def miSeq (m : ME) : MI:=fun l st => (m l st).bind fun d st1 => match seqOf d st1 with
  | some it => .ok it st1
  | none => .bad
theorem i_seq {tg e : Expr} {m : ME} (he : SE X cl W e m) : SI X cl W tg e (miSeq m):=by
  refine ⟨fun pins s σ H R I ⟨μ,st,l,S,L,h⟩ => ?_⟩
  have w : rdE X.K cl W m σ H (fun x H1 => ∃ a k,x = .ref a ∧ (∃ vs,SqA X.K H1 a k vs) ∧ R (Its X.K k a) H1):=⟨μ,st,l,S,L,Post.bind h fun d st1 μ1 H1 v _ S1 e1 r1 h1 => by
    cases q : seqOf d st1 with
    | none => rw [q] at h1; exact h1.elim
    | some it =>
      rw [q] at h1
      obtain ⟨a,k,ev,z,hh⟩:=seqOf_ok S1 r1 q
      exact ⟨a,k,ev,z,h1 μ1 H1 _ S1 Ev.refl (its_it hh)⟩⟩
  refine thn (he.run pins s σ H _ I w) fun v s1 ⟨x,H1,I1,r1,q1⟩ => ?_
  obtain ⟨a,k,e,⟨xs,hq⟩,q⟩:=q1
  subst e
  cases r1
  have fr : ∀ b ∈ [s1.heap.objs.size],FpOk X pins H1 b:=fun b hb => by
    have e : b = s1.heap.objs.size:=by simpa using hb
    rw [e]
    exact I1.fpOk (Nat.le_refl _) (I1.hok.fresh (Nat.le_refl _))
  cases k with
  | true =>
    obtain ⟨its,rv,p,hz⟩:=I1.list hq
    exact wpAny_pyIter_list p.isList ⟨s1.heap.objs.size,[s1.heap.objs.size],_,_,H1,rfl,I1.kept (t':=s1.toks) fun b o e => Heap.get?_push_of_some _ e,turn_list a _,⟨_,Heap.get?_push_size _ rfl,rfl,rfl⟩,fr,q⟩
  | false =>
    obtain ⟨its,rv,p,hz⟩:=I1.tuple hq
    exact wpAny_pyIter_tuple (show s1.heap.IsTuple a its.toArray from p) ⟨s1.heap.objs.size,[s1.heap.objs.size],_,_,H1,rfl,I1.kept (t':=s1.toks) fun b o e => Heap.get?_push_of_some _ e,turn_tuple a _,⟨_,Heap.get?_push_size _ rfl,rfl,rfl⟩,fr,q⟩
end
end DV
namespace DV
open PySem PySem.Spec PyProof.Rows L2
def SeqIt (h : Heap) (it a : Addr) (k : Bool) (i : Nat) : Prop:=if k then h.IsListIter it a i else h.IsTupleIter it a i
def SeqAt (h : Heap) (a : Addr) (k : Bool) (items : Array Value) : Prop:=if k then h.IsList a items else h.IsTuple a items
def seqItO (a : Addr) (k : Bool) : Obj:=if k then { cls:=.type "list_iterator",data:=.fields #[.ref a,.int 0 0] } else { cls:=.type "tuple_iterator",data:=.fields #[.ref a,.int 0 0] }
theorem seqDraws {prog : Program} {w : World} {A : Around} (hh : A.handled = none) (it a : Addr) (hne : a ≠ it) (k : Bool) (items : Array Value) :
    Draws prog w A it [it,a] items.size (fun i v => items[i]? = some v) (fun i h => SeqIt h it a k i ∧ SeqAt h a k items):=by
  cases k with
  | true => exact Draws.list hh it a hne items
  | false => exact Draws.tuple hh it a hne items
theorem seqBegins (a : Addr) (k : Bool) (items : Array Value) : Begins (.ref a) (seqItO a k) (fun h => SeqAt h a k items):=by
  cases k with
  | true => exact begins_list a items
  | false => exact begins_tuple a items
theorem SeqIt.new {h : Heap} {it a : Addr} {k : Bool} (e : h.get? it = some (seqItO a k)) : SeqIt h it a k 0:=by
  cases k with
  | true => exact ⟨_,e,rfl,rfl⟩
  | false => exact ⟨_,e,rfl,rfl⟩
theorem SeqIt.moved {h h' : Heap} {it a : Addr} {k : Bool} {i : Nat} (s : SeqIt h it a k i) (hk : ∀ o,h.get? it = some o → h'.get? it = some o) : SeqIt h' it a k i:=by
  cases k with
  | true => exact Heap.IsListIter.at s hk
  | false => exact Heap.IsTupleIter.at s hk
theorem SeqIt.ob {h : Heap} {it a : Addr} {k : Bool} {i : Nat} (s : SeqIt h it a k i) : ∃ o vs,h.get? it = some o ∧ o.data = .fields vs:=by
  cases k with
  | true => obtain ⟨o,e,_,d⟩:=s; exact ⟨o,_,e,d⟩
  | false => obtain ⟨o,e,_,d⟩:=s; exact ⟨o,_,e,d⟩
section
variable {X : Cx} {pins : List (Addr × Obj)} {σ : L2.St} {H : Hp} {s : Shared}
theorem seq_at {a : Addr} {k : Bool} {vs : List V} (I : Inv X pins σ H s) (h : SqA X.K H a k vs) : ∃ its : List Value,Vals vs its ∧ SeqAt s.heap a k its.toArray ∧ a < s.heap.objs.size:=by
  cases k with
  | true => obtain ⟨its,rv,p,_⟩:=I.list h; exact ⟨its,rv,p.isList,p.lt⟩
  | false => obtain ⟨its,rv,p,_⟩:=I.tuple h; exact ⟨its,rv,p,p.lt⟩
theorem seq_inj {a : Addr} {k : Bool} {vs ws : List V} (I : Inv X pins σ H s) (h : SqA X.K H a k vs) (h' : SqA X.K H a k ws) : vs = ws:=by
  cases k with
  | true => exact I.list_inj h h'
  | false => exact I.tuple_inj h h'
end
def ItEn (K : PySem.W.Frag) (k : Bool) (a : Addr) : It where
  go:=fun i H => ∃ (vs : List V) (v : V),SqA K H a k vs ∧ vs[i]? = some v
  yld:=fun i H v H' => ∃ T x,v = .ref T ∧ H T = none ∧ H' = upd H T (.tup [.int (i : Nat),x]) ∧ ∀ vs,SqA K H a k vs → vs[i]? = some x
  stop:=fun i H => ∃ vs : List V,SqA K H a k vs ∧ vs.length = i
theorem turn_en {P : Program} {w : World} {K : PySem.W.Frag} {elts : List Expr} {kk : Nat} {tpos : Pos} (k : Bool) (a e it : Addr) :
    Turn P w K (.Tuple elts kk tpos) (ItEn K k a) [e,it] e (fun i h => (∃ old,IsEnum h e it ((i : Nat) : Int) old) ∧ SeqIt h it a k i ∧ e ≠ it ∧ a ≠ it ∧ e ≠ a) where
  mem:=by simp
  obj:=fun i h st b hb => by
    obtain ⟨⟨old,he⟩,hi,_⟩:=st
    obtain ⟨o,fs,e1,e2⟩:=hi.ob
    have z : b = e ∨ b = it:=by simpa using hb
    rcases z with z | z
    · rw [z]; exact ⟨_,he,fun v q => nomatch q⟩
    · rw [z]; exact ⟨o,e1,fun v q => by rw [e2] at q; cases q⟩
  keep:=fun i h h' st kp => by
    obtain ⟨⟨old,he⟩,hi,r⟩:=st
    exact ⟨⟨old,kp e (by simp) _ he⟩,hi.moved fun o q => kp it (by simp) o q,r⟩
  item:=by
    intro X hP hw hK hc i pins s σ H E I hf st hg
    subst hP hw hK
    obtain ⟨⟨old,he⟩,hit,hne,hai,hea⟩:=st
    obtain ⟨vs,x,hq,hx⟩:=hg
    obtain ⟨its,rv,p,_⟩:=seq_at I hq
    obtain ⟨u,hu,ru⟩:=rv.get hx
    have lt1 : e < s.heap.objs.size:=Heap.lt_size he
    have lt2 : it < s.heap.objs.size:=by
      obtain ⟨o,fs,e1,_⟩:=hit.ob
      exact Heap.lt_size e1
    have hil : i < its.toArray.size:=by
      have:=(List.getElem?_eq_some_iff.mp hu).1
      simpa using this
    refine wpAny_pyNext_enum_itemC (seqDraws (A:=X.A.in1) (I.ok.hd hc) it a hai k its.toArray) he ⟨hit,p⟩ hil hne (by simp [hne,hea]) fun y h1 tk hy ho hst hT hsz hk => ?_
    have ey : y = u:=by
      have : its.toArray[i]? = some u:=by simpa using hu
      rw [this] at hy
      exact (Option.some.inj hy).symm
    subst ey
    refine ⟨_,rfl,wpAny_letOwnedTupleGo_enum (s:={ s with heap:=h1,toks:=tk + 1 }) ho fun h2 he2 sb => ?_⟩
    have hT2 : h2.get? s.heap.objs.size = some { cls:=.type "tuple",data:=.seq #[.int i tk,y] }:=(sb.2 _ (Nat.ne_of_gt lt1)).trans hT
    have nw : ObjOk X.prog X.w (upd H s.heap.objs.size (.tup [.int (i : Nat),x])) h2 s.heap.objs.size (.tup [.int (i : Nat),x]):=⟨by show 2 ≤ sizeLine; decide,[.int i tk,y],.cons ⟨_,rfl⟩ (.cons ru .nil),⟨_,hT2,rfl,_,rfl⟩⟩
    have J : Inv X pins σ (upd H s.heap.objs.size (.tup [.int (i : Nat),x])) { s with heap:=h2,toks:=tk + 1 }:=
      I.turnedNew (ch:=[e,it]) (fun b ob hb q => (sb.2 b (fun z => hb (by simp [z]))).trans (hk b ob (fun z => hb (by simp [z])) (fun z => hb (by simp [z])) q)) hf (Nat.le_refl _) nw
    refine ⟨.ref s.heap.objs.size,_,J,rfl,⟨_,x,rfl,I.hok.fresh (Nat.le_refl _),rfl,fun ws hw => ?_⟩,⟨⟨y,?_⟩,hst.1.moved fun o q => (sb.2 it (Ne.symm hne)).trans q,hne,hai,hea⟩,fun b hb => ?_⟩
    · rw [seq_inj I hw hq]; exact hx
    · have e1 : ((i + 1 : Nat) : Int) = (i : Int) + 1:=by omega
      rw [e1]
      exact he2
    · have z : b = e ∨ b = it:=by simpa using hb
      have lt : b < s.heap.objs.size:=by rcases z with z | z <;> rw [z] <;> assumption
      rw [upd_ne (Nat.ne_of_lt lt)]
      exact (hf b hb).1
  done:=by
    intro X hP hw hK hc i pins s σ H E I hf st hg
    subst hP hw hK
    obtain ⟨⟨old,he⟩,hit,hne,hai,hea⟩:=st
    obtain ⟨vs,hq,hx⟩:=hg
    obtain ⟨its,rv,p,_⟩:=seq_at I hq
    obtain ⟨f0,f1,f2,f3,f4,f5⟩:=hf it (by simp)
    have ln:=rv.length
    have ez : its.toArray.size = i:=by simp; omega
    refine wpAny_pyNext_enum_endD (seqDraws (A:=X.A.in1) (I.ok.hd hc) it a hai k its.toArray) he ⟨by rw [ez]; exact hit,p⟩ fun h1 eb => ⟨rfl,I.turned (t':=s.toks) (fun b o hb q => eb b o hb q) f0 f1 f3 f4 f5⟩
  self:=fun A i s Q E st h => by
    obtain ⟨⟨_,he⟩,_⟩:=st
    exact wpAny_pyIter_enum he h
set_option maxHeartbeats 8000000 in
theorem meets_enum1 {v : Value} {o : Obj} {G : Heap → Prop} (B : Begins v o G) :
    Meets (Builtin.«enumerate.__new__» ⟨[.type "enumerate",v],[]⟩) (fun _ R s => G s.heap ∧ R (.ok (.ret (.ref (s.heap.push o).objs.size))) { s with heap:=(s.heap.push o).push { cls:=.type "enumerate",data:=.fields #[.none,.bool false,.ref s.heap.objs.size,rawInt 0,.none,.none] } }):=
  .of_wp fun prog w A R s hh => by
    obtain ⟨hp,g,d,tk,os⟩:=s
    obtain ⟨hG,h⟩:=hh
    have hsub:=sub_enumerate
    have start : ∀ {A' : Around} {E : Value → Shared → Prop} {Q : Value → Shared → Prop},Q (.ref hp.objs.size) ⟨hp.push o,g,d,tk,os⟩ → wpAny (model prog w) A' (pyIter v) Q E ⟨hp,g,d,tk,os⟩:=
      fun z => B.iter prog w _ _ ⟨hp,g,d,tk,os⟩ _ hG z
    wp_walk using start
    refine wpAny_stack_any fun st => wpAny_pure ?_
    split
    · rename_i c _ _ _ _ _
      cases (c == Value.type "enumerate") <;> (wp_walk using start; exact ⟨_,rfl,h⟩)
    · wp_walk using start
      exact ⟨_,rfl,h⟩
theorem enum_start {prog : Program} {w : World} {A : Around} {E : Value → Shared → Prop} {s : Shared} {v : Value} {o : Obj} {G : Heap → Prop} {Q : Value → Shared → Prop} (B : Begins v o G) (h1 : G s.heap)
    (h : ∀ h',IsEnum h' (s.heap.objs.size + 1) s.heap.objs.size 0 .none → h'.get? s.heap.objs.size = some o → (∀ b u,s.heap.get? b = some u → h'.get? b = some u) → Q (.ref (s.heap.objs.size + 1)) { s with heap:=h' }) :
    wpAny (model prog w) A (call (.type "enumerate") [v]) Q E s:=by
  refine callType_new F.called_enumerate (by decide) (F.typeCall_enumerate_1 _) (F.newCall_enumerate_1 _) (fun obj => F.args_object_init_2 obj _) F.entry_enumerate_new (meets_enum1 B) ⟨h1,?_⟩
  have hz : (s.heap.push o).objs.size = s.heap.objs.size + 1:=Heap.size_push ..
  have he : IsEnum ((s.heap.push o).push { cls:=.type "enumerate",data:=.fields #[.none,.bool false,.ref s.heap.objs.size,rawInt 0,.none,.none] }) (s.heap.objs.size + 1) s.heap.objs.size 0 .none:=by
    have q:=Heap.get?_push_size (s.heap.push o) (o:={ cls:=.type "enumerate",data:=.fields #[.none,.bool false,.ref s.heap.objs.size,rawInt 0,.none,.none] }) rfl
    rw [hz] at q
    exact q
  show _ ∧ _
  rw [hz]
  exact ⟨⟨_,he,rfl⟩,h _ he (Heap.get?_push_of_some _ (Heap.get?_push_size _ B.free)) fun b u x => Heap.get?_push_of_some _ (Heap.get?_push_of_some _ x)⟩
def enumFrom : Nat → List D → List D
  | _,[] => []
  | i,d :: ds => .tup [.int (i : Nat),d] :: enumFrom (i + 1) ds
theorem enumFrom_len : ∀ (ds : List D) (i : Nat),(enumFrom i ds).length = ds.length
  | [],_ => rfl
  | d :: ds,i => by simp [enumFrom,enumFrom_len ds]
theorem enumFrom_get : ∀ (ds : List D) (i j : Nat) (x : D),(enumFrom i ds)[j]? = some x → ∃ d,ds[j]? = some d ∧ x = .tup [.int ((i + j : Nat) : Int),d]
  | [],_,_,_,h => by simp [enumFrom] at h
  | d :: ds,i,0,x,h => by
    simp [enumFrom] at h
    exact ⟨d,rfl,h.symm⟩
  | d :: ds,i,j + 1,x,h => by
    simp only [enumFrom,List.getElem?_cons_succ] at h
    obtain ⟨e,h1,h2⟩:=enumFrom_get ds (i + 1) j x h
    refine ⟨e,by simpa using h1,?_⟩
    rw [h2]
    have : i + 1 + j = i + (j + 1):=by omega
    rw [this]
def enumOf (xs : List D) (st : Store) : Option Iter:=match xs with
  | [d] => (seqOf d st).map fun it => ⟨it.srcs,enumFrom 0 it.items⟩
  | _ => none
def miOf (f : List D → Store → Option Iter) (a : MA) : MI:=fun l st => (a l st).bind fun ds st1 => match f ds st1 with
  | some it => .ok it st1
  | none => .bad
section
variable {X : Cx} {cl : CL} {W : WX}
theorem pair_new {K : PySem.W.Frag} {μ : Nat → Addr} {st : Store} {H : Hp} {T : Addr} {d e : D} {x y : V} (S : SR K cl μ st H) (hT : H T = none) (hd : VR K μ st.nxt H d x) (he : VR K μ st.nxt H e y) :
    SR K cl μ st (upd H T (.tup [x,y])) ∧ Ev K μ st.nxt H μ st.nxt (upd H T (.tup [x,y])) ∧ VR K μ st.nxt (upd H T (.tup [x,y])) (.tup [d,e]) (.ref T):=by
  refine ⟨S.beside hT,Ev.beside hT,?_⟩
  simp only [VR]
  exact ⟨T,[x,y],rfl,SqT.of upd_same,(VRs.two hd he).ev (Ev.beside hT)⟩
theorem en_it {K : PySem.W.Frag} {μ : Nat → Addr} {st : Store} {H : Hp} {it : Iter} {a : Addr} {k : Bool}
    (hh : ∀ μ' st' H',SR K cl μ' st' H' → Ev K μ st.nxt H μ' st'.nxt H' → SrcOk it.srcs st' → ∃ vs,SqA K H' a k vs ∧ VRs K μ' st'.nxt H' it.items vs) : IterR K cl μ st.nxt H ⟨it.srcs,enumFrom 0 it.items⟩ (ItEn K k a):=fun μ' st' H' S e so => by
  obtain ⟨vs,q1,q2⟩:=hh μ' st' H' S e so
  have ln:=q2.length
  refine ⟨fun j d q => ?_,?_⟩
  · obtain ⟨b,q3,rfl⟩:=enumFrom_get _ _ _ _ q
    obtain ⟨v,h1,h2⟩:=q2.get q3
    refine ⟨⟨vs,v,q1,h1⟩,fun x H2 y => ?_⟩
    obtain ⟨T,z,rfl,hT,rfl,hz⟩:=y
    have:=hz vs q1
    rw [h1] at this
    cases this
    obtain ⟨a1,a2,a3⟩:=pair_new (d:=.int ((0 + j : Nat) : Int)) (x:=.int (j : Nat)) S hT (by simp only [VR]; simp) h2
    exact ⟨a1,a2,a3⟩
  · refine ⟨vs,q1,?_⟩
    show vs.length = (enumFrom 0 it.items).length
    rw [enumFrom_len]
    exact ln.symm
theorem i_enum {elts : List Expr} {kk : Nat} {tpos : Pos} {e : Expr} {ma : MA} {p pos : Pos} (hm : X.mg "enumerate" = none) (ha : SA X cl W [e] ma) (hg : Gl X "enumerate":=by rfl) (hs : starEach [e] X.env = [(false,eval e X.env)]:=by rfl) :
    SI X cl W (.Tuple elts kk tpos) (.Call (.Name "enumerate" p) [e] [] pos) (miOf enumOf ma):=by
  refine ⟨fun pins s σ H R I ⟨μ,st,l,S,L,h⟩ => ?_⟩
  have w : rdA X.K cl W ma σ H (fun xs H1 => ∃ a k vs,xs = [.ref a] ∧ SqA X.K H1 a k vs ∧ R (ItEn X.K k a) H1):=⟨μ,st,l,S,L,Post.bind h fun ds st1 μ1 H1 vs _ S1 e1 r1 h1 => by
    cases q : enumOf ds st1 with
    | none => rw [q] at h1; exact h1.elim
    | some it =>
      rw [q] at h1
      match ds,r1,q with
      | [d],r1,q =>
        simp only [VRs] at r1
        obtain ⟨v,_,rfl,rd,rfl⟩:=r1
        unfold enumOf at q
        simp only at q
        cases z : seqOf d st1 with
        | none => rw [z] at q; cases q
        | some it0 =>
          rw [z] at q
          cases q
          obtain ⟨a,k,rfl,⟨ws,hw⟩,hh⟩:=seqOf_ok S1 rd z
          exact ⟨a,k,ws,rfl,hw,h1 μ1 H1 _ S1 Ev.refl (en_it hh)⟩
      | [],_,q => cases q
      | _ :: _ :: _,_,q => cases q⟩
  refine Call_ (ld_blt I hg hm boot_enumerate (PyProof.Rows.callWith_type1 (thn (ha.run pos pins s σ H _ I w) fun us s1 ⟨xs,H1,I1,r1,a,k,vs,ex,hq,q⟩ => ?_) hs rfl))
  subst ex
  rw [Vals.ref1 r1]
  obtain ⟨its,rv,p',la⟩:=seq_at I1 hq
  refine enum_start (seqBegins a k its.toArray) p' fun h' he hit hk => wpAny_pyIter_enum he ?_
  have I2 : Inv X pins σ H1 { s1 with heap:=h' }:=I1.kept (t':=s1.toks) hk
  refine ⟨s1.heap.objs.size + 1,[s1.heap.objs.size + 1,s1.heap.objs.size],_,_,H1,rfl,I2,turn_en k a (s1.heap.objs.size + 1) s1.heap.objs.size,⟨⟨.none,he⟩,SeqIt.new hit,Nat.succ_ne_self _,Nat.ne_of_lt la,Nat.ne_of_gt (Nat.lt_succ_of_lt la)⟩,fun b hb => ?_,q⟩
  have z : b = s1.heap.objs.size + 1 ∨ b = s1.heap.objs.size:=by simpa using hb
  have le : s1.heap.objs.size ≤ b:=by rcases z with z | z <;> rw [z] <;> first | exact Nat.le_succ _ | exact Nat.le_refl _
  exact I1.fpOk le (I1.hok.fresh le)
end
section
variable {X : Cx} {cl : CL} {W : WX}
def signsOf (x : Str) : List D:=x.cps.toList.map fun c => .str ⟨#[c]⟩
def miStr (m : ME) : MI:=fun l st => (m l st).bind fun d st1 => match d with
  | .str x => .ok ⟨[],signsOf x⟩ st1
  | _ => .bad
theorem i_str {tg e : Expr} {m : ME} (he : SE X cl W e m) : SI X cl W tg e (miStr m):=PI.weak (pi_str he) fun σ H Q ⟨μ,st,l,S,L,h⟩ => ⟨μ,st,l,S,L,Post.bind h fun d st1 μ1 H1 v _ S1 e1 r1 h1 => by
  cases d with
  | str x =>
    simp only [VR] at r1
    subst r1
    refine ⟨x,rfl,h1 μ1 H1 _ S1 Ev.refl fun μ' st' H' S' e so => ⟨fun j d q => ?_,?_⟩⟩
    · simp only [signsOf,List.getElem?_map,Option.map_eq_some_iff] at q
      obtain ⟨c,hc,rfl⟩:=q
      have hc' : x.cps[j]? = some c:=by simpa using hc
      have hj : j < x.cps.size:=(Array.getElem?_eq_some_iff.mp hc').1
      refine ⟨hj,fun y H2 z => ?_⟩
      obtain ⟨rfl,c',hc2,rfl⟩:=z
      rw [hc'] at hc2
      cases hc2
      exact ⟨S',Ev.refl,by simp only [VR]⟩
    · show x.cps.size ≤ (signsOf x).length
      simp [signsOf]
  | _ => exact h1.elim⟩
end
end DV
namespace DV
open PySem PySem.Spec PyProof.Rows L2
section
variable {prog : Program} {w : World} {A : Around} {E : Value → Shared → Prop} {s : Shared}
end
end DV
namespace DV
open PySem PySem.Spec PyProof.Rows L2
section
variable {prog : Program} {w : World} {A : Around} {E : Value → Shared → Prop} {s : Shared}
variable {R : Result → Shared → Prop} {I : Addr} {fp wr : List Addr} {G : Array GenState → Array GenState → Prop} {n : Nat} {P : Nat → Value → Prop} {St : Nat → Shared → Prop}
end
section
variable {prog : Program} {w : World} {A : Around} {E : Value → Shared → Prop} {s : Shared}
set_option maxHeartbeats 16000000 in
end
theorem vals_at : ∀ {vs : List V} {us : List Value} (i : Nat) (u : Value),Vals vs us → us[i]? = some u → ∃ v,vs[i]? = some v ∧ RelV v u
  | [],_,i,u,.nil,h => by simp at h
  | v :: vs,_,0,u,.cons r t,h => by
    simp at h
    subst h
    exact ⟨v,rfl,r⟩
  | v :: vs,_,i + 1,u,.cons r t,h => by
    obtain ⟨x,h1,h2⟩:=vals_at i u t (by simpa using h)
    exact ⟨x,by simpa using h1,h2⟩
section
variable {X : Cx} {cl : CL} {W : WX}
end
end DV
namespace DV
open PySem PySem.Spec PyProof.Rows L2
inductive Src where
  | p (i : Nat)
  | k (i : Nat)
  | d (i : Nat)
def Src.of {α : Type} (ps ks ds : List α) : Src → Option α
  | .p i => ps[i]?
  | .k i => ks[i]?
  | .d i => ds[i]?
def arr {α : Type} : List Src → List α → List α → List α → List α
  | [],_,_,_ => []
  | x :: r,ps,ks,ds => match x.of ps ks ds with
    | some a => a :: arr r ps ks ds
    | none => arr r ps ks ds
theorem vals_gets {vs : List V} {us : List Value} (h : Vals vs us) (i : Nat) : (∃ v u,vs[i]? = some v ∧ us[i]? = some u ∧ RelV v u) ∨ (vs[i]? = none ∧ us[i]? = none):=by
  have ln:=h.length
  cases q : us[i]? with
  | some u =>
    obtain ⟨v,h1,h2⟩:=vals_at i u h q
    exact .inl ⟨v,u,h1,rfl,h2⟩
  | none =>
    refine .inr ⟨?_,rfl⟩
    rw [List.getElem?_eq_none_iff] at q ⊢
    omega
theorem vrs_gets {K : PySem.W.Frag} {μ : Nat → Addr} {N : Nat} {H : Hp} {ds : List D} {vs : List V} (h : VRs K μ N H ds vs) (i : Nat) : (∃ d v,ds[i]? = some d ∧ vs[i]? = some v ∧ VR K μ N H d v) ∨ (ds[i]? = none ∧ vs[i]? = none):=by
  have ln:=h.length
  cases q : ds[i]? with
  | some d =>
    obtain ⟨v,h1,h2⟩:=h.get q
    exact .inl ⟨d,v,rfl,h1,h2⟩
  | none =>
    refine .inr ⟨rfl,?_⟩
    rw [List.getElem?_eq_none_iff] at q ⊢
    omega
theorem Vals.arr : ∀ (ix : List Src) {vs zs ms : List V} {us ws mv : List Value},Vals vs us → Vals zs ws → Vals ms mv → Vals (arr ix vs zs ms) (arr ix us ws mv)
  | [],_,_,_,_,_,_,_,_,_ => .nil
  | x :: r,vs,zs,ms,us,ws,mv,h1,h2,h3 => by
    have ih:=Vals.arr r h1 h2 h3
    have go : (∃ v u,x.of vs zs ms = some v ∧ x.of us ws mv = some u ∧ RelV v u) ∨ (x.of vs zs ms = none ∧ x.of us ws mv = none):=by
      cases x with
      | p i => exact vals_gets h1 i
      | k i => exact vals_gets h2 i
      | d i => exact vals_gets h3 i
    unfold DV.arr
    rcases go with ⟨v,u,e1,e2,r1⟩ | ⟨e1,e2⟩
    · rw [e1,e2]; exact .cons r1 ih
    · rw [e1,e2]; exact ih
theorem VRs.arr {K : PySem.W.Frag} {μ : Nat → Addr} {N : Nat} {H : Hp} : ∀ (ix : List Src) {ds es ms : List D} {vs zs mv : List V},VRs K μ N H ds vs → VRs K μ N H es zs → VRs K μ N H ms mv → VRs K μ N H (arr ix ds es ms) (arr ix vs zs mv)
  | [],_,_,_,_,_,_,_,_,_ => by simp only [DV.arr,VRs]
  | x :: r,ds,es,ms,vs,zs,mv,h1,h2,h3 => by
    have ih:=VRs.arr r h1 h2 h3
    have go : (∃ d v,x.of ds es ms = some d ∧ x.of vs zs mv = some v ∧ VR K μ N H d v) ∨ (x.of ds es ms = none ∧ x.of vs zs mv = none):=by
      cases x with
      | p i => exact vrs_gets h1 i
      | k i => exact vrs_gets h2 i
      | d i => exact vrs_gets h3 i
    unfold DV.arr
    rcases go with ⟨d,v,e1,e2,r1⟩ | ⟨e1,e2⟩
    · rw [e1,e2]; simp only [VRs]; exact ⟨v,_,rfl,r1,ih⟩
    · rw [e1,e2]; exact ih
def KB (K : PySem.W.Frag) (fd : FuncData) (ps : List Str) (n : Nat) (ks : List Str) (ix : List Src) (dvs : List V) : Prop:=∃ dv : List Value,KBn K fd ps n ks (fun us ws => arr ix us ws dv) (fun vs zs => arr ix vs zs dvs)
theorem kb_plain {K : PySem.W.Frag} {x qual : Str} {st : Stmt} {f : Addr} {fd : FuncData} {ps : List Str} (F : Fun K x qual st f fd) (n : Nat) (ks : List Str) (ix : List Src)
    (h : ∀ (kV doc pm : Value) (an : Option Addr) (cdv ct : Value) (us ws : List Value),us.length = n → ws.length = ks.length → bindArgs (PySem.W.fnOf x qual (defArgs st) (defBody st) (defScope st) .none kV doc pm an cdv ct) ⟨us,ks.zip ws⟩ = pure (ps.zip (arr ix us ws []))) : KB K fd ps n ks ix []:=by
  obtain ⟨oc,od,kV,doc,pm,an,cdv,ct,osl,rfl,lk,hcd⟩:=F.ex
  exact ⟨[],⟨fun s us ws X l1 l2 => .of_eq (h kV doc pm an cdv ct us ws l1 l2),fun r1 r2 => Vals.arr ix r1 r2 .nil⟩⟩
section
variable {X : Cx} {cl : CL} {W : WX} {k n : Nat} {f : Addr} {fd : FuncData} {ps ks : List Str} {F : FD} {x : Str} {p pos : Pos} {e : Expr} {es : List Expr} {kws : List Keyword} {xs ys : MA} {ix : List Src} {dds : List D} {dvs : List V} {kpos : Pos} {nm : Option Str} {me : ME}
abbrev SK (X : Cx) (cl : CL) (W : WX) (kws : List Keyword) (m : MA) : Prop:=PK X kws (rdA X.K cl W m)
theorem PK.weak {X : Cx} {kws : List Keyword} {t t' : TA} (h : PK X kws t) (w : ∀ σ H Q,t' σ H Q → t σ H Q) : PK X kws t':=⟨fun pos pins s σ H Q I q => h.run pos pins s σ H Q I (w σ H Q q)⟩
theorem sk_nil : SK X cl W [] maNil:=PK.weak pk_nil fun σ H Q ⟨μ,st,l,S,L,h⟩ => h μ H [] S Ev.refl (by simp only [VRs])
theorem sk_cons (ha : SE X cl W e me) (hr : SK X cl W kws xs) : SK X cl W (⟨nm,e,kpos⟩ :: kws) (maCons me xs):=
  PK.weak (pk_cons ha hr) fun σ H Q ⟨μ,st,l,S,L,h⟩ => ⟨μ,st,l,S,L,Post.bind h fun x st1 μ1 H1 v _ S1 e1 r1 h1 =>
    ⟨μ1,st1,l,S1,L.ev e1,Post.bind h1 fun ys st2 μ2 H2 vs _ S2 e2 r2 h2 => h2 μ2 H2 (v :: vs) S2 Ev.refl (by simp only [VRs]; exact ⟨v,vs,rfl,r1.ev e2,r2⟩)⟩⟩
theorem run_kw {pins : List (Addr × Obj)} {σ : L2.St} {H : Hp} {s : Shared} {Q : VK} {us ws : List Value} {vs zs : List V} (G : FnS X.prog X.w X.K X.mg X.base cl k f fd ps F) (hr : RoomG k X.A) (tk : Takes X W) (hb : KB X.K fd ps n ks ix dvs) (I : Inv X pins σ H s)
    (r : Vals vs us) (rz : Vals zs ws) (l1 : vs.length = n) (l2 : zs.length = ks.length) (h : spF X.K cl F (arr ix vs zs dvs) H Q (WE W σ)) : wpAny (model X.prog X.w) X.A (call (.ref f) us (ks.zip ws)) (EP X pins σ Q) X.xe s:=by
  obtain ⟨dv,hb⟩:=hb
  refine wpAny_call (codeAny_mono (run_g (args:=⟨us,ks.zip ws⟩) G hr tk I (fun _ => hb.to s us ws I.kIn (r.length.symm.trans l1) (rz.length.symm.trans l2)) (hb.rel r rz) h) fun r s' hq => ?_)
  cases r with
  | error e => exact hq
  | ok fl =>
    cases fl with
    | ret u => exact hq
    | next => exact hq
    | brk => exact hq
    | cont => exact hq
end
theorem RoomG.in1 {k : Nat} {A : Around} (r : RoomG (k + 1) A) : RoomG k A.in1:=⟨r.room.in1,r.g⟩
theorem make_guards {A : Around} {C : Addr} {us : List Value} {kw : List (Str × Value)} : (A.under (.builtin "type.__call__" ⟨.ref C :: us,kw⟩)).guards = A.guards:=by
  first | rfl | simp [Around.under,Code.weight,Code.isCreation,Code.isGuard,Code.isCaller,Code.frames,Code.isFrame,guardIds]
theorem RoomG.make {k : Nat} {A : Around} (r : RoomG (k + 1) A) (C : Addr) (us : List Value) (kw : List (Str × Value)) : RoomG k (A.under (.builtin "type.__call__" ⟨.ref C :: us,kw⟩)):=⟨r.room.make C us kw,make_guards.trans r.g⟩
def mkIns (c : Nat) (F : FD) (g : D → List D) (st : Store) : Res D:=(F (g (.ref st.nxt)) (st.new (.ins c []))).bind fun d st' => match d with
  | .non => .ok (.ref st.nxt) st'
  | _ => .bad
section
variable {X : Cx} {cl : CL} {W : WX} {k n c : Nat} {f : Addr} {fd : FuncData} {ps ks : List Str} {F : FD} {x : Str} {p pos : Pos} {e : Expr} {es : List Expr} {kws : List Keyword} {xs ys : MA} {ix : List Src} {dds : List D} {dvs : List V}
theorem run_mk {pins : List (Addr × Obj)} {σ : L2.St} {H : Hp} {s : Shared} {Q : VK} {us ws : List Value} {vs zs : List V} {μ : Nat → Addr} {st : Store} {ds es : List D} (M : Mk X.K (cl c) f) (G : FnS X.prog X.w X.K X.mg X.base cl k f fd ps F) (hr : RoomG (k + 1) X.A) (tk : Takes X W)
    (hb : KB X.K fd ps (n + 1) ks ix dvs) (hD : Dfl X.K dds dvs) (I : Inv X pins σ H s) (r : Vals vs us) (rz : Vals zs ws) (l1 : vs.length = n) (l2 : zs.length = ks.length) (S : SR X.K cl μ st H) (rv : VRs X.K μ st.nxt H ds vs) (re : VRs X.K μ st.nxt H es zs)
    (h : Post X.K cl (VR X.K) μ st.nxt H Q (WE W σ) (mkIns c F (fun d => arr ix (d :: ds) es dds) st)) : wpAny (model X.prog X.w) X.A (call (.ref (cl c)) us (ks.zip ws)) (EP X pins σ Q) X.xe s:=by
  obtain ⟨dv,hb⟩:=hb
  have f0 : H (s.heap.objs.size + 1) = none:=I.hok.fresh (Nat.le_succ _)
  have f1 : H s.heap.objs.size = none:=I.hok.fresh (Nat.le_refl _)
  have ne : s.heap.objs.size + 1 ≠ s.heap.objs.size:=Nat.succ_ne_self _
  have f2 : upd H s.heap.objs.size (.own (s.heap.objs.size + 1)) (s.heap.objs.size + 1) = none:=by
    rw [upd_ne ne]
    exact f0
  have I2:=Inv.made (C:=cl c) I
  have S1 : SR X.K cl μ st (upd H s.heap.objs.size (.own (s.heap.objs.size + 1))):=S.beside f1
  have S2 : SR X.K cl (ext μ st.nxt (s.heap.objs.size + 1)) (st.new (.ins c [])) (upd (upd H s.heap.objs.size (.own (s.heap.objs.size + 1))) (s.heap.objs.size + 1) (.ins (cl c) s.heap.objs.size [])):=
    S1.mk_new f2 ⟨s.heap.objs.size,[],upd_same,rfl,by simp only [List.map,VRs]⟩
  have e2 : Ev X.K μ st.nxt H (ext μ st.nxt (s.heap.objs.size + 1)) (st.nxt + 1) (upd (upd H s.heap.objs.size (.own (s.heap.objs.size + 1))) (s.heap.objs.size + 1) (.ins (cl c) s.heap.objs.size [])):=(Ev.beside f1).trans (Ev.new f2)
  have rn : VR X.K (ext μ st.nxt (s.heap.objs.size + 1)) (st.nxt + 1) (upd (upd H s.heap.objs.size (.own (s.heap.objs.size + 1))) (s.heap.objs.size + 1) (.ins (cl c) s.heap.objs.size [])) (.ref st.nxt) (.ref (s.heap.objs.size + 1)):=by
    simp only [VR]
    exact ⟨Nat.lt_succ_self _,by rw [ext_same]⟩
  have sp : spF X.K cl F (arr ix (.ref (s.heap.objs.size + 1) :: vs) zs dvs) (upd (upd H s.heap.objs.size (.own (s.heap.objs.size + 1))) (s.heap.objs.size + 1) (.ins (cl c) s.heap.objs.size [])) (fun v H2 => v = .non ∧ Q (.ref (s.heap.objs.size + 1)) H2) (WE W σ):=by
    have rr : VRs X.K (ext μ st.nxt (s.heap.objs.size + 1)) (st.nxt + 1) (upd (upd H s.heap.objs.size (.own (s.heap.objs.size + 1))) (s.heap.objs.size + 1) (.ins (cl c) s.heap.objs.size [])) (.ref st.nxt :: ds) (.ref (s.heap.objs.size + 1) :: vs):=by
      simp only [VRs]
      exact ⟨_,vs,rfl,rn,rv.ev e2⟩
    refine ⟨_,st.new (.ins c []),arr ix (.ref st.nxt :: ds) es dds,S2,VRs.arr ix rr (re.ev e2) (hD _ _ _),?_⟩
    refine Post.bind (Post.mono e2 h) fun d st3 μ3 H3 v _ S3 e3 r3 h3 => ?_
    cases d with
    | non =>
      simp only [VR] at r3
      exact ⟨r3,h3 μ3 H3 _ S3 Ev.refl (rn.ev e3)⟩
    | _ => exact h3.elim
  have r1 : Vals (V.ref (s.heap.objs.size + 1) :: vs) (Value.ref (s.heap.objs.size + 1) :: us):=.cons rfl r
  have n1 : (Value.ref (s.heap.objs.size + 1) :: us).length = n + 1:=by rw [List.length_cons,← r.length,l1]
  refine wpAny_call (make_map (f:=f) I.kIn M.makes M.init (beq_iff_eq.mp M.fn) (codeAny_mono (G.run _ X.stack _ _ ⟨Value.ref (s.heap.objs.size + 1) :: us,ks.zip ws⟩ _ _ _ (WE W σ) (hr.make (cl c) us (ks.zip ws)) (I2.env0.make (cl c) us (ks.zip ws))
    (hb.to _ (Value.ref (s.heap.objs.size + 1) :: us) ws I2.kIn n1 (rz.length.symm.trans l2)) (hb.rel r1 rz) sp) fun rr s' hq => ?_))
  cases rr with
  | error er => exact passAt tk σ pins _ _ er s' I2 hq
  | ok fl =>
    cases fl with
    | ret u =>
      obtain ⟨v,H',I3,rv,ev,q3⟩:=I2.after hq
      subst ev
      exact ⟨rv,⟨V.ref (s.heap.objs.size + 1),H',I3,rfl,q3⟩⟩
    | next => exact hq.elim
    | brk => exact hq.elim
    | cont => exact hq.elim
def mMake (c : Nat) (F : FD) (n m : Nat) (ix : List Src) (dds : List D) (a b : MA) : ME:=fun l st => (a l st).bind fun ds st1 => (b l st1).bind fun es st2 => if ds.length = n ∧ es.length = m then mkIns c F (fun d => arr ix (d :: ds) es dds) st2 else .bad
theorem s_makeK (M : Mk X.K (cl c) f) (G : FnS X.prog X.w X.K X.mg X.base cl k f fd ps F) (hr : RoomG (k + 1) X.A) (tk : Takes X W) (hm : X.mg x = some (.ref (cl c))) (hb : KB X.K fd ps (n + 1) ks ix dvs) (hD : Dfl X.K dds dvs) (ha : SA X cl W (e :: es) xs) (hkw : SK X cl W kws ys)
    (hg : Gl X x:=by rfl) (hall : (backToKw pos (keywordEach kws X.env)).all (·.1.isSome) = true:=by rfl) (hks : (backToKw pos (keywordEach kws X.env)).filterMap (·.1) = ks:=by rfl) (hdb : (x == ("__debug__" : Str)) = false:=by decide)
    (he : starEach (e :: es) X.env = (false,eval e X.env) :: starEach es X.env:=by rfl) (hpl : ((backTo pos (starEach (e :: es) X.env)).any (·.1) || (backToKw pos (keywordEach kws X.env)).any (·.1.isNone)) = false:=by rfl) :
    SE X cl W (.Call (.Name x p) (e :: es) kws pos) (mMake c F n ks.length ix dds xs ys):=by
  refine ⟨fun pins s σ H Q I ⟨μ,st,l,S,L,h⟩ => ?_⟩
  refine wpAny_Call_Name_kw (ld_glob I hg hm ?_ hdb)
  have w : rdA X.K cl W xs σ H fun vs H1 => rdA X.K cl W ys σ H1 fun zs H2 => vs.length = n ∧ zs.length = ks.length ∧ ∃ μ st ds es,SR X.K cl μ st H2 ∧ VRs X.K μ st.nxt H2 ds vs ∧ VRs X.K μ st.nxt H2 es zs ∧ Post X.K cl (VR X.K) μ st.nxt H2 Q (WE W σ) (mkIns c F (fun d => arr ix (d :: ds) es dds) st):=
    ⟨μ,st,l,S,L,Post.bind h fun ds st1 μ1 H1 vs _ S1 e1 r1 h1 => ⟨μ1,st1,l,S1,L.ev e1,Post.bind h1 fun es st2 μ2 H2 zs _ S2 e2 r2 h2 => by
      by_cases z : ds.length = n ∧ es.length = ks.length
      · rw [if_pos z] at h2
        exact ⟨r1.length.symm.trans z.1,r2.length.symm.trans z.2,μ2,st2,_,_,S2,r1.ev e2,r2,h2⟩
      · rw [if_neg z] at h2; exact h2.elim⟩⟩
  refine PySem.W.callWith_KW (h₀:=X.base) I.ok.mod.kin M.kp hall (thn (ha.run pos pins s σ H _ I w) fun us s1 ⟨vs,H1,I1,r,q⟩ => ?_) hpl he
  refine thn (hkw.run pos pins s1 σ H1 _ I1 q) fun ws s2 ⟨zs,H2,I2,rz,l1,l2,μ2,st2,ds,es,S2,rv,re,q2⟩ => ⟨I2.kIn,?_⟩
  rw [hks]
  exact run_mk M G hr tk hb hD I2 r rz l1 l2 S2 rv re q2
end
def putA {α : Type} (f : Str) (v : α) : List (Str × α) → List (Str × α)
  | [] => [(f,v)]
  | (g,x) :: r => if g = f then (g,v) :: r else (g,x) :: putA f v r
theorem putA_rel {K : PySem.W.Frag} {μ : Nat → Addr} {N : Nat} {H : Hp} {f : Str} {d : D} {v : V} (hd : VR K μ N H d v) : ∀ {fs : List (Str × D)} {ps : List (Str × V)},ps.map (·.1) = fs.map (·.1) → VRs K μ N H (fs.map (·.2)) (ps.map (·.2)) →
    (putF f v ps).map (·.1) = (putA f d fs).map (·.1) ∧ VRs K μ N H ((putA f d fs).map (·.2)) ((putF f v ps).map (·.2))
  | [],[],_,_ => by
    simp only [putF,putA,List.map,VRs]
    exact ⟨trivial,v,[],rfl,hd,rfl⟩
  | (g,x) :: fs,(g',y) :: ps,h1,h2 => by
    simp only [List.map_cons,List.cons.injEq] at h1
    obtain ⟨rfl,h1⟩:=h1
    simp only [List.map_cons,VRs] at h2
    obtain ⟨v0,r0,e0,a0,b0⟩:=h2
    simp only [List.cons.injEq] at e0
    obtain ⟨rfl,rfl⟩:=e0
    unfold putF putA
    by_cases z : g' = f
    · rw [if_pos z,if_pos z]
      simp only [List.map_cons,VRs]
      exact ⟨by rw [h1],v,_,rfl,hd,b0⟩
    · rw [if_neg z,if_neg z]
      obtain ⟨i1,i2⟩:=putA_rel hd h1 b0
      simp only [List.map_cons,VRs]
      exact ⟨by rw [i1],y,_,rfl,a0,i2⟩
  | [],_ :: _,h1,_ => by simp at h1
  | _ :: _,[],h1,_ => by simp at h1
theorem lookA_rel {K : PySem.W.Frag} {μ : Nat → Addr} {N : Nat} {H : Hp} {f : Str} {d : D} : ∀ {fs : List (Str × D)} {ps : List (Str × V)},ps.map (·.1) = fs.map (·.1) → VRs K μ N H (fs.map (·.2)) (ps.map (·.2)) → fs.lookup f = some d → ∃ v,ps.lookup f = some v ∧ VR K μ N H d v
  | [],[],_,_,h => by simp [List.lookup] at h
  | (g,x) :: fs,(g',y) :: ps,h1,h2,h => by
    simp only [List.map_cons,List.cons.injEq] at h1
    obtain ⟨rfl,h1⟩:=h1
    simp only [List.map_cons,VRs] at h2
    obtain ⟨v0,r0,e0,a0,b0⟩:=h2
    simp only [List.cons.injEq] at e0
    obtain ⟨rfl,rfl⟩:=e0
    simp only [List.lookup] at h ⊢
    cases z : f == g' with
    | true =>
      rw [z] at h
      cases h
      exact ⟨y,rfl,a0⟩
    | false =>
      rw [z] at h
      exact lookA_rel h1 b0 h
  | [],_ :: _,h1,_,_ => by simp at h1
  | _ :: _,[],h1,_,_ => by simp at h1
def fldD (c : Nat) (f : Str) : F1:=fun d st => match d with
  | .ref r => (match st.at_ r with
    | some (.ins c' fs) => if c' = c then (fs.lookup f).map fun x => (x,st) else none
    | _ => none)
  | _ => none
def mFld (c : Nat) (f : Str) (m : ME) : ME:=m1 (fldD c f) m
def msFld (c : Nat) (f : Str) (mo mv : ME) : MS:=fun l st => (mv l st).toS l fun v st1 => (mo l st1).toS l fun o st2 => match o with
  | .ref r => (match st2.at_ r with
    | some (.ins c' fs) => if c' = c ∧ fs.length < 1000 then .nx l (st2.put r (.ins c (putA f v fs))) else .bad
    | _ => .bad)
  | _ => .bad
def mProp (c : Nat) (F : FD) (m : ME) : ME:=fun l st => (m l st).bind fun d st1 => match d with
  | .ref r => (match st1.at_ r with
    | some (.ins c' fs) => if c' = c then (match F [.ref r] st1 with
      | .ok x st2 => .ok x st2
      | _ => .bad) else .bad
    | _ => .bad)
  | _ => .bad
section
variable {X : Cx} {cl : CL} {W : WX} {c k : Nat} {f : Str} {e o v : Expr} {m mo mv : ME} {pos pos' : Pos} {p g : Addr} {fd : FuncData} {ps : List Str} {F : FD} {x : Str}
theorem s_fld (cc : Cls X.K (cl c)) (na : NoAttr X.K (cl c) f) (he : SE X cl W e m) (hb : attributeBase e f X.env (eval e X.env) = eval e X.env:=by rfl) : SE X cl W (.Attribute e f pos) (mFld c f m):=s_pe (pe_fld he hb) fun σ H Q ⟨μ,st,l,S,L,h⟩ =>
  ⟨μ,st,l,S,L,Post.bind h fun d st1 μ1 H1 v _ S1 e1 r1 h1 => by
    unfold fldD at h1
    cases d with
    | ref r =>
      simp only [VR] at r1
      obtain ⟨hr,rfl⟩:=r1
      simp only at h1
      cases z : st1.at_ r with
      | none => rw [z] at h1; exact h1.elim
      | some cell =>
        rw [z] at h1
        cases cell with
        | ins c' fs =>
          simp only at h1
          by_cases y : c' = c
          · subst y
            rw [if_pos rfl] at h1
            obtain ⟨dx,qs,g1,g2,g3⟩:=S1.get z
            cases w : fs.lookup f with
            | none => rw [w] at h1; exact h1.elim
            | some d =>
              rw [w] at h1
              obtain ⟨u,h2,h3⟩:=lookA_rel g2 g3 w
              exact ⟨_,_,dx,qs,u,rfl,g1,cc,na,h2,h1 μ1 H1 u S1 Ev.refl h3⟩
          · rw [if_neg y] at h1; exact h1.elim
        | _ => exact h1.elim
    | _ => exact h1.elim⟩
theorem ss_fld (cc : Cls X.K (cl c)) (na : NoAttr X.K (cl c) f) (ho : SE X cl W o mo) (hv : SE X cl W v mv) (hs : swapsWith v (some (.Attribute o f pos')) pos.line X.env = pure false:=by rfl) : SS X cl W (.Assign [.Attribute o f pos'] v pos) (msFld c f mo mv):=
  PS.weak (ps_fld ho hv hs) fun E σ H ⟨μ,st,l,S,L,h⟩ => ⟨μ,st,l,S,L,PostS.bind h L fun d st1 μ1 H1 y _ S1 e1 r1 h1 => ⟨μ1,st1,l,S1,L.ev e1,PostS.bind h1 (L.ev e1) fun ob st2 μ2 H2 z _ S2 e2 r2 h2 => by
    cases ob with
    | ref r =>
      simp only [VR] at r2
      obtain ⟨hr,rfl⟩:=r2
      simp only at h2
      cases zz : st2.at_ r with
      | none => rw [zz] at h2; exact h2.elim
      | some cell =>
        rw [zz] at h2
        cases cell with
        | ins c' fs =>
          simp only at h2
          by_cases yy : c' = c ∧ fs.length < 1000
          · rw [if_pos yy] at h2
            obtain ⟨rfl,hl⟩:=yy
            obtain ⟨dx,qs,g1,g2,g3⟩:=S2.get zz
            have ln : qs.length = fs.length:=by have:=congrArg List.length g2; simpa using this
            obtain ⟨i1,i2⟩:=putA_rel (f:=f) (r1.ev e2) g2 g3
            have ob : CellOk X.K cl μ2 st2.nxt (upd H2 (μ2 r) (.ins (cl c') dx (putF f y qs))) (μ2 r) (.ins c' (putA f d fs)):=⟨dx,_,upd_same,i1,i2.ev0 (Ev0.off g1 trivial)⟩
            obtain ⟨S',e'⟩:=S2.put_ (c:=.ins c' (putA f d fs)) zz trivial hr ob
            exact ⟨_,_,dx,qs,rfl,g1,cc,na,by rw [ln]; exact hl,h2 μ2 _ σ S' e' ((L.ev (e1.trans e2)).ev e')⟩
          · rw [if_neg yy] at h2; exact h2.elim
        | _ => exact h2.elim
    | _ => exact h2.elim⟩⟩
theorem s_prop (cc : Cls X.K (cl c)) (hp : PropOf X.K (cl c) f p g) (G : FnS X.prog X.w X.K X.mg X.base cl k g fd ps F) (hr : RoomG (k + 1) X.A) (hb : Binds X.K fd ps []) (he : SE X cl W e m) (hab : attributeBase e f X.env (eval e X.env) = eval e X.env:=by rfl) : SE X cl W (.Attribute e f pos) (mProp c F m):=by
  refine ⟨fun pins s σ H Q I ⟨μ,st,l,S,L,h⟩ => ?_⟩
  have w : rdE X.K cl W m σ H fun x H1 => ∃ a dx qs,x = .ref a ∧ H1 a = some (.ins (cl c) dx qs) ∧ spF X.K cl F [.ref a] H1 Q (fun _ _ _ => False):=⟨μ,st,l,S,L,Post.bind h fun d st1 μ1 H1 v _ S1 e1 r1 h1 => by
    cases d with
    | ref r =>
      have r1':=r1
      simp only [VR] at r1
      obtain ⟨hr,rfl⟩:=r1
      simp only at h1
      cases z : st1.at_ r with
      | none => rw [z] at h1; exact h1.elim
      | some cell =>
        rw [z] at h1
        cases cell with
        | ins c' fs =>
          simp only at h1
          by_cases y : c' = c
          · subst y
            rw [if_pos rfl] at h1
            obtain ⟨dx,qs,g1,g2,g3⟩:=S1.get z
            refine ⟨_,dx,qs,rfl,g1,μ1,st1,[.ref r],S1,VRs.one r1',?_⟩
            cases q : F [.ref r] st1 with
            | ok x st2 => rw [q] at h1; exact h1
            | exc c2 fs2 st2 => rw [q] at h1; exact h1.elim
            | bad => rw [q] at h1; exact h1.elim
          · rw [if_neg y] at h1; exact h1.elim
        | _ => exact h1.elim
    | _ => exact h1.elim⟩
  refine attr_of hab (thn (he.run pins s σ H _ I w) fun u s1 ⟨x,H1,I1,rx,a,dx,fs,ex,ea,q⟩ => ?_)
  subst ex
  obtain rfl : u = Value.ref a:=rx
  obtain ⟨mA,O,_,_,_,_⟩:=ins_get I1.hok ea
  obtain ⟨od,J,_⟩:=O.look
  obtain ⟨rest,hrec⟩:=hp.rec_
  have hl : ([Value.ref a] : List Value).length = ps.length:=by
    obtain ⟨μ2,st2,ds,S2,rv,hq⟩:=q
    rw [← G.len ds st2 hq.nb,rv.length]
    rfl
  have hc : (PySem.W.clsIn X.K (cl c)).isSome = true:=by
    obtain ⟨cd,hc,_⟩:=PySem.W.any_some cc.hd
    rw [hc]
    rfl
  have I2:=I1.tok (s1.toks + 1)
  refine PySem.W.get_bind I1.kIn J (PySem.W.plainGet_of (cc.get f)).1 (PySem.W.findObj_data hc hp.at_ hp.get hp.tak) (PySem.W.plainGet_of (cc.get f)).2 (wpAny_call (PySem.W.prop_get (s:={ s1 with toks:=s1.toks + 1 }) I1.kIn hrec ?_))
  refine codeAny_mono (G.run X.A.in1 X.stack { s1 with toks:=s1.toks + 1 } H1 ⟨[.ref a],[]⟩ [.ref a] [.ref a] Q (fun _ _ _ => False) hr.in1 I2.env0.in1 (by simpa using hb { s1 with toks:=s1.toks + 1 } [.ref a] I2.kIn (by simpa using hl)) (.cons rfl .nil) q) fun r s' hq => ?_
  cases r with
  | error er =>
    obtain ⟨a1,B,H',cls,d,h⟩:=hq
    exact h.2.2.2.2.2.2.2.elim
  | ok fl =>
    cases fl with
    | ret u =>
      obtain ⟨v,H',I3,rv,q3⟩:=I2.after hq
      show wpAny _ _ (handedOut u) _ _ _
      rw [PySem.W.handedOut_of (handed_of rv)]
      exact wpAny_pure ⟨v,H',I3,rv,q3⟩
    | next => exact hq.elim
    | brk => exact hq.elim
    | cont => exact hq.elim
end
end DV
namespace DV
open PySem PySem.Spec PyProof.Rows L2 He
def Wr (K : PySem.W.Frag) (d : D) (v : V) : Prop:=∀ μ N H,VR K μ N H d v
mutual
theorem datB_ok {K : PySem.W.Frag} : ∀ {d : D} {u : Value},datB K d u = true → ∃ v,RelV v u ∧ Wr K d v
  | .non,u,h => by
    cases u <;> simp only [datB] at h <;> first | cases h | skip
    exact ⟨.non,rfl,fun _ _ _ => by simp only [VR]⟩
  | .bl b,u,h => by
    cases u <;> simp only [datB] at h <;> first | cases h | skip
    exact ⟨.bl b,by rw [eq_of_beq h]; rfl,fun _ _ _ => by simp only [VR]⟩
  | .int i,u,h => by
    cases u <;> simp only [datB] at h <;> first | cases h | skip
    rename_i j t
    have e:=of_decide_eq_true h
    subst e
    exact ⟨.int i,⟨t,rfl⟩,fun _ _ _ => by simp only [VR]⟩
  | .str x,u,h => by
    cases u <;> simp only [datB] at h <;> first | cases h | skip
    rename_i y t
    have e:=of_decide_eq_true h
    subst e
    exact ⟨.str x,⟨t,rfl⟩,fun _ _ _ => by simp only [VR]⟩
  | .tup ds,u,h => by
    cases u <;> simp only [datB] at h <;> first | cases h | skip
    rename_i a
    cases q : K.lookup a with
    | none => rw [q] at h; cases h
    | some o =>
      obtain ⟨oc,od,dt,sl⟩:=o
      rw [q] at h
      cases oc with
      | type c =>
        cases dt with
        | seq its n =>
          obtain ⟨h1,h2⟩:=ba (show (decide (c = "tuple") && (decide (its.size ≤ sizeLine) && datsB K ds its.toList)) = true from h)
          obtain ⟨h3,h4⟩:=ba h2
          obtain ⟨vs,r,wr⟩:=datsB_ok h4
          refine ⟨.ref a,rfl,fun μ N H => ?_⟩
          simp only [VR]
          exact ⟨a,vs,rfl,.inr ⟨_,its,n,q,congrArg Value.type (of_decide_eq_true h1),rfl,of_decide_eq_true h3,r⟩,wr μ N H⟩
        | _ => cases h
      | _ => cases dt <;> cases h
  | .ref _,u,h => by simp only [datB] at h; cases h
  | .rol _,u,h => by simp only [datB] at h; cases h
  | .cst _,u,h => by simp only [datB] at h; cases h
theorem datsB_ok {K : PySem.W.Frag} : ∀ {ds : List D} {us : List Value},datsB K ds us = true → ∃ vs,Vals vs us ∧ ∀ μ N H,VRs K μ N H ds vs
  | [],us,h => by
    cases us with
    | nil => exact ⟨[],.nil,fun _ _ _ => by simp only [VRs]⟩
    | cons u us => simp only [datsB] at h; cases h
  | d :: ds,us,h => by
    cases us with
    | nil => simp only [datsB] at h; cases h
    | cons u us =>
      simp only [datsB] at h
      obtain ⟨h1,h2⟩:=ba h
      obtain ⟨v,r,w⟩:=datB_ok h1
      obtain ⟨vs,r2,w2⟩:=datsB_ok h2
      exact ⟨v :: vs,.cons r r2,fun μ N H => by simp only [VRs]; exact ⟨v,vs,rfl,w μ N H,w2 μ N H⟩⟩
end
section
variable {K : PySem.W.Frag} {h : Heap} {mg : Str → Option Value}
theorem fx_glo (X : K.In h) (G : h.Ns mainGlobals mg) {x : Str} (c : (Fx.glo x).ok K = true) : mg x = some (.ref (ga K x)) ∧ PySem.W.keepIn K (.ref (ga K x)) = true:=⟨PySem.W.mg_of X G (eqO_ok (ba c).1),(ba c).2⟩
theorem fx_free (X : K.In h) (G : h.Ns mainGlobals mg) {x : Str} (c : (Fx.free x).ok K = true) : mg x = none:=PySem.W.mg_none_of X G (eqO_ok c)
theorem fx_dat (X : K.In h) (G : h.Ns mainGlobals mg) {x : Str} {d : D} (c : (Fx.dat x d).ok K = true) : ∃ u v,mg x = some u ∧ RelV v u ∧ Wr K d v:=by
  have c2 : (match PySem.W.nsIn K mainGlobals x with
    | some (some u) => datB K d u
    | _ => false) = true:=c
  cases e : PySem.W.nsIn K mainGlobals x with
  | none => rw [e] at c2; cases c2
  | some o =>
    rw [e] at c2
    cases o with
    | none => cases c2
    | some u =>
      obtain ⟨v,r,w⟩:=datB_ok c2
      exact ⟨u,v,PySem.W.mg_of X G e,r,w⟩
theorem fx_cls {x : Str} (c : (Fx.cls x).ok K = true) : ClsA K (ga K x):=by
  obtain ⟨c1,c⟩:=ba c
  obtain ⟨c2,c⟩:=ba c
  obtain ⟨c3,c⟩:=ba c
  obtain ⟨c4,c5⟩:=ba c
  exact ⟨cls_ok c1,eqO_ok c2,eqO_ok c3,of_decide_eq_true c4,of_decide_eq_true c5⟩
theorem fx_bm {x m : Str} {id : String} (c : (Fx.bm x m id).ok K = true) : PySem.W.findIn K (.ref (ga K x)) m = some (some (.builtin id)):=eqO_ok c
theorem fx_noat {x f : Str} (c : (Fx.noat x f).ok K = true) : NoAttr K (ga K x) f:=eqO_ok c
theorem fx_prop {x f : Str} (c : (Fx.prop x f).ok K = true) : PropOf K (ga K x) f (ma K (ga K x) f) (pgA K x f):=by
  obtain ⟨c1,c⟩:=ba c
  obtain ⟨c2,c⟩:=ba c
  obtain ⟨c3,c4⟩:=ba c
  refine ⟨eqO_ok c1,eqO_ok c2,of_decide_eq_true c3,?_⟩
  unfold pgA
  cases q : PySem.W.recIn K (ma K (ga K x) f) "property" with
  | none => rw [q] at c4; cases c4
  | some l =>
    rw [q] at c4
    cases l with
    | nil => cases c4
    | cons g r =>
      cases g with
      | ref g => exact ⟨r,rfl⟩
      | _ => cases c4
theorem fx_mkr {x : Str} (c : (Fx.mkr x).ok K = true) : Mk K (ga K x) (ma K (ga K x) "__init__"):=mkr_ok c
theorem fx_isi {x : Str} {bs : List String} (c : (Fx.isi x bs).ok K = true) : PySem.W.kitOne K (.ref (ga K x)) (.ref (ga K x)) = some true ∧ ∀ m ∈ bs,PySem.W.kitOne K (.type m) (.ref (ga K x)) = some false:=by
  obtain ⟨c1,c2⟩:=ba c
  exact ⟨of_decide_eq_true c1,fun m hm => of_decide_eq_true (List.all_eq_true.mp c2 m hm)⟩
end
section
variable {fx : List Fx} {fn : List DefA} {K : PySem.W.Frag}
theorem SaysV.fact (c : SaysV fx fn K) (i : Nat) {f : Fx} (h : fx[i]? = some f:=by rfl) : f.ok K = true:=by
  have z:=(ba (show ((fx.all fun f => f.ok K) && fn.all fun d => d.ok K) = true from congrArg (fun z : He.AlD => z.1) c)).1
  exact List.all_eq_true.mp z f (List.mem_of_getElem? h)
theorem SaysV.def_ (c : SaysV fx fn K) (i : Nat) {d : DefA} (h : fn[i]? = some d:=by rfl) : ∃ fd,FunD K d.name d.qual d.params d.body d.scope (d.dvs K) (d.kws K) (d.at_ K) fd:=by
  have z:=(ba (show ((fx.all fun f => f.ok K) && fn.all fun d => d.ok K) = true from congrArg (fun z : He.AlD => z.1) c)).2
  have e : (fn.map (fun d => He5.fnA K (d.at_ K)))[i]? = (fn.map He5.DefA.val)[i]?:=congrArg (fun z : He.AlD => z.2[i]?) c
  rw [List.getElem?_map,List.getElem?_map,h] at e
  exact He5.DefA.funD (Option.some.inj e) (List.all_eq_true.mp z d (List.mem_of_getElem? h))
end
structure Tx (fx : List Fx) (fn : List DefA) (K : PySem.W.Frag) (mg : Str → Option Value) : Prop where
  says : SaysV fx fn K
  heap : ∃ h : Heap,K.In h ∧ h.Ns mainGlobals mg
section
variable {fx : List Fx} {fn : List DefA} {K : PySem.W.Frag} {mg : Str → Option Value}
theorem Tx.glo (T : Tx fx fn K mg) (i : Nat) {x : Str} (h : fx[i]? = some (.glo x):=by rfl) : mg x = some (.ref (ga K x)):=by
  obtain ⟨hp,X,G⟩:=T.heap
  exact (fx_glo X G (T.says.fact i h)).1
theorem Tx.kp (T : Tx fx fn K mg) (i : Nat) {x : Str} (h : fx[i]? = some (.glo x):=by rfl) : PySem.W.keepIn K (.ref (ga K x)) = true:=by
  obtain ⟨hp,X,G⟩:=T.heap
  exact (fx_glo X G (T.says.fact i h)).2
theorem Tx.free (T : Tx fx fn K mg) (i : Nat) {x : Str} (h : fx[i]? = some (.free x):=by rfl) : mg x = none:=by
  obtain ⟨hp,X,G⟩:=T.heap
  exact fx_free X G (T.says.fact i h)
theorem Tx.dat (T : Tx fx fn K mg) (i : Nat) {x : Str} {d : D} (h : fx[i]? = some (.dat x d):=by rfl) : ∃ u v,mg x = some u ∧ RelV v u ∧ Wr K d v:=by
  obtain ⟨hp,X,G⟩:=T.heap
  exact fx_dat X G (T.says.fact i h)
theorem Tx.cls (T : Tx fx fn K mg) (i : Nat) {x : Str} (h : fx[i]? = some (.cls x):=by rfl) : ClsA K (ga K x):=fx_cls (T.says.fact i h)
theorem Tx.bm (T : Tx fx fn K mg) (i : Nat) {x m : Str} {id : String} (h : fx[i]? = some (.bm x m id):=by rfl) : PySem.W.findIn K (.ref (ga K x)) m = some (some (.builtin id)):=fx_bm (T.says.fact i h)
theorem Tx.any (T : Tx fx fn K mg) (i : Nat) {f : PySem.W.Frag → Bool} (h : fx[i]? = some (.any f):=by rfl) : f K = true:=T.says.fact i h
theorem Tx.noat (T : Tx fx fn K mg) (i : Nat) {x f : Str} (h : fx[i]? = some (.noat x f):=by rfl) : NoAttr K (ga K x) f:=fx_noat (T.says.fact i h)
theorem Tx.prop (T : Tx fx fn K mg) (i : Nat) {x f : Str} (h : fx[i]? = some (.prop x f):=by rfl) : PropOf K (ga K x) f (ma K (ga K x) f) (pgA K x f):=fx_prop (T.says.fact i h)
theorem Tx.mkr (T : Tx fx fn K mg) (i : Nat) {x : Str} (h : fx[i]? = some (.mkr x):=by rfl) : Mk K (ga K x) (ma K (ga K x) "__init__"):=fx_mkr (T.says.fact i h)
theorem Tx.meth (T : Tx fx fn K mg) (i : Nat) {x m : Str} (h : fx[i]? = some (.meth x m):=by rfl) : Meth K (ga K x) m (ma K (ga K x) m):=meth_ok (T.says.fact i h)
theorem Tx.isi (T : Tx fx fn K mg) (i j : Nat) {cl : CL} {c : Nat} {x : Str} {bs : List String} (e : cl c = ga K x:=by rfl) (h : fx[i]? = some (.isi x bs):=by rfl) (h2 : fx[j]? = some (.cls x):=by rfl) : IsiOk K cl (.ref (cl c)) (fOwn c bs):=by
  obtain ⟨h3,h4⟩:=fx_isi (T.says.fact i h)
  rw [← e] at h3 h4
  exact isi_own (by rw [e]; exact T.cls j h2) h4 h3
end
theorem s_dat {X : Cx} {cl : CL} {W : WX} {x : Str} {d : D} {p : Pos} (e : ∃ u v,X.mg x = some u ∧ RelV v u ∧ Wr X.K d v) (hg : Gl X x:=by rfl) (hd : (x == ("__debug__" : Str)) = false:=by decide) : SE X cl W (.Name x p) (mC d):=by
  obtain ⟨u,v,hm,r,w⟩:=e
  exact s_glob hg hm r w hd
structure GD (P : Program) (w : World) (K : PySem.W.Frag) (mg : Str → Option Value) (base : Heap) (cl : CL) (k : Nat) (f : Addr) (x qual : Str) (st : Stmt) (kws : List (Str × V)) (ps : List Str) (F : FD) : Prop where
  ex : ∃ fd,FnS P w K mg base cl k f fd ps F ∧ FunD K x qual (defArgs st) (defBody st) (defScope st) [] kws f fd
theorem funA_of {K : PySem.W.Frag} {x qual : Str} {st : Stmt} {dvs : List V} {kws : List (Str × V)} {f : Addr} {fd : FuncData} (F : FunD K x qual (defArgs st) (defBody st) (defScope st) dvs kws f fd) : FunA K x qual st f fd:=by
  obtain ⟨oc,od,dV,kV,doc,pm,an,cdv,ct,osl,e,lk,c,_⟩:=F.ex
  exact ⟨⟨oc,od,dV,kV,doc,pm,an,cdv,ct,osl,e,lk,c⟩,F.kp⟩
theorem gd_of {P : Program} {w : World} {K : PySem.W.Frag} {mg : Str → Option Value} {base : Heap} {cl : CL} {x qual : Str} {st : Stmt} {kws : List (Str × V)} {f : Addr} {N ps : List Str} {k len n : Nat} {mb : MS} (e : ∃ fd,FunD K x qual (defArgs st) (defBody st) (defScope st) [] kws f fd) (S : FnScope N ps (defScope st)) (hn : ps.length = n) (hl : N.length = len)
    (hbody : ∀ (cdv : Value) (A : Around) (outer : List Env) (s : Shared) (H : Hp) (E : XK),RoomG k (A.deeper (envOfC qual (defScope st) s.heap.objs.size f cdv)) →
      Takes (cxD P w K mg base N qual st f cdv A outer s H E) (fun cls d _ H => E cls d H) →
      SSs (cxD P w K mg base N qual st f cdv A outer s H E) cl (fun cls d _ H => E cls d H) (defBody st) mb) : GD P w K mg base cl (k + 1) f x qual st kws ps (mDef n len mb):=by
  obtain ⟨fd,F⟩:=e
  exact ⟨fd,fn_s (funA_of F) S hn hl hbody,F⟩
theorem s_cal {X : Cx} {cl : CL} {W : WX} {e : Expr} {es : List Expr} {xs : MA} {k : Nat} {x qual : Str} {st : Stmt} {kws : List (Str × V)} {ps : List Str} {F : FD} {p pos : Pos} (G : GD X.prog X.w X.K X.mg X.base cl k (ga X.K x) x qual st kws ps F) (hr : RoomG k X.A) (tk : Takes X W) (hm : X.mg x = some (.ref (ga X.K x)))
    (ha : SA X cl W (e :: es) xs) (hb : ∀ (kV doc pm : Value) (an : Option Addr) (cdv ct : Value) (us : List Value),us.length = ps.length → bindArgs (PySem.W.fnOf x qual (defArgs st) (defBody st) (defScope st) .none kV doc pm an cdv ct) ⟨us,[]⟩ = pure (ps.zip us)) (hg : Gl X x:=by rfl)
    (hdb : (x == ("__debug__" : Str)) = false:=by decide) (he : starEach (e :: es) X.env = (false,eval e X.env) :: starEach es X.env:=by rfl) (hpl : (backTo pos (starEach es X.env)).any (·.1) = false:=by rfl) :
    SE X cl W (.Call (.Name x p) (e :: es) [] pos) (mCall F [] xs):=by
  obtain ⟨fd,G,D⟩:=G.ex
  exact s_call G hr tk hm D.kp (D.bindsN hb) .nil dfl_nil ha hg hdb he hpl
theorem ints_vr {K : PySem.W.Frag} {μ : Nat → Addr} {N : Nat} {H : Hp} : ∀ ns : List Int,VRs K μ N H (ns.map D.int) (ns.map V.int)
  | [] => by simp only [List.map,VRs]
  | n :: r => by
    simp only [List.map_cons,VRs]
    exact ⟨.int n,r.map V.int,rfl,by simp only [VR],ints_vr r⟩
end DV
namespace DV
open PySem PySem.Spec PyProof.Rows L2 He
def Onl (ts : List Addr) (H : Hp) : Prop:=∀ b,H b = none ∨ b ∈ ts ∧ H b = some (.tbl #[]) ∨ ∃ ob xs,H b = some (.frz ob (.lst xs))
theorem rol_of {ts : List Addr} {K : PySem.W.Frag} {H : Hp} {a : Addr} {vs : List V} (o : Onl ts H) (h : SqL K H a vs) : RoL K H a vs:=by
  rcases h with (h | ⟨u,h⟩) | h
  · rcases o a with z | ⟨_,z⟩ | ⟨ob,xs,z⟩ <;> (rw [h] at z; cases z)
  · exact .inl ⟨u,h⟩
  · exact .inr h
theorem roomG_caller {k : Nat} (r : Room k callerA) : RoomG k callerA:=⟨r,rfl⟩
def TabsIn (cl : CL) (cs : List (Addr × Addr)) : Prop:=∀ t ∈ cl.tabs,∃ q ∈ cs,t.1 = q.2
abbrev TBs (base : Heap) (mg : Str → Option Value) (cs : List (Addr × Addr)) : Prop:=∀ q ∈ cs,LamX.TabB base mg q.1 q.2
theorem called {P : Program} {w : World} {K : PySem.W.Frag} {mg mb : Str → Option Value} {cl : CL} {k : Nat} {fa a : Addr} {fd : FuncData} {x : Str} {F : FD} {t : Shared} {vs : List Value} {ns : List Int} {cs : List (Addr × Addr)}
    (KX : K.In t.heap) (hN : t.heap.Ns mainGlobals mg) (hB : t.heap.Ns builtinsNs mb) (hBB : ∀ x : Str,x ≠ "__name__" → mb x = bootBuiltins x) (noLim : t.heap.NoLimit) (hG : t.gens = #[])
    (tabs0 : ∀ q ∈ cs,t.heap.get? q.2 = some { cls:=.none,data:=.fields #[] }) (tabsK : ∀ q ∈ cs,K.lookup q.2 = none) (heads : ∀ q ∈ cs,PySem.W.CodeHd t.heap q.1 q.2) (cP : ∀ μ N H,cl.P K μ N H) (cT : TabsIn cl cs)
    (blt : ∃ (bm : Addr) (ob : Obj),mg "__builtins__" = some (.ref bm) ∧ bm ≠ builtinsNs ∧ t.heap.get? bm = some ob ∧ ob.cls = .type "module" ∧ ob.dict = some builtinsNs ∧ ob.data = .plain)
    (at_a : t.heap.get? a = some { cls:=.type "list",data:=.seq vs.toArray }) (areInts : IntsAre vs ns) (hl : ns.length ≤ 63) (room : Room k callerA)
    (fun_ : ∀ base : Heap,K.In base → base.Ns mainGlobals mg → TBs base mg cs → FnS P w K mg base cl k fa fd [x] F) (binds : ∀ (s : Shared) (u : Value),BindsTo s fd ⟨[u],[]⟩ [(x,u)])
    (law : ∃ st',F [.rol (ns.map D.int)] ⟨0,fun _ => none⟩ = .ok (.bl true) st') :
    codeAny (model P w) callerA (.call (.ref fa) ⟨[.ref a],[]⟩) (fun r s' => r = .ok (.ret (.bool true)) ∧ OldK t.heap s'.heap ∧ s'.os = t.os ∧ AllBare s'.gens) t:=by
  have rv:=vals_ints areInts
  have lz : ns.length ≤ sizeLine:=Nat.le_trans hl (by decide)
  have tabAt : ∀ b : Addr,b ∈ cs.map (·.2) → t.heap.get? b = some { cls:=.none,data:=.fields #[] }:=fun b m => by
    obtain ⟨q,hq,rfl⟩:=List.mem_map.mp m
    exact tabs0 q hq
  have aNo : a ∉ cs.map (·.2):=fun m => by
    have e:=tabAt a m
    rw [at_a] at e
    have e2 : Data.seq vs.toArray _ = Data.fields #[]:=congrArg Obj.data (Option.some.inj e)
    cases e2
  have main : ∀ H : Hp,Onl (cs.map (·.2)) H → (∀ q ∈ cs,H q.2 = some (.tbl #[])) → SqL K H a (ns.map V.int) → HOk P w H t.heap → (∀ b,H b ≠ none → b = a ∨ b ∈ cs.map (·.2)) → (H a ≠ none → K.lookup a = none) →
      codeAny (model P w) callerA (.call (.ref fa) ⟨[.ref a],[]⟩) (fun r s' => r = .ok (.ret (.bool true)) ∧ OldK t.heap s'.heap ∧ s'.os = t.os ∧ AllBare s'.gens) t:=by
    intro H only tabH sq hok onlyA notK
    have loose : ∀ {b : Addr} {o : Obj},t.heap.get? b = some o → (∀ ws m,o.data ≠ .seq ws m) → o.data ≠ .fields #[] → H b = none:=by
      intro b o e d1 d2
      cases q : H b with
      | none => rfl
      | some u =>
        rcases onlyA b (by rw [q]; simp) with z | z
        · subst z
          rw [at_a] at e
          cases e
          exact absurd rfl (d1 _ _)
        · rw [tabAt b z] at e
          cases e
          exact absurd rfl d2
    have free : ∀ {b : Addr} {o : Obj} {es : Array DictEntry} {ep : Nat},t.heap.get? b = some o → o.data = .dict es ep → H b = none:=by
      intro b o es ep e d
      refine loose e (fun ws m z => ?_) fun z => ?_ <;> (rw [d] at z; cases z)
    have ns_ : ∀ {b : Addr} {m : Str → Option Value},t.heap.Ns b m → (hidT t.heap H).Ns b m:=by
      intro b m n
      obtain ⟨o,es,ep,e,d,r⟩:=n
      exact ⟨o,es,ep,hidT_get e (free e d),d,r⟩
    have kb : K.In (hidT t.heap H):=by
      intro b o e
      refine hidT_get (KX b o e) ?_
      cases q : H b with
      | none => rfl
      | some u =>
        rcases onlyA b (by rw [q]; simp) with z | z
        · subst z
          rw [notK (by rw [q]; simp)] at e
          cases e
        · obtain ⟨y,hy,rfl⟩:=List.mem_map.mp z
          rw [tabsK y hy] at e
          cases e
    have md : Mod K mg (hidT t.heap H):=by
      obtain ⟨mc,l1,l2⟩:=noLim
      exact ⟨kb,ns_ hN,⟨mb,ns_ hB,hBB⟩,⟨mc,ns_ l1,l2⟩⟩
    have tb : TBs (hidT t.heap H) mg cs:=by
      intro y hy
      have ty:=tabs0 y hy
      refine ⟨?_,?_,fun z => ?_⟩
      · obtain ⟨co,us,file,tf,flags,tg,inF,text,tt,c1,r1,r2,r3,rest⟩:=heads y hy
        refine ⟨co,us,file,tf,flags,tg,inF,text,tt,hidT_get c1 (loose c1 (fun ws m z => ?_) fun z => ?_),r1,r2,r3,rest⟩
        · rw [r2] at z; cases z
        · rw [r2] at z; cases z; simp at r3
      · obtain ⟨bm,ob,b1,b2,b3,b4,b5,b6⟩:=blt
        have g1 : bm ≠ mainGlobals:=by
          rintro rfl
          obtain ⟨o,es,ep,e,d,_⟩:=hN
          rw [e] at b3
          cases b3
          rw [d] at b6
          cases b6
        have g2 : bm ≠ y.2:=by
          rintro rfl
          rw [ty] at b3
          cases b3
          cases b6
        refine ⟨bm,ob,b1,b2,g1,g2,hidT_get b3 (loose b3 (fun ws m z => ?_) fun z => ?_),b4,b5,b6⟩ <;> (rw [b6] at z; cases z)
      · obtain ⟨o,es,ep,e,d,_⟩:=hN
        rw [z,ty] at e
        cases e
        cases d
    have ev : Env0 P w K mg (hidT t.heap H) callerA [] t H:=⟨rfl,md,fun b o e => of_hidT e,Nat.le_of_eq (hidT_size _ _),trivial,fun b hb => absurd (show b ∈ ([] : List Addr) from hb) (by simp),hok,.of_eq hG⟩
    have sr : SR K cl (fun _ => 0) ⟨0,fun _ => none⟩ H:=⟨fun m n h => absurd h (Nat.not_lt_zero _),fun n h => absurd h (Nat.not_lt_zero _),fun _ _ => rfl,cP _ _ _,⟨fun y hy => by
      obtain ⟨q,hq,e⟩:=cT y hy
      rw [e]
      exact ⟨#[],tabH q hq,trivial,fun pos cv hcv => nomatch hcv⟩,fun c q P hc hq => by
      unfold CodeT at hc
      rcases only c with z | ⟨_,z⟩ | ⟨ob,xs,z⟩ <;> (rw [hc] at z; cases z)⟩⟩
    have rd : VRs K (fun _ => 0) 0 H [.rol (ns.map D.int)] [.ref a]:=by
      simp only [VRs,VR]
      exact ⟨.ref a,[],rfl,⟨a,ns.map V.int,rfl,rol_of only sq,ints_vr ns⟩,rfl⟩
    have sp : spF K cl F [.ref a] H (fun v _ => v = .bl true) (fun _ _ _ => False):=by
      obtain ⟨st',law⟩:=law
      refine ⟨_,_,_,sr,rd,?_⟩
      rw [law]
      exact fun μ' H' v _ _ r => by simpa only [VR] using r
    refine codeAny_mono ((fun_ _ kb (ns_ hN) tb).run callerA [] t H ⟨[.ref a],[]⟩ [.ref a] [.ref a] _ _ (roomG_caller room) ev (binds t (.ref a)) (.cons rfl .nil) sp) fun r s' h => ?_
    cases r with
    | error er =>
      obtain ⟨a1,B,H',cls,d,h⟩:=h
      exact h.2.2.2.2.2.2.2.elim
    | ok fl =>
      cases fl with
      | ret u =>
        obtain ⟨v,H',os,bare,un,hok',r',q⟩:=h
        obtain rfl : v = .bl true:=q
        obtain rfl : u = Value.bool true:=r'
        have same : ∀ b o,b ∉ cs.map (·.2) → t.heap.get? b = some o → s'.heap.get? b = some o:=fun b o nb e => by
          cases q : H b with
          | none => exact un.keep b o e q (by intro z; exact absurd (show b ∈ ([] : List Addr) from z) (by simp)) (by simp)
          | some u =>
            rcases only b with z | ⟨z,_⟩ | ⟨ob,xs,z⟩
            · rw [q] at z; cases z
            · exact absurd z nb
            · obtain ⟨e1,_⟩:=hok b _ z
              obtain ⟨e2,_⟩:=hok' b _ (un.frzs b ob _ z)
              rw [e] at e1
              cases e1
              exact e2
        have grow : ∀ y ∈ cs,∃ more : Array Value,s'.heap.get? y.2 = some { cls:=.none,data:=.fields more }:=fun y hy => by
          obtain ⟨more,z⟩:=un.tbls y.2 #[] (tabH y hy)
          exact ⟨_,hok' y.2 _ z⟩
        refine ⟨rfl,⟨fun b o e => ?_,fun b o e => ?_⟩,os,bare⟩
        · by_cases m : b ∈ cs.map (·.2)
          · obtain ⟨y,hy,rfl⟩:=List.mem_map.mp m
            obtain ⟨more,gm⟩:=grow y hy
            rw [tabs0 y hy] at e
            cases e
            exact .inr (.inl ⟨((heads y hy).tab (tabs0 y hy)).isCodeTable,rfl,#[],more,rfl,by simpa using gm⟩)
          · exact .inl (same b o m e)
        · by_cases m : b ∈ cs.map (·.2)
          · obtain ⟨y,hy,rfl⟩:=List.mem_map.mp m
            obtain ⟨more,gm⟩:=grow y hy
            exact ⟨_,gm⟩
          · exact ⟨o,same b o m e⟩
      | next => exact h.elim
      | brk => exact h.elim
      | cont => exact h.elim
  have tabM : ∀ q ∈ cs,q.2 ∈ cs.map (·.2):=fun q hq => List.mem_map.mpr ⟨q,hq,rfl⟩
  cases hk : K.lookup a with
  | some o =>
    have e:=KX a o hk
    rw [at_a] at e
    cases e
    refine main (fun b => if b ∈ cs.map (·.2) then some (.tbl #[]) else none) (fun b => ?_) (fun q hq => if_pos (tabM q hq)) (.inr ⟨_,vs.toArray,_,hk,rfl,rfl,rfl,by rw [List.size_toArray,areInts.length]; exact lz,by simpa using rv⟩) (fun b u z => ?_) (fun b z => ?_) fun z => absurd (show (if a ∈ cs.map (·.2) then some (HO.tbl #[]) else none) = none from if_neg aNo) z
    · by_cases m : b ∈ cs.map (·.2)
      · exact .inr (.inl ⟨m,if_pos m⟩)
      · exact .inl (if_neg m)
    · by_cases m : b ∈ cs.map (·.2)
      · cases (if_pos m).symm.trans z
        exact tabAt b m
      · exact nomatch ((if_neg m).symm.trans z)
    · by_cases m : b ∈ cs.map (·.2)
      · exact .inr m
      · exact absurd (if_neg m) z
  | none =>
    refine main (fun b => if b = a then some (.frz { cls:=.type "list",data:=.seq vs.toArray } (.lst (ns.map V.int))) else if b ∈ cs.map (·.2) then some (.tbl #[]) else none) (fun b => ?_) (fun q hq => (if_neg (fun z => aNo (by rw [← z]; exact tabM q hq))).trans (if_pos (tabM q hq))) (.inl (.inr ⟨_,if_pos rfl⟩)) (fun b u z => ?_) (fun b z => ?_) fun _ => hk
    · by_cases y : b = a
      · exact .inr (.inr ⟨_,_,if_pos y⟩)
      · by_cases m : b ∈ cs.map (·.2)
        · exact .inr (.inl ⟨m,(if_neg y).trans (if_pos m)⟩)
        · exact .inl ((if_neg y).trans (if_neg m))
    · by_cases y : b = a
      · have z':=(if_pos y).symm.trans z
        cases z'
        subst y
        exact ⟨at_a,by rw [List.length_map]; exact lz,vs,_,rv,at_a⟩
      · have z1:=(if_neg y).symm.trans z
        by_cases m : b ∈ cs.map (·.2)
        · cases (if_pos m).symm.trans z1
          exact tabAt b m
        · exact nomatch ((if_neg m).symm.trans z1)
    · by_cases y : b = a
      · exact .inl y
      · by_cases m : b ∈ cs.map (·.2)
        · exact .inr m
        · exact absurd ((if_neg y).trans (if_neg m)) z
theorem walkG {l : PySem.W.OpenLaw} {k : Nat} {q : Program} {loose : List Str} {XP : (Str → Option Value) → Heap → Prop} {YP : World → Heap → Prop} {d : DefRec} {x : Str} {F : FD} (hn : l.most = some 63) (hdf : d.params.defaults = []) (room : Room k callerA)
    (G : ∀ (w : World) (mg : Str → Option Value) (fa : Addr) (h : Heap),YP w h → h.Ns mainGlobals mg → mg d.name = some (.ref fa) →
      ∃ (K : PySem.W.Frag) (cl : CL) (fd : FuncData) (cs : List (Addr × Addr)),K.In h ∧ (∀ y ∈ cs,h.get? y.2 = some { cls:=.none,data:=.fields #[] }) ∧ (∀ y ∈ cs,K.lookup y.2 = none) ∧ (∀ y ∈ cs,PySem.W.CodeHd h y.1 y.2) ∧ (∀ μ N H,cl.P K μ N H) ∧ TabsIn cl cs ∧
        (∀ (s : Shared) (u : Value),BindsTo s fd ⟨[u],[]⟩ [(x,u)]) ∧ ∀ base : Heap,K.In base → base.Ns mainGlobals mg → TBs base mg cs → FnS l.prog w K mg base cl k fa fd [x] F)
    (law : ∀ ns : List Int,ns.length ≤ 63 → ∃ st',F [.rol (ns.map D.int)] ⟨0,fun _ => none⟩ = .ok (.bl true) st') : PySem.W.WalkO q loose XP YP l.row.toRowW d [] (fun f vs => PySem.call f vs):=by
  refine Att.attach_call hn hdf fun w s₀ t mg mb fa o pm cd doc a vs ns Gr Y ho hd hcd hmg hobj hints hlen hg => ?_
  obtain ⟨K,cl,fd,cs,KX,c1,c2,c3,c4,c5,hb,hF⟩:=G w mg fa _ Y Gr.T.g hmg
  exact called KX Gr.T.g Gr.T.b Gr.T.builtins Gr.T.nolimit hg c1 c2 c3 c4 c5 Gr.T.bmain hobj hints hlen room hF hb (law ns hlen)
def mChain3 (f g h : F2) (a b c d : ME) : ME:=fun l st => (a l st).bind fun x st1 => (b l st1).bind fun y st2 => (Res.ofO (f x y st2)).bind fun z st3 => (toB z st3).bind fun k st4 =>
  if k then (c l st4).bind fun w st5 => (Res.ofO (g y w st5)).bind fun z2 st6 => (toB z2 st6).bind fun k2 st7 => if k2 then (d l st7).bind fun u st8 => Res.ofO (h w u st8) else .ok (.bl false) st7 else .ok (.bl false) st4
theorem s_chain3 {X : Cx} {cl : CL} {W : WX} {a b c d : Expr} {ma mb mc md : ME} {pos : Pos} {o1 o2 o3 : CmpOp} {f g h : F2} (h1 : OpS X cl (compareOp o1) f) (h2 : OpS X cl (compareOp o2) g) (h3 : OpS X cl (compareOp o3) h)
    (ha : SE X cl W a ma) (hb : SE X cl W b mb) (hc : SE X cl W c mc) (hd : SE X cl W d md) (hm : lastMarks [o1,o2,o3] [b,c,d] = false:=by with_unfolding_all rfl) : SE X cl W (.Compare a [o1,o2,o3] [b,c,d] pos) (mChain3 f g h ma mb mc md):=by
  refine ⟨fun pins s σ H Q I ⟨μ,st,l,S,L,q⟩ => ?_⟩
  let R4 : V → V → Hp → VK → Prop:=fun x y H1 Q1 => rdO X.K cl h x y H1 Q1
  let T3 : V → Hp → Prop:=fun y H1 => rdE X.K cl W mc σ H1 fun w H2 => rdO X.K cl g y w H2 fun z H3 => ∃ k,z = .bl k ∧ (if k = true then rdE X.K cl W md σ H3 (fun u H4 => rdO X.K cl h w u H4 Q) else Q (.bl false) H3)
  have want : rdE X.K cl W ma σ H fun x H1 => rdE X.K cl W mb σ H1 fun y H2 => rdO X.K cl f x y H2 fun z H3 => ∃ k,z = .bl k ∧ (if k = true then T3 y H3 else Q (.bl false) H3):=by
    refine ⟨μ,st,l,S,L,Post.bind q fun x st1 μ1 H1 v _ S1 e1 r1 q1 => ⟨μ1,st1,l,S1,L.ev e1,Post.bind q1 fun y st2 μ2 H2 w _ S2 e2 r2 q2 => ⟨μ2,st2,x,y,S2,r1.ev e2,r2,?_⟩⟩⟩
    refine Post.ofO (W:=WE W σ) (Post.bind q2 fun z st3 μ3 H3 u _ S3 e3 r3 q3 => ?_)
    cases z with
    | bl k =>
      simp only [VR] at r3
      refine ⟨k,r3,?_⟩
      cases k with
      | true =>
        refine ⟨μ3,st3,l,S3,L.ev (e1.trans (e2.trans e3)),Post.bind q3 fun w2 st5 μ5 H5 wv _ S5 e5 r5 q5 => ⟨μ5,st5,y,w2,S5,r2.ev (e3.trans e5),r5,?_⟩⟩
        refine Post.ofO (W:=WE W σ) (Post.bind q5 fun z2 st6 μ6 H6 u6 _ S6 e6 r6 q6 => ?_)
        cases z2 with
        | bl k2 =>
          simp only [VR] at r6
          refine ⟨k2,r6,?_⟩
          cases k2 with
          | true => exact ⟨μ6,st6,l,S6,L.ev (e1.trans (e2.trans (e3.trans (e5.trans e6)))),Post.bind q6 fun u st8 μ8 H8 uv _ S8 e8 r8 q8 => ⟨μ8,st8,w2,u,S8,r5.ev (e6.trans e8),r8,Post.ofO q8⟩⟩
          | false => exact q6 μ6 H6 (.bl false) S6 Ev.refl (by simp only [VR])
        | _ => exact q6.elim
      | false => exact q3 μ3 H3 (.bl false) S3 Ev.refl (by simp only [VR])
    | _ => exact q3.elim
  refine Compare_chain (thn (ha.run pins s σ H _ I want) fun v s1 ⟨x,H1,I1,r1,q1⟩ => chain_link (thn (hb.run pins s1 σ H1 _ I1 q1) fun u s2 ⟨y,H2,I2,r2,q2⟩ =>
    thn (h1 pins s2 σ H2 x y v u _ I2 r1 r2 q2) fun d s3 ⟨z,H3,I3,r3,k,e,q3⟩ => ?_)) hm
  subst e
  cases r3
  refine wpAny_truthy_bool ?_
  cases k with
  | false => exact ite_ff ⟨.bl false,H3,I3,rfl,q3⟩
  | true =>
    refine ite_tt (chain_link (thn (hc.run pins s3 σ H3 _ I3 q3) fun w s4 ⟨wv,H4,I4,r4,q4⟩ => thn (h2 pins s4 σ H4 y wv u w _ I4 r2 r4 q4) fun d5 s5 ⟨z5,H5,I5,r5,k5,e5,q5⟩ => ?_))
    subst e5
    cases r5
    refine wpAny_truthy_bool ?_
    cases k5 with
    | false => exact ite_ff ⟨.bl false,H5,I5,rfl,q5⟩
    | true => exact ite_tt (chain_last (thn (hd.run pins s5 σ H5 _ I5 q5) fun w6 s6 ⟨z6,H6,I6,r6,q6⟩ => h3 pins s6 σ H6 wv z6 w w6 Q I6 r4 r6 q6))
end DV
namespace DV
open PySem PySem.Spec PyProof.Rows L2 He
def mMeth (c : Nat) (name : Str) (F : FD) (n m : Nat) (ix : List Src) (dds : List D) (mo : ME) (a b : MA) : ME:=fun l st => (mo l st).bind fun o st1 => match o with
  | .ref r => (match st1.at_ r with
    | some (.ins c' fs) => if c' = c ∧ fs.lookup name = none then (a l st1).bind fun ds st2 => (b l st2).bind fun es st3 => if ds.length = n ∧ es.length = m then F (arr ix (.ref r :: ds) es dds) st3 else .bad else .bad
    | _ => .bad)
  | _ => .bad
theorem lookN_rel {f : Str} : ∀ {fs : List (Str × D)} {ps : List (Str × V)},ps.map (·.1) = fs.map (·.1) → fs.lookup f = none → ps.lookup f = none
  | [],[],_,_ => rfl
  | (g,x) :: fs,(g',y) :: ps,h1,h => by
    simp only [List.map_cons,List.cons.injEq] at h1
    obtain ⟨rfl,h1⟩:=h1
    simp only [List.lookup] at h ⊢
    cases z : f == g' with
    | true => rw [z] at h; cases h
    | false =>
      rw [z] at h
      exact lookN_rel h1 h
  | [],_ :: _,h1,_ => by simp at h1
  | _ :: _,[],h1,_ => by simp at h1
section
variable {X : Cx} {cl : CL} {W : WX} {k n c : Nat} {f : Addr} {fd : FuncData} {ps ks : List Str} {F : FD} {name : Str} {apos pos : Pos} {o e : Expr} {es : List Expr} {kws : List Keyword} {mo : ME} {xs ys : MA} {ix : List Src} {dds : List D} {dvs : List V}
theorem w_meth {σ : L2.St} {H : Hp} {Q : VK} (hb : KB X.K fd ps (n + 1) ks ix dvs) (hD : Dfl X.K dds dvs) (h : rdE X.K cl W (mMeth c name F n ks.length ix dds mo xs ys) σ H Q) :
    rdE X.K cl W mo σ H fun x H1 => ∃ a dx qs,x = .ref a ∧ H1 a = some (.ins (cl c) dx qs) ∧ qs.lookup name = none ∧ rdA X.K cl W xs σ H1 fun vs H2 => rdA X.K cl W ys σ H2 fun zs H3 => vs.length = n ∧ zs.length = ks.length ∧ spF X.K cl F (arr ix (.ref a :: vs) zs dvs) H3 Q (WE W σ):=by
  obtain ⟨μ,st,l,S,L,h⟩:=h
  refine ⟨μ,st,l,S,L,Post.bind h fun d st1 μ1 H1 v _ S1 e1 r1 h1 => ?_⟩
  cases d with
  | ref r =>
    have r1':=r1
    simp only [VR] at r1
    obtain ⟨hr,rfl⟩:=r1
    simp only at h1
    cases z : st1.at_ r with
    | none => rw [z] at h1; exact h1.elim
    | some cell =>
      rw [z] at h1
      cases cell with
      | ins c' fs =>
        simp only at h1
        by_cases y : c' = c ∧ fs.lookup name = none
        · rw [if_pos y] at h1
          obtain ⟨rfl,y2⟩:=y
          obtain ⟨dx,qs,g1,g2,g3⟩:=S1.get z
          refine ⟨_,dx,qs,rfl,g1,lookN_rel g2 y2,μ1,st1,l,S1,L.ev e1,Post.bind h1 fun ds st2 μ2 H2 vs _ S2 e2 r2 h2 => ⟨μ2,st2,l,S2,L.ev (e1.trans e2),Post.bind h2 fun es st3 μ3 H3 zs _ S3 e3 r3 h3 => ?_⟩⟩
          by_cases w : ds.length = n ∧ es.length = ks.length
          · rw [if_pos w] at h3
            refine ⟨r2.length.symm.trans w.1,r3.length.symm.trans w.2,μ3,st3,_,S3,VRs.arr ix ?_ r3 (hD _ _ _),h3⟩
            simp only [VRs]
            exact ⟨_,vs,rfl,r1'.ev (e2.trans e3),r2.ev e3⟩
          · rw [if_neg w] at h3; exact h3.elim
        · rw [if_neg y] at h1; exact h1.elim
      | _ => exact h1.elim
  | _ => exact h1.elim
theorem run_meth {pins : List (Addr × Obj)} {σ : L2.St} {H : Hp} {s : Shared} {Q : VK} {us ws : List Value} {vs zs : List V} {a : Addr} (G : FnS X.prog X.w X.K X.mg X.base cl k f fd ps F) (hr : RoomG k X.A) (tk : Takes X W) (hb : KB X.K fd ps (n + 1) ks ix dvs) (I : Inv X pins σ H s)
    (r : Vals vs us) (rz : Vals zs ws) (l1 : vs.length = n) (l2 : zs.length = ks.length) (h : spF X.K cl F (arr ix (.ref a :: vs) zs dvs) H Q (WE W σ)) : wpAny (model X.prog X.w) X.A (call (.ref f) (.ref a :: us) (ks.zip ws)) (EP X pins σ Q) X.xe s:=
  run_kw (us:=.ref a :: us) (vs:=.ref a :: vs) G hr tk hb I (.cons rfl r) rz (by simp [l1]) l2 h
theorem s_meth {pl : Sem Bool} (ho : SE X cl W o mo) (cc : Cls X.K (cl c)) (hm : Meth X.K (cl c) name f) (G : FnS X.prog X.w X.K X.mg X.base cl k f fd ps F) (hr : RoomG k X.A) (tk : Takes X W) (hb : KB X.K fd ps (n + 1) ks ix dvs) (hD : Dfl X.K dds dvs) (ha : SA X cl W (e :: es) xs) (hkw : SK X cl W kws ys)
    (hall : (backToKw pos (keywordEach kws X.env)).all (·.1.isSome) = true:=by rfl) (hks : (backToKw pos (keywordEach kws X.env)).filterMap (·.1) = ks:=by rfl)
    (he : starEach (e :: es) X.env = (false,eval e X.env) :: starEach es X.env:=by rfl) (hpl : ((backTo pos (starEach (e :: es) X.env)).any (·.1) || (backToKw pos (keywordEach kws X.env)).any (·.1.isNone)) = false:=by rfl)
    (ht : eval (.Call (.Attribute o name apos) (e :: es) kws pos) X.env = (do
      let ov ← eval o X.env
      standAt apos.atName
      let (f,first) ← holding [ov] (getMethod ov name pl)
      callWith pos f first (backTo pos (starEach (e :: es) X.env)) (backToKw pos (keywordEach kws X.env))):=by rfl) :
    SE X cl W (.Call (.Attribute o name apos) (e :: es) kws pos) (mMeth c name F n ks.length ix dds mo xs ys):=by
  refine ⟨fun pins s σ H Q I q => ?_⟩
  refine PySem.W.methodCall_KW (pl:=pl) (thn (ho.run pins s σ H _ I (w_meth hb hD q)) fun u s1 ⟨x,H1,I1,rx,a,dx,qs,ex,ea,ln,q1⟩ => ?_) ht
  subst ex
  obtain rfl : u = Value.ref a:=rx
  refine getmeth_ok I1 ea cc hm ln ?_
  refine PySem.W.callWith_KW (first:=[.ref a]) (h₀:=X.base) I.ok.mod.kin hm.kp hall (thn (ha.run pos pins s1 σ H1 _ I1 q1) fun us s2 ⟨vs,H2,I2,r,q2⟩ => ?_) hpl he
  refine thn (hkw.run pos pins s2 σ H2 _ I2 q2) fun ws s3 ⟨zs,H3,I3,rz,l1,l2,q3⟩ => ⟨I3.kIn,?_⟩
  rw [hks]
  exact run_meth G hr tk hb I3 r rz l1 l2 q3
theorem s_meth0 {pl : Sem Bool} (ho : SE X cl W o mo) (cc : Cls X.K (cl c)) (hm : Meth X.K (cl c) name f) (G : FnS X.prog X.w X.K X.mg X.base cl k f fd ps F) (hr : RoomG k X.A) (tk : Takes X W) (hb : KB X.K fd ps (0 + 1) ks ix dvs) (hD : Dfl X.K dds dvs) (hkw : SK X cl W kws ys)
    (hall : (backToKw pos (keywordEach kws X.env)).all (·.1.isSome) = true:=by rfl) (hks : (backToKw pos (keywordEach kws X.env)).filterMap (·.1) = ks:=by rfl)
    (hpl : ((backTo pos (starEach [] X.env)).any (·.1) || (backToKw pos (keywordEach kws X.env)).any (·.1.isNone)) = false:=by rfl)
    (ht : eval (.Call (.Attribute o name apos) [] kws pos) X.env = (do
      let ov ← eval o X.env
      standAt apos.atName
      let (f,first) ← holding [ov] (getMethod ov name pl)
      callWith pos f first (backTo pos (starEach [] X.env)) (backToKw pos (keywordEach kws X.env))):=by rfl) :
    SE X cl W (.Call (.Attribute o name apos) [] kws pos) (mMeth c name F 0 ks.length ix dds mo maNil ys):=by
  refine ⟨fun pins s σ H Q I q => ?_⟩
  refine PySem.W.methodCall_KW (pl:=pl) (thn (ho.run pins s σ H _ I (w_meth hb hD q)) fun u s1 ⟨x,H1,I1,rx,a,dx,qs,ex,ea,ln,q1⟩ => ?_) ht
  subst ex
  obtain rfl : u = Value.ref a:=rx
  refine getmeth_ok I1 ea cc hm ln ?_
  have q2 : rdA X.K cl W ys σ H1 fun zs H3 => zs.length = ks.length ∧ spF X.K cl F (arr ix [.ref a] zs dvs) H3 Q (WE W σ):=by
    obtain ⟨μ,st,l,S,L,h⟩:=q1
    obtain ⟨μ2,st2,l2,S2,L2,h2⟩:=h μ H1 [] S Ev.refl (by simp only [VRs])
    exact ⟨μ2,st2,l2,S2,L2,by simpa using h2⟩
  refine PySem.W.callWith_KW0 (first:=[.ref a]) (h₀:=X.base) I.ok.mod.kin hm.kp hall ?_ hpl
  refine thn (hkw.run pos pins s1 σ H1 _ I1 q2) fun ws s3 ⟨zs,H3,I3,rz,l2,q3⟩ => ⟨I3.kIn,?_⟩
  rw [hks]
  exact run_meth (us:=[]) (vs:=[]) G hr tk hb I3 .nil rz rfl l2 q3
end
end DV
namespace DV
open PySem PySem.Spec PyProof.Rows L2
def insI (x : Int) : List Int → List Int
  | [] => [x]
  | y :: r => if x < y then x :: y :: r else if x = y then y :: r else y :: insI x r
def sddI (xs : List Int) : List Int:=xs.foldr insI []
theorem mem_insI {x k : Int} : ∀ {l : List Int},k ∈ insI x l ↔ k = x ∨ k ∈ l
  | [] => by simp [insI]
  | y :: r => by
    unfold insI
    split
    · simp
    · split
      · rename_i h
        subst h
        simp
      · simp only [List.mem_cons,mem_insI (l:=r)]
        constructor
        · rintro (h | h | h)
          · exact .inr (.inl h)
          · exact .inl h
          · exact .inr (.inr h)
        · rintro (h | h | h)
          · exact .inr (.inl h)
          · exact .inl h
          · exact .inr (.inr h)
theorem up_insI {x : Int} : ∀ {l : List Int},l.Pairwise (· < ·) → (insI x l).Pairwise (· < ·)
  | [],_ => by simp [insI]
  | y :: r,h => by
    have h':=List.pairwise_cons.mp h
    unfold insI
    split
    · rename_i q
      exact List.pairwise_cons.mpr ⟨fun z hz => by
        rcases List.mem_cons.mp hz with e | e
        · rw [e]; exact q
        · exact Int.lt_trans q (h'.1 z e),h⟩
    · split
      · exact h
      · refine List.pairwise_cons.mpr ⟨fun z hz => ?_,up_insI h'.2⟩
        rcases mem_insI.mp hz with e | e
        · rw [e]; omega
        · exact h'.1 z e
theorem mem_sddI {k : Int} : ∀ {xs : List Int},k ∈ sddI xs ↔ k ∈ xs
  | [] => by simp [sddI]
  | x :: xs => by
    have ih:=mem_sddI (k:=k) (xs:=xs)
    show k ∈ insI x (sddI xs) ↔ _
    rw [mem_insI,ih,List.mem_cons]
theorem up_sddI : ∀ (xs : List Int),(sddI xs).Pairwise (· < ·)
  | [] => List.Pairwise.nil
  | x :: xs => up_insI (up_sddI xs)
section
variable {prog : Program} {w : World} {A : Around} {E : Value → Shared → Prop} {s : Shared}
set_option maxHeartbeats 16000000 in
end
section
variable {X : Cx} {cl : CL} {W : WX}
end
end DV
namespace DV
open PySem PySem.Spec PyProof.Rows L2
def mLenX (c : Nat) (F : FD) (m : ME) : ME:=fun l st => (m l st).bind fun d st1 => match d with
  | .ref r => (match st1.at_ r with
    | some (.ins c' fs) => if c' = c then (match F [.ref r] st1 with
      | .ok (.int i) st2 => if 0 ≤ i ∧ i < 2 ^ 63 then .ok (.int i) st2 else .bad
      | _ => .bad) else .bad
    | _ => Res.ofO (lenD (.ref r) st1))
  | d => Res.ofO (lenD d st1)
def lenEnd (Q : Value → Shared → Prop) (v : Value) (t : Shared) : Prop:=∃ (i : Int) (k : Tok),v = .int i k ∧ 0 ≤ i ∧ i < 2 ^ 63 ∧ ∀ u,Q (.int i u) { t with toks:=t.toks + 1 }
theorem len_own {prog : Program} {w : World} {A : Around} {E : Value → Shared → Prop} {s : Shared} {K : PySem.W.Frag} {x C f : Addr} {ox : Obj} {od : Option Obj} {Q : Value → Shared → Prop} (hK : K.In s.heap) (I : PySem.W.InstAt s.heap x ox C od)
    (at_ : PySem.W.findIn K (.ref C) "__len__" = some (some (.ref f))) (isf : PySem.W.isFn K (.ref f) = true) (run : wpAny (model prog w) A.in1 (call (.ref f) [.ref x]) (lenEnd Q) E s) : wpAny (model prog w) A (call (.builtin "len") [.ref x]) Q E s:=by
  refine Calls.call_function_entry kind_len plain_len entry_len (args_len1 _) ?_
  unfold Builtin.«len»
  refine wpAny_bind (m:=oneArg "len" _) (wpAny_pure ?_)
  refine wpAny_bind (m:=callSpecial? (.ref x) (Str.ofString "__len__")) (PySem.W.special_fn hK I at_ (beq_iff_eq.mp isf) (wpAny_mono run (fun r t ht => ?_) fun _ _ y => y))
  obtain ⟨i,k,rfl,i0,i1,q⟩:=ht
  refine wpAny_bind (wpAny_holding (wpAny_pure ?_))
  refine wpAny_bind (wpAny_letGo ?_)
  show wpAny _ _ (if i < 0 then _ else _) _ _ _
  rw [if_neg (by omega)]
  show wpAny _ _ (if i ≥ 2 ^ 63 then _ else _) _ _ _
  rw [if_neg (by omega)]
  exact wpAny_bind (wpAny_mkInt (wpAny_pure ⟨_,rfl,q _⟩))
section
variable {X : Cx} {cl : CL} {W : WX} {k c : Nat} {f : Addr} {fd : FuncData} {ps : List Str} {F : FD} {e : Expr} {m : ME} {p pos : Pos}
theorem s_lenX (mt : Meth X.K (cl c) "__len__" f) (G : FnS X.prog X.w X.K X.mg X.base cl k f fd ps F) (hr : RoomG (k + 1) X.A) (hb : Binds X.K fd ps []) (he : SE X cl W e m) (hm : X.mg "len" = none) (hg : Gl X "len":=by rfl)
    (na : starEach [e] X.env = (false,eval e X.env) :: starEach [] X.env:=by rfl) : SE X cl W (.Call (.Name "len" p) [e] [] pos) (mLenX c F m):=by
  refine ⟨fun pins s σ H Q I ⟨μ,st,l,S,L,h⟩ => ?_⟩
  have w : rdE X.K cl W m σ H (fun x H1 => (∃ a dx qs,x = .ref a ∧ H1 a = some (.ins (cl c) dx qs) ∧ spF X.K cl F [.ref a] H1 (fun v H2 => ∃ i : Int,v = .int i ∧ 0 ≤ i ∧ i < 2 ^ 63 ∧ Q (.int i) H2) (fun _ _ _ => False)) ∨
      (∃ μ st d,SR X.K cl μ st H1 ∧ VR X.K μ st.nxt H1 d x ∧ PostO X.K cl (VR X.K) μ st.nxt H1 Q (lenD d st))):=⟨μ,st,l,S,L,Post.bind h fun d st1 μ1 H1 v _ S1 e1 r1 h1 => by
    cases d with
    | ref r =>
      have r1':=r1
      simp only [VR] at r1
      obtain ⟨hrr,rfl⟩:=r1
      simp only at h1
      cases z : st1.at_ r with
      | none => rw [z] at h1; exact .inr ⟨μ1,st1,_,S1,r1',Post.ofO h1⟩
      | some cell =>
        rw [z] at h1
        cases cell with
        | ins c' fs =>
          simp only at h1
          by_cases y : c' = c
          · subst y
            rw [if_pos rfl] at h1
            obtain ⟨dx,qs,g1,g2,g3⟩:=S1.get z
            refine .inl ⟨_,dx,qs,rfl,g1,μ1,st1,[.ref r],S1,VRs.one r1',?_⟩
            cases q : F [.ref r] st1 with
            | ok x st2 =>
              rw [q] at h1
              cases x with
              | int i =>
                simp only at h1
                by_cases b : 0 ≤ i ∧ i < 2 ^ 63
                · rw [if_pos b] at h1
                  intro μ' H' v s' e' r'
                  have rv:=r'
                  simp only [VR] at rv
                  exact ⟨i,rv,b.1,b.2,by rw [← rv]; exact h1 μ' H' v s' e' r'⟩
                · rw [if_neg b] at h1; exact h1.elim
              | _ => exact h1.elim
            | exc c2 fs2 st2 => rw [q] at h1; exact h1.elim
            | bad => rw [q] at h1; exact h1.elim
          · rw [if_neg y] at h1; exact h1.elim
        | lst xs => exact .inr ⟨μ1,st1,_,S1,r1',Post.ofO h1⟩
        | dic xs => exact .inr ⟨μ1,st1,_,S1,r1',Post.ofO h1⟩
        | fdc xs => exact .inr ⟨μ1,st1,_,S1,r1',Post.ofO h1⟩
        | dn _ _ => exact .inr ⟨μ1,st1,_,S1,r1',Post.ofO h1⟩
    | _ => exact .inr ⟨μ1,st1,_,S1,r1,Post.ofO h1⟩⟩
  refine Call_ (ld_blt I hg hm boot_len ?_)
  refine callWith_builtin1 (args_cons (thn (he.run pins s σ H _ I w) fun u s1 ⟨x,H1,I1,rx,q⟩ => args_nil ?_) na) na rfl
  rcases q with ⟨a,dx,qs,rfl,ea,q⟩ | ⟨μ2,st2,d,S2,rd,q⟩
  · obtain rfl : u = Value.ref a:=rx
    obtain ⟨mA,O,_,_,_,_⟩:=ins_get I1.hok ea
    obtain ⟨od,J,_⟩:=O.look
    have hl : ([Value.ref a] : List Value).length = ps.length:=by
      obtain ⟨μ2,st2,ds,S2,rv,hq⟩:=q
      rw [← G.len ds st2 hq.nb,rv.length]
      rfl
    refine len_own I1.kIn J mt.at_ mt.fn (wpAny_call (codeAny_mono (G.run X.A.in1 X.stack s1 H1 ⟨[.ref a],[]⟩ [.ref a] [.ref a] _ (fun _ _ _ => False) hr.in1 I1.env0.in1 (by simpa using hb s1 [.ref a] I1.kIn (by simpa using hl)) (.cons rfl .nil) q) fun r s' hq => ?_))
    cases r with
    | error er =>
      obtain ⟨a1,B,H',cls,d,h⟩:=hq
      exact h.2.2.2.2.2.2.2.elim
    | ok fl =>
      cases fl with
      | ret u =>
        obtain ⟨v,H',I3,rv,i,ev,i0,i1,q3⟩:=I1.after hq
        subst ev
        obtain ⟨t,rfl⟩:=rv
        exact ⟨i,t,rfl,i0,i1,fun u => ⟨.int i,H',I3.tok _,⟨u,rfl⟩,q3⟩⟩
      | next => exact hq.elim
      | brk => exact hq.elim
      | cont => exact hq.elim
  · exact c_len pins s1 σ H1 [x] [u] Q I1 (.cons rx .nil) ⟨μ2,st2,[d],S2,VRs.one rd,q⟩
end
end DV
namespace DV
theorem zip_tail_mem {xs : List Int} {a b : Int} (h : (a,b) ∈ xs.zip xs.tail) : a ∈ xs ∧ b ∈ xs:=by
  have:=List.of_mem_zip h
  exact ⟨this.1,List.mem_of_mem_tail this.2⟩
theorem zip_tail_lt : ∀ {xs : List Int} {a b : Int},xs.Pairwise (· < ·) → (a,b) ∈ xs.zip xs.tail → a < b
  | [],_,_,_,h => by simp at h
  | [p],_,_,_,h => by simp at h
  | p :: q :: r,a,b,hs,h => by
    have hs':=List.pairwise_cons.mp hs
    simp only [List.tail_cons,List.zip_cons_cons,List.mem_cons,Prod.mk.injEq] at h
    rcases h with ⟨rfl,rfl⟩ | h
    · exact hs'.1 _ (by simp)
    · exact zip_tail_lt (xs:=q :: r) hs'.2 (by simpa using h)
end DV
namespace HT
open PySem PySem.Spec PyProof.Rows
section
variable {prog : Program} {w : World} {A : Around} {E : Value → Shared → Prop} {s : Shared}
end
end HT
namespace DV
open PySem PySem.Spec PyProof.Rows L2
section
variable {X : Cx} {cl : CL} {W : WX}
end
end DV
namespace DV
open PySem PySem.Spec PyProof.Rows L2 NdefX
structure PP where
  P : PySem.W.Frag → (Nat → Addr) → Nat → Hp → Prop
  up : ∀ {K : PySem.W.Frag} {μ : Nat → Addr} {N : Nat} {H : Hp} {μ' : Nat → Addr} {N' : Nat} {H' : Hp},Ev0 K μ N H μ' N' H' → P K μ N H → P K μ' N' H'
def PP.all : PP:=⟨fun _ _ _ _ => True,fun _ _ => trivial⟩
def PP.and (p q : PP) : PP:=⟨fun K μ N H => p.P K μ N H ∧ q.P K μ N H,fun e h => ⟨p.up e h.1,q.up e h.2⟩⟩
abbrev CL.of (a : Nat → Addr) (T : List NTab) (p : PP) : CL:=⟨a,p.P,p.up,T⟩
section
variable {K : PySem.W.Frag} {a : Nat → Addr} {T : List NTab} {p q : PP} {μ μ1 : Nat → Addr} {N N1 : Nat} {H H1 : Hp} {st : Store}
theorem CellOk.re {b : Addr} {c : Cell} (h : CellOk K (CL.of a T p) μ N H b c) : CellOk K (CL.of a T q) μ N H b c:=by
  cases c with
  | lst xs => exact h
  | dic kvs => exact h
  | ins c fs => exact h
  | fdc kvs => exact h
  | dn _ _ => exact h
theorem SR.re (S : SR K (CL.of a T p) μ st H) (h : q.P K μ st.nxt H) : SR K (CL.of a T q) μ st H:=
  ⟨S.inj,fun n hn => let ⟨c,h1,h2⟩:=S.cell n hn; ⟨c,h1,h2.re⟩,S.out,h,S.tb⟩
theorem XR.re {c : Nat} {fs : List (Str × D)} {cls : Value} {d : Option Addr} (h : XR K (CL.of a T p) μ N H c fs cls d) : XR K (CL.of a T q) μ N H c fs cls d:=h
theorem Post.re {α β : Type} {rel : (Nat → Addr) → Nat → Hp → α → β → Prop} {Q : β → Hp → Prop} {W : XK} {r : Res α} (hpq : ∀ μ N H,q.P K μ N H → p.P K μ N H) (h : Post K (CL.of a T p) rel μ N H Q W r) : Post K (CL.of a T q) rel μ N H Q W r:=by
  cases r with
  | ok x st' => exact fun μ' H' b S e q => h μ' H' b (S.re (hpq _ _ _ S.pp)) e q
  | exc c fs st' => exact fun μ' H' cls d S e x => h μ' H' cls d (S.re (hpq _ _ _ S.pp)) e x
  | bad => exact h
theorem PostS.re {E : Ends} {W : WX} {r : RS} (hpq : ∀ μ N H,q.P K μ N H → p.P K μ N H) (h : PostS K (CL.of a T p) μ N H E W r) : PostS K (CL.of a T q) μ N H E W r:=by
  cases r with
  | nx l st' => exact fun μ' H' σ' S e L => h μ' H' σ' (S.re (hpq _ _ _ S.pp)) e L
  | rt d st' => exact fun μ' H' v S e r => h μ' H' v (S.re (hpq _ _ _ S.pp)) e r
  | bk l st' => exact fun μ' H' σ' S e L => h μ' H' σ' (S.re (hpq _ _ _ S.pp)) e L
  | ct l st' => exact fun μ' H' σ' S e L => h μ' H' σ' (S.re (hpq _ _ _ S.pp)) e L
  | exc c fs l st' => exact fun μ' H' σ' cls d S e L x => h μ' H' σ' cls d (S.re (hpq _ _ _ S.pp)) e L x
  | bad => exact h
end
theorem func_not {f : Addr} {F : NF} : NotD (fun h => ∃ (od : Option Addr) (sl : Array (Option Value)) (doc pm ctv : Value),h.get? f = some (⟨.type "function",od,.func (F.fd doc pm ctv),sl⟩ : Obj)):=fun h ⟨_,_,_,_,_,e⟩ => ⟨f,_,e,fun es ep z => by cases z⟩
def ppF (f : Addr) (F : NF) : PP:=⟨fun _ _ _ H => H f = some (FnO f F) ∧ H F.c = some (LamX.CodeO F.c F.qual),fun e h => ⟨e.ex _ _ h.1 func_not,e.ex _ _ h.2 code_not⟩⟩
def ppW (ws : List D) (wv : List V) : PP:=⟨fun K μ N H => VRs K μ N H ws wv,fun e h => h.ev0 e⟩
section
variable {X : Cx} {pins : List (Addr × Obj)} {σ : L2.St} {H : Hp} {s : Shared}
theorem tab_more {P : Addr} {nm : Nat → Nat → Str} {H H1 : Hp} {ps : Array Value} {pos : Pos} {c' : Addr} (ht : TriplesOk ps.toList) (ha : ∀ (p : Pos) (cv : Value),codeAmong p ps.toList = some cv → ∃ c,cv = .ref c ∧ CodeK H c (nm p.line p.col))
    (up : ∀ c q,CodeK H c q → CodeK H1 c q) (hP : H1 P = some (.tbl (ps ++ #[rawInt pos.line,rawInt pos.col,.ref c']))) (hc : CodeK H1 c' (nm pos.line pos.col)) : TabT H1 P nm:=by
  have eL : (ps ++ #[rawInt pos.line,rawInt pos.col,.ref c']).toList = ps.toList ++ [rawInt pos.line,rawInt pos.col,.ref c']:=Array.toList_append
  refine ⟨_,hP,?_,fun p' cv hcv => ?_⟩
  · rw [eL]
    exact PySem.TriplesOk_snoc _ _ _ _ ht
  · rw [eL] at hcv
    rcases among_app2 _ ht hcv with z | ⟨z,z1,z2⟩
    · obtain ⟨c0,e1,e2⟩:=ha p' cv z
      exact ⟨c0,e1,up _ _ e2⟩
    · exact ⟨c',z,by rw [← z1,← z2]; exact hc⟩
theorem tabT_same {P : Addr} {nm : Nat → Nat → Str} {H H1 : Hp} (e : H1 P = H P) (up : ∀ c q,CodeK H c q → CodeK H1 c q) (h : TabT H P nm) : TabT H1 P nm:=by
  obtain ⟨ps,a1,a2,a3⟩:=h
  refine ⟨ps,e.trans a1,a2,fun p cv hcv => ?_⟩
  obtain ⟨c0,e1,e2⟩:=a3 p cv hcv
  exact ⟨c0,e1,up _ _ e2⟩
theorem inT_same {P : Addr} {q : Str} {H H1 : Hp} (e : H1 P = H P) (k : ∀ b φ,H b = some (.ext φ) → NotD φ → H1 b = some (.ext φ)) (h : InT H P q) : InT H1 P q:=by
  obtain ⟨ps,a1,a2,a3⟩:=h
  refine ⟨ps,e.trans a1,a2,fun p cv hcv => ?_⟩
  obtain ⟨c0,P2,e1,e2⟩:=a3 p cv hcv
  exact ⟨c0,P2,e1,k _ _ e2 codeF_not⟩
theorem codeK_up {H H1 : Hp} (k : ∀ b φ,H b = some (.ext φ) → NotD φ → H1 b = some (.ext φ)) : ∀ c q,CodeK H c q → CodeK H1 c q:=fun _ _ h => h.up k
end
open Classical in
noncomputable def msDefR (i : Nat) (m : Addr → MS) : MS:=fun l st => if h : ∃ r,∀ f,m f (l.set i (some (.cst (.ref f)))) st = r then Classical.choose h else .bad
theorem msDefR_eq {i : Nat} {m : Addr → MS} {l : Loc} {st : Store} {r : RS} (h : ∀ f,m f (l.set i (some (.cst (.ref f)))) st = r) : msDefR i m l st = r:=by
  have e : ∃ r,∀ f,m f (l.set i (some (.cst (.ref f)))) st = r:=⟨r,h⟩
  unfold msDefR
  rw [dif_pos e]
  exact (Classical.choose_spec e 0).symm.trans (h 0)
section
variable {X : Cx} {a : Nat → Addr} {T : List NTab} {p : PP} {W : WX}
end
structure NfS (P : Program) (w : World) (K : PySem.W.Frag) (mg : Str → Option Value) (base : Heap) (a : Nat → Addr) (T : List NTab) (k : Nat) (f : Addr) (F : NF) (ps fr : List Str) (Fn : FD) : Prop where
  len : ∀ ds st,Fn ds st ≠ .bad → ds.length = ps.length + fr.length
  run : ∀ (p : PP) (A : Around) (outer : List Env) (s : Shared) (H : Hp) (us : List Value) (vs wv : List V) (Q : VK) (E : XK),RoomG k A → Env0 P w K mg base A outer s H → H f = some (FnO f F) → H F.c = some (LamX.CodeO F.c F.qual) →
    CellsAt F.cl fr (wv.map some) s.heap H → Vals vs us → spF K (CL.of a T p) Fn (vs ++ wv) H Q E → codeAny (model P w) A (.call (.ref f) ⟨us,[]⟩) (CR (L2.CX P w) outer P w H s Q E) s
section
variable {P : Program} {w : World} {K : PySem.W.Frag} {mg : Str → Option Value} {base : Heap} {a : Nat → Addr} {T : List NTab}
end
structure CloP (X : Cx) (cl : CL) (k : Nat) (f : Addr) (n : Nat) (Fd : FD) : Prop where
  len : ∀ ds st,Fd ds st ≠ .bad → ds.length = n
  at_ : ∀ μ N H,cl.P X.K μ N H → ∃ F,H f = some (FnO f F)
  run : ∀ (pins : List (Addr × Obj)) (σ : L2.St) (H : Hp) (s : Shared) (us : List Value) (vs : List V) (Q : VK) (E : XK),RoomG k X.A → Inv X pins σ H s → Vals vs us → spF X.K cl Fd vs H Q E →
    codeAny (model X.prog X.w) X.A (.call (.ref f) ⟨us,[]⟩) (CR (L2.CX X.prog X.w) X.stack X.prog X.w H s Q E) s
theorem CloP.of {X : Cx} {a : Nat → Addr} {T : List NTab} {p : PP} {k : Nat} {f : Addr} {F : NF} {ps fr : List Str} {Fn : FD} {ws : List D} {wv : List V} (G : NfS X.prog X.w X.K X.mg X.base a T k f F ps fr Fn) (hp : ∀ μ N H,p.P X.K μ N H → (ppF f F).P X.K μ N H ∧ (ppW ws wv).P X.K μ N H) (hw : wv.length = fr.length)
    (C : CellsAt F.cl fr (wv.map some) X.s_0.heap X.H_0) (nf : ∀ y c,F.cl.lookup y = some c → c ∉ X.fs) (hx : X.ex = []) : CloP X (CL.of a T p) k f ps.length (fun ds st => if ws.length = fr.length then Fn (ds ++ ws) st else .bad) where
  len:=fun ds st h => by
    by_cases z : ws.length = fr.length
    · simp only [z,if_true] at h
      have:=G.len _ _ h
      rw [List.length_append,z] at this
      omega
    · simp only [z,if_false] at h
      exact absurd rfl h
  at_:=fun μ N H h => ⟨F,(hp μ N H h).1.1⟩
  run:=fun pins σ H s us vs Q E hr I r ⟨μ,st,ds,S,rv,h⟩ => by
    by_cases z : ws.length = fr.length
    · simp only [z,if_true] at h
      have hp1:=hp _ _ _ S.pp
      exact G.run p X.A X.stack s H us vs wv Q E hr I.env0 hp1.1.1 hp1.1.2 (C.later nf (fun y c _ => by rw [hx]; simp) I) r ⟨μ,st,ds ++ ws,S,rv.append hp1.2,h⟩
    · simp only [z,if_false] at h
      exact h.elim
section
variable {X : Cx} {cl : CL} {W : WX} {e : Expr} {es : List Expr} {xs : MA} {k j n i : Nat} {f : Addr} {Fd : FD} {x : Str} {p pos : Pos}
end
end DV
namespace DV
open PySem PySem.Spec PyProof.Rows L2 NdefX
theorem NfS.mono {P : Program} {w : World} {K : PySem.W.Frag} {mg : Str → Option Value} {base : Heap} {a : Nat → Addr} {T : List NTab} {j k : Nat} {f : Addr} {F : NF} {ps fr : List Str} {Fn : FD} (G : NfS P w K mg base a T j f F ps fr Fn) (h : j ≤ k) : NfS P w K mg base a T k f F ps fr Fn:=
  ⟨G.len,fun p A outer s H us vs wv Q E hr => G.run p A outer s H us vs wv Q E (hr.mono h)⟩
def fdC (Fn : FD) (ws : List D) : FD:=fun ds st => Fn (ds ++ ws) st
structure FnH (P : Program) (w : World) (K : PySem.W.Frag) (mg : Str → Option Value) (base : Heap) (a : Nat → Addr) (T : List NTab) (k j : Nat) (g : Addr) (fd : FuncData) (ps : List Str) (n : Nat) (G : Addr → FD → FD) : Prop where
  len : ∀ f Fd ds st,G f Fd ds st ≠ .bad → ds.length = ps.length
  run : ∀ (p : PP) (f : Addr) (F : NF) (ps' fr : List Str) (Fn : FD) (ws : List D) (wv : List V),NfS P w K mg base a T j f F ps' fr Fn → ps'.length = n → (∀ μ N H,p.P K μ N H → (ppF f F).P K μ N H ∧ (ppW ws wv).P K μ N H) → wv.length = fr.length → ws.length = fr.length →
    ∀ (A : Around) (outer : List Env) (s : Shared) (H : Hp) (args : Args) (us : List Value) (vs : List V) (Q : VK) (E : XK),RoomG k A → Env0 P w K mg base A outer s H → CellsAt F.cl fr (wv.map some) s.heap H → (∀ y c,F.cl.lookup y = some c → c ∉ frs outer) →
      BindsTo s fd args (ps.zip us) → Vals vs us → spF K (CL.of a T p) (G f (fdC Fn ws)) vs H Q E → codeAny (model P w) A (.call (.ref g) args) (CR (L2.CX P w) outer P w H s Q E) s
section
variable {P : Program} {w : World} {K : PySem.W.Frag} {mg : Str → Option Value} {base : Heap} {a : Nat → Addr} {T : List NTab}
end
def slots (l : Loc) : List Nat → Option (List D)
  | [] => some []
  | j :: r => match l[j]? with
    | some (some d) => (match slots l r with
      | some ds => some (d :: ds)
      | none => none)
    | _ => none
section
variable {X : Cx} {a : Nat → Addr} {T : List NTab} {p : PP} {W : WX} {e : Expr} {es : List Expr} {xs : MA} {k j n q : Nat} {f g : Addr} {fd : FuncData} {ps ps' fr : List Str} {G : Addr → FD → FD} {Fn : FD} {F : NF} {js : List Nat} {x : Str} {sc : Scope} {pp pos : Pos}
end
end DV
namespace DV
open PySem PySem.Spec PyProof.Rows L2 NdefX
section
variable {M : Model} {A : Around} {E : Value → Shared → Prop} {s₀ s : Shared} {m cm : Str → Option Value} {env : Env} {cs : List (Str × Addr)}
end
section
variable {M : Model} {A : Around} {E : Value → Shared → Prop} {s : Shared}
end
structure NScopeC (N ps fr : List Str) (sc : Scope) : Prop where
  kind : sc.kind = .function
  co : sc.isCoroutine = false
  gen : sc.isGenerator = false
  nd : N.Nodup
  pre : N.take (ps.length + fr.length) = ps ++ fr
  par : ∀ x ∈ ps,sc.names.lookup x = some .local ∨ sc.names.lookup x = some .cell
  own : ∀ y ∈ sc.names,y.2 = .cell → y.1 ∉ fr
  free : ∀ y ∈ sc.names,y.2 = .free → y.1 ∈ fr
  frk : ∀ x ∈ fr,sc.names.lookup x = some .free
section
variable {CX : CXT} {P : Program} {w : World} {K : PySem.W.Frag} {mg : Str → Option Value} {base : Heap} {N ps fr : List Str} {F : NF} {f : Addr} {A : Around} {outer : List Env} {s s1 : Shared} {H : Hp} {E : XK} {us : List Value} {vs : List V} {ws : List (Option V)}
end
section
variable {P : Program} {w : World} {K : PySem.W.Frag} {mg : Str → Option Value} {base : Heap} {a : Nat → Addr} {T : List NTab}
end
end DV
namespace DV
open PySem PySem.Spec PyProof.Rows L2 NdefX He
def csOf (K : PySem.W.Frag) (tf : List Defn) : List (Addr × Addr):=tf.map (cT K)
section
variable {P : Program} {w : World} {K : PySem.W.Frag} {mg : Str → Option Value} {base : Heap} {cl : CL}
theorem gd_ofC {x qual : Str} {st : Stmt} {kws : List (Str × V)} {N ps : List Str} {k len n : Nat} {mb : MS} (e : ∃ fd,FunD K x qual (defArgs st) (defBody st) (defScope st) [] kws (ga K x) fd) (S : FnScope N ps (defScope st)) (hn : ps.length = n) (hl : N.length = len)
    (hbody : ∀ (A : Around) (outer : List Env) (s : Shared) (H : Hp) (E : XK),RoomG k (A.deeper (envOfC qual (defScope st) s.heap.objs.size (ga K x) (.ref (codeOf K (x,none))))) →
      Takes (cxD P w K mg base N qual st (ga K x) (.ref (codeOf K (x,none))) A outer s H E) (fun cls d _ H => E cls d H) →
      SSs (cxD P w K mg base N qual st (ga K x) (.ref (codeOf K (x,none))) A outer s H E) cl (fun cls d _ H => E cls d H) (defBody st) mb) : GD P w K mg base cl (k + 1) (ga K x) x qual st kws ps (mDef n len mb):=by
  obtain ⟨fd,F⟩:=e
  refine ⟨fd,?_,F⟩
  obtain ⟨oc,od,dV,kV,doc,pm,an,cdv,ct,osl,efd,lk,hcd,_⟩:=F.ex
  have hc : cdv = .ref (codeOf K (x,none)):=by
    unfold codeOf fAd
    simp only [lk]
    subst efd
    cases cdv with
    | ref c => rfl
    | _ => cases hcd
  subst hc
  have hlen : ∀ ds st,mDef n len mb ds st ≠ .bad → ds.length = ps.length:=fun ds t h => by
    unfold mDef at h
    by_cases z : ds.length = n
    · rw [z,hn]
    · rw [if_neg z] at h; exact absurd rfl h
  refine ⟨hlen,fun A outer s H args us vs Q E hr e0 hb r ⟨μ,t,ds,SS,rv,h⟩ => ?_⟩
  subst efd
  have hvl : vs.length = ps.length:=by rw [← rv.length]; exact hlen ds t h.nb
  have kin0 : K.In s.heap:=e0.mod.kin.keeps fun b o e => (e0.bs b o e).1
  have nolim : s.heap.NoLimit:=
    e0.mod.nolimit.keeps fun b o e => (e0.bs b o e).1
  have binds : ∀ y ∈ ps.zip us,(defScope st).names.lookup y.1 = some .local ∨ ((defScope st).names.lookup y.1 = some .cell ∧ ((cellsFrom (s.heap.objs.size + 1) (defScope st).names []).lookup y.1).isSome = true):=by
    rintro ⟨n,v⟩ hy
    rcases S.par n (List.of_mem_zip hy).1 with c | c
    · exact .inl c
    · exact .inr ⟨c,PySem.W.cellsFrom_some _ _ _ (.inl c)⟩
  have hr1 : RoomG k (A.deeper (envOfC qual (defScope st) s.heap.objs.size (ga K x) (.ref (codeOf K (x,none))))):=⟨hr.room.deeper _,hr.g⟩
  refine codeAny_call_function hr.room.depth (kin0 _ _ lk) rfl S.co S.gen rfl
    (PySem.W.codeRec_of kin0 hcd) (hb _ _ _ _ ?_)
  refine wpAny_newFunctionEnv_cells S.kind binds fun env1 henv t1 icc => ?_
  subst henv
  refine ⟨nolim.keeps icc.toInCall.keep,codeAny_func ?_⟩
  have body:=hbody A outer s H E hr1 (takes_of rfl rfl rfl rfl)
  have I0 : Inv (cxD P w K mg base N qual st (ga K x) (.ref (codeOf K (x,none))) A outer s H E) [] (L2.start N vs) H t1:=
    inv_start S hr.room.hd e0 hvl r icc
  have want : rdS K cl (fun cls d _ H => E cls d H) mb { nx:=fun _ H' => Q .non H',rt:=Q } (L2.start N vs) H:=by
    refine ⟨μ,t,_,SS,rv.start hl,?_⟩
    unfold mDef at h
    have z : ds.length = n:=by rw [rv.length,hvl,hn]
    rw [if_pos z] at h
    rw [z]
    cases q : mb (ds.map some ++ List.replicate (len - n) none) t with
    | rt d st' => rw [q] at h; exact h
    | nx l st' =>
      rw [q] at h
      exact fun μ' H' σ' s e _ => h μ' H' .non s e (by simp only [VR])
    | exc c fs l st' =>
      rw [q] at h
      exact fun μ' H' σ' cls d s e _ x => h μ' H' cls d s e x
    | bk l st' => rw [q] at h; exact h.elim
    | ct l st' => rw [q] at h; exact h.elim
    | bad => rw [q] at h; exact h.elim
  refine wpAny_mono (body.run [] t1 (L2.start N vs) H _ I0 want) (fun fl t2 hs => ?_) fun _ _ hs => hs
  cases fl with
  | ret u =>
    obtain ⟨v,σ',H',J,rv,q⟩:=hs
    exact ⟨v,H',J.os,J.bare,J.base,J.hok,rv,q⟩
  | next =>
    obtain ⟨σ',H',J,q⟩:=hs
    exact ⟨V.non,H',J.os,J.bare,J.base,J.hok,rfl,q⟩
  | brk => exact hs.elim fun _ h => h.elim fun _ h => h.2.elim
  | cont => exact hs.elim fun _ h => h.elim fun _ h => h.2.elim
end
structure GH (P : Program) (w : World) (K : PySem.W.Frag) (mg : Str → Option Value) (base : Heap) (a : Nat → Addr) (T : List NTab) (k j : Nat) (f : Addr) (x qual : Str) (st : Stmt) (ps : List Str) (n : Nat) (G : Addr → FD → FD) : Prop where
  ex : ∃ fd,FnH P w K mg base a T k j f fd ps n G ∧ FunD K x qual (defArgs st) (defBody st) (defScope st) [] [] f fd
end DV
namespace DV
open PySem PySem.Spec PyProof.Rows L2
def zipObj (f0 : Value) (f1 : Bool) (TI TO : Addr) : Obj:={ cls:=.type "zip",dict:=none,data:=.fields #[f0,.bool f1,.bool false,.ref TI,.ref TO],slots:=#[] }
def ZipSt (h : Heap) (z TI TO : Addr) : Prop:=∃ f0 f1,h.get? z = some (zipObj f0 f1 TI TO) ∧ (f0 = .none ∨ ∃ T : Nat,f0 = rawInt T)
theorem ZipSt.moved {h h' : Heap} {z TI TO : Addr} (s : ZipSt h z TI TO) (hk : ∀ o,h.get? z = some o → h'.get? z = some o) : ZipSt h' z TI TO:=by
  obtain ⟨f0,f1,e,r⟩:=s
  exact ⟨f0,f1,hk _ e,r⟩
section
variable {prog : Program} {w : World} {A : Around} {E : Value → Shared → Prop} {s : Shared} {z TI TO i1 i2 : Addr} {fp1 fp2 : List Addr} {n1 n2 i : Nat} {P1 P2 : Nat → Value → Prop} {St1 St2 : Nat → Heap → Prop} {a1 a2 : Value}
structure EnZ (e z TI TO i1 i2 : Addr) (fp1 fp2 : List Addr) : Prop where
  z : e ≠ z
  TI : e ≠ TI
  TO : e ≠ TO
  i1 : e ≠ i1
  i2 : e ≠ i2
  f1 : e ∉ fp1
  f2 : e ∉ fp2
end
end DV
namespace DV
open PySem PySem.Spec PyProof.Rows L2
set_option maxHeartbeats 8000000 in
section
variable {X : Cx} {cl : CL} {W : WX}
end
end DV
namespace DV
open PySem PySem.Spec PyProof.Rows L2
section
variable {X : Cx} {cl : CL}
theorem src_of {d : D} {st : Store} {it : Iter} (q : seqOf d st = some it) : SrcOk it.srcs st:=by
  intro p hp
  unfold seqOf at q
  cases d with
  | tup xs => cases q; cases hp
  | rol xs => cases q; cases hp
  | ref m =>
    simp only at q
    cases y : st.at_ m with
    | none => rw [y] at q; cases q
    | some c =>
      rw [y] at q
      cases c with
      | lst xs =>
        cases q
        simp only [List.mem_singleton] at hp
        subst hp
        exact y
      | _ => cases q
  | _ => cases q
end
section
variable {X : Cx} {cl : CL} {W : WX} {xs : MA} {pos : Pos}
end
end DV
namespace DV
open PySem PySem.Spec PyProof.Rows L2
section
variable {X : Cx} {cl : CL}
end
def maStar (m : ME) (xs : MA) : MA:=fun l st => (m l st).bind fun d st1 => match seqOf d st1 with
  | some it => (xs l st1).bind fun ys st2 => .ok (it.items ++ ys) st2
  | none => .bad
section
variable {X : Cx} {cl : CL} {W : WX} {e : Expr} {es : List Expr} {me : ME} {xs : MA} {p : Pos}
theorem sa_star (he : SE X cl W e me) (hr : SA X cl W es xs) (hs : starEach (.Starred e p :: es) X.env = (true,eval e X.env) :: starEach es X.env:=by rfl) : SA X cl W (.Starred e p :: es) (maStar me xs):=
  PA.weak (StX.pa_star he hr hs) fun σ H Q ⟨μ,st,l,S,L,h⟩ => ⟨μ,st,l,S,L,Post.bind h fun x st1 μ1 H1 v _ S1 e1 r1 h1 => by
    cases q : seqOf x st1 with
    | none => rw [q] at h1; exact h1.elim
    | some it =>
      rw [q] at h1
      obtain ⟨a,k,ev,_,hh⟩:=seqOf_ok S1 r1 q
      obtain ⟨vs,hq,rv⟩:=hh μ1 st1 H1 S1 Ev.refl (src_of q)
      subst ev
      refine ⟨a,vs,rfl,?_,μ1,st1,l,S1,L.ev e1,Post.bind h1 fun ys st2 μ2 H2 ws _ S2 e2 r2 h2 => h2 μ2 H2 (vs ++ ws) S2 Ev.refl ((rv.ev e2).append r2)⟩
      cases k with
      | true => exact .inr hq
      | false => exact .inl hq⟩
end
@[simp] theorem ev_maStar (m : ME) (xs : MA) (l : Loc) (st : Store) : maStar m xs l st = ((m l st).bind fun d st1 => match seqOf d st1 with
  | some it => (xs l st1).bind fun ys st2 => .ok (it.items ++ ys) st2
  | none => .bad):=rfl
end DV
namespace DV
open PySem PySem.Spec PyProof.Rows L2
open Classical in
open Classical in
section
variable {X : Cx} {cl : CL} {W : WX}
end
end DV
namespace DV
open PySem PySem.Spec PyProof.Rows L2
section
variable {X : Cx} {cl : CL}
end
end DV
namespace DV
open PySem PySem.Spec PyProof.Rows L2
theorem fly_keeps {base h h' : Heap} {l : List Env} {e : Addr} {Z : Obj → Prop} (f : HandSPX.FlyingZ base l e Z h) (k : ∀ b o,h.get? b = some o → h'.get? b = some o) : HandSPX.FlyingZ base l e Z h':=by
  obtain ⟨f1,f2,f3,oe,vs,T,oT,ts,he,hz,hd,h1,hnT,hTe,hT,hdT,h3⟩:=f
  exact ⟨fun b o q => k _ _ (f1 b o q),f2,Heap.FunFrames.of_keeps (fun b o e _ => ⟨o,k b o e,rfl⟩) f3,oe,vs,T,oT,ts,k _ _ he,hz,hd,h1,hnT,hTe,k _ _ hT,hdT,h3⟩
def wAs3 (K : PySem.W.Frag) (cs : List Value) (i : Nat) (ts : Addr → Value → Option Addr → TS) (Wout : WX) (D : Ends) : WX:=fun cls d σ H =>
  ∃ b,PySem.W.exmAny K cls cs = some b ∧ (b = false → Wout cls d σ H) ∧ (b = true → ∀ a,H a = none → ts a cls d { nx:=fun σ' H' => D.nx (σ'.set i none) H',rt:=D.rt,bk:=fun σ' H' => D.bk (σ'.set i none) H',ct:=fun σ' H' => D.ct (σ'.set i none) H' } (σ.set i (some (.ref a))) H)
section
variable {X : Cx} {x1 x2 x3 n : Str} {c1 c2 c3 : Value} {i : Nat} {body suite : List Stmt} {b₀ : Stmt} {p1 p2 p3 np pos pos' : Pos} {kt : Nat} {tb : WX → TS} {ts : Addr → Value → Option Addr → TS} {Wout : WX}
theorem ps_try_as3 (tk : Takes X Wout) (hs : X.stack = X.env :: X.outer) (hf : X.env.frame = some X.env.locals) (hN : X.N.Nodup) (hi : X.N[i]? = some n) (hln : X.env.kindOf n = some .local)
    (g1 : Gl X x1) (m1 : X.mg x1 = some c1) (g2 : Gl X x2) (m2 : X.mg x2 = some c2) (g3 : Gl X x3) (m3 : X.mg x3 = some c3)
    (hb : ∀ (W : WX) (pn : List (Addr × Obj)) (xe : Value → Shared → Prop),Takes (X.tr pn xe) W → PassesOwn (model X.prog X.w) X.A X.env xe → PSs (X.tr pn xe) body (tb W))
    (hsu : ∀ (a : Addr) (oe : Obj) (cls : Value) (d : Option Addr) (pn : List (Addr × Obj)),Zc cls d oe → (∃ vs,oe.data = .fields vs) → PSs (X.suite a ((a,oe) :: pn)) (b₀ :: suite) (ts a cls d))
    (d1 : (x1 == ("__debug__" : Str)) = false:=by decide) (d2 : (x2 == ("__debug__" : Str)) = false:=by decide) (d3 : (x3 == ("__debug__" : Str)) = false:=by decide) :
    PS X (.Try body [.ExceptHandler (some (.Tuple [.Name x1 p1,.Name x2 p2,.Name x3 p3] kt np)) (some n) (b₀ :: suite) pos'] [] [] pos) (fun D σ H => tb (wAs3 X.K [c1,c2,c3] i ts Wout D) D σ H):=by
  refine ⟨fun pins s σ H D I h => ?_⟩
  have ok:=I.ok
  have hfr : X.A.frames = some (X.env :: X.outer):=by rw [ok.frames,hs]
  have hloc : L2.Loc X.env.scope n:=.inl hln
  refine wpAny_Try_except ?_
  refine wpAny_mono ((hb (wAs3 X.K [c1,c2,c3] i ts Wout D) (X.pn ++ pins) (fun e s₁ => wpAny (model X.prog X.w) X.A (noteFrame e X.env) (fun _ s₂ => wpAny (model X.prog X.w) X.A (setFlight e none) (fun _ s₃ =>
    wpAny (model X.prog X.w) X.A (handleBy e X.env [.ExceptHandler (some (.Tuple [.Name x1 p1,.Name x2 p2,.Name x3 p3] kt np)) (some n) (b₀ :: suite) pos']) (SP X pins D) X.xe s₃) X.xe s₂) X.xe s₁) (fun u s' xx => ?_) PassesOwn.looking).run [] s σ H D (I.toTry _) h) (fun f s1 hsp => ?_) (fun e s1 he => he)
  · obtain ⟨a,B,sI,pins',σ',H',cls,d,rfl,J',nb,up,sky,na,os,ag,b,hm,hno,hyes⟩:=xx
    have J : Inv X pins σ' H' sI:=J'.ofTry ok
    have sky' : Sky B (X.env :: X.outer) a (Zc cls d) X.env.locals s'.heap:=by rw [← hs]; exact sky
    show wpAny (model X.prog X.w) X.A (noteFrame (.ref a) X.env) _ _ _
    refine Sky.land Zc.steady hfr hf sky' fun h3 fl3 up3 => ?_
    have J3 : Inv X pins σ' H' { s' with heap:=h3 }:=J.landed nb fl3.1 (up.trans up3) os ag
    obtain ⟨oe3,vs3,he3,hz3,hd3⟩:=fl3.there
    have notFr : ∀ {h : Heap} {o : Obj} {vs : Array Value},h.FunFrames B (X.env :: X.outer) → h.get? a = some o → o.data = .fields vs → a ∉ frs (X.env :: X.outer):=fun {h o vs} ff e dd hm => by
      obtain ⟨_,o',e',hnf⟩:=ff.mem hm
      rw [e] at e'; cases e'
      exact hnf _ dd
    have nfr:=notFr fl3.2.2.1 he3 hd3
    have nL : a ≠ X.env.locals:=fun z => nfr (List.mem_filterMap.mpr ⟨X.env,List.mem_cons_self,by rw [hf,z]⟩)
    have nF : a ∉ X.fs:=fun hm => by
      obtain ⟨e,he,q⟩:=List.mem_filterMap.mp hm
      exact nfr (List.mem_filterMap.mpr ⟨e,List.mem_cons_of_mem _ he,q⟩)
    have S3:=J3.suite he3 hd3 na nL nF
    refine wpAny_handleBy_cons (codeAny_handlers_test ?_) (by intro q; cases q)
    have LT : PySem.W.Looks (model X.prog X.w) h3 (typeOf (.ref a)) cls:=fun A Q E s k q => wpAny_typeOf_ref (k _ _ he3) (by rw [hz3.1]; exact q)
    have kp : ∀ b o,h3.get? b = some o → (h3.push ({ cls:=.type "tuple",data:=.seq [c1,c2,c3].toArray } : Obj)).get? b = some o:=fun b o e => Heap.get?_push_of_some _ e
    have LM:=PySem.W.exm_tup3 (M:=model X.prog X.w) (X:=(J3.kIn.keeps kp : X.K.In (h3.push ({ cls:=.type "tuple",data:=.seq [c1,c2,c3].toArray } : Obj)))) (tp:=h3.objs.size) (LT.keeps kp) (Heap.get?_push_size _ rfl) hm
    refine wpAny_Tuple_spliced (Calls.spliced_cons (ld_glob (X:=X.suite a ((a,oe3) :: (X.pn ++ pins))) S3 g1 m1 (Calls.spliced_cons (ld_glob (X:=X.suite a ((a,oe3) :: (X.pn ++ pins))) S3 g2 m2 (Calls.spliced_cons (ld_glob (X:=X.suite a ((a,oe3) :: (X.pn ++ pins))) S3 g3 m3 (Calls.spliced_nil ⟨by show 3 ≤ sizeLine; rw [sizeLine_eq]; omega,?_⟩) d3)) d2)) d1))
    refine LM.here ?_
    cases b with
    | false =>
      have fl3f:=fly_keeps fl3 kp
      have up3f : h3.UpToSlots (h3.push ({ cls:=.type "tuple",data:=.seq [c1,c2,c3].toArray } : Obj)):=Heap.UpToSlots.of_keeps kp
      show wpAny _ X.A (handleBy (.ref a) X.env []) _ _ _
      refine wpAny_handleBy_nil ?_
      obtain ⟨k1,k2,k3,oe,vs,T,oT,ts',he,hz,hd,h1,hr⟩:=id fl3f
      unfold PySem.passOn
      refine wpAny_bind (wpAny_field he hd h1 ?_)
      rw [if_neg (show ¬ ((Value.ref T == Value.none) = true) from by simp)]
      have fin : wpAny (model X.prog X.w) X.A (setFlight (.ref a) X.env.frame) (fun _ s4 => wpAny (model X.prog X.w) X.A (throw (.ref a) : Sem Flow) (SP X pins D) X.xe s4) X.xe { s' with heap:=h3.push ({ cls:=.type "tuple",data:=.seq [c1,c2,c3].toArray } : Obj) }:=by
        rw [hf]
        refine HandSPX.setFlight_upZ fl3f fun h4 hh4 up4 => wpAny_throw (tk _ _ ?_)
        exact ⟨a,B,sI,pins,σ',H',cls,d,rfl,J,nb,((up.trans up3).trans up3f).trans up4,.inr (.inr (by rw [hs]; exact hh4)),na,os,ag,hno rfl⟩
      first
        | exact wpAny_bind (wpAny_pure (wpAny_bind fin))
        | exact wpAny_bind fin
    | true =>
    refine codeAny_handlers_suite_as ?_
    have fl3':=fly_keeps fl3 kp
    have up3' : h3.UpToSlots (h3.push ({ cls:=.type "tuple",data:=.seq [c1,c2,c3].toArray } : Obj)):=Heap.UpToSlots.of_keeps kp
    refine HandSPX.lands_againZ fl3' fun h4 fl4 up4 => ?_
    have J4 : Inv X pins σ' H' { s' with heap:=h4 }:=J.landed nb fl4.1 (((up.trans up3).trans up3').trans up4) os ag
    obtain ⟨oe4,vs4,he4,hz4,hd4⟩:=fl4.there
    have S4:=J4.suite he4 hd4 na nL nF
    refine store_ok (X:=X.suite a ((a,oe4) :: (X.pn ++ pins))) (v:=.ref a) S4 hN hi hloc rfl (fun s5 S5 => ?_) (.inr hln)
    refine wpAny_mono ((hsu a oe4 cls d (X.pn ++ pins) hz4 ⟨_,hd4⟩).run [] s5 _ H' _ S5 (hyes rfl a na)) (fun f s6 hsp => ?_) (fun _ _ z => False.elim z)
    have end_ : ∀ {σ6 : L2.St} {H6 : Hp} {Q : Shared → Prop},Inv (X.suite a ((a,oe4) :: (X.pn ++ pins))) [] σ6 H6 s6 → (∀ s7,Inv X pins (σ6.set i none) H6 s7 → Q s7) →
        wpAny (model X.prog X.w) X.A (do bindName X.env n .none; unbindBehindTheSuite X.env n pos') (fun _ s7 => Q s7) X.xe s6:=fun {σ6 H6 Q} S6 hq => gone_ok (S6.unsuite ok) hN hi hln hq
    cases f with
    | next =>
      obtain ⟨σ6,H6,S6,q6⟩:=hsp
      exact end_ S6 fun s7 J7 => ⟨_,_,J7,q6⟩
    | brk =>
      obtain ⟨σ6,H6,S6,q6⟩:=hsp
      exact end_ S6 fun s7 J7 => ⟨_,_,J7,q6⟩
    | cont =>
      obtain ⟨σ6,H6,S6,q6⟩:=hsp
      exact end_ S6 fun s7 J7 => ⟨_,_,J7,q6⟩
    | ret u =>
      obtain ⟨v6,σ6,H6,S6,r6,q6⟩:=hsp
      exact end_ S6 fun s7 J7 => ⟨_,_,_,J7,r6,q6⟩
  · cases f with
    | next =>
      obtain ⟨σ',H',J',q⟩:=hsp
      exact wpAny_execs_nil ⟨σ',H',J'.ofTry ok,q⟩
    | brk =>
      obtain ⟨σ',H',J',q⟩:=hsp
      exact ⟨σ',H',J'.ofTry ok,q⟩
    | cont =>
      obtain ⟨σ',H',J',q⟩:=hsp
      exact ⟨σ',H',J'.ofTry ok,q⟩
    | ret u =>
      obtain ⟨v,σ',H',J',r,q⟩:=hsp
      exact ⟨v,σ',H',J'.ofTry ok,r,q⟩
end
def ppX (d : Option Addr) (fs : List (Str × D)) : PP:=⟨fun K μ N H => (fs = [] ∧ d = none) ∨ ∃ a ps,d = some a ∧ H a = some (.xd ps) ∧ ps.map (·.1) = fs.map (·.1) ∧ VRs K μ N H (fs.map (·.2)) (ps.map (·.2)),fun e h => by
  rcases h with h | ⟨a,ps,h1,h2,h3,h4⟩
  · exact .inl h
  · exact .inr ⟨a,ps,h1,e.xd _ _ h2,h3,h4.ev0 e⟩⟩
def RS.un (i : Nat) : RS → RS
  | .nx l st => .nx (l.set i none) st
  | .bk l st => .bk (l.set i none) st
  | .ct l st => .ct (l.set i none) st
  | .rt d st => .rt d st
  | _ => .bad
noncomputable def mTry (i : Nat) (cs : List Nat) (mb : MS) (m : Nat → List (Str × D) → Addr → MS) : MS:=fun l st => match mb l st with
  | .exc c fs l' st' => if c ∈ cs then (msDefR i (m c fs) l' st').un i else if 1000 ≤ c then .exc c fs l' st' else .bad
  | r => r
theorem LR.unset {K : PySem.W.Frag} {μ : Nat → Addr} {N : Nat} {H : Hp} {l : Loc} {σ : L2.St} (h : LR K μ N H l σ) (i : Nat) : LR K μ N H (l.set i none) (σ.set i none):=by
  refine ⟨by simp [h.1],fun j e q => ?_⟩
  by_cases hj : i = j
  · subst hj
    by_cases hl : i < l.length
    · rw [List.getElem?_set_self hl] at q
      cases q
    · rw [List.getElem?_eq_none (by simpa using hl)] at q; cases q
  · rw [List.getElem?_set_ne hj] at q
    rw [List.getElem?_set_ne hj]
    exact h.2 j e q
abbrev WNo : WX:=fun _ _ _ _ => False
section
variable {X : Cx} {aT : Nat → Addr} {T : List NdefX.NTab} {p : PP} {W : WX} {x1 x2 x3 n : Str} {c1 c2 c3 : Value} {i : Nat} {body suite : List Stmt} {b₀ : Stmt} {p1 p2 p3 np pos pos' : Pos} {kt : Nat} {mb : MS} {m : Nat → List (Str × D) → Addr → MS} {cs : List Nat}
theorem ss_try3 (tk : Takes X W) (hs : X.stack = X.env :: X.outer) (hf : X.env.frame = some X.env.locals) (hN : X.N.Nodup) (g1 : Gl X x1) (m1 : X.mg x1 = some c1) (g2 : Gl X x2) (m2 : X.mg x2 = some c2) (g3 : Gl X x3) (m3 : X.mg x3 = some c3)
    (hc : ∀ c ∈ cs,PySem.W.exmAny X.K (.ref (aT c)) [c1,c2,c3] = some true) (hk : PySem.W.exmAny X.K (.type "KeyError") [c1,c2,c3] = some false) (hz : PySem.W.exmAny X.K (.type "ZeroDivisionError") [c1,c2,c3] = some false) (lt : ∀ c ∈ cs,c < 1000)
    (hb : ∀ (W : WX) (pn : List (Addr × Obj)) (xe : Value → Shared → Prop),Takes (X.tr pn xe) W → SSs (X.tr pn xe) (CL.of aT T p) W body mb)
    (hsu : ∀ (c : Nat),c ∈ cs → ∀ (fs : List (Str × D)) (a : Addr) (oe : Obj) (d : Option Addr) (pn : List (Addr × Obj)),Zc (.ref (aT c)) d oe → (∃ vs,oe.data = .fields vs) → SSs (X.suite a ((a,oe) :: pn)) (CL.of aT T (p.and (ppX d fs))) WNo (b₀ :: suite) (m c fs a))
    (hi : X.N[i]? = some n:=by rfl) (hln : X.env.kindOf n = some .local:=by rfl)
    (d1 : (x1 == ("__debug__" : Str)) = false:=by decide) (d2 : (x2 == ("__debug__" : Str)) = false:=by decide) (d3 : (x3 == ("__debug__" : Str)) = false:=by decide) :
    SS X (CL.of aT T p) W (.Try body [.ExceptHandler (some (.Tuple [.Name x1 p1,.Name x2 p2,.Name x3 p3] kt np)) (some n) (b₀ :: suite) pos'] [] [] pos) (mTry i cs mb m):=by
  let tS : Addr → Value → Option Addr → TS:=fun a cls d E σ H => ∃ c fs,c ∈ cs ∧ cls = .ref (aT c) ∧ rdS X.K (CL.of aT T (p.and (ppX d fs))) WNo (m c fs a) E σ H
  refine PS.weak (ps_try_as3 (X:=X) (Wout:=W) tk (ts:=tS) (tb:=fun W => rdS X.K (CL.of aT T p) W mb) (i:=i) hs hf hN hi hln g1 m1 g2 m2 g3 m3 (fun W pn xe tk _ => hb W pn xe tk) (fun a oe cls d pn hz hv => ?_) d1 d2 d3) fun E σ H ⟨μ,st,l,S,L,h⟩ => ?_
  · refine ⟨fun pins s σ H E I ⟨c,fs,hm,ec,h⟩ => ?_⟩
    subst ec
    exact (hsu c hm fs a oe d pn hz hv).run pins s σ H E I h
  · refine ⟨μ,st,l,S,L,?_⟩
    unfold mTry at h
    cases q : mb l st with
    | nx l st' => rw [q] at h; exact h
    | rt d st' => rw [q] at h; exact h
    | bk l st' => rw [q] at h; exact h
    | ct l st' => rw [q] at h; exact h
    | bad => rw [q] at h; exact h
    | exc c fs l' st' =>
      rw [q] at h
      simp only at h
      by_cases hm : c ∈ cs
      · rw [if_pos hm] at h
        intro μ' H' σ' cls d S' e L' x
        obtain ⟨ex,hx⟩:=x
        rw [clsV_lt (lt c hm)] at ex
        subst ex
        have hx : (fs = [] ∧ d = none) ∨ ∃ a ps,d = some a ∧ H' a = some (.xd ps) ∧ ps.map (·.1) = fs.map (·.1) ∧ VRs X.K μ' st'.nxt H' (fs.map (·.2)) (ps.map (·.2)):=hx.imp (fun y => ⟨y.1,y.2.resolve_right (by have:=lt c hm; omega)⟩) id
        refine ⟨true,hc c hm,(fun z => by cases z),fun _ a ha => ⟨c,fs,hm,rfl,μ',st',l'.set i (some (.cst (.ref a))),S'.re ⟨S'.pp,hx⟩,L'.set i (by simp only [VR]),?_⟩⟩
        by_cases z : ∃ r,∀ f,m c fs f (l'.set i (some (.cst (.ref f)))) st' = r
        · obtain ⟨r,hr⟩:=z
          rw [msDefR_eq hr] at h
          rw [hr a]
          have h':=PostS.mono e h
          cases r with
          | nx l2 st2 => exact fun μ2 H2 σ2 S2 e2 L2 => h' μ2 H2 _ (S2.re S2.pp.1) e2 (L2.unset i)
          | bk l2 st2 => exact fun μ2 H2 σ2 S2 e2 L2 => h' μ2 H2 _ (S2.re S2.pp.1) e2 (L2.unset i)
          | ct l2 st2 => exact fun μ2 H2 σ2 S2 e2 L2 => h' μ2 H2 _ (S2.re S2.pp.1) e2 (L2.unset i)
          | rt d2 st2 => exact fun μ2 H2 v2 S2 e2 r2 => h' μ2 H2 v2 (S2.re S2.pp.1) e2 r2
          | exc c2 fs2 l2 st2 => exact h'.elim
          | bad => exact h'.elim
        · unfold msDefR at h
          rw [dif_neg z] at h
          exact h.elim
      · rw [if_neg hm] at h
        by_cases big : 1000 ≤ c
        · rw [if_pos big] at h
          intro μ' H' σ' cls d S' e L' x
          refine ⟨false,?_,fun _ => h μ' H' σ' cls d S' e L' x,fun z => by cases z⟩
          obtain ⟨ex,hx⟩:=x
          unfold clsV at ex
          rw [if_neg (by omega)] at ex
          subst ex
          split
          · exact hk
          · exact hz
        · rw [if_neg big] at h
          exact h.elim
end
def mIsE (i : Nat) (a : Addr) (b : Bool) : ME:=fun l st => match l[i]? with
  | some (some (.cst (.ref g))) => if g = a then .ok (.bl b) st else .bad
  | _ => .bad
def mXf (i : Nat) (a : Addr) (fs : List (Str × D)) (f : Str) : ME:=fun l st => match l[i]? with
  | some (some (.cst (.ref g))) => if g = a then (match fs.lookup f with
    | some d => .ok d st
    | none => .bad) else .bad
  | _ => .bad
structure ExcE (K : PySem.W.Frag) (D : Addr) : Prop where
  cl : (PySem.W.clsIn K D).isSome = true
  hg : PySem.W.findIn K (.ref D) "__getattribute__" = some (some (.builtin "BaseException.__getattribute__"))
  hk : PySem.W.findIn K (.ref D) "__getattr__" = some none
  hs : PySem.W.subIn K (.ref D) (.type "BaseException") = some true
  hd : PySem.W.hasDictIn K D = true
  ha : PySem.W.findIn K (.ref D) "__class__" = some (some (.builtin "object.__class__"))
  hn : PySem.W.specialIn K (.builtin "object.__class__") "__get__" = some (some (.builtin "getset_descriptor.__get__"))
  ht : PySem.W.takesIn K (.builtin "object.__class__") = some true
  hm : PySem.W.mroIn K D (.type "object") = some true
section
variable {X : Cx} {aT : Nat → Addr} {T : List NdefX.NTab} {p : PP} {W : WX} {a : Addr} {oe : Obj} {c : Nat} {d : Option Addr} {fs : List (Str × D)}
theorem inst_e {P : Program} {w : World} {K : PySem.W.Frag} {μ : Nat → Addr} {N : Nat} {H : Hp} {h : Heap} {D : Addr} (hok : HOk P w H h) (hget : h.get? a = some oe) (hz : Zc (.ref D) d oe) (hf : ∃ vs,oe.data = .fields vs) (hx : (ppX d fs).P K μ N H) :
    ∃ od,PySem.W.InstAt h a oe D od:=by
  obtain ⟨vs,hv⟩:=hf
  have no : PySem.W.notCls oe = true:=by unfold PySem.W.notCls; rw [hv] <;> rfl
  rcases hx with ⟨_,ed⟩ | ⟨dd,ps,ed,hd,_⟩
  · exact ⟨none,hget,hz.1,no,by rw [hz.2,ed]; trivial⟩
  · have x : ObjOk P w H h dd (.xd ps):=hok dd _ hd
    obtain ⟨mA,hns,hr⟩:=x
    obtain ⟨od,ho,hl⟩:=lookIn_ns hns
    exact ⟨some od,hget,hz.1,no,by rw [hz.2,ed]; exact ho⟩
theorem call_isE2 {X : Cx} {a D : Addr} {oe : Obj} (C : ExcE X.K D) (hz : Zc (.ref D) d oe) (hf : ∃ vs,oe.data = .fields vs) (hpn : (a,oe) ∈ X.pn) : CallR X (.builtin "isinstance") (fun xs H Q => ∃ (cv : V) (u : Value) (b : Bool) (μ : Nat → Addr) (N : Nat),xs = [.ref a,cv] ∧ (∀ w,RelV cv w → w = u) ∧ PySem.W.kitOne X.K (.ref D) u = some b ∧ (ppX d fs).P X.K μ N H ∧ Q (.bl b) H):=by
  intro pins s σ H xs us Q I r h
  obtain ⟨cv,u,b,μ,N,rfl,hcv,e,hx,q⟩:=h
  cases r with
  | cons rx rr =>
    cases rr with
    | cons rt rr =>
      cases rr
      cases rx
      have ec:=hcv _ rt
      subst ec
      obtain ⟨hget,_⟩:=I.pin (a,oe) (List.mem_append.mpr (.inl hpn))
      obtain ⟨od,J⟩:=inst_e I.hok hget hz hf hx
      exact PySem.W.kia_one (PySem.W.kitx_exc (od:=od) C.cl C.hg C.hk C.hs C.ha C.hn C.ht C.hm) I.kIn J e (fun z => nomatch z) fun tk => ⟨.bl b,H,I.kept (t':=tk) fun _ _ z => z,rfl,q⟩
theorem s_isE (i : Nat) {x : Str} {e2 : Expr} {v : V} {u : Value} {b : Bool} {px p1 pos : Pos} (C : ExcE X.K (aT c)) (hz : Zc (.ref (aT c)) d oe) (hf : ∃ vs,oe.data = .fields vs) (hpn : (a,oe) ∈ X.pn) (hp : ∀ μ N H,p.P X.K μ N H → (ppX d fs).P X.K μ N H) (hk : PySem.W.kitOne X.K (.ref (aT c)) u = some b) (hc : ClsE X e2 v u) (hm : X.mg "isinstance" = none)
    (hN : X.N[i]? = some x:=by rfl) (hv : Vis X.env.scope x:=by first | exact Or.inl rfl | exact Or.inr (Or.inl rfl) | exact Or.inr (Or.inr rfl)) (hg : Gl X "isinstance":=by rfl)
    (hbv : bootBuiltins "isinstance" = some (.builtin "isinstance"):=by rfl) (hd : (x == ("__debug__" : Str)) = false:=by decide) (hcd : (x == ("__classdict__" : Str)) = false:=by decide)
    (h1 : starEach (.Name x px :: [e2]) X.env = (false,eval (.Name x px) X.env) :: starEach [e2] X.env:=by rfl) (h2 : starEach (e2 :: []) X.env = (false,eval e2 X.env) :: starEach [] X.env:=by rfl) (hpl : (backTo pos (starEach [e2] X.env)).any (·.1) = false:=by rfl) :
    SE X (CL.of aT T p) W (.Call (.Name "isinstance" p1) [.Name x px,e2] [] pos) (mIsE i a b):=
  s_pe (pe_callB (call_isE2 (d:=d) (fs:=fs) C hz hf hpn) hg hm hbv (pa_cons (pe_var (pos:=px) (i:=i) hN hv hd hcd) (pa_cons hc.pe pa_nil h2) h1) (by decide) (by decide) h1 hpl) fun σ H Q ⟨μ,st,l,S,L,h⟩ => by
    unfold mIsE at h
    cases q : l[i]? with
    | none => rw [q] at h; exact h.elim
    | some o =>
      rw [q] at h
      cases o with
      | none => exact h.elim
      | some d1 =>
        cases d1 with
        | cst v2 =>
          cases v2 with
          | ref g =>
            simp only at h
            by_cases hg : g = a
            · subst hg
              rw [if_pos rfl] at h
              obtain ⟨v3,hs,rv⟩:=L.2 i _ q
              simp only [VR] at rv
              subst rv
              exact ⟨_,hs,v,u,b,μ,st.nxt,rfl,fun w r => by cases hc.cls <;> exact r,hk,hp _ _ _ S.pp,h μ H _ S Ev.refl (by simp only [VR])⟩
            · rw [if_neg hg] at h; exact h.elim
          | _ => exact h.elim
        | _ => exact h.elim
end
section
variable {X : Cx} {aT : Nat → Addr} {T : List NdefX.NTab} {p : PP} {W : WX} {a : Addr} {oe : Obj} {c : Nat} {d : Option Addr} {fs : List (Str × D)} {pn : List (Addr × Obj)}
theorem s_xf (i : Nat) {x n : Str} {px pos : Pos} (C : ExcE X.K (aT c)) (hno : PySem.W.findIn X.K (.ref (aT c)) n = some none) (hz : Zc (.ref (aT c)) d oe) (hf : ∃ vs,oe.data = .fields vs) (hp : ∀ μ N H,p.P X.K μ N H → (ppX d fs).P X.K μ N H)
    (hN : X.N[i]? = some x:=by rfl) (hv : Vis X.env.scope x:=by first | exact Or.inl rfl | exact Or.inr (Or.inl rfl) | exact Or.inr (Or.inr rfl)) (hd : (x == ("__debug__" : Str)) = false:=by decide) (hcd : (x == ("__classdict__" : Str)) = false:=by decide)
    (hb : attributeBase (.Name x px) n X.env (eval (.Name x px) X.env) = eval (.Name x px) X.env:=by rfl) :
    SE (X.suite a ((a,oe) :: pn)) (CL.of aT T p) W (.Attribute (.Name x px) n pos) (mXf i a fs n):=
  s_pe (pe_xf (X:=X) (C:=aT c) ⟨C.hg,C.hk,C.hs,C.hd⟩ hno hz hf (pe_var (X:=X.suite a ((a,oe) :: pn)) (pos:=px) (i:=i) hN hv hd hcd) hb) fun σ H Q ⟨μ,st,l,S,L,h⟩ => by
    unfold mXf at h
    cases q : l[i]? with
    | none => rw [q] at h; exact h.elim
    | some o =>
      rw [q] at h
      cases o with
      | none => exact h.elim
      | some d1 =>
        cases d1 with
        | cst v2 =>
          cases v2 with
          | ref g =>
            simp only at h
            by_cases hg : g = a
            · subst hg
              rw [if_pos rfl] at h
              obtain ⟨v3,hs,rv⟩:=L.2 i _ q
              simp only [VR] at rv
              subst rv
              cases ql : fs.lookup n with
              | none => rw [ql] at h; exact h.elim
              | some y =>
                rw [ql] at h
                rcases hp _ _ _ S.pp with ⟨e1,_⟩ | ⟨dd,ps,ed,hd2,hn,hr⟩
                · rw [e1] at ql; cases ql
                · obtain ⟨v,e1,rv⟩:=lookA_rel hn hr ql
                  exact ⟨_,hs,rfl,rfl,dd,ps,v,ed,hd2,e1,h μ H v S Ev.refl rv⟩
            · rw [if_neg hg] at h; exact h.elim
          | _ => exact h.elim
        | _ => exact h.elim
end
structure FnE (P : Program) (w : World) (K : PySem.W.Frag) (mg : Str → Option Value) (base : Heap) (aT : Nat → Addr) (T : List NdefX.NTab) (cs : List Nat) (k : Nat) (f : Addr) (fd : FuncData) (y : Str) (G : Nat → Addr → FD) : Prop where
  run : ∀ (c : Nat),c ∈ cs → ∀ (p : PP) (A : Around) (outer : List Env) (s : Shared) (H : Hp) (args : Args) (Q : VK) (E : XK) (a : Addr) (oe : Obj) (d : Option Addr) (fs : List (Str × D)),L2H.RoomH k A → L2H.PinOk outer H s (a,oe) → Zc (.ref (aT c)) d oe → (∃ vs,oe.data = .fields vs) →
    (∀ μ N H,p.P K μ N H → (ppX d fs).P K μ N H) → Env0 P w K mg base A outer s H → BindsTo s fd args [(y,.ref a)] → spF K (CL.of aT T p) (G c a) [.ref a] H Q E → codeAny (model P w) A (.call (.ref f) args) (CR (L2.CX P w) outer P w H s Q E) s
section
variable {P : Program} {w : World} {K : PySem.W.Frag} {mg : Str → Option Value} {base : Heap} {aT : Nat → Addr} {T : List NdefX.NTab} {cs : List Nat}
theorem fne_of {x qual y : Str} {st : Stmt} {f : Addr} {fd : FuncData} {N : List Str} {k len : Nat} {mb : Nat → Addr → MS} (F : FunA K x qual st f fd) (S : FnScope N [y] (defScope st)) (hl : N.length = len)
    (hbody : ∀ (c : Nat),c ∈ cs → ∀ (p : PP) (cdv : Value) (A : Around) (outer : List Env) (s : Shared) (H : Hp) (E : XK) (a : Addr) (oe : Obj) (d : Option Addr) (fs : List (Str × D)),Zc (.ref (aT c)) d oe → (∃ vs,oe.data = .fields vs) → (∀ μ N H,p.P K μ N H → (ppX d fs).P K μ N H) →
      SSs (L2H.cxH (L2.CX P w) P w K mg base N qual (defScope st) f cdv A outer s H E (a,oe)) (CL.of aT T p) (fun cls d _ H => E cls d H) (defBody st) (mb c a)) : FnE P w K mg base aT T cs (k + 1) f fd y (fun c a => mDef 1 len (mb c a)):=by
  obtain ⟨oc,od,dV,kV,doc,pm,an,cdv,ct,osl,efd,lk,hcd⟩:=F.ex
  refine ⟨fun c hc p A outer s H args Q E a oe d fs hr hpin hz hf hp e0 hb ⟨μ,t,ds,SS,rv,h⟩ => ?_⟩
  subst efd
  have kin0 : K.In s.heap:=e0.mod.kin.keeps fun b o e => (e0.bs b o e).1
  have nolim : s.heap.NoLimit:=e0.mod.nolimit.keeps fun b o e => (e0.bs b o e).1
  have hkind : ∀ z ∈ ([y] : List Str).zip [(Value.ref a)],(defScope st).names.lookup z.1 = some .local ∨ ((defScope st).names.lookup z.1 = some .cell ∧ ((cellsFrom (s.heap.objs.size + 1) (defScope st).names []).lookup z.1).isSome = true):=by
    rintro ⟨n,v⟩ hy
    rcases S.par n (List.of_mem_zip hy).1 with c | c
    · exact .inl c
    · exact .inr ⟨c,PySem.W.cellsFrom_some _ _ _ (.inl c)⟩
  refine codeAny_call_function hr.depth (kin0 _ _ lk) rfl S.co S.gen rfl (PySem.W.codeRec_of kin0 hcd) (hb _ _ _ _ ?_)
  refine wpAny_newFunctionEnv_cells S.kind hkind fun env1 henv t1 icc => ?_
  subst henv
  refine ⟨nolim.keeps icc.toInCall.keep,codeAny_func ?_⟩
  have body:=hbody c hc p cdv A outer s H E a oe d fs hz hf hp
  have I0 : Inv (L2H.cxH (L2.CX P w) P w K mg base N qual (defScope st) f cdv A outer s H E (a,oe)) [] (L2.start N [.ref a]) H t1:=
    L2H.inv_startH (vs:=[.ref a]) (us:=[.ref a]) S hpin e0 rfl (.cons rfl .nil) icc
  have hlen : ds.length = 1:=by have:=rv.length; simpa using this
  have want : rdS K (CL.of aT T p) (fun cls d _ H => E cls d H) (mb c a) { nx:=fun _ H' => Q .non H',rt:=Q } (L2.start N [.ref a]) H:=by
    refine ⟨μ,t,_,SS,rv.start hl,?_⟩
    unfold mDef at h
    rw [if_pos hlen] at h
    rw [hlen]
    cases q : mb c a (ds.map some ++ List.replicate (len - 1) none) t with
    | rt d st' => rw [q] at h; exact h
    | nx l st' =>
      rw [q] at h
      exact fun μ' H' σ' s e _ => h μ' H' .non s e (by simp only [VR])
    | exc c fs l st' =>
      rw [q] at h
      exact fun μ' H' σ' cls d s e _ x => h μ' H' cls d s e x
    | bk l st' => rw [q] at h; exact h.elim
    | ct l st' => rw [q] at h; exact h.elim
    | bad => rw [q] at h; exact h.elim
  refine wpAny_mono (body.run [] t1 (L2.start N [.ref a]) H _ I0 want) (fun fl t2 hs => ?_) fun _ _ hs => hs
  cases fl with
  | ret u =>
    obtain ⟨v,σ',H',J,rv,q⟩:=hs
    exact ⟨v,H',J.os,J.bare,J.base,J.hok,rv,q⟩
  | next =>
    obtain ⟨σ',H',J,q⟩:=hs
    exact ⟨V.non,H',J.os,J.bare,J.base,J.hok,rfl,q⟩
  | brk => exact hs.elim fun _ h => h.elim fun _ h => h.2.elim
  | cont => exact hs.elim fun _ h => h.elim fun _ h => h.2.elim
end
def mTags (i : Nat) (a : Addr) (F : FD) : ME:=fun l st => match l[i]? with
  | some (some (.cst (.ref g))) => if g = a then F [.cst (.ref a)] st else .bad
  | _ => .bad
section
variable {X : Cx} {aT : Nat → Addr} {T : List NdefX.NTab} {p : PP} {a : Addr} {oe : Obj} {c : Nat} {d : Option Addr} {fs : List (Str × D)} {pn : List (Addr × Obj)} {cs : List Nat} {k j : Nat} {f : Addr} {fd : FuncData} {y : Str} {G : Nat → Addr → FD}
theorem s_tags (i : Nat) {x n : Str} {px p1 pos : Pos} (F : FnE X.prog X.w X.K X.mg X.base aT T cs k f fd y G) (hr : RoomG k X.A) (hc : c ∈ cs) (hz : Zc (.ref (aT c)) d oe) (hf : ∃ vs,oe.data = .fields vs) (hp : ∀ μ N H,p.P X.K μ N H → (ppX d fs).P X.K μ N H)
    (hm : X.mg x = some (.ref f)) (hk : PySem.W.keepIn X.K (.ref f) = true) (hb : Binds X.K fd [y] []) (hN : X.N[i]? = some n:=by rfl) (hg : Gl X x:=by rfl)
    (hv : Vis X.env.scope n:=by first | exact Or.inl rfl | exact Or.inr (Or.inl rfl) | exact Or.inr (Or.inr rfl)) (hd : (n == ("__debug__" : Str)) = false:=by decide) (hcd : (n == ("__classdict__" : Str)) = false:=by decide)
    (hdb : (x == ("__debug__" : Str)) = false:=by decide) (he : starEach (.Name n px :: []) X.env = (false,eval (.Name n px) X.env) :: starEach [] X.env:=by rfl) (hpl : (backTo pos (starEach [] X.env)).any (·.1) = false:=by rfl) :
    SE (X.suite a ((a,oe) :: pn)) (CL.of aT T p) WNo (.Call (.Name x p1) [.Name n px] [] pos) (mTags i a (G c a)):=by
  refine ⟨fun pins s σ H Q I ⟨μ,st,l,S,L,h⟩ => ?_⟩
  unfold mTags at h
  cases q : l[i]? with
  | none => rw [q] at h; exact h.elim
  | some o =>
    rw [q] at h
    cases o with
    | none => exact h.elim
    | some d1 =>
      cases d1 with
      | cst v2 =>
        cases v2 with
        | ref g =>
          simp only at h
          by_cases hga : g = a
          · subst hga
            rw [if_pos rfl] at h
            obtain ⟨v3,hs,rv⟩:=L.2 i _ q
            simp only [VR] at rv
            subst rv
            refine wpAny_Call_Name_kw (ld_glob I (show Gl (X.suite g ((g,oe) :: pn)) x from hg) hm ?_ hdb)
            have ha : PA (X.suite g ((g,oe) :: pn)) [.Name n px] (tCons (tVar i) tNil):=pa_cons (pe_var (X:=X.suite g ((g,oe) :: pn)) (pos:=px) (i:=i) hN hv hd hcd) pa_nil he
            refine PySem.W.callWith_K (h₀:=X.base) I.ok.mod.kin hk (thn (ha.run pos pins s σ H (fun vs H1 => vs = [V.ref g] ∧ H1 = H) I ⟨.ref g,hs,rfl,rfl⟩) fun us s1 ⟨vs,H1,I1,r1,ev,eH⟩ => ⟨I1.kIn,?_⟩) he hpl
            subst ev
            rw [eH] at I1
            obtain rfl : us = [Value.ref g]:=by
              cases r1 with
              | cons ru rn =>
                cases rn
                cases ru
                rfl
            have P1:=I1.pin (g,oe) (List.mem_append_left _ List.mem_cons_self)
            have hpin : L2H.PinOk X.stack H s1 (g,oe):=⟨P1.1,P1.2.1,fun hm => (List.mem_cons.mp (I1.stkSub g hm)).elim P1.2.2.1 P1.2.2.2.1,P1.2.2.2.2⟩
            have b:=hb s1 [Value.ref g] I1.kIn rfl
            rw [List.append_nil] at b
            show wpAny _ _ (call (.ref f) [Value.ref g]) _ _ _
            refine wpAny_call (codeAny_mono (F.run c hc p (X.A.mark (some (.ref g))) X.stack s1 H ⟨[.ref g],[]⟩ Q (fun _ _ _ => False) g oe d fs (L2H.roomH_mark hr.room _) hpin hz hf hp I1.env0 b ⟨μ,st,[.cst (.ref g)],S,VRs.one (by simp only [VR]),h⟩) fun r s' hq => ?_)
            cases r with
            | error e => exact hq.elim fun _ h => h.elim fun _ h => h.elim fun _ h => h.elim fun _ h => h.elim fun _ h => h.2.2.2.2.2.2.2
            | ok fl =>
              cases fl with
              | ret u => exact I1.after hq
              | next => exact False.elim hq
              | brk => exact False.elim hq
              | cont => exact False.elim hq
          · rw [if_neg hga] at h; exact h.elim
        | _ => exact h.elim
      | _ => exact h.elim
end
end DV
namespace DV
open PySem PySem.Spec PyProof.Rows L2 NdefX LamX
theorem lamN_app (q : Str) : LamN (q ++ "<lambda>") = true:=by
  have e : (q ++ ("<lambda>" : Str)).cps.toList = q.cps.toList ++ ("<lambda>" : Str).cps.toList:=Array.toList_append
  have l : ("<lambda>" : Str).cps.toList.length = 8:=rfl
  unfold LamN
  rw [e,List.length_append,l,Nat.add_sub_cancel,List.drop_left]
  rfl
theorem codeF_inj {h : Heap} {c : Addr} {q q2 : Str} {P P2 : Addr} (a : CodeF c q P h) (b : CodeF c q2 P2 h) : q = q2 ∧ P = P2:=by
  obtain ⟨⟨oc,vs,t,h1,h2,h3⟩,o2,vs2,_,_,_,_,_,_,_,g1,_,g3,g4,_⟩:=a
  obtain ⟨⟨oc',vs',t',k1,k2,k3⟩,o4,vs4,_,_,_,_,_,_,_,m1,_,m3,m4,_⟩:=b
  rw [h1] at k1 g1 m1
  cases k1
  cases g1
  cases m1
  rw [h2] at k2 g3 m3
  cases k2
  cases g3
  cases m3
  rw [h3] at k3
  rw [g4] at m4
  cases k3
  cases m4
  exact ⟨rfl,rfl⟩
theorem codeF_of {h h' : Heap} {c : Addr} {q : Str} {P : Addr} (st : ∀ o,h.get? c = some o → h'.get? c = some o) (a : CodeF c q P h) : CodeF c q P h':=by
  obtain ⟨⟨oc,vs,t,h1,h2,h3⟩,o2,vs2,x1,x2,x3,x4,x5,x6,x7,g1,r⟩:=a
  exact ⟨⟨oc,vs,t,st _ h1,h2,h3⟩,o2,vs2,x1,x2,x3,x4,x5,x6,x7,st _ g1,r⟩
theorem codeT_ne {c : Addr} {q : Str} {P : Addr} (ps : Array Value) : CodeT c q P ≠ .tbl ps:=fun z => by
  unfold CodeT at z
  cases z
section
variable {M : Model} {A : Around} {E : Value → Shared → Prop} {s : Shared} {name qual : Str} {params : Arguments} {body : Expr} {scope : Scope} {env : Env} {c P : Addr} {ps : Array Value} {pos : Pos} {firstLine : Nat} {mg : Str → Option Value}
  {clos : List (Str × Addr)} {Q : Value → Shared → Prop}
theorem lam_fresh (hcl : closureFor scope env = pure clos) (hge0 : env.globals = mainGlobals) (hg : s.heap.Ns mainGlobals mg) (hcode : env.code = .ref c) (C : PySem.W.CodeHd s.heap c P) (hP : s.heap.get? P = some (PySem.W.tabObj ps)) (ht : TriplesOk ps.toList)
    (hnf : codeAmong pos ps.toList = none) (hgP : mainGlobals ≠ P) (hb : s.heap.BuiltinsAt mg P)
    (h : ∀ c' P' ctv h' tk,Heap.ExtBut P s.heap h' → s.heap.objs.size ≤ c' → c' < h'.objs.size → s.heap.objs.size ≤ P' → P' < h'.objs.size → c' ≠ P' → CodeF c' qual P' h' → h'.get? P' = some (PySem.W.tabObj #[]) → h'.get? P = some (PySem.W.tabObj (ps ++ #[rawInt pos.line,rawInt pos.col,.ref c'])) →
      Q (.ref h'.objs.size) { s with heap:=h'.push (PySem.W.kla_obj name qual params body scope clos ((mg "__name__").getD .none) c' ctv),toks:=tk }) :
    wpAny M A (makeFunction name qual params (.expr body) scope env [] [] [] pos firstLine) Q E s:=by
  rw [makeFunction_eq]
  simp only [List.zip_nil_right,List.filterMap_nil,List.isEmpty_nil,if_true,pure_bind]
  obtain ⟨bm,ob,hbm,hne0,_,hneP,hbo,hcls,hdict,hdata⟩:=hb
  have own : ∀ {c' : Addr} {h' : Heap},h'.CodeRec (.ref c') qual → (∃ P',s.heap.objs.size ≤ P' ∧ h'.IsCode c' P' #[] ∧ h'.TableAt c' P' #[]) → ∃ P',s.heap.objs.size ≤ P' ∧ P' < h'.objs.size ∧ c' ≠ P' ∧ CodeF c' qual P' h' ∧ h'.get? P' = some (PySem.W.tabObj #[]):=by
    intro c' h' hrec ⟨P',e1,e2,e3⟩
    obtain ⟨c2,oc,vs,t,e,hoc,hd,hv⟩:=hrec
    cases e
    have hd':=PySem.W.CodeHd.of e2 e3
    refine ⟨P',e1,Heap.lt_size e3.2,?_,⟨⟨oc,vs,t,hoc,hd,hv⟩,hd'⟩,e3.2⟩
    obtain ⟨_,_,_,_,_,_,_,_,_,_,_,_,_,_,_,_,_,_,ne⟩:=hd'
    exact ne
  unfold makeTail
  rw [hcl,hge0]
  refine wpAny_bind (wpAny_pure ?_)
  cases clos with
  | nil =>
    simp only [List.isEmpty_nil,if_true]
    refine wpAny_bind (wpAny_pure ?_)
    refine wpAny_bind (wpAny_functionCodeX hcode (C.code hP ht) (C.tab hP) hnf fun c' h' tk hx hge hlt _ hrec htb fresh => ?_)
    obtain ⟨P',f1,f2,f3,f4,f5⟩:=own hrec fresh
    have hg':=hg.extBut hx hgP
    refine wpAny_bind (wpAny_builtinsFor hg' hbm hne0 (hx _ _ hneP hbo) hcls hdict hdata ?_)
    refine wpAny_bind (wpAny_nsGet hg' ?_)
    exact wpAny_bind (wpAny_pure (wpAny_newObj_type (h c' P' .none h' tk hx hge hlt f1 f2 f3 f4 f5 htb.2) (by size_fits)))
  | cons q r =>
    simp only [List.isEmpty_cons,Bool.false_eq_true,if_false]
    refine wpAny_bind (wpAny_newTextTuple ?_)
    refine wpAny_bind (wpAny_functionCodeX hcode ((C.keeps fun b o e => Heap.get?_push_of_some _ e).code (Heap.get?_push_of_some _ hP) ht) ((C.keeps fun b o e => Heap.get?_push_of_some _ e).tab (Heap.get?_push_of_some _ hP)) hnf fun c' h' tk hx hge hlt _ hrec htb fresh => ?_)
    have up : ∀ n,s.heap.objs.size + 1 ≤ n → s.heap.objs.size ≤ n:=fun n z => by omega
    rw [Heap.size_push] at hge
    obtain ⟨P',f1,f2,f3,f4,f5⟩:=own hrec (by
      obtain ⟨P',e1,e2⟩:=fresh
      rw [Heap.size_push] at e1
      exact ⟨P',up _ e1,e2⟩)
    have hg':=(hg.push _).extBut hx hgP
    have hx' : Heap.ExtBut P s.heap h':=fun b o hb' e => hx b o hb' (Heap.get?_push_of_some _ e)
    refine wpAny_bind (wpAny_builtinsFor hg' hbm hne0 (hx' _ _ hneP hbo) hcls hdict hdata ?_)
    refine wpAny_bind (wpAny_nsGet hg' ?_)
    exact wpAny_bind (wpAny_pure (wpAny_newObj_type (h c' P' _ h' tk hx' (up _ hge) hlt f1 f2 f3 f4 f5 htb.2) (by size_fits)))
end
def TabC (T : List NTab) (H : Hp) (c0 P0 c P : Addr) (pos : Pos) (q : Str) : Prop:=
  (c = c0 ∧ P = P0 ∧ ∃ nm,(P,nm) ∈ T ∧ nm pos.line pos.col = q ∧ ∀ p ∈ T,p.1 = P → p.2 = nm) ∨ ∃ q1,H c = some (CodeT c q1 P) ∧ LamN q1 = true ∧ q = q1 ++ ".<locals>." ++ "<lambda>"
section
variable {X : Cx} {pins : List (Addr × Obj)} {σ : L2.St} {H : Hp} {s : Shared} {T : List NTab}
def hpD (H : Hp) (P : Addr) (ps : Array Value) (pos : Pos) (c' P2 : Addr) (q : Str) : Hp:=upd (upd (upd H P (.tbl (ps ++ #[rawInt pos.line,rawInt pos.col,.ref c']))) P2 (.tbl #[])) c' (CodeT c' q P2)
theorem hpD_c {P c' P2 : Addr} {q : Str} {ps : Array Value} {pos : Pos} : hpD H P ps pos c' P2 q c' = some (CodeT c' q P2):=upd_same
theorem hpD_2 {P c' P2 : Addr} {q : Str} {ps : Array Value} {pos : Pos} (n : P2 ≠ c') : hpD H P ps pos c' P2 q P2 = some (.tbl #[]):=(upd_ne n).trans upd_same
theorem hpD_P {P c' P2 : Addr} {q : Str} {ps : Array Value} {pos : Pos} (n : P ≠ c') (n2 : P ≠ P2) : hpD H P ps pos c' P2 q P = some (.tbl (ps ++ #[rawInt pos.line,rawInt pos.col,.ref c'])):=(upd_ne n).trans ((upd_ne n2).trans upd_same)
theorem hpD_ne {P c' P2 b : Addr} {q : Str} {ps : Array Value} {pos : Pos} (h1 : b ≠ P) (h2 : b ≠ c') (h3 : b ≠ P2) : hpD H P ps pos c' P2 q b = H b:=(upd_ne h2).trans ((upd_ne h3).trans (upd_ne h1))
theorem inv_tableD {P c' P2 : Addr} {q : Str} {ps : Array Value} {pos : Pos} {h' : Heap} {t' : Nat} (I : Inv X pins σ H s) (hP : H P = some (.tbl ps)) (k : ∀ b o,b ≠ P → s.heap.get? b = some o → h'.get? b = some o)
    (hm : h'.get? P = some { cls:=.none,data:=.fields (ps ++ #[rawInt pos.line,rawInt pos.col,.ref c']) }) (hc : s.heap.objs.size ≤ c') (hp2 : s.heap.objs.size ≤ P2) (ne : c' ≠ P2) (h2 : h'.get? P2 = some { cls:=.none,data:=.fields #[] }) (ho : CodeF c' q P2 h') :
    Inv X pins σ (hpD H P ps pos c' P2 q) { s with heap:=h',toks:=t' }:=by
  have nC : H c' = none:=I.hok.fresh hc
  have n2 : H P2 = none:=I.hok.fresh hp2
  have nPc : P ≠ c':=ne_of_none hP nC
  have nP2 : P ≠ P2:=ne_of_none hP n2
  have at_ : ∀ b,b ≠ P → b ≠ c' → b ≠ P2 → hpD H P ps pos c' P2 q b = H b:=fun b h1 h2 h3 => hpD_ne h1 h2 h3
  have atP : hpD H P ps pos c' P2 q P = some (.tbl (ps ++ #[rawInt pos.line,rawInt pos.col,.ref c'])):=hpD_P nPc nP2
  have at2 : hpD H P ps pos c' P2 q P2 = some (.tbl #[]):=hpD_2 (Ne.symm ne)
  have nP : ∀ b u,H b = some u → (∀ q,u ≠ .tbl q) → b ≠ P:=fun b u e q z => by
    rw [z,hP] at e
    exact q ps (Option.some.inj e).symm
  have nN : ∀ b,H b = none → b ≠ P:=fun b e z => by
    rw [z,hP] at e
    cases e
  have lt' : ∀ b o,s.heap.get? b = some o → b ≠ c' ∧ b ≠ P2:=fun b o e => ⟨fun z => by
    rw [z] at e
    exact Nat.lt_irrefl _ (Nat.lt_of_lt_of_le (Heap.lt_size e) hc),fun z => by
    rw [z] at e
    exact Nat.lt_irrefl _ (Nat.lt_of_lt_of_le (Heap.lt_size e) hp2)⟩
  have sm : ∀ b u,H b = some u → b ≠ c':=fun b u e => ne_of_none e nC
  have sm2 : ∀ b u,H b = some u → b ≠ P2:=fun b u e => ne_of_none e n2
  refine I.step (g':=s.gens) (d':=s.drawn) (ch:=[]) (fun b hb => absurd hb (by simp)) (fun b o _ _ _ e n => k b o (nN b n) e) (fun b o _ _ _ e n => ⟨o.slots,k b o (nN b n) e⟩)
    (fun b o _ e n => by rw [at_ b (nN b n) (lt' b o e).1 (lt' b o e).2]; exact n) (fun b o _ e => ?_) (fun b xs e => by rw [at_ b (nP b _ e (fun q z => by cases z)) (sm b _ e) (sm2 b _ e)]; exact e) (fun b o u e => by rw [at_ b (nP b _ e (fun q z => by cases z)) (sm b _ e) (sm2 b _ e)]; exact e) (fun b qs e => ?_) (fun m hn => ?_) (fun b u e => ?_) I.bare
  · by_cases hb : b = P
    · rw [hb]
      exact ⟨_,hm⟩
    · exact ⟨o,k b o hb e⟩
  · by_cases hb : b = P
    · rw [hb,hP] at e
      cases e
      rw [hb,atP]
      exact ⟨_,rfl⟩
    · rw [at_ b hb (sm b _ e) (sm2 b _ e),e]
      exact ⟨#[],by simp⟩
  · obtain ⟨ob,es,ep,ho,r⟩:=hn
    exact ⟨ob,es,ep,k _ ob (nN _ I.free) ho,r⟩
  · by_cases hb : b = c'
    · rw [hb,hpD_c] at e
      cases e
      rw [hb]
      obtain ⟨⟨oc,vs,t,e1,_⟩,_⟩:=id ho
      exact ⟨ho,⟨oc,e1⟩,fun h1 h2 z st => codeF_of st z⟩
    · by_cases hb3 : b = P2
      · rw [hb3,at2] at e
        cases e
        rw [hb3]
        exact h2
      · by_cases hb2 : b = P
        · rw [hb2,atP] at e
          cases e
          rw [hb2]
          exact hm
        · rw [at_ b hb2 hb hb3] at e
          refine (I.hok b u e).stay (fun d v hd q => k d v ?_ q) (fun d q => by rw [at_ d (nP d _ q (fun q z => by cases z)) (sm d _ q) (sm2 d _ q)]; exact q) fun d xs q => by rw [at_ d (nP d _ q (fun q z => by cases z)) (sm d _ q) (sm2 d _ q)]; exact q
          rcases hd with z | z
          · rw [z]
            exact hb2
          · exact nP d _ z (fun q z => by cases z)
theorem lam_makeD {c0 P0 c P : Addr} {params : Arguments} {body : Expr} {scope : Scope} {pos : Pos} {E : Value → Shared → Prop} {Q : Value → Shared → Prop} (I : Inv X pins σ H s) (TB : TabB X.base X.mg c0 P0) (hcode : X.env.code = .ref c)
    (hT : TabsD T H) (hC : TabC T H c0 P0 c P pos (X.env.qual ++ "<lambda>")) (hdef : defaultsOf params X.env = ([],[])) (hfree : ∀ y ∈ scope.names,y.2 = .free → ∃ c,X.env.cells.lookup y.1 = some c)
    (h : ∀ (f c' P2 : Addr) (pm ctv : Value) (H1 : Hp) (s' : Shared),Inv X pins σ H1 s' → ExtN H H1 → (∀ b,H1 b = Option.none → H b = Option.none) → TabsD T H1 →
      s'.heap.get? f = some (PySem.W.kla_obj "<lambda>" (X.env.qual ++ "<lambda>") params body scope (cloFrom X.env.cells scope.names []) pm c' ctv) → H1 f = none → f ∉ frs X.stack → H1 c' = some (CodeT c' (X.env.qual ++ "<lambda>") P2) → Q (.ref f) s') :
    wpAny (model X.prog X.w) X.A (eval (.Lambda params body scope pos) X.env) Q E s:=by
  have hL : LamN (X.env.qual ++ "<lambda>") = true:=lamN_app _
  generalize hq : X.env.qual ++ "<lambda>" = q' at *
  -- the table
  obtain ⟨ps,hP,ht,ha⟩ : ∃ ps : Array Value,H P = some (.tbl ps) ∧ TriplesOk ps.toList ∧ ∀ cv : Value,codeAmong pos ps.toList = some cv → ∃ c P2,cv = .ref c ∧ H c = some (CodeT c q' P2):=by
    rcases hC with ⟨_,_,nm,hm,hn,_⟩ | ⟨q1,h1,h2,h3⟩
    · obtain ⟨ps,a1,a2,a3⟩:=hT.t _ hm
      refine ⟨ps,a1,a2,fun cv z => ?_⟩
      obtain ⟨c,e,e2⟩:=a3 pos cv z
      have e2 : CodeK H c (nm pos.line pos.col):=e2
      rw [hn] at e2
      unfold CodeK at e2
      rw [hL] at e2
      obtain ⟨P2,e2⟩:=e2
      exact ⟨c,P2,e,e2⟩
    · obtain ⟨⟨ps,a1,a2,a3⟩,_⟩:=hT.deep _ _ _ h1 h2
      refine ⟨ps,a1,a2,fun cv z => ?_⟩
      rw [h3]
      exact a3 pos cv z
  have hP' : s.heap.get? P = some { cls:=.none,data:=.fields ps }:=I.hok P _ hP
  have hHd : PySem.W.CodeHd s.heap c P:=by
    rcases hC with ⟨rfl,rfl,_⟩ | ⟨q1,h1,_⟩
    · exact TB.code.keeps I.bk
    · exact (I.hok c _ h1).1.2
  have gP : mainGlobals ≠ P:=fun z => by
    obtain ⟨o,es,ep,e,d,_⟩:=I.mod.glob.keeps I.bk
    rw [z,hP'] at e
    cases e
    cases d
  have bP : s.heap.BuiltinsAt X.mg P:=by
    obtain ⟨bm,ob,b1,b2,b3,b4,b5,b6,b7,b8⟩:=TB.bm.keeps I.bk
    refine ⟨bm,ob,b1,b2,b3,fun z => ?_,b5,b6,b7,b8⟩
    rw [z,hP'] at b5
    cases b5
    cases b8
  refine PySem.W.kla_eval hdef ?_
  rw [hq]
  have nofr : ∀ f,s.heap.objs.size ≤ f → f ∉ frs X.stack:=fun f hf z => by
    rcases List.mem_cons.mp (I.stkSub _ z) with e | e
    · have h1:=I.lt
      rw [← e] at h1
      exact Nat.lt_irrefl _ (Nat.lt_of_lt_of_le h1 hf)
    · exact I.nofs hf e
  cases hc : codeAmong pos ps.toList with
  | none =>
    refine lam_fresh (mg:=X.mg) (c:=c) (P:=P) (ps:=ps) (closure_ok hfree) I.ok.glob (I.mod.glob.keeps I.bk) hcode hHd hP' ht hc gP bP fun c' P2 ctv h' tk hx hge hlt hge2 hlt2 ne hcf h2 htb => ?_
    have hsz : s.heap.objs.size ≤ h'.objs.size:=Nat.le_trans hge (Nat.le_of_lt hlt)
    have nC : H c' = none:=I.hok.fresh hge
    have n2 : H P2 = none:=I.hok.fresh hge2
    have nPc : P ≠ c':=ne_of_none hP nC
    have nP2 : P ≠ P2:=ne_of_none hP n2
    have I1:=inv_tableD (q:=q') (t':=tk) (pos:=pos) (h':=h'.push (PySem.W.kla_obj "<lambda>" q' params body scope (cloFrom X.env.cells scope.names []) ((X.mg "__name__").getD .none) c' ctv)) I hP
      (fun b o hb e => Heap.get?_push_of_some _ (hx b o hb e)) (Heap.get?_push_of_some _ htb) hge hge2 ne (Heap.get?_push_of_some _ h2) (codeF_of (fun o e => Heap.get?_push_of_some _ e) hcf)
    have away : ∀ b o,H b = some o → b ≠ P → hpD H P ps pos c' P2 q' b = some o:=fun b o e nb => by
      rw [hpD_ne nb (ne_of_none e nC) (ne_of_none e n2)]
      exact e
    have notP : ∀ b o,H b = some o → (∀ ps,o ≠ .tbl ps) → b ≠ P:=fun b o e n z => n ps (by rw [z,hP] at e; exact (Option.some.inj e).symm)
    have hE : ExtN H (hpD H P ps pos c' P2 q'):=fun b o e n => away b o e (notP b o e n)
    have k1 : ∀ b φ,H b = some (.ext φ) → NotD φ → hpD H P ps pos c' P2 q' b = some (.ext φ):=fun b φ e _ => away b _ e (notP b _ e fun _ z => by cases z)
    have up:=codeK_up k1
    have atC : hpD H P ps pos c' P2 q' c' = some (CodeT c' q' P2):=hpD_c
    have atP : hpD H P ps pos c' P2 q' P = some (.tbl (ps ++ #[rawInt pos.line,rawInt pos.col,.ref c'])):=hpD_P nPc nP2
    have at2 : hpD H P ps pos c' P2 q' P2 = some (.tbl #[]):=hpD_2 (Ne.symm ne)
    have back : ∀ c1 q1 P1,hpD H P ps pos c' P2 q' c1 = some (CodeT c1 q1 P1) → c1 = c' ∧ q1 = q' ∧ P1 = P2 ∨ H c1 = some (CodeT c1 q1 P1):=by
      intro c1 q1 P1 z
      by_cases y : c1 = c'
      · have φ:=(I1.hok c1 _ z).1
        subst y
        have φ2:=(I1.hok _ _ atC).1
        obtain ⟨r1,r2⟩:=codeF_inj φ φ2
        exact .inl ⟨rfl,r1,r2⟩
      · by_cases y2 : c1 = P2
        · rw [y2,at2] at z
          exact absurd (Option.some.inj z).symm (codeT_ne _)
        · by_cases y3 : c1 = P
          · rw [y3,atP] at z
            exact absurd (Option.some.inj z).symm (codeT_ne _)
          · rw [hpD_ne y3 y y2] at z
            exact .inr z
    have T1 : TabsD T (hpD H P ps pos c' P2 q'):=by
      refine ⟨fun p hp => ?_,fun c1 q1 P1 hc1 hq1 => ?_⟩
      · by_cases hb : p.1 = P
        · rcases hC with ⟨_,_,nm,hm,hn,hu⟩ | ⟨q1,h1,h2,h3⟩
          · rw [hu p hp hb,hb]
            refine tab_more (pos:=pos) (c':=c') ht ?_ up atP ?_
            · obtain ⟨qs,a1,a2,a3⟩:=hT.t _ hm
              have e : qs = ps:=by
                have z : H P = some (.tbl qs):=a1
                rw [hP] at z
                cases z
                rfl
              rw [← e]
              exact a3
            · unfold CodeK
              rw [hn,hL]
              exact ⟨P2,atC⟩
          · exact absurd hb ((hT.deep _ _ _ h1 h2).2.1 p hp)
        · obtain ⟨qs,a1,_⟩:=id (hT.t p hp)
          exact tabT_same ((away _ _ a1 hb).trans a1.symm) up (hT.t p hp)
      · rcases back c1 q1 P1 hc1 with ⟨r1,r2,r3⟩ | hold
        · subst r1 r2 r3
          refine ⟨⟨#[],at2,trivial,fun pos cv z => nomatch z⟩,fun t ht2 z => ?_,fun c2 q2 g1 g2 => ?_⟩
          · obtain ⟨qs,a1,_⟩:=hT.t t ht2
            rw [z,n2] at a1
            cases a1
          · rcases back c2 q2 _ g1 with ⟨r,_⟩ | hold
            · exact r
            · obtain ⟨⟨qs,a1,_⟩,_⟩:=hT.deep _ _ _ hold g2
              rw [n2] at a1
              cases a1
        · obtain ⟨d1,d2,d3⟩:=hT.deep c1 q1 P1 hold hq1
          have d1':=id d1
          obtain ⟨qs,a1,a2,a3⟩:=d1'
          refine ⟨?_,d2,fun c2 q2 g1 g2 => ?_⟩
          · by_cases hb : P1 = P
            · rcases hC with ⟨_,_,nm,hm,_⟩ | ⟨q3,h1,h2,h3⟩
              · exact absurd hb.symm (d2 _ hm)
              · subst hb
                have ec : c1 = c:=(hT.deep _ _ _ h1 h2).2.2 c1 q1 hold hq1
                subst ec
                obtain ⟨eq,_⟩:=codeF_inj (I.hok _ _ hold).1 (I.hok _ _ h1).1
                subst eq
                rw [hP] at a1
                cases a1
                have eL : (ps ++ #[rawInt pos.line,rawInt pos.col,.ref c']).toList = ps.toList ++ [rawInt pos.line,rawInt pos.col,.ref c']:=by simp
                refine ⟨_,atP,?_,fun p' cv hcv => ?_⟩
                · rw [eL]
                  exact PySem.TriplesOk_snoc _ _ _ _ ht
                · rw [eL] at hcv
                  rcases among_app2 _ ht hcv with z | ⟨z,z1,z2⟩
                  · obtain ⟨c0',P3,e1,e2⟩:=a3 p' cv z
                    exact ⟨c0',P3,e1,k1 _ _ e2 codeF_not⟩
                  · refine ⟨c',P2,z,?_⟩
                    rw [← h3]
                    exact atC
            · exact inT_same ((away _ _ a1 hb).trans a1.symm) k1 d1
          · rcases back c2 q2 _ g1 with ⟨_,_,r⟩ | hold2
            · rw [r,n2] at a1
              cases a1
            · exact d3 c2 q2 hold2 g2
    refine h h'.objs.size c' P2 ((X.mg "__name__").getD .none) ctv _ _ I1 hE (fun b e => upd_none (upd_none (upd_none (show upd (upd (upd H P (.tbl (ps ++ #[rawInt pos.line,rawInt pos.col,.ref c']))) P2 (.tbl #[])) c' (CodeT c' q' P2) b = none from e)))) T1 (Heap.get?_push_size _ rfl) ?_ (nofr _ hsz) atC
    have n1 : h'.objs.size ≠ c':=Nat.ne_of_gt hlt
    have n3 : h'.objs.size ≠ P2:=Nat.ne_of_gt hlt2
    have n4 : h'.objs.size ≠ P:=Nat.ne_of_gt (Nat.lt_of_lt_of_le (Heap.lt_size hP') hsz)
    rw [hpD_ne n4 n1 n3]
    exact I.hok.fresh hsz
  | some cv =>
    obtain ⟨c',P2,e,hco⟩:=ha cv hc
    subst e
    refine PySem.W.kla_makeFunctionHit (mg:=X.mg) (c:=c) (P:=P) (ps:=ps) (closure_ok hfree) I.ok.glob (I.mod.glob.keeps I.bk) hcode hHd hP' ht hc bP fun ctv h' tk hx hsz => ?_
    have I1 : Inv X pins σ H { s with heap:=h'.push (PySem.W.kla_obj "<lambda>" q' params body scope (cloFrom X.env.cells scope.names []) ((X.mg "__name__").getD .none) c' ctv),toks:=tk }:=I.kept fun b o e => Heap.get?_push_of_some _ (hx b o e)
    exact h h'.objs.size c' P2 ((X.mg "__name__").getD .none) ctv H _ I1 (ExtN.refl H) (fun _ e => e) hT (Heap.get?_push_size _ rfl) (I.hok.fresh hsz) (nofr _ hsz) hco
end
def mAct (i : Nat) (f : Addr) (Fd : Store → Res D) : ME:=fun l st => match l[i]? with
  | some (some (.cst (.ref g))) => if g = f then Fd st else .bad
  | _ => .bad
structure CloL (X : Cx) (cl : CL) (i : Nat) (y : Str) (f : Addr) (Fd : Store → Res D) : Prop where
  call : ∀ (pn : List (Addr × Obj)) (xe : Value → Shared → Prop) (W : WX) (p1 p2 : Pos),Takes (X.tr pn xe) W → SE (X.tr pn xe) cl W (.Call (.Name y p1) [] [] p2) (mAct i f Fd)
def ppL (l : Loc) (σ : L2.St) (c : Addr) (q : Str) (P2 : Addr) : PP:=⟨fun K μ N H => LR K μ N H l σ ∧ H c = some (CodeT c q P2),fun e h => ⟨⟨h.1.1,fun i d z => let ⟨v,a,b⟩:=h.1.2 i d z; ⟨v,a,b.ev0 e⟩⟩,e.ex _ _ h.2 codeF_not⟩⟩
section
variable {X : Cx} {pins : List (Addr × Obj)} {σ : L2.St} {H : Hp} {s : Shared} {aT : Nat → Addr} {T : List NTab} {p : PP}
end
structure FnL (P : Program) (w : World) (K : PySem.W.Frag) (mg : Str → Option Value) (base : Heap) (aT : Nat → Addr) (T : List NTab) (k : Nat) (N : List Str) (qual : Str) (st : Stmt) (g : Addr) (fd : FuncData) (y : Str) (G : Addr → (Store → Res D) → FD) : Prop where
  run : ∀ (p : PP) (f : Addr) (Fd : Store → Res D) (A : Around) (outer : List Env) (s : Shared) (H : Hp) (args : Args) (Q : VK) (E : XK),RoomG k A → Env0 P w K mg base A outer s H → BindsTo s fd args [(y,.ref f)] →
    (∀ cdv,CloL (cxD P w K mg base N qual st g cdv A outer s H E) (CL.of aT T p) 0 y f Fd) → spF K (CL.of aT T p) (G f Fd) [.ref f] H Q E → codeAny (model P w) A (.call (.ref g) args) (CR (L2.CX P w) outer P w H s Q E) s
section
variable {P : Program} {w : World} {K : PySem.W.Frag} {mg : Str → Option Value} {base : Heap} {aT : Nat → Addr} {T : List NTab}
theorem fnl_of {x qual y : Str} {st : Stmt} {g : Addr} {fd : FuncData} {N : List Str} {k len : Nat} {mb : Addr → (Store → Res D) → MS} (F : FunA K x qual st g fd) (S : FnScope N [y] (defScope st)) (hl : N.length = len)
    (hbody : ∀ (p : PP) (f : Addr) (Fd : Store → Res D) (cdv : Value) (A : Around) (outer : List Env) (s : Shared) (H : Hp) (E : XK),CloL (cxD P w K mg base N qual st g cdv A outer s H E) (CL.of aT T p) 0 y f Fd → RoomG k (A.deeper (envOfC qual (defScope st) s.heap.objs.size g cdv)) →
      Takes (cxD P w K mg base N qual st g cdv A outer s H E) (fun cls d _ H => E cls d H) →
      SSs (cxD P w K mg base N qual st g cdv A outer s H E) (CL.of aT T p) (fun cls d _ H => E cls d H) (defBody st) (mb f Fd)) : FnL P w K mg base aT T (k + 1) N qual st g fd y (fun f Fd => mDef 1 len (mb f Fd)):=by
  obtain ⟨oc,od,dV,kV,doc,pm,an,cdv,ct,osl,efd,lk,hcd⟩:=F.ex
  refine ⟨fun p f Fd A outer s H args Q E hr e0 hb clo ⟨μ,t,ds,SS,rv,h⟩ => ?_⟩
  subst efd
  have kin0 : K.In s.heap:=e0.mod.kin.keeps fun b o e => (e0.bs b o e).1
  have nolim : s.heap.NoLimit:=e0.mod.nolimit.keeps fun b o e => (e0.bs b o e).1
  have hkind : ∀ z ∈ ([y] : List Str).zip [(Value.ref f)],(defScope st).names.lookup z.1 = some .local ∨ ((defScope st).names.lookup z.1 = some .cell ∧ ((cellsFrom (s.heap.objs.size + 1) (defScope st).names []).lookup z.1).isSome = true):=by
    rintro ⟨n,v⟩ hy
    rcases S.par n (List.of_mem_zip hy).1 with c | c
    · exact .inl c
    · exact .inr ⟨c,PySem.W.cellsFrom_some _ _ _ (.inl c)⟩
  have hr1 : RoomG k (A.deeper (envOfC qual (defScope st) s.heap.objs.size g cdv)):=⟨hr.room.deeper _,hr.g⟩
  refine codeAny_call_function hr.room.depth (kin0 _ _ lk) rfl S.co S.gen rfl (PySem.W.codeRec_of kin0 hcd) (hb _ _ _ _ ?_)
  refine wpAny_newFunctionEnv_cells S.kind hkind fun env1 henv t1 icc => ?_
  subst henv
  refine ⟨nolim.keeps icc.toInCall.keep,codeAny_func ?_⟩
  have body:=hbody p f Fd cdv A outer s H E (clo cdv) hr1 (takes_of rfl rfl rfl rfl)
  have I0 : Inv (cxD P w K mg base N qual st g cdv A outer s H E) [] (L2.start N [.ref f]) H t1:=
    inv_start (vs:=[.ref f]) (us:=[.ref f]) S hr.room.hd e0 rfl (.cons rfl .nil) icc
  have hlen : ds.length = 1:=by have:=rv.length; simpa using this
  have want : rdS K (CL.of aT T p) (fun cls d _ H => E cls d H) (mb f Fd) { nx:=fun _ H' => Q .non H',rt:=Q } (L2.start N [.ref f]) H:=by
    refine ⟨μ,t,_,SS,rv.start hl,?_⟩
    unfold mDef at h
    rw [if_pos hlen] at h
    rw [hlen]
    cases q : mb f Fd (ds.map some ++ List.replicate (len - 1) none) t with
    | rt d st' => rw [q] at h; exact h
    | nx l st' =>
      rw [q] at h
      exact fun μ' H' σ' s e _ => h μ' H' .non s e (by simp only [VR])
    | exc c fs l st' =>
      rw [q] at h
      exact fun μ' H' σ' cls d s e _ x => h μ' H' cls d s e x
    | bk l st' => rw [q] at h; exact h.elim
    | ct l st' => rw [q] at h; exact h.elim
    | bad => rw [q] at h; exact h.elim
  refine wpAny_mono (body.run [] t1 (L2.start N [.ref f]) H _ I0 want) (fun fl t2 hs => ?_) fun _ _ hs => hs
  cases fl with
  | ret u =>
    obtain ⟨v,σ',H',J,rv,q⟩:=hs
    exact ⟨v,H',J.os,J.bare,J.base,J.hok,rv,q⟩
  | next =>
    obtain ⟨σ',H',J,q⟩:=hs
    exact ⟨V.non,H',J.os,J.bare,J.base,J.hok,rfl,q⟩
  | brk => exact hs.elim fun _ h => h.elim fun _ h => h.2.elim
  | cont => exact hs.elim fun _ h => h.elim fun _ h => h.2.elim
end
theorem FnL.mono {P : Program} {w : World} {K : PySem.W.Frag} {mg : Str → Option Value} {base : Heap} {aT : Nat → Addr} {T : List NTab} {j k : Nat} {N : List Str} {qual : Str} {st : Stmt} {g : Addr} {fd : FuncData} {y : Str} {G : Addr → (Store → Res D) → FD} (F : FnL P w K mg base aT T j N qual st g fd y G) (h : j ≤ k) : FnL P w K mg base aT T k N qual st g fd y G:=
  ⟨fun p f Fd A outer s H args Q E hr => F.run p f Fd A outer s H args Q E (hr.mono h)⟩
open Classical in
section
variable {X : Cx} {aT : Nat → Addr} {T : List NTab} {p : PP} {W : WX}
end
end DV
namespace DV
open PySem PySem.Spec PyProof.Rows L2 He
theorem refsT_cases {tl : List Value} : ∀ l : List Value,refsT tl l = true → (∃ c r,l = .ref c :: r ∧ refsT tl r = true) ∨ l = tl
  | [],e => .inr (of_decide_eq_true e)
  | .ref c :: r,e => by
    unfold refsT at e
    rcases Bool.or_eq_true_iff.mp e with e | e
    · exact .inr (of_decide_eq_true e)
    · exact .inl ⟨c,r,rfl,e⟩
  | .none :: _,e => .inr (of_decide_eq_true e)
  | .ellipsis :: _,e => .inr (of_decide_eq_true e)
  | .notImplemented :: _,e => .inr (of_decide_eq_true e)
  | .bool _ :: _,e => .inr (of_decide_eq_true e)
  | .int _ _ :: _,e => .inr (of_decide_eq_true e)
  | .float _ _ :: _,e => .inr (of_decide_eq_true e)
  | .str _ _ :: _,e => .inr (of_decide_eq_true e)
  | .bytes _ _ :: _,e => .inr (of_decide_eq_true e)
  | .type _ :: _,e => .inr (of_decide_eq_true e)
  | .builtin _ :: _,e => .inr (of_decide_eq_true e)
structure BaseT (tl : List Value) (B newId initId : String) : Prop where
  base : ExcBaseFacts B newId initId tl
  pass : ∀ self : Value,refuseLoop self "__setattr__" tl = pure ()
  obj : tl.contains (.type "object") = true
theorem baseV : BaseT tlV "ValueError" "ValueError.__new__" "ValueError.__init__":=⟨F.excBase_ValueError,fun s => F.store_ValueError.passes s,by decide +kernel⟩
theorem baseL : BaseT tlL "LookupError" "LookupError.__new__" "LookupError.__init__":=⟨F.excBase_LookupError,fun s => F.store_LookupError.passes s,by decide +kernel⟩
theorem baseA : BaseT tlA "ArithmeticError" "ArithmeticError.__new__" "ArithmeticError.__init__":=⟨F.excBase_ArithmeticError,fun s => F.store_ArithmeticError.passes s,by decide +kernel⟩
section
variable {tl : List Value} {B newId initId : String}
theorem refsT_pass (b : BaseT tl B newId initId) (self : Value) : ∀ l : List Value,refsT tl l = true → refuseLoop self "__setattr__" l = pure ():=by
  intro l
  induction l with
  | nil =>
    intro e
    rcases refsT_cases [] e with ⟨c,r',q,h⟩ | q
    · cases q
    · rw [q]; exact b.pass self
  | cons a r ih =>
    intro e
    rcases refsT_cases (a :: r) e with ⟨c,r',q,h⟩ | q
    · obtain ⟨rfl,rfl⟩:=List.cons.inj q
      rw [refuseLoop_ref]; exact ih h
    · rw [q]; exact b.pass self
theorem refsT_contains (X : String) : ∀ l : List Value,refsT tl l = true → l.contains (.type X) = tl.contains (.type X):=by
  intro l
  induction l with
  | nil =>
    intro e
    rcases refsT_cases [] e with ⟨c,r',q,h⟩ | q
    · cases q
    · rw [q]
  | cons a r ih =>
    intro e
    rcases refsT_cases (a :: r) e with ⟨c,r',q,h⟩ | q
    · obtain ⟨rfl,rfl⟩:=List.cons.inj q
      rw [List.contains_cons,ih h]; rfl
    · rw [q]
end
structure OexG (K : PySem.W.Frag) (C : Addr) : Prop where
  cls : ∃ nm q N bs bm sn sub ab col dd k0 k1 k2 k3 k5 tl B newId initId,BaseT tl B newId initId ∧ K.lookup C = some (excClassObj nm q C N bs bm true sn sub ab col dd k0 k1 k2 k3 k5 newId) ∧ refsT tl bm = true
  sa : PySem.W.findIn K (.ref C) "__setattr__" = some (some (.builtin "object.__setattr__"))
  exC : PySem.W.subIn K (.ref C) (.type "BaseException") = some true
  tyC : PySem.W.typeIn K (.ref C) = some (.type "type")
  kC : PySem.W.keepIn K (.ref C) = true
theorem excB_ok {K : PySem.W.Frag} {C : Addr} (h : excB K C = true) : ∃ nm q N bs bm sn sub ab col dd k0 k1 k2 k3 k5 tl B newId initId,BaseT tl B newId initId ∧ K.lookup C = some (excClassObj nm q C N bs bm true sn sub ab col dd k0 k1 k2 k3 k5 newId) ∧ refsT tl bm = true:=by
  unfold excB at h
  split at h
  · rename_i dd cd sl ho
    split at h
    · rename_i C' bm k0 k1 k2 k3 n k5 hm hs
      simp only [Bool.and_eq_true,Bool.or_eq_true,beq_iff_eq,Bool.not_eq_true',decide_eq_true_eq] at h
      obtain ⟨rfl,hdel,hh,ht⟩:=h
      obtain ⟨nm,bs,mro,ns,qn,hd,sn,sub,ab,col,del⟩:=cd
      dsimp only at hm hdel hh
      subst hm hdel hh
      have hsl : sl = #[k0,k1,k2,k3,some (.builtin n),k5]:=by
        obtain ⟨l⟩:=sl
        simp only at hs
        rw [hs]
      subst hsl
      rcases ht with (⟨rfl,ht⟩ | ⟨rfl,ht⟩) | ⟨rfl,ht⟩
      · exact ⟨nm,qn,ns,bs,bm,sn,sub,ab,col,dd,k0,k1,k2,k3,k5,_,_,_,_,baseV,ho,ht⟩
      · exact ⟨nm,qn,ns,bs,bm,sn,sub,ab,col,dd,k0,k1,k2,k3,k5,_,_,_,_,baseL,ho,ht⟩
      · exact ⟨nm,qn,ns,bs,bm,sn,sub,ab,col,dd,k0,k1,k2,k3,k5,_,_,_,_,baseA,ho,ht⟩
    · cases h
  · cases h
theorem xc_ok {K : PySem.W.Frag} {x : Str} (h : xcB x K = true) : OexG K (ga K x) ∧ ExcE K (ga K x):=by
  obtain ⟨h1,h⟩:=ba h
  obtain ⟨h2,h⟩:=ba h
  obtain ⟨h3,h⟩:=ba h
  obtain ⟨h4,h⟩:=ba h
  obtain ⟨h5,h⟩:=ba h
  obtain ⟨h6,h⟩:=ba h
  obtain ⟨h7,h⟩:=ba h
  obtain ⟨h8,h⟩:=ba h
  obtain ⟨h9,h⟩:=ba h
  obtain ⟨h10,h⟩:=ba h
  obtain ⟨h11,h12⟩:=ba h
  refine ⟨⟨excB_ok h1,eqO_ok h2,of_decide_eq_true h3,of_decide_eq_true h4,h12⟩,⟨?_,eqO_ok h5,eqO_ok h6,of_decide_eq_true h3,h7,eqO_ok h8,eqO_ok h9,of_decide_eq_true h10,of_decide_eq_true h11⟩⟩
  obtain ⟨nm,q,N,bs,bm,sn,sub,ab,col,dd,k0,k1,k2,k3,k5,tl,B,newId,initId,_,hC,_⟩:=excB_ok h1
  unfold PySem.W.clsIn
  rw [hC]
  rfl
theorem xi_ok {K : PySem.W.Frag} {x f : Str} (h : xiB x f K = true) : PySem.W.findIn K (.ref (ga K x)) "__init__" = some (some (.ref (ma K (ga K x) "__init__"))) ∧ PySem.W.typeIn K (.ref (ma K (ga K x) "__init__")) = some (.type "function") ∧ PySem.W.findIn K (.ref (ga K x)) f = some none:=
  ⟨eqO_ok (ba h).1,of_decide_eq_true (ba (ba h).2).1,eqO_ok (ba (ba h).2).2⟩
theorem xm_ok {K : PySem.W.Frag} {x a b c : Str} (h : xmB x a b c K = true) : PySem.W.exmAny K (.ref (ga K x)) [.ref (ga K a),.ref (ga K b),.ref (ga K c)] = some true:=of_decide_eq_true h
theorem xkN_ok {K : PySem.W.Frag} {x : Str} {n : Nat} (h : xkN x n K = true) (i : Nat) (y : Str × Str × Nat) (hy : tagW[i]? = some y) : PySem.W.kitOne K (.ref (ga K x)) (.ref (ga K y.2.1)) = some (decide (n = y.2.2)):=
  of_decide_eq_true (List.all_eq_true.mp h y (List.mem_of_getElem? hy))
theorem xa_ok {K : PySem.W.Frag} {x : Str} (h : xaB x K = true) : PySem.W.findIn K (.ref (ga K x)) "index" = some none ∧ PySem.W.findIn K (.ref (ga K x)) "given" = some none ∧ PySem.W.findIn K (.ref (ga K x)) "limit" = some none:=
  ⟨eqO_ok (ba h).1,eqO_ok (ba (ba h).2).1,eqO_ok (ba (ba h).2).2⟩
section
open Builtin Builtin.ObjectAttr
variable {prog : Program} {w : World} {A : Around} {E : Value → Shared → Prop} {R : Result → Shared → Prop} {hp : Heap} {g : Array GenState} {d : Drawn} {t : Nat} {os : OsState} {tl : List Value} {B newId initId : String}
theorem exc_osaG {K : PySem.W.Frag} {name : Str} {tk : Tok} {v : Value} {x C : Addr} {fv : Array Value} {cd : ClassData} (b : BaseT tl B newId initId)
    (X : K.In hp) (hx : hp.get? x = some { cls:=.ref C,data:=.fields fv }) (hcd : PySem.W.clsIn K C = some cd) (hm : refsT tl cd.mro = true) (ne : cd.mro.isEmpty = false) (hh : cd.hasDict = true) (ha : PySem.W.findIn K (.ref C) name = some none)
    (hq : ∀ h' tk' dx,(∀ b o,b ≠ x → hp.get? b = some o → h'.get? b = some o) → hp.objs.size ≤ dx → dx ≠ x → h'.get? x = some { cls:=.ref C,dict:=some dx,data:=.fields fv } →
      h'.Ns1 dx (fun y => if y = name then some v else none) → R (.ok (.ret .none)) ⟨h',g,d,tk',os⟩) :
    codeAny (model prog w) A (.call (.builtin "object.__setattr__") ⟨[.ref x,.str name tk,v],[]⟩) R ⟨hp,g,d,t,os⟩:=by
  have I : PySem.W.InstAt hp x { cls:=.ref C,data:=.fields fv } C none:=⟨hx,rfl,rfl,trivial⟩
  have SF:=F.store_object
  have hob : cd.mro.contains (.type "object") = true:=(refsT_contains "object" _ hm).trans b.obj
  have hxs : x ≠ hp.objs.size:=Nat.ne_of_lt (Heap.lt_size hx)
  have sub : PySem.W.Looks (model prog w) hp (isInstance (.ref x) (.type "object")) true:=I.type.andThen (PySem.W.looks_mroIn X (by unfold PySem.W.mroIn; rw [hcd,Option.bind_some,if_neg (by rw [ne]; decide),hob]))
  refine codeAny_call_builtin SF.slot.plain SF.entry (@PySem.W.check_slot (model prog w) _ _ ⟨hp,g,d,t,os⟩ "object.__setattr__" "object" "__setattr__" (.ref x) [.str name tk,v] [] _ SF.kind SF.split sub (SF.args (.ref x) (.str name tk) v) ?_)
  have hmr : PySem.W.Looks (model prog w) hp (mroOf (.ref C)) cd.mro:=(PySem.W.looks_clsIn X hcd).andThen .now
  have L3 : PySem.W.Looks (model prog w) hp (storeTaker? none) none:=.now
  have hcls : PySem.W.Looks (model prog w) hp (classData C) cd:=PySem.W.looks_clsIn X hcd
  rw [PySem.W.osa_eq,refuse_eq]
  refine wpAny_bind (wpAny_bind (I.type.at (wpAny_bind (hmr.at ?_))))
  rw [refsT_pass b _ _ hm]
  refine wpAny_pure (wpAny_bind (I.type.at (wpAny_bind ((PySem.W.looks_findIn X ha).at (wpAny_bind (L3.at ?_))))))
  show wpAny _ _ (storeInOwnDict (.ref x) (.ref C) (.str name tk) name v false) _ _ _
  obtain ⟨nm,bs,mro,ns,qn,hd,sn,sb,ab,col,del⟩:=cd
  dsimp only at hh
  subst hh
  unfold storeInOwnDict ownDictForStores
  repeat (first | with_reducible refine HandSPX.store_in_new ?_ ?_ | with_reducible refine wpAny_loadPart_at hx ?_ | with_reducible refine hcls.at ?_ | wp_step)
  · exact ⟨_,#[],_,(Heap.get?_update_ne _ _ _ _ hxs.symm).trans (Heap.get?_push_at rfl rfl),rfl,fun e he => absurd he (by simp),fun _ => rfl⟩
  · intro h' tk' hn' hs
    have hx₁ : (hp.push { cls:=.type "dict",data:=.dict #[] }).get? x = some { cls:=.ref C,data:=.fields fv }:=Heap.get?_push_of_some _ hx
    refine hq h' tk' hp.objs.size (fun b o hb ho => ?_) (Nat.le_refl _) hxs.symm ?_ hn'
    · exact (hs.2 b (Nat.ne_of_lt (Heap.lt_size ho))).trans ((Heap.get?_update_ne _ _ _ _ hb).trans (Heap.get?_push_of_some _ ho))
    · exact (hs.2 x hxs).trans (Heap.get?_update_self _ hx₁ rfl)
end
section
variable {X : Cx} {pins : List (Addr × Obj)} {σ : L2.St} {H : Hp} {s : Shared} {a C dx : Addr} {f : Str} {y : V} {u : Value} {fs : List (Str × V)} {Q : Unit → Shared → Prop} {E : Value → Shared → Prop} {A : Around}
theorem ost_newG (T : OexG X.K C) (I : Inv X pins σ H s) (e : H a = some (exo a C none)) (hno : PySem.W.findIn X.K (.ref C) f = some none) (ry : L2.RelV y u)
    (h : ∀ dx s',H dx = none → dx ≠ a → Inv X pins σ (upd (upd H dx (exd dx [(f,y)])) a (exo a C (some dx))) s' → Q () s') : wpAny (model X.prog X.w) A (setAttr (.ref a) f u) Q E s:=by
  obtain ⟨nm,q,N,bs,bm,sn,sub,ab,col,dd,k0,k1,k2,k3,k5,tl,B,newId,initId,b,hC,hbm⟩:=T.cls
  have hcl : PySem.W.clsIn X.K C = some { name:=nm,bases:=bs,mro:=.ref C :: bm,ns:=N,qualname:=q,hasDict:=true,slotNames:=sn,subclasses:=sub,abstract:=ab,collection:=col,hasDel:=false }:=by unfold PySem.W.clsIn; rw [hC] <;> rfl
  obtain ⟨t1,ho⟩:=exo_at I.hok e
  obtain ⟨hp,g,d,t,os⟩:=s
  have hm2 : refsT tl (.ref C :: bm) = true:=by unfold refsT; rw [hbm,Bool.or_true]
  refine PySem.W.set_plain I.kIn (ox:={ cls:=.ref C,dict:=none,data:=.fields #[.ref t1,.none,.none,.none,.bool false,.none] }) (od:=none) ⟨ho,rfl,rfl,trivial⟩ T.sa ?_
  refine exc_osaG b I.kIn ho hcl hm2 rfl rfl hno (fun h' tk' dx k dn dne hx hn => ?_)
  have hnd : H dx = none:=I.hok.fresh dn
  have nd : ∀ {b : Addr} {o : Obj},hp.get? b = some o → b ≠ dx:=fun {b o} q => Nat.ne_of_lt (Nat.lt_of_lt_of_le (Heap.lt_size q) dn)
  have na : ∀ {b : Addr},H b = none → b ≠ a:=fun {b} n z => by
    rw [z,e] at n
    cases n
  have Un1 : Un X.fs [] H (upd (upd H dx (exd dx [(f,y)])) a (exo a C (some dx))) hp h':={
    keep:=fun b o q n _ _ => k b o (na n) q
    slot:=fun b o q n _ _ => ⟨o.slots,k b o (na n) q⟩
    free:=fun b o q n _ => by rw [upd_ne (na n),upd_ne (nd q)]; exact n
    there:=fun b o q _ => by
      by_cases hb : b = a
      · exact ⟨_,by rw [hb]; exact hx⟩
      · exact ⟨o,k b o hb q⟩
    tups:=fun b xs q => by rw [upd_ne (at_ne e q exo_tup),upd_ne (ne_of_none q hnd)]; exact q
    frzs:=fun b o v q => by rw [upd_ne (at_ne e q exo_frz),upd_ne (ne_of_none q hnd)]; exact q
    tbls:=fun b ps q => ⟨#[],by rw [upd_ne (at_ne e q exo_tbl),upd_ne (ne_of_none q hnd),q]; simp⟩ }
  refine h dx _ hnd dne (I.un (t':=tk') Un1 fun b o q => ?_)
  by_cases hb : b = a
  · subst hb
    rw [upd_same] at q
    cases q
    exact exo_ok hx
  · rw [upd_ne hb] at q
    by_cases hd : b = dx
    · subst hd
      rw [upd_same] at q
      cases q
      exact exd_ok hn (relO_put (fs:=[]) ry fun g => True.intro)
    · rw [upd_ne hd] at q
      exact (I.hok b o q).stay (fun c v hc z => k c v (by
          rcases hc with hc | hc
          · rw [hc]
            exact hb
          · exact at_ne e hc exo_own) z)
        (fun c hc => by rw [upd_ne (at_ne e hc exo_own),upd_ne (ne_of_none hc hnd)]; exact hc) (fun c xs hc => by rw [upd_ne (at_ne e hc exo_tup),upd_ne (ne_of_none hc hnd)]; exact hc)
end
def spI (C : Addr) (f : Str) : Sp:=fun vs H Q _ => ∃ a v,vs = [.ref a,v] ∧ H a = some (exo a C none) ∧ ∀ dx,H dx = none → dx ≠ a → Q .non (upd (upd H dx (exd dx [(f,v)])) a (exo a C (some dx)))
section
variable {P : Program} {w : World} {K : PySem.W.Frag} {mg : Str → Option Value} {base : Heap}
theorem init_fn {qual y f : Str} {st : Stmt} {fI C : Addr} {fd : FuncData} {q1 q2 q3 q4 : Pos} (D : FunD K "__init__" qual (defArgs st) (defBody st) (defScope st) [] [] fI fd) (S : FnScope ["self",y] ["self",y] (defScope st)) (hbd : defBody st = [.Assign [.Attribute (.Name "self" q1) f q2] (.Name y q3) q4])
    (T : OexG K C) (hno : PySem.W.findIn K (.ref C) f = some none) (hy1 : (y == ("__debug__" : Str)) = false) (hy2 : (y == ("__classdict__" : Str)) = false) (hy3 : (defScope st).names.lookup y = some .local) (hs3 : (defScope st).names.lookup ("self" : Str) = some .local) (k : Nat) : FnOk P w K mg base (L2.CX P w) (k + 1) fI fd ["self",y] (spI C f):=by
  refine FunD.ok D S (fun vs H Q E ⟨a,v,e,_⟩ => by rw [e]; rfl) fun cdv A outer s H vs Q E hr hsp => ?_
  obtain ⟨a,v,e,ha,hq⟩:=hsp
  subst e
  rw [hbd]
  refine ⟨_,pss_one (t:=fun D σ H => σ = L2.start ["self",y] [.ref a,v] ∧ H a = some (exo a C none) ∧ ∀ dx,H dx = none → dx ≠ a → D.nx σ (upd (upd H dx (exd dx [(f,v)])) a (exo a C (some dx)))) ⟨fun pins s1 σ H1 D I ⟨es,h1,h2⟩ => ?_⟩,rfl,ha,hq⟩
  subst es
  have vY : PE (cxOf (L2.CX P w) P w K mg base ["self",y] qual (defScope st) fI cdv A outer s H E) (.Name y q3) (tVar 1):=pe_var rfl (.inl hy3) hy1 hy2
  have vS : PE (cxOf (L2.CX P w) P w K mg base ["self",y] qual (defScope st) fI cdv A outer s H E) (.Name "self" q1) (tVar 0):=pe_var rfl (.inl hs3) (by decide) (by decide)
  refine plainObj_wpAny_Assign_Attribute (thn (vY.run pins s1 _ H1 (fun x H2 => x = v ∧ H2 = H1) I ⟨v,rfl,rfl,rfl⟩) fun u s2 ⟨x,H2,I2,r2,ex,eH⟩ => thn (vS.run pins s2 _ H2 (fun x H3 => x = .ref a ∧ H3 = H2) I2 ⟨.ref a,rfl,rfl,rfl⟩) fun u3 s3 ⟨x3,H3,I3,r3,ex3,eH3⟩ => ?_) rfl
  subst ex ex3
  rw [eH3,eH] at I3
  obtain rfl : u3 = Value.ref a:=r3
  exact ost_newG T I3 h1 hno r2 fun dx s' n ne J => ⟨_,_,J,h2 dx n ne⟩
end
section
variable {X : Cx} {cl : CL} {W : WX} {e : Expr} {xs : MA} {x y f qual : Str} {c : Nat} {fI : Addr} {fd : FuncData} {k : Nat} {p pos p2 : Pos}
theorem pmk_oexG {CX : CXT} {C : Addr} {ta : TA} (T : OexG X.K C) (iC : PySem.W.findIn X.K (.ref C) "__init__" = some (some (.ref fI))) (tI : PySem.W.typeIn X.K (.ref fI) = some (.type "function"))
    (F1 : FnOk X.prog X.w X.K X.mg X.base CX k fI fd ["self",y] (spI C f)) (hr : Room (k + 1) X.A) (hb : Binds X.K fd ["self",y] []) (hx : Passes CX X (fun _ _ _ => False)) (hg : Gl X x) (hm : X.mg x = some (.ref C)) (ha : PA X [e] ta)
    (hdb : (x == ("__debug__" : Str)) = false:=by decide) (he : starEach (e :: []) X.env = (false,eval e X.env) :: starEach [] X.env:=by rfl) (hpl : (backTo pos (starEach [] X.env)).any (·.1) = false:=by rfl) :
    PMk X (.Call (.Name x p) [e] [] pos) (fun σ H Q => ta σ H fun vs H1 => ∃ v,vs = [v] ∧ ∀ dx,H1 dx = none → Q (.ref C) (some dx) (upd H1 dx (.xd [(f,v)]))):=by
  intro pins s σ H Q I h
  obtain ⟨nm,q,N,bs,bm,sn,sub,ab,col,dd,k0,k1,k2,k3,k5,tl,B,newId,initId,b,hC,hbm⟩:=T.cls
  refine wpAny_Call_Name_kw (ld_glob I hg hm ?_ hdb)
  refine PySem.W.callWith_K (h₀:=X.base) I.ok.mod.kin T.kC (thn (ha.run pos pins s σ H _ I h) fun us s1 ⟨vs,H1,I1,r1,v,ev,q1⟩ => ⟨I1.kIn,?_⟩) he hpl
  subst ev
  show wpAny _ _ (call (.ref C) us) _ _ _
  obtain ⟨hp,g,dr,tk,os⟩:=s1
  have hsz : hp.objs.size ≤ hp.objs.size + 1:=Nat.le_succ _
  have hn : H1 (hp.objs.size + 1) = none:=I1.hok.fresh hsz
  have kk : ∀ b o,hp.get? b = some o → ((hp.push (PySem.W.kdv_tup us)).push (PySem.HandSPX.excO C hp.objs.size)).get? b = some o:=fun b o e => Heap.get?_push_of_some _ (Heap.get?_push_of_some _ e)
  have hget : ((hp.push (PySem.W.kdv_tup us)).push (PySem.HandSPX.excO C hp.objs.size)).get? (hp.objs.size + 1) = some (PySem.HandSPX.excO C hp.objs.size):=by heap_get
  have I2 : Inv X pins σ (upd H1 (hp.objs.size + 1) (exo (hp.objs.size + 1) C none)) ⟨(hp.push (PySem.W.kdv_tup us)).push (PySem.HandSPX.excO C hp.objs.size),g,dr,tk,os⟩:=
    I1.laid (t':=tk) (a:=hp.objs.size + 1) (o:=exo (hp.objs.size + 1) C none) (h':=(hp.push (PySem.W.kdv_tup us)).push (PySem.HandSPX.excO C hp.objs.size)) kk hsz (exo_ok hget)
  have r2 : Vals (V.ref (hp.objs.size + 1) :: [v]) (Value.ref (hp.objs.size + 1) :: us):=.cons rfl r1
  have hus : us.length ≤ sizeLine:=by
    rw [← Paired.length r1,sizeLine_eq]
    simp
  have hl2 : (Value.ref (hp.objs.size + 1) :: us ++ []).length = (["self",y] : List Str).length:=by
    rw [List.append_nil,← Paired.length r2]
    rfl
  have b2:=hb _ (Value.ref (hp.objs.size + 1) :: us) I2.kIn hl2
  rw [List.append_nil] at b2
  refine wpAny_call (PySem.HandSPX.call_own b.base (fun Y => refsT_contains Y bm hbm) (I1.kIn _ _ hC) (PySem.W.looks_findIn I1.kIn iC) (fun self => PySem.W.bind_fn I1.kIn self tI) hus
    (codeAny_mono (F1.run _ X.stack _ _ ⟨Value.ref (hp.objs.size + 1) :: us,[]⟩ (Value.ref (hp.objs.size + 1) :: us) _ (fun v2 H2 => v2 = .non ∧ ∃ dx,H1 dx = none ∧ dx ≠ hp.objs.size + 1 ∧ H2 = upd (upd (upd H1 (hp.objs.size + 1) (exo (hp.objs.size + 1) C none)) dx (exd dx [(f,v)])) (hp.objs.size + 1) (exo (hp.objs.size + 1) C (some dx))) (fun _ _ _ => False) (hr.make C us []) (I2.env0.make C us []) b2 r2 ⟨hp.objs.size + 1,v,rfl,upd_same,fun dx n ne => ⟨rfl,dx,by rw [upd_ne ne] at n; exact n,ne,rfl⟩⟩) fun r s' hq' => ?_))
  cases r with
  | error er => exact hx pins σ _ _ er s' I2 hq'
  | ok fl =>
    cases fl with
    | ret u =>
      obtain ⟨v2,H2,os2,bare2,un2,hok2,rv,ev,dx,nd,ne,eH⟩:=hq'
      subst ev
      obtain ⟨h2,g2,d2,t2,os'⟩:=s'
      have ea : H2 (hp.objs.size + 1) = some (exo (hp.objs.size + 1) C (some dx)):=by rw [eH]; exact upd_same
      have ed : H2 dx = some (exd dx [(f,v)]):=by rw [eH,upd_ne ne]; exact upd_same
      have q2:=q1 dx nd
      have eqH : upd H1 dx (.xd [(f,v)]) = upd (L2.del H2 (hp.objs.size + 1)) dx (.xd [(f,v)]):=by
        funext b
        by_cases hb : b = dx
        · rw [hb,upd_same,upd_same]
        · rw [upd_ne hb,upd_ne hb]
          by_cases hb2 : b = hp.objs.size + 1
          · rw [hb2,del_same]; exact hn
          · rw [del_ne hb2,eH,upd_ne hb2,upd_ne hb,upd_ne hb2]
      rw [eqH] at q2
      obtain ⟨t0,G,J,kG,ge,hoe,na⟩:=mk_end0 (d2:=d2) (t2:=t2) I1 hsz kk un2 hok2 os2 bare2 ea ed nd
      exact ⟨rv,hp.objs.size + 1,_,_,⟨G,g2,d2,t2,os'⟩,_,.ref C,some dx,rfl,J,kG,ge,hoe,⟨rfl,rfl⟩,rfl,rfl,na,rfl,bare2,raises_own T.exC T.tyC,q2⟩
    | next => exact False.elim hq'
    | brk => exact False.elim hq'
    | cont => exact False.elim hq'
def msRaise (c : Nat) (f : Str) (xs : MA) : MS:=fun l st => match xs l st with
  | .ok [d] st' => .exc c [(f,d)] l st'
  | .exc c' fs st' => .exc c' fs l st'
  | _ => .bad
theorem ss_raise1 {st : Stmt} {q1 q2 q3 q4 : Pos} (c : Nat) (T : OexG X.K (cl c)) (hi : PySem.W.findIn X.K (.ref (cl c)) "__init__" = some (some (.ref fI)) ∧ PySem.W.typeIn X.K (.ref fI) = some (.type "function") ∧ PySem.W.findIn X.K (.ref (cl c)) f = some none)
    (D : FunD X.K "__init__" qual (defArgs st) (defBody st) (defScope st) [] [] fI fd) (S : FnScope ["self",y] ["self",y] (defScope st)) (hbd : defBody st = [.Assign [.Attribute (.Name "self" q1) f q2] (.Name y q3) q4]) (hb : ∀ (kV doc pm : Value) (an : Option Addr) (cdv ct : Value) (us : List Value),us.length = (["self",y] : List Str).length → bindArgs (PySem.W.fnOf "__init__" qual (defArgs st) (defBody st) (defScope st) .none kV doc pm an cdv ct) ⟨us,[]⟩ = pure ((["self",y] : List Str).zip us))
    (hr : RoomG (k + 2) X.A) (hc : X.calm = true) (tk : Takes X W) (hm : X.mg x = some (.ref (cl c))) (ha : SA X cl W [e] xs)
    (hy1 : (y == ("__debug__" : Str)) = false:=by decide) (hy2 : (y == ("__classdict__" : Str)) = false:=by decide) (hy3 : (defScope st).names.lookup y = some .local:=by rfl) (hs3 : (defScope st).names.lookup ("self" : Str) = some .local:=by rfl) (hg : Gl X x:=by rfl)
    (hdb : (x == ("__debug__" : Str)) = false:=by decide) (he : starEach (e :: []) X.env = (false,eval e X.env) :: starEach [] X.env:=by rfl) (hpl : (backTo p2 (starEach [] X.env)).any (·.1) = false:=by rfl) (lt : c < 1000:=by decide) :
    SS X cl W (.Raise (some (.Call (.Name x p) [e] [] p2)) none pos) (msRaise c f xs):=by
  have F1:=init_fn (P:=X.prog) (w:=X.w) (mg:=X.mg) (base:=X.base) D S hbd T hi.2.2 hy1 hy2 hy3 hs3 k
  refine PS.weak (L2.ps_raise hc tk (pmk_oexG (f:=f) (k:=k + 1) T hi.1 hi.2.1 F1 (by simpa using hr.room) (D.bindsN hb) (L2.passes_call tk (fun _ _ _ _ z => z.elim)) hg hm ha hdb he hpl)) fun E σ H ⟨μ,st,l,S,L,h⟩ => ?_
  refine ⟨μ,st,l,S,L,?_⟩
  unfold msRaise at h
  cases q : xs l st with
  | bad => rw [q] at h; exact h.elim
  | exc c' fs st' =>
    rw [q] at h
    exact fun μ' H' cls d S' e' x' => h μ' H' σ cls d S' e' (L.ev e') x'
  | ok ds st' =>
    rw [q] at h
    cases ds with
    | nil => exact h.elim
    | cons d0 r =>
      cases r with
      | cons d1 r => exact h.elim
      | nil =>
        intro μ' H' vs S' e' rv
        simp only [VRs] at rv
        obtain ⟨v,r,rfl,rv1,rfl⟩:=rv
        refine ⟨v,rfl,fun dx nd => h μ' _ σ (.ref (cl c)) (some dx) (S'.beside nd) (e'.trans (Ev.beside nd)) ((L.ev e').ev (Ev.beside nd)) ⟨(clsV_lt lt).symm,.inr ⟨dx,[(f,v)],rfl,upd_same,rfl,?_⟩⟩⟩
        simp only [List.map,VRs]
        exact ⟨v,[],rfl,rv1.ev (Ev.beside nd),rfl⟩
end
end DV
namespace DV
open PySem PySem.Spec PyProof.Rows L2
def toDT (st : Store) : Nat → D → Option PyData
  | 0,_ => none
  | n + 1,d => match d with
    | .non => some .none
    | .bl b => some (.bool b)
    | .int i => some (.int i)
    | .str x => if PyData.strOk x then some (.str x) else none
    | .tup xs => match optL (toDT st n) xs with
      | none => none
      | some ds => some (.tuple ds)
    | .ref r => (match st.at_ r with
      | some (.dic kvs) => (match kvs with
        | [] => some (.dict [])
        | _ :: _ => none)
      | _ => none)
    | _ => none
def reprN (x : D) (st : Store) : Option (D × Store):=match toDT st 20 x with
  | some d => if d.showable = true ∧ d.shown.length ≤ sizeLine then some (.str d.shown,st) else none
  | none => none
def reprA (x : D) (st : Store) : Option (D × Store):=match x with
  | .tup ds => (match reprD (.tup ds) st with
    | some r => some r
    | none => reprN (.tup ds) st)
  | .int i => if i.natAbs.log2 < 1920 then some (.str (toString i),st) else none
  | .str s => if (reprText s).length ≤ sizeLine then some (.str (reprText s),st) else none
  | .ref n => (match st.at_ n with
    | some (.dic []) => some (.str "{}",st)
    | some (.dic [(.inr k,.int i)]) => if (PyData.dict [(.str k,.int i)]).showable = true ∧ (PyData.dict [(.str k,.int i)]).shown.length ≤ sizeLine then some (.str (PyData.dict [(.str k,.int i)]).shown,st) else none
    | some (.dic _) => none
    | _ => reprD x st)
  | _ => reprD x st
section
variable {X : Cx} {cl : CL} {W : WX}
theorem dic_reads {P : Program} {w : World} {H : Hp} {h : Heap} {a : Addr} (hok : HOk P w H h) (e : H a = some (.dK [])) : Reads h (.ref a) (.dict []) [a] ∧ a ≠ sysModules:=by
  obtain ⟨z,hd,vs,r,o,es,ep,ho,hx,hdat,_,hp,_⟩:=(show ObjOk P w H h a (.dK []) from hok a _ e)
  cases r
  have he : es.toList = []:=by cases es with | mk l => cases l with | nil => rfl | cons a r => cases hp
  have e0 : ([a] : List Addr) = a :: [] ++ []:=rfl
  rw [e0]
  exact ⟨.dict ho hx.1 hdat (by rw [he]; exact .nil) (by rw [he]; exact .nil),fun q => by rw [q] at hd; simp at hd⟩
theorem dic1_reads {P : Program} {w : World} {H : Hp} {h : Heap} {a : Addr} {k : Str} {i : Int} (hok : HOk P w H h) (e : H a = some (.dK [(.inr k,.int i)])) : Reads h (.ref a) (.dict [(.str k,.int i)]) [a] ∧ a ≠ sysModules:=by
  obtain ⟨z,hd,vs,r,o,es,ep,ho,hx,hdat,_,hp,_⟩:=(show ObjOk P w H h a (.dK [(.inr k,.int i)]) from hok a _ e)
  cases r with
  | @cons p q ps qs hh ht =>
    cases ht
    obtain ⟨q1,q2⟩:=q
    obtain ⟨rfl,h2⟩:=hh
    obtain ⟨t,rfl⟩ : ∃ t,q2 = .int i t:=h2
    obtain ⟨l⟩:=es
    cases hp with
    | @cons en kv es2 kvs2 hk hv hn =>
      cases hn
      obtain ⟨t2,ek⟩ : ∃ t2,en.key = .str k t2:=by
        rcases keyIs_shape (k:=.inr k) (v:=en.key) hk with ⟨_,_,e1,_⟩ | ⟨x,t2,e1,e2⟩
        · cases e1
        · cases e1
          exact ⟨t2,e2⟩
      have e0 : ([a] : List Addr) = a :: ([] ++ []) ++ ([] ++ []):=rfl
      rw [e0]
      refine ⟨.dict ho hx.1 hdat ?_ ?_,fun q => by rw [q] at hd; simp at hd⟩
      · show ReadsAll h [en.key] [.str k] ([] ++ [])
        rw [ek]
        exact .cons (.str k t2) .nil
      · show ReadsAll h [en.val] [.int i] ([] ++ [])
        rw [hv]
        exact .cons (.int i t) .nil
theorem dt_all {n : Nat} {f : D → Option PyData} {P : PyData → Prop} (hf : ∀ d x,f d = some x → P x) : ∀ {ds : List D} {xs : List PyData},optL f ds = some xs → ∀ x ∈ xs,P x
  | [],xs,h => by cases h; simp
  | d :: ds,xs,h => by
    unfold optL at h
    cases q : f d with
    | none => rw [q] at h; cases h
    | some b =>
      rw [q] at h
      cases q2 : optL f ds with
      | none => simp only [q2] at h; cases h
      | some bs =>
        simp only [q2] at h
        cases h
        intro x hx
        rcases List.mem_cons.mp hx with rfl | hx
        · exact hf d _ q
        · exact dt_all (n:=n) hf q2 x hx
theorem dt_depthAll {n : Nat} : ∀ {xs : List PyData},(∀ x ∈ xs,x.depth ≤ n) → PyData.depthAll xs ≤ n
  | [],_ => by simp [PyData.depthAll]
  | x :: r,h => by
    have a:=h x List.mem_cons_self
    have b:=dt_depthAll (n:=n) (xs:=r) fun y hy => h y (List.mem_cons_of_mem _ hy)
    simp only [PyData.depthAll]
    omega
theorem toDT_depth {st : Store} : ∀ (n : Nat) (d : D) (x : PyData),toDT st n d = some x → x.depth ≤ n + 1
  | 0,d,x,h => by cases h
  | n + 1,d,x,h => by
    unfold toDT at h
    cases d with
    | non => cases h; simp [PyData.depth]
    | bl b => cases h; simp [PyData.depth]
    | int i => cases h; simp [PyData.depth]
    | str z =>
      simp only at h
      by_cases hz : PyData.strOk z = true
      · rw [if_pos hz] at h; cases h; simp [PyData.depth]
      · rw [if_neg hz] at h; cases h
    | tup xs =>
      simp only at h
      cases q : optL (toDT st n) xs with
      | none => rw [q] at h; cases h
      | some ds =>
        rw [q] at h; cases h
        have:=dt_depthAll (n:=n + 1) (dt_all (n:=n) (fun d x => toDT_depth n d x) q)
        simp only [PyData.depth]; omega
    | ref r =>
      simp only at h
      cases z : st.at_ r with
      | none => rw [z] at h; cases h
      | some c =>
        rw [z] at h
        cases c with
        | dic kvs =>
          cases kvs with
          | nil => cases h; simp [PyData.depth,PyData.depthAll,PyData.depthKv]
          | cons _ _ => cases h
        | _ => cases h
    | _ => cases h
theorem dt_reads_all {pins : List (Addr × Obj)} {s : Shared} {σ : L2.St} {H : Hp} (_I : Inv X pins σ H s) {μ : Nat → Addr} {N : Nat} {f : D → Option PyData}
    (hf : ∀ d v x u,VR X.K μ N H d v → f d = some x → RelV v u → ∃ as,Reads s.heap u x as ∧ sysModules ∉ as) : ∀ {ds : List D} {vs : List V} {us : List Value} {xs : List PyData},VRs X.K μ N H ds vs → optL f ds = some xs → Vals vs us → ∃ as,ReadsAll s.heap us xs as ∧ sysModules ∉ as
  | [],vs,us,xs,r,h,q => by
    simp only [VRs] at r
    subst r
    cases h
    cases q
    exact ⟨_,.nil,by simp⟩
  | d :: ds,vs,us,xs,r,h,q => by
    simp only [VRs] at r
    obtain ⟨v,vr,rfl,r1,r2⟩:=r
    unfold optL at h
    cases z : f d with
    | none => rw [z] at h; cases h
    | some b =>
      rw [z] at h
      cases z2 : optL f ds with
      | none => simp only [z2] at h; cases h
      | some bs =>
        simp only [z2] at h
        cases h
        cases q with
        | cons q1 q2 =>
          obtain ⟨as,e1,e2⟩:=hf d v b _ r1 z q1
          obtain ⟨cs,e3,e4⟩:=dt_reads_all _I hf r2 z2 q2
          exact ⟨_,.cons e1 e3,by simp [e2,e4]⟩
theorem dt_reads {pins : List (Addr × Obj)} {s : Shared} {σ : L2.St} {H : Hp} (I : Inv X pins σ H s) {μ : Nat → Addr} {st : Store} (S : SR X.K cl μ st H) : ∀ (n : Nat) (d : D) (v : V) (x : PyData) (u : Value),VR X.K μ st.nxt H d v → toDT st n d = some x → RelV v u →
    ∃ as,Reads s.heap u x as ∧ sysModules ∉ as
  | 0,d,v,x,u,r,h,ru => by cases h
  | n + 1,d,v,x,u,r,h,ru => by
    unfold toDT at h
    cases d with
    | non => cases h; simp only [VR] at r; subst r; cases ru; exact ⟨_,.none,by simp⟩
    | bl b => cases h; simp only [VR] at r; subst r; cases ru; exact ⟨_,.bool b,by simp⟩
    | int i => cases h; simp only [VR] at r; subst r; obtain ⟨t,rfl⟩:=ru; exact ⟨_,.int i t,by simp⟩
    | str z =>
      simp only at h
      by_cases hz : PyData.strOk z = true
      · rw [if_pos hz] at h
        cases h; simp only [VR] at r; subst r; obtain ⟨t,rfl⟩:=ru; exact ⟨_,.str z t,by simp⟩
      · rw [if_neg hz] at h; cases h
    | tup xs =>
      simp only at h
      cases q : optL (toDT st n) xs with
      | none => rw [q] at h; cases h
      | some ds =>
        rw [q] at h
        cases h
        simp only [VR] at r
        obtain ⟨p,vs,rfl,r1,r2⟩:=r
        cases ru
        obtain ⟨its,rv,⟨o,ho,hc,m,hd⟩,_⟩:=I.tuple r1
        obtain ⟨as,e1,e2⟩:=dt_reads_all I (fun d v x u => dt_reads I S n d v x u) r2 q rv
        exact ⟨_,.tuple ho hc hd e1,e2⟩
    | ref m =>
      simp only at h
      simp only [VR] at r
      obtain ⟨hm,rfl⟩:=r
      cases ru
      cases z : st.at_ m with
      | none => rw [z] at h; cases h
      | some c =>
        rw [z] at h
        cases c with
        | dic kvs =>
          cases kvs with
          | nil =>
            cases h
            obtain ⟨ps,hd,hk,hv⟩:=S.get z
            cases ps with
            | cons p r => simp at hk
            | nil =>
              obtain ⟨rr,ne⟩:=dic_reads I.hok hd
              exact ⟨_,rr,fun hm => ne (List.mem_singleton.mp hm).symm⟩
          | cons _ _ => cases h
        | _ => cases h
    | _ => cases h
theorem c_reprA (hg : X.A.guards = some []) (hu : X.A.units + 64 < cLine) : CallS X cl (.builtin "repr") (f1 reprA):=c_one fun pins s σ H x us Q μ st d I r S rd h => by
  cases d with
  | int i =>
    simp only [VR] at rd
    subst rd
    obtain ⟨u,rfl,hu⟩:=vals1 r
    obtain ⟨t,rfl⟩ : ∃ t,u = .int i t:=hu
    unfold reprA at h
    by_cases z : i.natAbs.log2 < 1920
    · simp only [if_pos z] at h
      exact PySem.P.repr_of_int z ⟨.str (toString i),H,I.tok _,⟨_,rfl⟩,h μ H _ S Ev.refl (by simp only [VR])⟩
    · simp only [if_neg z] at h
      exact h.elim
  | str y =>
    simp only [VR] at rd
    subst rd
    obtain ⟨u,rfl,hu⟩:=vals1 r
    obtain ⟨t,rfl⟩ : ∃ t,u = .str y t:=hu
    unfold reprA at h
    by_cases z : (reprText y).length ≤ sizeLine
    · simp only [if_pos z] at h
      exact PySem.P.repr_of_str ⟨.str (reprText y),H,I.tok _,⟨_,rfl⟩,h μ H _ S Ev.refl (by simp only [VR])⟩ z
    · simp only [if_neg z] at h
      exact h.elim
  | ref n =>
    unfold reprA at h
    simp only at h
    cases q : st.at_ n with
    | none =>
      rw [q] at h
      exact c_reprU (cl:=cl) hg hu pins s σ H _ us Q I r ⟨μ,st,_,S,VRs.one rd,h⟩
    | some cc =>
      rw [q] at h
      cases cc with
      | lst ys => exact c_reprU (cl:=cl) hg hu pins s σ H _ us Q I r ⟨μ,st,_,S,VRs.one rd,h⟩
      | ins c fs => exact c_reprU (cl:=cl) hg hu pins s σ H _ us Q I r ⟨μ,st,_,S,VRs.one rd,h⟩
      | fdc _ => exact c_reprU (cl:=cl) hg hu pins s σ H _ us Q I r ⟨μ,st,_,S,VRs.one rd,h⟩
      | dn _ _ => exact c_reprU (cl:=cl) hg hu pins s σ H _ us Q I r ⟨μ,st,_,S,VRs.one rd,h⟩
      | dic kvs =>
        have rd':=rd
        simp only [VR] at rd'
        obtain ⟨_,ex⟩:=rd'
        subst ex
        rw [Vals.ref1 r]
        obtain ⟨ps,hd,hk,hv⟩:=S.get q
        cases kvs with
        | nil =>
          simp only at h
          cases ps with
          | cons p r => simp at hk
          | nil =>
            obtain ⟨rr,ne⟩:=dic_reads I.hok hd
            have dp : (PyData.dict []).depth ≤ 2:=by decide +kernel
            refine repr_of_reads' rr rfl (fun _ hm => ne (List.mem_singleton.mp hm).symm) hg (by omega) (fun b o e => e) (fun h' u tk hk2 => ?_) (by decide +kernel)
            exact ⟨.str "{}",H,I.kept hk2,⟨u,rfl⟩,h μ H _ S Ev.refl (by simp only [VR])⟩
        | cons kv r2 =>
          obtain ⟨k,v⟩:=kv
          cases k with
          | inl j => cases v <;> cases r2 <;> exact h.elim
          | inr k =>
            cases v with
            | int i =>
              cases r2 with
              | cons z r3 => exact h.elim
              | nil =>
                simp only at h
                by_cases c : (PyData.dict [(.str k,.int i)]).showable = true ∧ (PyData.dict [(.str k,.int i)]).shown.length ≤ sizeLine
                · rw [if_pos c] at h
                  have e1 : ps = [(.inr k,.int i)]:=by
                    cases ps with
                    | nil => simp at hk
                    | cons p1 ps =>
                      cases ps with
                      | cons p2 ps => simp at hk
                      | nil =>
                        obtain ⟨p1a,p1b⟩:=p1
                        simp at hk
                        simp only [List.map,VRs,VR] at hv
                        obtain ⟨v,r,e,ev,er⟩:=hv
                        subst er
                        subst ev
                        cases e
                        rw [hk]
                  subst e1
                  obtain ⟨rr,ne⟩:=dic1_reads I.hok hd
                  have dp : (PyData.dict [(.str k,.int i)]).depth ≤ 4:=by
                    simp [PyData.depth,PyData.depthKv,PyData.depthAll]
                  refine repr_of_reads' rr c.1 (fun _ hm => ne (List.mem_singleton.mp hm).symm) hg (by omega) (fun b o e => e) (fun h' u tk hk2 => ?_) c.2
                  exact ⟨.str _,H,I.kept hk2,⟨u,rfl⟩,h μ H _ S Ev.refl (by simp only [VR])⟩
                · rw [if_neg c] at h
                  exact h.elim
            | _ => cases r2 <;> exact h.elim
  | tup xs =>
    unfold reprA at h
    simp only at h
    cases q : reprD (.tup xs) st with
    | some z =>
      rw [q] at h
      have h2 : PostO X.K cl (VR X.K) μ st.nxt H Q (f1 reprD [.tup xs] st):=by
        show PostO X.K cl (VR X.K) μ st.nxt H Q (reprD (.tup xs) st)
        rw [q]
        exact h
      exact c_reprU (cl:=cl) hg hu pins s σ H _ us Q I r ⟨μ,st,_,S,VRs.one rd,h2⟩
    | none =>
      rw [q] at h
      simp only at h
      unfold reprN at h
      cases q2 : toDT st 20 (.tup xs) with
      | none => rw [q2] at h; exact h.elim
      | some t =>
        rw [q2] at h
        simp only at h
        by_cases c : t.showable = true ∧ t.shown.length ≤ sizeLine
        · rw [if_pos c] at h
          have rd':=rd
          simp only [VR] at rd'
          obtain ⟨p,vs,e,_⟩:=rd'
          subst e
          rw [Vals.ref1 r]
          obtain ⟨as,rr,ns⟩:=dt_reads I S 20 _ _ t (.ref p) rd q2 rfl
          have dp:=toDT_depth 20 _ t q2
          refine repr_of_reads' rr c.1 (fun _ => ns) hg (by omega) (fun b o e => e) (fun h' u tk hk => ?_) c.2
          exact ⟨.str t.shown,H,I.kept hk,⟨u,rfl⟩,h μ H _ S Ev.refl (by simp only [VR])⟩
        · rw [if_neg c] at h; exact h.elim
  | _ => exact c_reprU (cl:=cl) hg hu pins s σ H _ us Q I r ⟨μ,st,_,S,VRs.one rd,h⟩
theorem reprA_tup {ds : List D} {st : Store} {r : D × Store} (h : reprD (.tup ds) st = some r) : reprA (.tup ds) st = some r:=by
  unfold reprA
  simp only [h]
end
end DV
namespace DV
open PySem PySem.Spec PyProof.Rows L2 He
section
variable {X : Cx} {cl : CL} {es : List Expr} {pos : Pos}
end
section
variable {X : Cx} {C : Addr} {bmB : List Value} {B newId initId : String} {x : Str} {p pos : Pos}
theorem pmk_own0 (F : ExcBaseFacts B newId initId bmB) (q : PySem.W.excIn X.K C bmB newId = true) (gC : X.mg x = some (.ref C)) (kC : PySem.W.keepIn X.K (.ref C) = true) (r : Raises X (.ref C)) (hg : Gl X x) (hdb : (x == ("__debug__" : Str)) = false:=by decide) :
    PMk X (.Call (.Name x p) [] [] pos) (fun _ H Q => Q (.ref C) none H):=by
  intro pins s σ H Q I h
  refine wpAny_Call_Name_kw (ld_glob I hg gC ?_ hdb)
  refine PySem.W.callWith_K0 I.kIn kC ?_
  show wpAny _ _ (call (.ref C) []) _ _ _
  obtain ⟨bm,N,nm,qn,bs,hdct,sn,sub,ab,col,dd,k0,k1,k2,k3,k5,mN,hC,hN,hni,T⟩:=exc_obj I.kIn q
  refine wpAny_call_exc_subT F T hC hN hni (fun h' e hm => ?_) (Nat.zero_le _)
  exact mk_of I hm r h (I.hok.gone hm.new)
end
def msRaise0 (c : Nat) : MS:=fun l st => .exc c [] l st
@[simp] theorem ev_msRaise0 (c : Nat) (l : Loc) (st : Store) : msRaise0 c l st = .exc c [] l st:=rfl
theorem ss_raise0 {X : Cx} {cl : CL} {W : WX} {x : Str} {p2 p pos : Pos} (c : Nat) (T : OexG X.K (cl c)) (q : PySem.W.excIn X.K (cl c) tlA "ArithmeticError.__new__" = true) (hc : X.calm = true) (tk : Takes X W) (hm : X.mg x = some (.ref (cl c))) (kC : PySem.W.keepIn X.K (.ref (cl c)) = true) (hg : Gl X x:=by rfl) (hdb : (x == ("__debug__" : Str)) = false:=by decide) (lt : c < 1000:=by decide) :
    SS X cl W (.Raise (some (.Call (.Name x p) [] [] p2)) none pos) (msRaise0 c):=
  PS.weak (L2.ps_raise hc tk (pmk_own0 baseA.base q hm kC (raises_own T.exC T.tyC) hg hdb)) fun E σ H ⟨μ,st,l,S,L,h⟩ =>
    h μ H σ (.ref (cl c)) none S Ev.refl L ⟨(clsV_lt lt).symm,.inl ⟨rfl,.inl rfl⟩⟩
section
variable {X : Cx} {cl : CL}
end
end DV
namespace G
open DV PySem L2
noncomputable section
def F_law_dip : FD:=mDef 2 4 (msSeq (msSub (m2 fAdd (m2 fIx (mVar 0) (mC (.int 2))) (mC (.int 1))) (mVar 0) (mC (.int 2)))
  (msSeq (msIf (tB_ (m2 fGt (m2 fIx (mVar 0) (mC (.int 0))) (mC (.int 0))))
  (msSeq (msAsg (m2 fMod (mL (f1 intD) (maCons (m2 fIx (mVar 0) (mC (.int 0))) maNil)) (mVar 1)) (tgName 2))
  (msSeq (msSub (m2 fFdiv (mL (f1 intD) (maCons (m2 fIx (mVar 0) (mC (.int 0))) maNil)) (mVar 1)) (mVar 0) (mC (.int 0)))
  (msRet (mVar 2))))
  msNil)
  (msSeq (msAsg (mL (f1 intD) (maCons (m2 fIx (mVar 0) (mC (.int 1))) maNil)) (tgName 3))
  (msSeq (msSub (m2 fMod (mL (f1 intD) (maCons (m2 fAdd (m2 fAdd (m2 fMul (mVar 3) (mC (.int 48271))) (m2 fMul (m2 fIx (mVar 0) (mC (.int 2))) (mC (.int 40503)))) (mC (.int 17))) maNil)) (mC (.int 2147483629))) (mVar 0) (mC (.int 1)))
  (msRet (m2 fMod (mL (f1 intD) (maCons (m2 fFdiv (m2 fIx (mVar 0) (mC (.int 1))) (mC (.int 4096))) maNil)) (mVar 1)))))))
def F_law_rect : FD:=mDef 3 5 (msSeq (msPar 3 4 (maCons (mCall F_law_dip [] (maCons (mVar 0) (maCons (mVar 1) maNil))) (maCons (mCall F_law_dip [] (maCons (mVar 0) (maCons (mVar 2) maNil))) maNil)))
  (msRet (mTup (maCons (mVar 3) (maCons (mVar 4) (maCons (m2 fAdd (m2 fAdd (mVar 3) (mC (.int 1))) (mCall F_law_dip [] (maCons (mVar 0) (maCons (m2 fSub (mVar 1) (mVar 3)) maNil)))) (maCons (m2 fAdd (m2 fAdd (mVar 4) (mC (.int 1))) (mCall F_law_dip [] (maCons (mVar 0) (maCons (m2 fSub (mVar 2) (mVar 4)) maNil)))) maNil)))))))
def F_law_pick : FD:=mDef 2 3 (msSeq (msAsg (mCall F_law_dip [] (maCons (mVar 0) (maCons (mL (f1 lenD) (maCons (mVar 1) maNil)) maNil))) (tgName 2))
  (msRet (m2 fIx (mVar 1) (mVar 2))))
def law_model_T1 : MT:=(tB_ (m2 fEq (mCall F_law_dip [] (maCons (mVar 0) (maCons (mC (.int 3)) maNil))) (mC (.int 0))))
def law_model_L1 : MS:=(msSeq (msAsg (mIf (tB_ (m2 fEq (mCall F_law_dip [] (maCons (mVar 0) (maCons (mC (.int 3)) maNil))) (mC (.int 0)))) (mTup (maCons (mC (.int 0)) (maCons (mC (.int 0)) (maCons (mVar 6) (maCons (mVar 7) maNil))))) (mCall F_law_rect [] (maCons (mVar 0) (maCons (mVar 6) (maCons (mVar 7) maNil))))) (tgName 10))
  (msExpr (mM "list" fAppend (mVar 8) (maCons (mTup (maCons (mCall F_law_pick [] (maCons (mVar 0) (maCons (mVar 4) maNil))) (maCons (mVar 10) (maCons (mCall F_law_pick [] (maCons (mVar 0) (maCons (mLst (maCons (mC (.str "stays")) (maCons (mC (.str "wiped")) (maCons (mC (.str "back")) (maCons (mC (.str "back")) maNil))))) maNil))) maNil)))) maNil))))
def F_law_model : FD:=mDef 4 12 (msSeq (msAsg (mSl (mLst (maCons (mC (.str "sky")) (maCons (mC (.str "a")) (maCons (mC (.str "bird2")) maNil)))) moNone (moSome (m2 fAdd (mC (.int 1)) (mCall F_law_dip [] (maCons (mVar 0) (maCons (mC (.int 3)) maNil)))))) (tgName 4))
  (msSeq (msAsg (mL (f1 tupleD) (maCons (mLc (miSeq (mLst (maCons (mC (.str "a")) (maCons (mC (.str "bird2")) (maCons (mC (.str "sky")) (maCons (mC (.str "zz")) maNil)))))) (tgName 11) law_model_T1 (mVar 11) [11]) maNil)) (tgName 5))
  (msSeq (msPar 6 7 (maCons (m2 fAdd (mC (.int 1)) (mCall F_law_dip [] (maCons (mVar 0) (maCons (mVar 2) maNil)))) (maCons (m2 fAdd (mC (.int 1)) (mCall F_law_dip [] (maCons (mVar 0) (maCons (mVar 3) maNil)))) maNil)))
  (msSeq (msAsg (mLst maNil) (tgName 8))
  (msSeq (msFor (miRng rng1 (maCons (m2 fAdd (mC (.int 1)) (mCall F_law_dip [] (maCons (mVar 0) (maCons (mVar 1) maNil)))) maNil)) (tgName 9)
  law_model_L1)
  (msRet (mTup (maCons (mVar 6) (maCons (mVar 7) (maCons (mL (f1 tupleD) (maCons (mVar 8) maNil)) (maCons (mVar 5) maNil)))))))))))
def law_dots_C1 : ME:=(mTup (maCons (mVar 3) (maCons (mVar 2) maNil)))
def law_dots_L1 : MS:=(msAsg (m2 fAdd (mVar 1) (mLc (miRng rng1 (maCons (m2 fIx (mVar 0) (mC (.int 0))) maNil)) (tgName 3) tYes_ law_dots_C1 [3])) (tgName 1))
def F_law_dots : FD:=mDef 1 4 (msSeq (msAsg (mLst maNil) (tgName 1))
  (msSeq (msFor (miRng rng1 (maCons (m2 fIx (mVar 0) (mC (.int 1))) maNil)) (tgName 2)
  law_dots_L1)
  (msRet (mVar 1))))
def law_patterns_L1 : MS:=(msSeq (msAsg (mL (f1 dictD) (maCons (mVar 4) maNil)) (tgName 5))
  (msSeq (msSub (m2 fAdd (mL (f1 lenD) (maCons (mVar 4) maNil)) (mC (.int 1))) (mVar 5) (mVar 2))
  (msSeq (msAsg (mL (f1 dictD) (maCons (mVar 4) maNil)) (tgName 6))
  (msSeq (msSub (mC .non) (mVar 6) (mVar 2))
  (msAsg (m2 fAdd (mVar 3) (mIf (tB_ (m2 fIn (mVar 2) (mVar 0))) (mLst (maCons (mVar 5) maNil)) (mLst (maCons (mVar 5) (maCons (mVar 6) maNil))))) (tgName 3))))))
def law_patterns_L2 : MS:=(msSeq (msAsg (mLst maNil) (tgName 3))
  (msSeq (msFor (miSeq (mVar 1)) (tgName 4)
  law_patterns_L1)
  (msAsg (mVar 3) (tgName 1))))
def F_law_patterns : FD:=mDef 1 7 (msSeq (msAsg (mLst (maCons mDnew maNil)) (tgName 1))
  (msSeq (msFor (miSeq (mLst (maCons (mC (.str "sky")) (maCons (mC (.str "a")) (maCons (mC (.str "bird2")) maNil))))) (tgName 2)
  law_patterns_L2)
  (msRet (mVar 1))))
def F_is_integer : FD:=mDef 1 1 (msRet (mAnd (mIsi (fTy "int") (mVar 0)) (mNot (mIsi (fTy "bool") (mVar 0)))))
def F_is_within : FD:=mDef 3 3 (msRet (mAnd (mCall F_is_integer [] (maCons (mVar 0) maNil)) (mChain fLe fLe (mVar 1) (mVar 0) (mVar 2))))
def F_check_size : FD:=mDef 1 1 (msIf (tNot_ (tB_ (mCall F_is_within [] (maCons (mVar 0) (maCons (mC (.int 1)) (maCons (mC (.int 1000000000000)) maNil))))))
  (msRaise 9 "given" (maCons (mVar 0) maNil))
  msNil)
def is_name_C1 : ME:=(mOr (m2 fIn (mVar 1) (mC (.str "abcdefghijklmnopqrstuvwxyz"))) (m2 fIn (mVar 1) (mC (.str "0123456789"))))
def F_is_name : FD:=mDef 1 2 (msSeq (msIf (tOr_ (tNot_ (tB_ (mIsi (fTy "str") (mVar 0)))) (tOr_ (tNot_ (tB_ (mChain fLe fLe (mC (.int 1)) (mL (f1 lenD) (maCons (mVar 0) maNil)) (mC (.int 8))))) (tB_ (m2 fNin (m2 fIx (mVar 0) (mC (.int 0))) (mC (.str "abcdefghijklmnopqrstuvwxyz"))))))
  (msRet (mC (.bl false)))
  msNil)
  (msRet (mAnd (m2 fNin (mVar 0) (mC (.tup [(.str "screen"),(.str "solid"),(.str "beat")]))) (mL (f1 (allD true)) (maCons (mLc (miStr (mVar 0)) (tgName 1) tYes_ is_name_C1 [1]) maNil)))))
def is_part_C1 : ME:=(mCall F_is_integer [] (maCons (mVar 7) maNil))
def F_is_part : FD:=mDef 3 8 (msSeq (msIf (tOr_ (tNot_ (tB_ (mIsi (fTy "tuple") (mVar 0)))) (tOr_ (tB_ (m2 fNe (mL (f1 lenD) (maCons (mVar 0) maNil)) (mC (.int 4)))) (tNot_ (tB_ (mL (f1 (allD true)) (maCons (mLc (miSeq (mVar 0)) (tgName 7) tYes_ is_part_C1 [7]) maNil))))))
  (msRet (mC (.bl false)))
  msNil)
  (msSeq (msAsg (mVar 0) (tgTup 4 (tgCons (tgName 3) (tgCons (tgName 4) (tgCons (tgName 5) (tgCons (tgName 6) tgNil))))))
  (msRet (mAnd (mChain3 fLe fLt fLe (mC (.int 0)) (mVar 3) (mVar 5) (mVar 1)) (mChain3 fLe fLt fLe (mC (.int 0)) (mVar 4) (mVar 6) (mVar 2))))))
def F_is_word : FD:=mDef 2 2 (msRet (mAnd (mIsi (fTy "str") (mVar 0)) (m2 fIn (mVar 0) (mVar 1))))
def check_solid_L1 : MS:=(msIf (tOr_ (tB_ (m2 fEq (mVar 1) (mC (.int 8)))) (tOr_ (tNot_ (tB_ (mCall F_is_name [] (maCons (mVar 2) maNil)))) (tAnd_ (tB_ (m2 fGt (mVar 1) (mC (.int 0)))) (tB_ (m2 fGe (m2 fIx (mVar 0) (m2 fSub (mVar 1) (mC (.int 1)))) (mVar 2))))))
  (msRaise 23 "index" (maCons (mVar 1) maNil))
  msNil)
def F_check_solid : FD:=mDef 1 3 (msSeq (msIf (tNot_ (tB_ (mIsi (fTy "tuple") (mVar 0))))
  (msRaise 23 "index" (maCons (mC .non) maNil))
  msNil)
  (msFor (miOf enumOf (maCons (mVar 0) maNil)) (tgTup 2 (tgCons (tgName 1) (tgCons (tgName 2) tgNil)))
  check_solid_L1))
def law_jar_L1 : MS:=(msAsg (m2 fMod (mL (f1 intD) (maCons (m2 fAdd (m2 fMul (mVar 2) (mC (.int 733))) (mVar 3)) maNil)) (mC (.int 1000000007))) (tgName 2))
def F_law_jar : FD:=mDef 2 6 (msSeq (msAsg (m2 fAdd (m2 fMul (m2 fMul (mC (.int 8191)) (m2 fAdd (mVar 1) (mC (.int 2)))) (m2 fAdd (mVar 1) (mC (.int 5)))) (m2 fMul (mC (.int 13)) (mL (f1 lenD) (maCons (mVar 0) maNil)))) (tgName 2))
  (msSeq (msFor (miSeq (mSl (mVar 0) moNone (moSome (mC (.int 4))))) (tgName 3)
  law_jar_L1)
  (msSeq (msAsg (mIf (tB_ (m2 fLt (mVar 1) (mL (f1 lenD) (maCons (mVar 0) maNil)))) (m2 fIx (mVar 0) (mVar 1)) (mC (.int 0))) (tgName 4))
  (msSeq (msAsg (mIf (tOr_ (tB_ (m2 fLt (mVar 4) (mC (.int 0)))) (tB_ (m2 fGe (mVar 4) (m2 fPow (mC (.int 10)) (mC (.int 18)))))) (mL (f1 absD) (maCons (mVar 4) maNil)) (mC (.int 0))) (tgName 5))
  (msRet (mLst (maCons (mVar 5) (maCons (m2 fMod (mL (f1 intD) (maCons (m2 fAdd (m2 fAdd (m2 fMul (mVar 2) (mC (.int 7907))) (m2 fMul (mVar 4) (mC (.int 65537)))) (m2 fMul (mC (.int 104729)) (m2 fAdd (mVar 1) (mC (.int 1))))) maNil)) (mC (.int 2147483587))) (maCons (mC (.int 0)) maNil)))))))))
end
end G
namespace DV
open PySem L2
theorem Store.put_same {st : Store} {j : Nat} {c : Cell} : (st.put j c).at_ j = some c:=by simp [Store.put]
theorem Store.put_ne {st : Store} {j m : Nat} {c : Cell} (h : m ≠ j) : (st.put j c).at_ m = st.at_ m:=by simp [Store.put,h]
theorem Store.put_put {st : Store} {j : Nat} {c d : Cell} : (st.put j c).put j d = st.put j d:=by
  unfold Store.put
  congr 1
  funext m
  by_cases h : m = j <;> simp [h]
theorem Store.new_same {st : Store} {c : Cell} : (st.new c).at_ st.nxt = some c:=by simp [Store.new]
theorem Store.new_ne {st : Store} {m : Nat} {c : Cell} (h : m ≠ st.nxt) : (st.new c).at_ m = st.at_ m:=by simp [Store.new,h]
theorem Store.at_new {st : Store} {c : Cell} {n : Nat} : (st.new c).at_ n = if n = st.nxt then some c else st.at_ n:=rfl
structure Kp (js : List Nat) (st st' : Store) : Prop where
  le : st.nxt ≤ st'.nxt
  at_ : ∀ m,m < st.nxt → m ∉ js → st'.at_ m = st.at_ m
theorem Kp.refl {js : List Nat} {st : Store} : Kp js st st:=⟨Nat.le_refl _,fun _ _ _ => rfl⟩
theorem Kp.trans {js : List Nat} {a b c : Store} (h : Kp js a b) (h' : Kp js b c) : Kp js a c:=⟨Nat.le_trans h.le h'.le,fun m hm hj => (h'.at_ m (Nat.lt_of_lt_of_le hm h.le) hj).trans (h.at_ m hm hj)⟩
theorem Kp.more {js ks : List Nat} {a b : Store} (h : Kp js a b) (hs : ∀ x ∈ js,x ∈ ks) : Kp ks a b:=⟨h.le,fun m hm hj => h.at_ m hm fun z => hj (hs m z)⟩
theorem Kp.nil {js : List Nat} {a b : Store} (h : Kp [] a b) : Kp js a b:=h.more (by simp)
theorem Kp.new {js : List Nat} {st : Store} {c : Cell} : Kp js st (st.new c):=⟨Nat.le_succ _,fun m hm _ => Store.new_ne (Nat.ne_of_lt hm)⟩
theorem Kp.put {js : List Nat} {st : Store} {j : Nat} {c : Cell} (hj : j ∈ js) : Kp js st (st.put j c):=⟨Nat.le_refl _,fun m _ h => Store.put_ne fun e => h (e ▸ hj)⟩
theorem Kp.drop {js : List Nat} {a b : Store} {j : Nat} (h : Kp (j :: js) a b) (hj : a.nxt ≤ j) : Kp js a b:=⟨h.le,fun m hm hs => h.at_ m hm (by simp only [List.mem_cons,not_or]; exact ⟨by omega,hs⟩)⟩
theorem Kp.get {js : List Nat} {a b : Store} (h : Kp js a b) {m : Nat} {c : Cell} (e : a.at_ m = some c) (hm : m < a.nxt) (hj : m ∉ js) : b.at_ m = some c:=(h.at_ m hm hj).trans e
theorem Kp.get0 {a b : Store} (h : Kp [] a b) {m : Nat} {c : Cell} (e : a.at_ m = some c) (hm : m < a.nxt) : b.at_ m = some c:=h.get e hm (by simp)
@[simp] theorem srcOk_nil {st : Store} : SrcOk [] st:=fun _ h => nomatch h
theorem srcOk_one {st : Store} {m : Nat} {xs : List D} (h : st.at_ m = some (.lst xs)) : SrcOk [(m,xs)] st:=fun p hp => by
  rw [List.mem_singleton.mp hp]
  exact h
theorem loopC_nil {t : TGT} {mt : MT} {me : ME} {srcs : List (Nat × Cell)} {l0 : Loc} {st : Store} (so : SrcOk srcs st) : loopC t mt me srcs l0 [] st = .ok [] st:=by
  unfold loopC
  rw [if_pos so]
theorem loopC_cons {t : TGT} {mt : MT} {me : ME} {srcs : List (Nat × Cell)} {l0 l1 : Loc} {d : D} {ds : List D} {st : Store} (so : SrcOk srcs st) (ht : t d l0 st = some l1) :
    loopC t mt me srcs l0 (d :: ds) st = (match mt l1 st with
    | .ok k st1 => if k then (match me l1 st1 with
      | .ok x st2 => (match loopC t mt me srcs l0 ds st2 with
        | .ok r st3 => .ok (x :: r) st3
        | _ => .bad)
      | _ => .bad) else loopC t mt me srcs l0 ds st1
    | _ => .bad):=by
  rw [loopC.eq_def]
  simp only [if_pos so,ht]
  cases mt l1 st with
  | ok k st1 =>
    cases k <;> simp only [Bool.false_eq_true,if_false,if_true]
    all_goals rfl
  | exc c fs s => rfl
  | bad => rfl
theorem loopS_nil {t : TGT} {body : MS} {srcs : List (Nat × Cell)} {l : Loc} {st : Store} (so : SrcOk srcs st) : loopS t body srcs [] l st = .nx l st:=by
  unfold loopS
  rw [if_pos so]
theorem loopS_nx {t : TGT} {body : MS} {srcs : List (Nat × Cell)} {l l1 l2 : Loc} {d : D} {ds : List D} {st st2 : Store} (so : SrcOk srcs st) (ht : t d l st = some l1) (hb : body l1 st = .nx l2 st2) : loopS t body srcs (d :: ds) l st = loopS t body srcs ds l2 st2:=by
  rw [loopS.eq_def]
  simp only [if_pos so,ht,hb]
theorem loopS_rt {t : TGT} {body : MS} {srcs : List (Nat × Cell)} {l l1 : Loc} {d x : D} {ds : List D} {st st2 : Store} (so : SrcOk srcs st) (ht : t d l st = some l1) (hb : body l1 st = .rt x st2) : loopS t body srcs (d :: ds) l st = .rt x st2:=by
  rw [loopS.eq_def]
  simp only [if_pos so,ht,hb]
theorem small_line {n : Nat} (h : n ≤ 1000) : n ≤ sizeLine:=Nat.le_trans h (by decide)
end DV
namespace DV
open PySem L2
@[simp] theorem ev_mVar (i : Nat) (l : Loc) (st : Store) : mVar i l st = (match l[i]? with
  | some (some d) => .ok d st
  | _ => .bad):=rfl
@[simp] theorem ev_mC (d : D) (v0 : Loc) (st : Store) : mC d v0 st = (.ok d st):=rfl
@[simp] theorem ev_m2 (f : F2) (a b : ME) (l : Loc) (st : Store) : m2 f a b l st = ((a l st).bind fun x st1 => (b l st1).bind fun y st2 => Res.ofO (f x y st2)):=rfl
@[simp] theorem ev_m1 (f : F1) (a : ME) (l : Loc) (st : Store) : m1 f a l st = ((a l st).bind fun x st1 => Res.ofO (f x st1)):=rfl
@[simp] theorem ev_mL (f : FL) (a : MA) (l : Loc) (st : Store) : mL f a l st = ((a l st).bind fun xs st1 => Res.ofO (f xs st1)):=rfl
@[simp] theorem ev_maNil  (v0 : Loc) (st : Store) : maNil v0 st = (.ok [] st):=rfl
@[simp] theorem ev_maCons (a : ME) (b : MA) (l : Loc) (st : Store) : maCons a b l st = ((a l st).bind fun x st1 => (b l st1).bind fun xs st2 => .ok (x :: xs) st2):=rfl
@[simp] theorem ev_fTup  (xs : List D) (st : Store) : fTup xs st = (if xs.length ≤ sizeLine then some (.tup xs,st) else none):=rfl
@[simp] theorem ev_fLst  (xs : List D) (st : Store) : fLst xs st = (if xs.length ≤ sizeLine then some (.ref st.nxt,st.new (.lst xs)) else none):=rfl
@[simp] theorem ev_mTup (a : MA) (l : Loc) (st : Store) : mTup a l st = ((mL fTup a) l st):=rfl
@[simp] theorem ev_mLst (a : MA) (l : Loc) (st : Store) : mLst a l st = ((mL fLst a) l st):=rfl
@[simp] theorem ev_tB_ (a : ME) (l : Loc) (st : Store) : tB_ a l st = ((a l st).bind toB):=rfl
@[simp] theorem ev_mChain (f g : F2) (a b c : ME) (l : Loc) (st : Store) : mChain f g a b c l st = ((a l st).bind fun x st1 => (b l st1).bind fun y st2 => (Res.ofO (f x y st2)).bind fun z st3 => (toB z st3).bind fun k st4 =>
  if k then (c l st4).bind fun w st5 => Res.ofO (g y w st5) else .ok (.bl false) st4):=rfl
@[simp] theorem ev_tAnd_ (a b : MT) (l : Loc) (st : Store) : tAnd_ a b l st = ((a l st).bind fun k st1 => if k then b l st1 else .ok false st1):=rfl
@[simp] theorem ev_tOr_ (a b : MT) (l : Loc) (st : Store) : tOr_ a b l st = ((a l st).bind fun k st1 => if k then .ok true st1 else b l st1):=rfl
@[simp] theorem ev_tNot_ (a : MT) (l : Loc) (st : Store) : tNot_ a l st = ((a l st).bind fun k st1 => .ok (!k) st1):=rfl
@[simp] theorem ev_mAnd (a b : ME) (l : Loc) (st : Store) : mAnd a b l st = ((a l st).bind fun d st1 => (toB d st1).bind fun k st2 => if k then b l st2 else .ok (.bl false) st2):=rfl
@[simp] theorem ev_mOr (a b : ME) (l : Loc) (st : Store) : mOr a b l st = ((a l st).bind fun d st1 => (toB d st1).bind fun k st2 => if k then .ok (.bl true) st2 else b l st2):=rfl
@[simp] theorem ev_mNot (a : ME) (l : Loc) (st : Store) : mNot a l st = ((a l st).bind fun d st1 => (toB d st1).bind fun k st2 => .ok (.bl (!k)) st2):=rfl
@[simp] theorem ev_mIf (c : MT) (a b : ME) (l : Loc) (st : Store) : mIf c a b l st = ((c l st).bind fun k st1 => if k then a l st1 else b l st1):=rfl
@[simp] theorem ev_msNil  (l : Loc) (st : Store) : msNil l st = (.nx l st):=rfl
@[simp] theorem ev_msSeq (a b : MS) (l : Loc) (st : Store) : msSeq a b l st = (match a l st with
  | .nx l' st' => b l' st'
  | r => r):=rfl
@[simp] theorem ev_msExpr (m : ME) (l : Loc) (st : Store) : msExpr m l st = ((m l st).toS l fun _ st1 => .nx l st1):=rfl
@[simp] theorem ev_msRet (m : ME) (l : Loc) (st : Store) : msRet m l st = ((m l st).toS l fun d st1 => .rt d st1):=rfl
@[simp] theorem ev_msIf (c : MT) (a b : MS) (l : Loc) (st : Store) : msIf c a b l st = ((c l st).toS l fun k st1 => if k then a l st1 else b l st1):=rfl
@[simp] theorem ev_msAsg (m : ME) (t : TGT) (l : Loc) (st : Store) : msAsg m t l st = ((m l st).toS l fun d st1 => match t d l st1 with
  | some l' => .nx l' st1
  | none => .bad):=rfl
@[simp] theorem ev_msPar (i j : Nat) (m : MA) (l : Loc) (st : Store) : msPar i j m l st = ((m l st).toS l fun ds st1 => match ds with
  | [x,y] => .nx ((l.set i (some x)).set j (some y)) st1
  | _ => .bad):=rfl
@[simp] theorem ev_tgName (i : Nat) (d : D) (l : Loc) (v2 : Store) : tgName i d l v2 = (some (l.set i (some d))):=rfl
@[simp] theorem ev_tgTup (n : Nat) (t : TGTs) (d : D) (l : Loc) (st : Store) : tgTup n t d l st = (match d with
  | .tup xs => if xs.length = n then t xs l st else none
  | _ => none):=rfl
@[simp] theorem ev_tgCons (t : TGT) (u : TGTs) (ds : List D) (l : Loc) (st : Store) : tgCons t u ds l st = (match ds with
  | d :: ds => (t d l st).bind fun l1 => u ds l1 st
  | [] => none):=rfl
@[simp] theorem ev_tgNil  (ds : List D) (l : Loc) (v2 : Store) : tgNil ds l v2 = (match ds with
  | [] => some l
  | _ :: _ => none):=rfl
open Classical in
@[simp] theorem ev_msFor (mi : MI) (t : TGT) (body : MS) (l : Loc) (st : Store) : msFor mi t body l st = ((mi l st).toS l fun it st1 => loopS t body it.srcs it.items l st1):=rfl
@[simp] theorem ev_mCall (F : FD) (dds : List D) (a : MA) (l : Loc) (st : Store) : mCall F dds a l st = ((a l st).bind fun ds st1 => F (ds ++ dds) st1):=rfl
@[simp] theorem ev_f1 (f : D → Store → Option (D × Store)) (xs : List D) (st : Store) : f1 f xs st = (match xs with
  | [x] => f x st
  | _ => none):=rfl
@[simp] theorem ev_intD (x : D) (st : Store)  : intD x st = (match x with
  | .int i => some (.int i,st)
  | _ => none):=rfl
@[simp] theorem ev_lenD (x : D) (st : Store)  : lenD x st = (match x with
  | .str z => if z.length ≤ sizeLine then some (.int z.length,st) else none
  | .tup xs => some (.int xs.length,st)
  | .rol xs => some (.int xs.length,st)
  | .ref m => (match st.at_ m with
    | some (.lst xs) => some (.int xs.length,st)
    | some (.dic kvs) => some (.int kvs.length,st)
    | _ => none)
  | _ => none):=rfl
@[simp] theorem ev_tupleD (x : D) (st : Store)  : tupleD x st = (match x with
  | .tup xs => some (.tup xs,st)
  | .ref m => (match st.at_ m with
    | some (.lst xs) => some (.tup xs,st)
    | _ => none)
  | _ => none):=rfl
@[simp] theorem ev_dictD (x : D) (st : Store)  : dictD x st = (match x with
  | .ref m => (match st.at_ m with
    | some (.dic kvs) => some (.ref st.nxt,st.new (.dic kvs))
    | _ => none)
  | _ => none):=rfl
@[simp] theorem ev_absD (x : D) (st : Store)  : absD x st = (match x with
  | .int i => some (.int (if i < 0 then -i else i),st)
  | _ => none):=rfl
@[simp] theorem ev_msSub (m o i : ME) (l : Loc) (st : Store) : msSub m o i l st = ((m l st).toS l fun d3 st1 => ((o l st1).toS l fun d1 st2 => (i l st2).toS l fun d2 st3 => match fSet d1 d2 d3 st3 with
  | some st4 => .nx l st4
  | none => .bad)):=rfl
@[simp] theorem ev_mM (T : String) (f : D → FL) (o : ME) (a : MA) (l : Loc) (st : Store) : mM T f o a l st = ((o l st).bind fun x st1 => if tyD T x st1 then (a l st1).bind fun xs st2 => Res.ofO (f x xs st2) else .bad):=rfl
@[simp] theorem ev_fAppend  (x : D) (xs : List D) (st : Store) : fAppend x xs st = (match x,xs with
  | .ref m,[y] => (match st.at_ m with
    | some (.lst zs) => if zs.length < sizeLine then some (.non,st.put m (.lst (zs ++ [y]))) else none
    | _ => none)
  | _,_ => none):=rfl
@[simp] theorem ev_fSet (o i v : D) (st : Store)  : fSet o i v st = (match o with
  | .ref m => (match st.at_ m with
    | some (.lst xs) => (match i with
      | .int k => (match ixN xs.length k with
        | some j => some (st.put m (.lst (xs.set j v)))
        | none => none)
      | _ => none)
    | some (.dic kvs) => if kvs.length < sizeLine then (match i with
      | .str a => some (st.put m (.dic (dPut kvs (Sum.inr a) v)))
      | .int a => some (st.put m (.dic (dPut kvs (Sum.inl a) v)))
      | _ => none) else none
    | _ => none)
  | _ => none):=rfl
@[simp] theorem ev_fIx  (x : D) (y : D) (st : Store) : fIx x y st = (match x,y with
  | .tup xs,.int i => (atI xs i).map fun d => (d,st)
  | .rol xs,.int i => (atI xs i).map fun d => (d,st)
  | .str z,.int i => if z.length ≤ sizeLine then (atI z.cps.toList i).map fun c => (.str ⟨#[c]⟩,st) else none
  | .ref m,k => (match st.at_ m with
    | some (.lst xs) => (match k with
      | .int i => (atI xs i).map fun d => (d,st)
      | _ => none)
    | some (.dic kvs) => (match k with
      | .str a => (dLook kvs (Sum.inr a)).map fun d => (d,st)
      | .int a => (dLook kvs (Sum.inl a)).map fun d => (d,st)
      | _ => none)
    | some (.fdc kvs) => (match k with
      | .str a => (dLook kvs (Sum.inr a)).map fun d => (d,st)
      | .int a => (dLook kvs (Sum.inl a)).map fun d => (d,st)
      | _ => none)
    | _ => none)
  | _,_ => none):=rfl
@[simp] theorem ev_fAdd  (x : D) (y : D) (st : Store) : fAdd x y st = (match x,y with
  | .int i,.int j => some (.int (i + j),st)
  | .str a,.str b => if a.length + b.length ≤ sizeLine then some (.str (a ++ b),st) else none
  | .tup xs,.tup ys => if xs.length + ys.length ≤ sizeLine then some (.tup (xs ++ ys),st) else none
  | .ref m,.ref n => match st.at_ m,st.at_ n with
    | some (.lst xs),some (.lst ys) => if xs.length + ys.length ≤ sizeLine then some (.ref st.nxt,st.new (.lst (xs ++ ys))) else none
    | _,_ => none
  | _,_ => none):=rfl
@[simp] theorem ev_fGt  (x : D) (y : D) (st : Store) : fGt x y st = (match x,y with
  | .int i,.int j => some (.bl (decide (j < i)),st)
  | _,_ => none):=rfl
@[simp] theorem ev_fLt  (x : D) (y : D) (st : Store) : fLt x y st = (match x,y with
  | .int i,.int j => some (.bl (decide (i < j)),st)
  | .str i,.str j => some (.bl (decide (i.cps.toList < j.cps.toList)),st)
  | _,_ => none):=rfl
@[simp] theorem ev_fLe  (x : D) (y : D) (st : Store) : fLe x y st = (match x,y with
  | .int i,.int j => some (.bl (decide (i ≤ j)),st)
  | _,_ => none):=rfl
@[simp] theorem ev_fGe  (x : D) (y : D) (st : Store) : fGe x y st = (match x,y with
  | .int i,.int j => some (.bl (decide (j ≤ i)),st)
  | .str i,.str j => some (.bl (!decide (i.cps.toList < j.cps.toList)),st)
  | _,_ => none):=rfl
@[simp] theorem ev_fEq  (x : D) (y : D) (st : Store) : fEq x y st = ((dataEq x y st).map fun b => (.bl b,st)):=rfl
@[simp] theorem ev_fNe  (x : D) (y : D) (st : Store) : fNe x y st = ((dataEq x y st).map fun b => (.bl (!b),st)):=rfl
@[simp] theorem ev_dataEq (x y : D) (st : Store)  : dataEq x y st = (match scalEq x y with
  | some b => some b
  | none => match toData st 20 x,toData st 20 y with
    | some a,some b => some (PyData.eqv a b)
    | _,_ => none):=rfl
@[simp] theorem ev_mSl (a : ME) (lo hi : MO) (l : Loc) (st : Store) : mSl a lo hi l st = ((a l st).bind fun x st1 => (lo l st1).bind fun i st2 => (hi l st2).bind fun j st3 => Res.ofO (fSl x i j st3)):=rfl
@[simp] theorem ev_fSl (x : D) (lo hi : Option Int) (st : Store)  : fSl x lo hi st = (match x with
  | .tup xs => some (.tup (cutD xs lo hi),st)
  | .rol xs => some (.ref st.nxt,st.new (.lst (cutD xs lo hi)))
  | .ref m => (match st.at_ m with
    | some (.lst xs) => some (.ref st.nxt,st.new (.lst (cutD xs lo hi)))
    | _ => none)
  | _ => none):=rfl
@[simp] theorem ev_moNone  (v0 : Loc) (st : Store) : moNone v0 st = (.ok none st):=rfl
@[simp] theorem ev_moSome (m : ME) (l : Loc) (st : Store) : moSome m l st = ((m l st).bind fun d st1 => match d with
  | .int i => .ok (some i) st1
  | _ => .bad):=rfl
@[simp] theorem ev_mIsi (f : TyN → Option Bool) (m : ME) (l : Loc) (st : Store) : mIsi f m l st = ((m1 (isiD f) m) l st):=rfl
@[simp] theorem ev_isiD (f : TyN → Option Bool) (d : D) (st : Store) : isiD f d st = ((tyN st d).bind fun t => (f t).map fun b => (.bl b,st)):=rfl
@[simp] theorem ev_miSeq (m : ME) (l : Loc) (st : Store) : miSeq m l st = ((m l st).bind fun d st1 => match seqOf d st1 with
  | some it => .ok it st1
  | none => .bad):=rfl
@[simp] theorem ev_miRng (f : List D → Option Iter) (a : MA) (l : Loc) (st : Store) : miRng f a l st = ((a l st).bind fun ds st1 => match f ds with
  | some it => .ok it st1
  | none => .bad):=rfl
@[simp] theorem ev_miOf (f : List D → Store → Option Iter) (a : MA) (l : Loc) (st : Store) : miOf f a l st = ((a l st).bind fun ds st1 => match f ds st1 with
  | some it => .ok it st1
  | none => .bad):=rfl
@[simp] theorem ev_miStr (m : ME) (l : Loc) (st : Store) : miStr m l st = ((m l st).bind fun d st1 => match d with
  | .str x => .ok ⟨[],signsOf x⟩ st1
  | _ => .bad):=rfl
@[simp] theorem ev_mDnew  (v0 : Loc) (st : Store) : mDnew v0 st = (.ok (.ref st.nxt) (st.new (.dic []))):=rfl
@[simp] theorem ev_mProp (c : Nat) (F : FD) (m : ME) (l : Loc) (st : Store) : mProp c F m l st = ((m l st).bind fun d st1 => match d with
  | .ref r => (match st1.at_ r with
    | some (.ins c' fs) => if c' = c then (match F [.ref r] st1 with
      | .ok x st2 => .ok x st2
      | _ => .bad) else .bad
    | _ => .bad)
  | _ => .bad):=rfl
@[simp] theorem ev_mFld (c : Nat) (f : Str) (m : ME) (l : Loc) (st : Store) : mFld c f m l st = ((m1 (fldD c f) m) l st):=rfl
@[simp] theorem ev_fldD (c : Nat) (f : Str) (d : D) (st : Store) : fldD c f d st = (match d with
  | .ref r => (match st.at_ r with
    | some (.ins c' fs) => if c' = c then (fs.lookup f).map fun x => (x,st) else none
    | _ => none)
  | _ => none):=rfl
@[simp] theorem ev_msFld (c : Nat) (f : Str) (mo mv : ME) (l : Loc) (st : Store) : msFld c f mo mv l st = ((mv l st).toS l fun v st1 => (mo l st1).toS l fun o st2 => match o with
  | .ref r => (match st2.at_ r with
    | some (.ins c' fs) => if c' = c ∧ fs.length < 1000 then .nx l (st2.put r (.ins c (putA f v fs))) else .bad
    | _ => .bad)
  | _ => .bad):=rfl
@[simp] theorem ev_mMake (c : Nat) (F : FD) (n m : Nat) (ix : List Src) (dds : List D) (a b : MA) (l : Loc) (st : Store) : mMake c F n m ix dds a b l st = ((a l st).bind fun ds st1 => (b l st1).bind fun es st2 => if ds.length = n ∧ es.length = m then mkIns c F (fun d => arr ix (d :: ds) es dds) st2 else .bad):=rfl
@[simp] theorem ev_mkIns (c : Nat) (F : FD) (g : D → List D) (st : Store)  : mkIns c F g st = ((F (g (.ref st.nxt)) (st.new (.ins c []))).bind fun d st' => match d with
  | .non => .ok (.ref st.nxt) st'
  | _ => .bad):=rfl
@[simp] theorem ev_mChain3 (f g h : F2) (a b c d : ME) (l : Loc) (st : Store) : mChain3 f g h a b c d l st = ((a l st).bind fun x st1 => (b l st1).bind fun y st2 => (Res.ofO (f x y st2)).bind fun z st3 => (toB z st3).bind fun k st4 =>
  if k then (c l st4).bind fun w st5 => (Res.ofO (g y w st5)).bind fun z2 st6 => (toB z2 st6).bind fun k2 st7 => if k2 then (d l st7).bind fun u st8 => Res.ofO (h w u st8) else .ok (.bl false) st7 else .ok (.bl false) st4):=rfl
@[simp] theorem ev_fIsN  (x : D) (y : D) (st : Store) : fIsN x y st = (match y with
  | .non => match x with
    | .cst _ => none
    | .non => some (.bl true,st)
    | _ => some (.bl false,st)
  | _ => none):=rfl
@[simp] theorem ev_fNotN  (x : D) (y : D) (st : Store) : fNotN x y st = (match y with
  | .non => match x with
    | .cst _ => none
    | .non => some (.bl false,st)
    | _ => some (.bl true,st)
  | _ => none):=rfl
@[simp] theorem ev_fNeg  (x : D) (st : Store) : fNeg x st = (match x with
  | .int i => some (.int (-i),st)
  | _ => none):=rfl
@[simp] theorem ev_fIn  (x : D) (y : D) (st : Store) : fIn x y st = ((inB x y st).map fun b => (.bl b,st)):=rfl
@[simp] theorem ev_fNin  (x : D) (y : D) (st : Store) : fNin x y st = ((inB x y st).map fun b => (.bl (!b),st)):=rfl
@[simp] theorem ev_tyD (T : String) (x : D) (st : Store)  : tyD T x st = (match x with
  | .str _ => T == "str"
  | .ref m => (match st.at_ m with
    | some (.lst _) => T == "list"
    | some (.dic _) => T == "dict"
    | _ => false)
  | _ => false):=rfl
@[simp] theorem ev_fMul  (x : D) (y : D) (st : Store) : fMul x y st = (match x,y with
  | .int i,.int j => if CMul i j then some (.int (i * j),st) else none
  | .ref m,.int k => match st.at_ m with
    | some (.lst xs) => if -(2 ^ 63) ≤ k ∧ k < 2 ^ 63 ∧ xs.length * k.toNat ≤ sizeLine then some (.ref st.nxt,st.new (.lst (repL k.toNat xs))) else none
    | _ => none
  | _,_ => none):=rfl
@[simp] theorem ev_allD (all : Bool) (x : D) (st : Store)  : allD all x st = (match x with
  | .ref m => (match st.at_ m with
    | some (.lst xs) => (boolsD xs).map fun bs => (.bl (if all then bs.all id else bs.any id),st)
    | _ => none)
  | _ => none):=rfl
@[simp] theorem ev_f2I (g : Int → Int → Int) (xs : List D) (st : Store) : f2I g xs st = (match xs with
  | [.int i,.int j] => some (.int (g i j),st)
  | _ => none):=rfl
@[simp] theorem ev_maxI (i j : Int)  : maxI i j = (if j > i then j else i):=rfl
@[simp] theorem ev_minI (i j : Int)  : minI i j = (if j < i then j else i):=rfl
open Classical in
@[simp] theorem ev_mLc (mi : MI) (t : TGT) (mt : MT) (me : ME) (vs : List Nat) (l : Loc) (st : Store) : mLc mi t mt me vs l st = ((mi l st).bind fun it st1 => match loopC t mt me it.srcs (wipeL l vs) it.items st1 with
  | .ok ys st2 => if ys.length ≤ sizeLine then .ok (.ref st2.nxt) (st2.new (.lst ys)) else .bad
  | _ => .bad):=rfl
@[simp] theorem ev_seqOf (d : D) (st : Store)  : seqOf d st = (match d with
  | .tup xs => some ⟨[],xs⟩
  | .rol xs => some ⟨[],xs⟩
  | .ref m => (match st.at_ m with
    | some (.lst xs) => some ⟨[(m,xs)],xs⟩
    | _ => none)
  | _ => none):=rfl
@[simp] theorem ev_enumOf (xs : List D) (st : Store)  : enumOf xs st = (match xs with
  | [d] => (seqOf d st).map fun it => ⟨it.srcs,enumFrom 0 it.items⟩
  | _ => none):=rfl
@[simp] theorem ev_tYes_  (v0 : Loc) (st : Store) : tYes_ v0 st = (.ok true st):=rfl
@[simp] theorem ev_mMeth (c : Nat) (name : Str) (F : FD) (n m : Nat) (ix : List Src) (dds : List D) (mo : ME) (a b : MA) (l : Loc) (st : Store) : mMeth c name F n m ix dds mo a b l st = ((mo l st).bind fun o st1 => match o with
  | .ref r => (match st1.at_ r with
    | some (.ins c' fs) => if c' = c ∧ fs.lookup name = none then (a l st1).bind fun ds st2 => (b l st2).bind fun es st3 => if ds.length = n ∧ es.length = m then F (arr ix (.ref r :: ds) es dds) st3 else .bad else .bad
    | _ => .bad)
  | _ => .bad):=rfl
@[simp] theorem ev_mLenX (c : Nat) (F : FD) (m : ME) (l : Loc) (st : Store) : mLenX c F m l st = ((m l st).bind fun d st1 => match d with
  | .ref r => (match st1.at_ r with
    | some (.ins c' fs) => if c' = c then (match F [.ref r] st1 with
      | .ok (.int i) st2 => if 0 ≤ i ∧ i < 2 ^ 63 then .ok (.int i) st2 else .bad
      | _ => .bad) else .bad
    | _ => Res.ofO (lenD (.ref r) st1))
  | d => Res.ofO (lenD d st1)):=rfl
@[simp] theorem ev_bind_ok {α β : Type} (a : α) (st : Store) (k : α → Store → Res β) : (Res.ok a st).bind k = k a st:=rfl
@[simp] theorem ev_toS_ok {α : Type} (a : α) (st : Store) (l : Loc) (k : α → Store → RS) : (Res.ok a st).toS l k = k a st:=rfl
@[simp] theorem ev_ofO_some {α : Type} (p : α × Store) : Res.ofO (some p) = .ok p.1 p.2:=rfl
@[simp] theorem ev_toB (b : Bool) (st : Store) : toB (.bl b) st = .ok b st:=rfl
@[simp] theorem ev_fSub (i j : Int) (st : Store) : fSub (.int i) (.int j) st = some (.int (i - j),st):=rfl
@[simp] theorem ev_fMod (i j : Int) (st : Store) : fMod (.int i) (.int j) st = if 0 < j then some (.int (i % j),st) else none:=rfl
@[simp] theorem ev_fFdiv (i j : Int) (st : Store) : fFdiv (.int i) (.int j) st = if 0 < j ∧ j.natAbs.log2 < 9000 then some (.int (i / j),st) else none:=rfl
@[simp] theorem ev_rng1 (j : Int) : rng1 [.int j] = if -(2 ^ 62) ≤ j ∧ j < 2 ^ 62 then some ⟨[],intsFrom 0 j.toNat⟩ else none:=rfl
@[simp] theorem ev_mDef (n len : Nat) (body : MS) (ds : List D) (st : Store) : mDef n len body ds st = if ds.length = n then (match body (ds.map some ++ List.replicate (len - n) none) st with
  | .rt d st' => .ok d st'
  | .nx _ st' => .ok .non st'
  | .exc c fs _ st' => .exc c fs st'
  | _ => .bad) else .bad:=rfl
@[simp] theorem ev_tyN_non (st : Store) : tyN st .non = some (.b "NoneType"):=rfl
@[simp] theorem ev_tyN_bl (st : Store) (b : Bool) : tyN st (.bl b) = some (.b "bool"):=rfl
@[simp] theorem ev_tyN_int (st : Store) (b : Int) : tyN st (.int b) = some (.b "int"):=rfl
@[simp] theorem ev_tyN_str (st : Store) (b : Str) : tyN st (.str b) = some (.b "str"):=rfl
@[simp] theorem ev_tyN_tup (st : Store) (b : List D) : tyN st (.tup b) = some (.b "tuple"):=rfl
@[simp] theorem ev_ty_ii : fTy "int" (.b "int") = some true:=by decide +kernel
@[simp] theorem ev_ty_ib : fTy "int" (.b "bool") = some true:=by decide +kernel
@[simp] theorem ev_ty_bi : fTy "bool" (.b "int") = some false:=by decide +kernel
@[simp] theorem ev_ty_bb : fTy "bool" (.b "bool") = some true:=by decide +kernel
@[simp] theorem ev_ty_bt : fTy "bool" (.b "tuple") = some false:=by decide +kernel
@[simp] theorem ev_ty_is : fTy "int" (.b "str") = some false:=by decide +kernel
@[simp] theorem ev_ty_ss : fTy "str" (.b "str") = some true:=by decide +kernel
@[simp] theorem ev_ty_si : fTy "str" (.b "int") = some false:=by decide +kernel
@[simp] theorem ev_ty_tt : fTy "tuple" (.b "tuple") = some true:=by decide +kernel
@[simp] theorem ev_ty_ti : fTy "tuple" (.b "int") = some false:=by decide +kernel
@[simp] theorem ev_ty_ts : fTy "tuple" (.b "str") = some false:=by decide +kernel
@[simp] theorem ev_ty_tn : fTy "tuple" (.b "NoneType") = some false:=by decide +kernel
@[simp] theorem ev_own (c : Nat) (bs : List String) : fOwn c bs (.o c) = some true:=if_pos rfl
@[simp] theorem ev_sc_ii (i j : Int) : scalEq (.int i) (.int j) = some (decide (i = j)):=rfl
@[simp] theorem ev_sc_ss (i j : Str) : scalEq (.str i) (.str j) = some (decide (i = j)):=rfl
@[simp] theorem ev_sc_bb (i j : Bool) : scalEq (.bl i) (.bl j) = some (decide (i = j)):=rfl
@[simp] theorem ev_sc_nn : scalEq .non .non = some true:=rfl
@[simp] theorem ev_sc_ni (i : Int) : scalEq .non (.int i) = some false:=rfl
@[simp] theorem ev_sc_in (i : Int) : scalEq (.int i) .non = some false:=rfl
@[simp] theorem ev_sc_tt (xs ys : List D) : scalEq (.tup xs) (.tup ys) = none:=rfl
@[simp] theorem ev_sc_rr (m n : Nat) : scalEq (.ref m) (.ref n) = none:=rfl
@[simp] theorem ev_put_same {st : Store} {j : Nat} {c : Cell} : (st.put j c).at_ j = some c:=Store.put_same
@[simp] theorem ev_new_same {st : Store} {c : Cell} : (st.new c).at_ st.nxt = some c:=Store.new_same
@[simp] theorem ev_new_nxt {st : Store} {c : Cell} : (st.new c).nxt = st.nxt + 1:=rfl
@[simp] theorem ev_put_nxt {st : Store} {j : Nat} {c : Cell} : (st.put j c).nxt = st.nxt:=rfl
@[simp] theorem ev_put_put {st : Store} {j : Nat} {c d : Cell} : (st.put j c).put j d = st.put j d:=Store.put_put
@[simp] theorem le_line0 : 0 ≤ sizeLine:=Nat.zero_le _
@[simp] theorem le_line1 : 1 ≤ sizeLine:=by decide
@[simp] theorem le_line2 : 2 ≤ sizeLine:=by decide
@[simp] theorem le_line3 : 3 ≤ sizeLine:=by decide
@[simp] theorem le_line4 : 4 ≤ sizeLine:=by decide
theorem ev_atI {α : Type} {xs : List α} {i : Int} {x : α} (h0 : 0 ≤ i) (h : xs[i.toNat]? = some x) : atI xs i = some x:=by
  have hl : i.toNat < xs.length:=(List.getElem?_eq_some_iff.mp h).1
  unfold atI ixN
  rw [if_pos h0,if_pos (by omega)]
  exact h
@[simp] theorem atI0 {α : Type} (x : α) (xs : List α) : atI (x :: xs) 0 = some x:=ev_atI (by omega) rfl
@[simp] theorem atI1 {α : Type} (x y : α) (xs : List α) : atI (x :: y :: xs) 1 = some y:=ev_atI (by omega) rfl
@[simp] theorem atI2 {α : Type} (x y z : α) (xs : List α) : atI (x :: y :: z :: xs) 2 = some z:=ev_atI (by omega) rfl
@[simp] theorem atI3 {α : Type} (x y z u : α) (xs : List α) : atI (x :: y :: z :: u :: xs) 3 = some u:=ev_atI (by omega) rfl
end DV
namespace DV
open PySem L2
abbrev TOk (x : Str) : Prop:=PyData.strOk x = true
theorem optL_map {α β γ : Type} {f : β → Option γ} {k : α → β} {g : α → γ} : ∀ {xs : List α},(∀ x ∈ xs,f (k x) = some (g x)) → optL f (xs.map k) = some (xs.map g)
  | [],_ => rfl
  | x :: xs,h => by
    simp only [List.map_cons,optL]
    rw [h x (by simp),optL_map (fun y hy => h y (List.mem_cons_of_mem _ hy))]
theorem toData_str {st : Store} {n : Nat} {x : Str} (h : TOk x) : toData st (n + 1) (.str x) = some (.str x):=by
  simp only [toData]
  rw [if_pos h]
theorem toData_strs {st : Store} {n : Nat} {xs : List Str} (h : ∀ x ∈ xs,TOk x) : optL (toData st (n + 1)) (xs.map D.str) = some (xs.map PyData.str):=optL_map fun x hx => toData_str (h x hx)
theorem toData_tup {st : Store} {n : Nat} {ds : List D} {ps : List PyData} (h : optL (toData st n) ds = some ps) : toData st (n + 1) (.tup ds) = some (.tuple ps):=by
  simp only [toData]
  rw [h]
theorem toData_lst {st : Store} {n m : Nat} {ds : List D} {ps : List PyData} (e : st.at_ m = some (.lst ds)) (h : optL (toData st n) ds = some ps) : toData st (n + 1) (.ref m) = some (.list ps):=by
  simp only [toData,e]
  rw [h]
theorem eqv_str {a b : Str} : PyData.eqv (.str a) (.str b) = decide (a = b):=by
  simp only [PyData.eqv]
  by_cases h : a = b
  · subst h; simp
  · rw [decide_eq_false h]
    exact beq_eq_false_iff_ne.mpr h
theorem any_strs {x : Str} : ∀ {ys : List Str},(ys.map PyData.str).any (fun z => PyData.eqv z (.str x)) = decide (x ∈ ys)
  | [] => by simp
  | y :: ys => by
    simp only [List.map_cons,List.any_cons,eqv_str,any_strs (ys:=ys),List.mem_cons]
    by_cases a : y = x
    · subst a; simp
    · have : ¬ x = y:=fun e => a e.symm
      simp [a,this]
theorem in_tup {st : Store} {x : Str} {ys : List Str} (hx : TOk x) (h : ∀ y ∈ ys,TOk y) : inB (.str x) (.tup (ys.map D.str)) st = some (decide (x ∈ ys)):=by
  unfold inB
  simp only [toData_str (n:=19) hx,toData_strs (n:=19) h,any_strs]
theorem in_lst {st : Store} {x : Str} {ys : List Str} {m : Nat} (e : st.at_ m = some (.lst (ys.map D.str))) (hx : TOk x) (h : ∀ y ∈ ys,TOk y) : inB (.str x) (.ref m) st = some (decide (x ∈ ys)):=by
  unfold inB
  simp only [e,toData_str (n:=19) hx,toData_strs (n:=19) h,any_strs]
theorem data_tupC {st : Store} {d : D} {ds : List D} {ps : List PyData} (h : optL (toData st 19) (d :: ds) = some ps) : dataEq (.tup (d :: ds)) (.tup []) st = some false:=by
  have h1:=toData_tup (st:=st) (n:=19) h
  have h2:=toData_tup (st:=st) (n:=19) (ds:=[]) (ps:=[]) rfl
  unfold dataEq
  simp only [ev_sc_tt,h1,h2]
  cases ps with
  | nil =>
    unfold optL at h
    cases q : toData st 19 d with
    | none => rw [q] at h; cases h
    | some b =>
      rw [q] at h
      cases q2 : optL (toData st 19) ds with
      | none => simp only [q2] at h; cases h
      | some bs => simp only [q2] at h; cases h
  | cons p ps => rfl
theorem boolsD_map {α : Type} {f : α → Bool} : ∀ {xs : List α},boolsD (xs.map fun x => D.bl (f x)) = some (xs.map f)
  | [] => rfl
  | x :: xs => by
    simp only [List.map_cons,boolsD,boolsD_map (xs:=xs)]
    rfl
theorem loopC_pureS {α : Type} {t : TGT} {me : ME} {srcs : List (Nat × Cell)} {l0 : DV.Loc} {k : α → D} {f : α → D} {st : Store} (so : SrcOk srcs st) : ∀ {xs : List α},(∀ x ∈ xs,∃ l1,t (k x) l0 st = some l1 ∧ me l1 st = .ok (f x) st) → loopC t tYes_ me srcs l0 (xs.map k) st = .ok (xs.map f) st
  | [],_ => loopC_nil so
  | x :: xs,h => by
    obtain ⟨l1,h1,h2⟩:=h x (by simp)
    rw [List.map_cons,loopC_cons so h1]
    simp only [ev_tYes_,h2,if_true,loopC_pureS so (fun d hd => h d (List.mem_cons_of_mem _ hd)),List.map_cons]
end DV
namespace G
open DV PySem L2
def JarAt (st : Store) (j : Nat) : Prop:=∃ a b c,st.at_ j = some (.lst [.int a,.int b,.int c])
theorem JarAt.mv {st : Store} {j : Nat} (h : JarAt st j) {st' : Store} {js : List Nat} (k : Kp js st st') (hj : j < st.nxt) (hn : j ∉ js) : JarAt st' j:=by
  obtain ⟨a,b,c,e⟩:=h
  exact ⟨a,b,c,k.get e hj hn⟩
theorem JarAt.new {st : Store} {j : Nat} (h : JarAt st j) (hj : j < st.nxt) {c : Cell} : JarAt (st.new c) j:=h.mv (js:=[]) Kp.new hj (by simp)
theorem dip_ok {st : Store} {j : Nat} {n : Int} (h : JarAt st j) (h0 : 0 < n) (h1 : n < 1152921504606846976) :
    ∃ k st',0 ≤ k ∧ k < n ∧ F_law_dip [.ref j,.int n] st = .ok (.int k) st' ∧ Kp [j] st st' ∧ JarAt st' j:=by
  have w1 : n.natAbs.log2 < 9000:=Nat.lt_trans ((Nat.log2_lt (by omega)).mpr (show n.natAbs < 2 ^ 61 by omega)) (by decide)
  have w2 : Nat.log2 4096 < 9000:=by decide
  obtain ⟨a,b,c,h⟩:=h
  by_cases hp : 0 < a
  · refine ⟨a % n,st.put j (.lst [.int (a / n),.int b,.int (c + 1)]),Int.emod_nonneg _ (by omega),Int.emod_lt_of_pos _ h0,?_,Kp.put (by simp),_,_,_,Store.put_same⟩
    simp [F_law_dip,h,hp,h0,w1,ixN]
  · refine ⟨((b * 48271 + (c + 1) * 40503 + 17) % 2147483629 / 4096) % n,st.put j (.lst [.int a,.int ((b * 48271 + (c + 1) * 40503 + 17) % 2147483629),.int (c + 1)]),Int.emod_nonneg _ (by omega),Int.emod_lt_of_pos _ h0,?_,Kp.put (by simp),_,_,_,Store.put_same⟩
    have e1 : CMul b 48271:=.inr ⟨by decide,by decide⟩
    have e2 : CMul (c + 1) 40503:=.inr ⟨by decide,by decide⟩
    simp [F_law_dip,h,hp,h0,w1,w2,e1,e2,ixN]
theorem pick_ok {st : Store} {j m : Nat} {ds : List D} (h : JarAt st j) (hm : st.at_ m = some (.lst ds)) (hj : m ≠ j) (hj2 : m < st.nxt) (h0 : 0 < ds.length) (h1 : ds.length < 1000) :
    ∃ d st',d ∈ ds ∧ F_law_pick [.ref j,.ref m] st = .ok d st' ∧ Kp [j] st st' ∧ JarAt st' j:=by
  obtain ⟨k,st',k0,k1,e,kp,jr⟩:=dip_ok (n:=(ds.length : Nat)) h (by omega) (by omega)
  have hm2:=kp.get hm hj2 (by simpa using hj)
  have hlt : k.toNat < ds.length:=by omega
  refine ⟨ds[k.toNat],st',List.getElem_mem _,?_,kp,jr⟩
  have e3 : atI ds k = some ds[k.toNat]:=ev_atI k0 (List.getElem?_eq_getElem hlt)
  simp [F_law_pick,hm,e,hm2,e3]
theorem rect_ok {st : Store} {j : Nat} {W Hh : Int} (h : JarAt st j) (hW : 0 < W) (hW2 : W < 1152921504606846976) (hH : 0 < Hh) (hH2 : Hh < 1152921504606846976) :
    ∃ l t r b st',0 ≤ l ∧ l < r ∧ r ≤ W ∧ 0 ≤ t ∧ t < b ∧ b ≤ Hh ∧ F_law_rect [.ref j,.int W,.int Hh] st = .ok (.tup [.int l,.int t,.int r,.int b]) st' ∧ Kp [j] st st' ∧ JarAt st' j:=by
  obtain ⟨k1,s1,a1,a2,e1,p1,j1⟩:=dip_ok h hW (by omega)
  obtain ⟨k2,s2,b1,b2,e2,p2,j2⟩:=dip_ok j1 hH (by omega)
  obtain ⟨k3,s3,c1,c2,e3,p3,j3⟩:=dip_ok (n:=W - k1) j2 (by omega) (by omega)
  obtain ⟨k4,s4,d1,d2,e4,p4,j4⟩:=dip_ok (n:=Hh - k2) j3 (by omega) (by omega)
  refine ⟨k1,k2,k1 + 1 + k3,k2 + 1 + k4,s4,a1,by omega,by omega,b1,by omega,by omega,?_,p1.trans (p2.trans (p3.trans p4)),j4⟩
  simp [F_law_rect,e1,e2,e3,e4]
def SMALLS : Str:="abcdefghijklmnopqrstuvwxyz"
def DIGS : Str:="0123456789"
structure NameOk (x : Str) : Prop where
  t : TOk x
  l8 : x.length ≤ 8
  l1 : 1 ≤ x.length
  n1 : x ≠ "screen"
  n2 : x ≠ "solid"
  n3 : x ≠ "beat"
  first : (x.cps.toList.head?.any fun c => decide (c ∈ SMALLS.cps.toList)) = true
  signs : ∀ c ∈ x.cps.toList,(decide (c ∈ SMALLS.cps.toList) || decide (c ∈ DIGS.cps.toList)) = true
structure Fr where
  ink : Str
  l : Int
  t : Int
  r : Int
  b : Int
  doom : Str
def Fr.part (f : Fr) : D:=.tup [.int f.l,.int f.t,.int f.r,.int f.b]
def Fr.d (f : Fr) : D:=.tup [.str f.ink,f.part,.str f.doom]
def inks : List Str:=["sky","a","bird2"]
def dooms : List Str:=["stays","wiped","back"]
def firms : List Str:=["a","bird2","sky","zz"]
theorem firms_t : ∀ x ∈ firms,TOk x ∧ x.length ≤ 8 ∧ 1 ≤ x.length ∧ x ≠ "screen" ∧ x ≠ "solid" ∧ x ≠ "beat":=by decide +kernel
theorem firms_first : ∀ x ∈ firms,(x.cps.toList.head?.any fun c => decide (c ∈ SMALLS.cps.toList)) = true:=by decide +kernel
theorem firms_signs : ∀ x ∈ firms,∀ c ∈ x.cps.toList,(decide (c ∈ SMALLS.cps.toList) || decide (c ∈ DIGS.cps.toList)) = true:=by decide +kernel
theorem firms_name {x : Str} (h : x ∈ firms) : NameOk x:=by
  obtain ⟨a,b,c,d,e,f⟩:=firms_t x h
  exact ⟨a,b,c,d,e,f,firms_first x h,firms_signs x h⟩
theorem inks_firms : ∀ x ∈ inks,x ∈ firms:=by decide +kernel
theorem inks_name {x : Str} (h : x ∈ inks) : NameOk x:=firms_name (inks_firms x h)
theorem dooms_ok : ∀ y ∈ dooms,TOk y:=by decide +kernel
theorem firms_up : firms.Pairwise fun a b => a.cps.toList < b.cps.toList:=by decide +kernel
structure Fr.Ok (f : Fr) (W Hh : Int) : Prop where
  ink : NameOk f.ink
  l0 : 0 ≤ f.l
  lr : f.l < f.r
  rW : f.r ≤ W
  t0 : 0 ≤ f.t
  tb : f.t < f.b
  bH : f.b ≤ Hh
  doom : f.doom ∈ dooms
structure FirmOk (firm : List Str) : Prop where
  name : ∀ x ∈ firm,NameOk x
  up : firm.Pairwise fun a b => a.cps.toList < b.cps.toList
  l8 : firm.length ≤ 8
theorem FirmOk.t {firm : List Str} (h : FirmOk firm) : ∀ x ∈ firm,TOk x:=fun x hx => (h.name x hx).t
theorem firm_sub {firm : List Str} (h : firm.Sublist firms) : FirmOk firm:=⟨fun x hx => firms_name (h.subset hx),firms_up.sublist h,Nat.le_trans h.length_le (by decide)⟩
structure Pic where
  W : Int
  Hh : Int
  fs : List Fr
  firm : List Str
def Pic.d (p : Pic) : D:=.tup [.int p.W,.int p.Hh,.tup (p.fs.map Fr.d),.tup (p.firm.map D.str)]
structure Pic.Ok (p : Pic) : Prop where
  W0 : 1 ≤ p.W
  W1 : p.W ≤ 1000000000000
  H0 : 1 ≤ p.Hh
  H1 : p.Hh ≤ 1000000000000
  ne : p.fs ≠ []
  l8 : p.fs.length ≤ 8
  fr : ∀ f ∈ p.fs,f.Ok p.W p.Hh
  firm : FirmOk p.firm
structure Pic.Drawn (p : Pic) (most : Nat) (wide high : Int) : Prop extends Pic.Ok p where
  Ww : p.W ≤ wide
  Hw : p.Hh ≤ high
  lm : p.fs.length ≤ most
  inks : ∀ f ∈ p.fs,f.ink ∈ G.inks
  sub : p.firm.Sublist firms
theorem model_loop {j m rs : Nat} {ks : List D} {W Hh : Int} (hW : 0 < W) (hW2 : W < 1073741824) (hH : 0 < Hh) (hH2 : Hh < 1073741824) (hks : ∀ d ∈ ks,∃ x ∈ inks,d = .str x) (hk0 : 0 < ks.length) (hk1 : ks.length < 1000) (hmj : m ≠ j) (hrj : rs ≠ j) (hmr : m ≠ rs) (o1 o2 o3 o4 : Option D) (N0 : Nat) (hj0 : j < N0) :
    ∀ (ds : List D) (fs : List Fr) (x9 x10 : Option D) (st : Store),fs.length + ds.length ≤ 8 → JarAt st j → N0 ≤ m → m < st.nxt → rs < st.nxt → N0 ≤ rs → N0 ≤ st.nxt → st.at_ m = some (.lst ks) → st.at_ rs = some (.lst (fs.map Fr.d)) → (∀ f ∈ fs,f.Ok W Hh ∧ f.ink ∈ inks) →
      ∃ (gs : List Fr) (y9 y10 : Option D) (st' : Store),loopS (tgName 9) law_model_L1 [] ds [some (.ref j),o1,o2,o3,some (.ref m),o4,some (.int W),some (.int Hh),some (.ref rs),x9,x10,none] st =
          .nx [some (.ref j),o1,o2,o3,some (.ref m),o4,some (.int W),some (.int Hh),some (.ref rs),y9,y10,none] st' ∧ gs.length = fs.length + ds.length ∧ (∀ f ∈ gs,f.Ok W Hh ∧ f.ink ∈ inks) ∧ st'.at_ rs = some (.lst (gs.map Fr.d)) ∧ JarAt st' j ∧ Kp [j,rs] st st':=by
  intro ds
  induction ds with
  | nil =>
    intro fs x9 x10 st hl hjr hm0 hm hr hr0 hn hks' hrs hf
    exact ⟨fs,x9,x10,st,loopS_nil srcOk_nil,rfl,hf,hrs,hjr,Kp.refl⟩
  | cons d ds ih =>
    intro fs x9 x10 st hl hjr hm0 hm hr hr0 hn hks' hrs hf
    obtain ⟨k1,s1,a1,a2,e1,p1,j1⟩:=dip_ok (n:=3) hjr (by omega) (by omega)
    -- the rectangle
    have rect : ∃ l t r b s2,0 ≤ l ∧ l < r ∧ r ≤ W ∧ 0 ≤ t ∧ t < b ∧ b ≤ Hh ∧ (if k1 = 0 then (.ok (.tup [.int 0,.int 0,.int W,.int Hh]) s1 : Res D) else F_law_rect [.ref j,.int W,.int Hh] s1) = .ok (.tup [.int l,.int t,.int r,.int b]) s2 ∧ Kp [j] s1 s2 ∧ JarAt s2 j:=by
      by_cases z : k1 = 0
      · exact ⟨0,0,W,Hh,s1,by omega,hW,by omega,by omega,hH,by omega,by rw [if_pos z],Kp.refl,j1⟩
      · obtain ⟨l,t,r,b,s2,h1,h2,h3,h4,h5,h6,h7,h8,h9⟩:=rect_ok j1 hW (by omega) hH (by omega)
        exact ⟨l,t,r,b,s2,h1,h2,h3,h4,h5,h6,by rw [if_neg z]; exact h7,h8,h9⟩
    obtain ⟨l,t,r,b,s2,h1,h2,h3,h4,h5,h6,e2,p2,j2⟩:=rect
    have q2:=p1.trans p2
    have m2:=q2.get hks' hm (by simpa using hmj)
    obtain ⟨ik,s3,ikm,e3,p3,j3⟩:=pick_ok j2 m2 hmj (Nat.lt_of_lt_of_le hm q2.le) hk0 hk1
    obtain ⟨x,hx,rfl⟩:=hks ik ikm
    have q3:=q2.trans p3
    have hjn : j < s3.nxt:=by have:=q3.le; omega
    -- the menu of fates
    obtain ⟨dm,s5,dmm,e5,p5,j5⟩:=pick_ok (m:=s3.nxt) (ds:=[.str "stays",.str "wiped",.str "back",.str "back"]) (st:=s3.new (.lst [.str "stays",.str "wiped",.str "back",.str "back"])) (j3.new hjn) Store.new_same (by omega) (by simp) (by simp) (by simp)
    have dm2 : ∃ y ∈ dooms,dm = .str y:=by
      simp only [List.mem_cons,List.not_mem_nil,or_false] at dmm
      rcases dmm with h | h | h | h
      · exact ⟨_,by simp [dooms],h⟩
      · exact ⟨"wiped",by simp [dooms],h⟩
      · exact ⟨"back",by simp [dooms],h⟩
      · exact ⟨"back",by simp [dooms],h⟩
    obtain ⟨y,hy,rfl⟩:=dm2
    have q5 : Kp [j] st s5:=q3.trans ((Kp.new (c:=.lst [.str "stays",.str "wiped",.str "back",.str "back"])).trans p5)
    have r5:=q5.get hrs hr (by simpa using hrj)
    have m5:=q5.get hks' hm (by simpa using hmj)
    have ln : (fs.map Fr.d).length < sizeLine:=Nat.lt_of_lt_of_le (by simp at hl ⊢; omega) (show 1000 ≤ sizeLine by decide)
    have step : law_model_L1 [some (.ref j),o1,o2,o3,some (.ref m),o4,some (.int W),some (.int Hh),some (.ref rs),some d,x10,none] st =
        .nx [some (.ref j),o1,o2,o3,some (.ref m),o4,some (.int W),some (.int Hh),some (.ref rs),some d,some (.tup [.int l,.int t,.int r,.int b]),none] (s5.put rs (.lst (fs.map Fr.d ++ [Fr.d ⟨x,l,t,r,b,y⟩]))):=by
      have t2:=q2.get hrs hr (by simpa using hrj)
      have ln2 : fs.length < sizeLine:=by simpa using ln
      by_cases z : k1 = 0
      · rw [if_pos z] at e2
        cases e2
        simp [law_model_L1,e1,z,e3,e5,t2,r5,ln2,Fr.d,Fr.part]
      · rw [if_neg z] at e2
        simp [law_model_L1,e1,z,e2,e3,e5,t2,r5,ln2,Fr.d,Fr.part]
    have q6 : Kp [j,rs] st (s5.put rs (.lst (fs.map Fr.d ++ [Fr.d ⟨x,l,t,r,b,y⟩]))):=(q5.more (by simp)).trans (Kp.put (by simp))
    have j6 : JarAt (s5.put rs (.lst (fs.map Fr.d ++ [Fr.d ⟨x,l,t,r,b,y⟩]))) j:=j5.mv (js:=[rs]) (Kp.put (by simp)) (by have:=q5.le; omega) (by simpa using hrj.symm)
    obtain ⟨gs,y9,y10,st',f1,f2,f3,f4,f5,f6⟩:=ih (fs ++ [⟨x,l,t,r,b,y⟩]) (some d) (some (.tup [.int l,.int t,.int r,.int b])) (s5.put rs (.lst (fs.map Fr.d ++ [Fr.d ⟨x,l,t,r,b,y⟩]))) (by simp at hl ⊢; omega) j6 hm0
      (Nat.lt_of_lt_of_le hm q5.le) (Nat.lt_of_lt_of_le hr q5.le) hr0 (Nat.le_trans hn q5.le) (by rw [Store.put_ne hmr]; exact m5) (by rw [Store.put_same]; simp) (fun f hf' => by
        rcases List.mem_append.mp hf' with z | z
        · exact hf f z
        · rw [List.mem_singleton.mp z]; exact ⟨⟨inks_name hx,h1,h2,h3,h4,h5,h6,hy⟩,hx⟩)
    refine ⟨gs,y9,y10,st',?_,by simp at f2 ⊢; omega,f3,f4,f5,q6.trans f6⟩
    rw [loopS_nx srcOk_nil (by rfl) step]
    exact f1
theorem firm_loop {j n : Nat} {all : List D} (hnj : n ≠ j) {l0 : DV.Loc} (h0 : l0.length = 12) (hl : l0[0]? = some (some (.ref j))) : ∀ (xs : List Str) (st : Store),JarAt st j → n < st.nxt → st.at_ n = some (.lst all) →
    ∃ (ys : List Str) (st' : Store),ys.Sublist xs ∧ loopC (tgName 11) law_model_T1 (mVar 11) [(n,all)] l0 (xs.map D.str) st = .ok (ys.map D.str) st' ∧ Kp [j] st st' ∧ JarAt st' j
  | [],st,hj,hn,ha => ⟨[],st,List.Sublist.slnil,loopC_nil (srcOk_one ha),Kp.refl,hj⟩
  | x :: xs,st,hj,hn,ha => by
    obtain ⟨k,s1,a1,a2,e1,p1,j1⟩:=dip_ok (n:=3) hj (by omega) (by omega)
    obtain ⟨ys,s2,b1,b2,b3,b4⟩:=firm_loop hnj h0 hl xs s1 j1 (Nat.lt_of_lt_of_le hn p1.le) (p1.get ha hn (by simpa using hnj))
    have hl2 : (l0.set 11 (some (.str x)))[0]? = some (some (.ref j)):=by rw [List.getElem?_set_ne (by omega)]; exact hl
    have hl3 : (l0.set 11 (some (.str x)))[11]? = some (some (.str x)):=List.getElem?_set_self (by omega)
    have tst : law_model_T1 (l0.set 11 (some (.str x))) st = .ok (decide (k = 0)) s1:=by simp [law_model_T1,hl2,e1]
    have elt : mVar 11 (l0.set 11 (some (.str x))) s1 = .ok (.str x) s1:=by simp [hl3]
    by_cases z : k = 0
    · refine ⟨x :: ys,s2,b1.cons₂ x,?_,p1.trans b3,b4⟩
      rw [List.map_cons,loopC_cons (srcOk_one ha) (l1:=l0.set 11 (some (.str x))) (by rfl)]
      simp only [tst,elt,b2,z,decide_true,if_true,List.map_cons]
    · refine ⟨ys,s2,b1.cons x,?_,p1.trans b3,b4⟩
      rw [List.map_cons,loopC_cons (srcOk_one ha) (l1:=l0.set 11 (some (.str x))) (by rfl)]
      simp only [tst,elt,b2,z,decide_false,Bool.false_eq_true,if_false]
theorem cut_inks {k : Int} (h0 : 0 ≤ k) (h1 : k < 3) : ∃ ks,cutD [D.str "sky",D.str "a",D.str "bird2"] none (some (1 + k)) = ks ∧ (∀ d ∈ ks,∃ x ∈ inks,d = .str x) ∧ 0 < ks.length ∧ ks.length < 1000:=by
  refine ⟨_,rfl,?_,?_,?_⟩
  · intro d hd
    have : d ∈ [D.str "sky",D.str "a",D.str "bird2"]:=List.mem_of_mem_drop (List.mem_of_mem_take hd)
    simp only [List.mem_cons,List.not_mem_nil,or_false] at this
    rcases this with h | h | h
    · exact ⟨_,by simp [inks],h⟩
    · exact ⟨"a",by simp [inks],h⟩
    · exact ⟨"bird2",by simp [inks],h⟩
  · have : k = 0 ∨ k = 1 ∨ k = 2:=by omega
    rcases this with h | h | h <;> subst h <;> decide
  · have : k = 0 ∨ k = 1 ∨ k = 2:=by omega
    rcases this with h | h | h <;> subst h <;> decide
theorem model_ok {j : Nat} {st : Store} (most : Nat) (wide high : Int) (hm0 : 0 < most) (hm8 : most ≤ 8) (hw0 : 0 < wide) (hw1 : wide ≤ 1000000) (hh0 : 0 < high) (hh1 : high ≤ 1000000) (hj : JarAt st j) (hjn : j < st.nxt) : ∃ (p : Pic) (st' : Store),p.Drawn most wide high ∧
    F_law_model [.ref j,.int (most : Int),.int wide,.int high] st = .ok p.d st' ∧ Kp [j] st st' ∧ JarAt st' j:=by
  -- the pictures
  obtain ⟨k1,s1,a1,a2,e1,p1,j1⟩:=dip_ok (st:=st.new (.lst [.str "sky",.str "a",.str "bird2"])) (n:=3) (hj.new hjn) (by omega) (by omega)
  obtain ⟨ks,hc,hks,hk0,hk1⟩:=cut_inks a1 a2
  have n1 : st.nxt + 1 ≤ s1.nxt:=p1.le
  have i1 : s1.at_ st.nxt = some (.lst [.str "sky",.str "a",.str "bird2"]):=p1.get Store.new_same (Nat.lt_succ_self _) (by simp; omega)
  -- the firm ones
  have jA : JarAt ((s1.new (.lst ks)).new (.lst [.str "a",.str "bird2",.str "sky",.str "zz"])) j:=(j1.new (by omega)).new (by show j < s1.nxt + 1; omega)
  obtain ⟨firm,s2,b1,b2,p2,j2⟩:=firm_loop (j:=j) (n:=s1.nxt + 1) (all:=[.str "a",.str "bird2",.str "sky",.str "zz"]) (by omega) (l0:=[some (.ref j),some (.int (most : Int)),some (.int wide),some (.int high),some (.ref s1.nxt),none,none,none,none,none,none,none]) rfl rfl firms
    ((s1.new (.lst ks)).new (.lst [.str "a",.str "bird2",.str "sky",.str "zz"])) jA (by show s1.nxt + 1 < s1.nxt + 1 + 1; omega) Store.new_same
  have n2 : s1.nxt + 1 + 1 ≤ s2.nxt:=p2.le
  have fl : firm.length ≤ 4:=b1.length_le
  have k2 : s2.at_ s1.nxt = some (.lst ks):=p2.get (by rw [Store.new_ne (show s1.nxt ≠ (s1.new (.lst ks)).nxt by show s1.nxt ≠ s1.nxt + 1; omega)]; exact Store.new_same) (by show s1.nxt < s1.nxt + 1 + 1; omega) (by simp; omega)
  have jB : JarAt (s2.new (.lst (firm.map D.str))) j:=j2.new (by omega)
  -- sizes
  obtain ⟨k3,s3,c1,c2,e3,p3,j3⟩:=dip_ok (n:=wide) jB (by omega) (by omega)
  obtain ⟨k4,s4,d1,d2,e4,p4,j4⟩:=dip_ok (n:=high) j3 (by omega) (by omega)
  have n3 : s2.nxt + 1 ≤ s3.nxt:=p3.le
  have n4 : s3.nxt ≤ s4.nxt:=p4.le
  have jC : JarAt (s4.new (.lst [])) j:=j4.new (by omega)
  obtain ⟨k5,s5,f1,f2,e5,p5,j5⟩:=dip_ok (n:=(most : Int)) jC (by omega) (by omega)
  have n5 : s4.nxt + 1 ≤ s5.nxt:=p5.le
  have k5' : s5.at_ s1.nxt = some (.lst ks):=p5.get (by
    rw [Store.new_ne (by omega)]
    exact p4.get (p3.get (by rw [Store.new_ne (by omega)]; exact k2) (by show s1.nxt < s2.nxt + 1; omega) (by simp; omega)) (by omega) (by simp; omega)) (by show s1.nxt < s4.nxt + 1; omega) (by simp; omega)
  have r5 : s5.at_ s4.nxt = some (.lst []):=p5.get Store.new_same (by show s4.nxt < s4.nxt + 1; omega) (by simp; omega)
  obtain ⟨gs,y9,y10,s6,g1,g2,g3,g4,g5,g6⟩:=model_loop (j:=j) (m:=s1.nxt) (rs:=s4.nxt) (ks:=ks) (W:=1 + k3) (Hh:=1 + k4) (by omega) (by omega) (by omega) (by omega) hks hk0 hk1 (by omega) (by omega) (by omega) (some (.int (most : Int))) (some (.int wide)) (some (.int high)) (some (.tup (firm.map D.str))) (j + 1) (by omega)
    (intsFrom 0 (1 + k5).toNat) [] none none s5 (by rw [intsFrom_len]; simp; omega) j5 (by omega) (by omega) (by omega) (by omega) (by omega) k5' r5 (by simp)
  rw [intsFrom_len] at g2
  have gl : gs.length = (1 + k5).toNat:=by simpa using g2
  refine ⟨⟨1 + k3,1 + k4,gs,firm⟩,s6,⟨⟨by show 1 ≤ 1 + k3; omega,by show 1 + k3 ≤ _; omega,by show 1 ≤ 1 + k4; omega,by show 1 + k4 ≤ _; omega,by show gs ≠ []; intro z; rw [z] at gl; simp at gl; omega,by show gs.length ≤ 8; omega,fun f hf => (g3 f hf).1,firm_sub b1⟩,by show 1 + k3 ≤ wide; omega,by show 1 + k4 ≤ high; omega,by show gs.length ≤ most; omega,fun f hf => (g3 f hf).2,b1⟩,?_,?_,g5⟩
  · have q1 : -4611686018427387904 ≤ 1 + k5:=by omega
    have q1' : 1 + k5 < 4611686018427387904:=by omega
    have q2 : (firm.map D.str).length ≤ sizeLine:=by rw [List.length_map]; exact small_line (by omega)
    have q2' : firm.length ≤ sizeLine:=small_line (by omega)
    have b2' : loopC (tgName 11) law_model_T1 (mVar 11) [(s1.nxt + 1,.lst [.str "a",.str "bird2",.str "sky",.str "zz"])] [some (.ref j),some (.int (most : Int)),some (.int wide),some (.int high),some (.ref s1.nxt),none,none,none,none,none,none,none]
        [.str "a",.str "bird2",.str "sky",.str "zz"] ((s1.new (.lst ks)).new (.lst [.str "a",.str "bird2",.str "sky",.str "zz"])) = .ok (firm.map D.str) s2:=b2
    simp only [F_law_model,ev_mDef,Pic.d,List.length_cons,List.length_nil,if_true,List.map_cons,List.map_nil,List.replicate,List.cons_append,List.nil_append]
    simp [Store.at_new,e1,i1,hc,b2',wipeL,q2',e3,e4,e5,g1,g4,q1,q1']
  · refine (Kp.new (c:=.lst [.str "sky",.str "a",.str "bird2"])).trans (p1.trans ?_)
    have t1 : Kp [j] s1 s2:=(Kp.new.trans Kp.new).trans p2
    have t2 : Kp [j] s2 s4:=(Kp.new.trans p3).trans p4
    have t3 : Kp [s4.nxt,j] s4 s6:=(Kp.new.trans (p5.more (by simp))).trans (g6.more (by simp))
    exact t1.trans (t2.trans (t3.drop (Nat.le_refl _)))
end G
namespace G
open DV PySem L2
theorem is_integer_ok {i : Int} {st : Store} : F_is_integer [.int i] st = .ok (.bl true) st:=by simp [F_is_integer]
theorem is_within_ok {v lo hi : Int} {st : Store} (h1 : lo ≤ v) (h2 : v ≤ hi) : F_is_within [.int v,.int lo,.int hi] st = .ok (.bl true) st:=by simp [F_is_within,is_integer_ok,h1,h2]
theorem check_size_ok {v : Int} {st : Store} (h1 : 1 ≤ v) (h2 : v ≤ 1000000000000) : F_check_size [.int v] st = .ok .non st:=by simp [F_check_size,is_within_ok h1 h2]
theorem one_len (c : Nat) : (⟨#[c]⟩ : Str).length = 1:=rfl
theorem in_txt {c : Nat} {b : Str} {st : Store} : inB (.str ⟨#[c]⟩) (.str b) st = some (decide (c ∈ b.cps.toList)):=by
  unfold inB
  simp only [one_len,if_true]
  rfl
theorem is_name_ok {x : Str} {st : Store} (hx : NameOk x) : ∃ st',F_is_name [.str x] st = .ok (.bl true) st' ∧ Kp [] st st':=by
  obtain ⟨h1,h2,h3,h4,h5,h6,f,sg⟩:=hx
  have hz : x.length ≤ sizeLine:=Nat.le_trans h2 (by decide)
  obtain ⟨c,hc,hc2⟩ : ∃ c,atI x.cps.toList 0 = some c ∧ c ∈ SMALLS.cps.toList:=by
    cases q : x.cps.toList with
    | nil => rw [q] at f; simp at f
    | cons c r =>
      rw [q] at f
      exact ⟨c,by simp,by simpa using f⟩
  have bar : inB (.str x) (.tup [.str "screen",.str "solid",.str "beat"]) st = some false:=by
    have:=in_tup (st:=st) (x:=x) (ys:=["screen","solid","beat"]) h1 (by decide +kernel)
    simpa [h4,h5,h6] using this
  have lp : loopC (tgName 1) tYes_ is_name_C1 [] [some (.str x),none] (x.cps.toList.map fun c => D.str ⟨#[c]⟩) st = .ok (x.cps.toList.map fun _ => D.bl true) st:=by
    refine loopC_pureS srcOk_nil fun c hc => ⟨[some (.str x),some (.str ⟨#[c]⟩)],rfl,?_⟩
    have:=sg c hc
    have e1:=in_txt (c:=c) (b:=SMALLS) (st:=st)
    have e2:=in_txt (c:=c) (b:=DIGS) (st:=st)
    unfold SMALLS at e1 this
    unfold DIGS at e2 this
    simp only [is_name_C1,ev_mOr,ev_m2,ev_mVar,ev_mC,List.getElem?_cons_succ,List.getElem?_cons_zero,ev_bind_ok,ev_fIn,e1,e2,Option.map_some,ev_ofO_some,ev_toB]
    cases q : decide (c ∈ (Str.ofString "abcdefghijklmnopqrstuvwxyz").cps.toList) with
    | true => simp
    | false =>
      rw [q] at this
      simp at this
      simp [this]
  have al : boolsD (x.cps.toList.map fun _ => D.bl true) = some (x.cps.toList.map fun _ => true):=boolsD_map (f:=fun _ => true)
  refine ⟨st.new (.lst (x.cps.toList.map fun _ => D.bl true)),?_,Kp.new⟩
  have e3:=in_txt (c:=c) (b:=SMALLS) (st:=st)
  unfold SMALLS at e3 hc2
  have h3' : (1 : Int) ≤ x.length:=by omega
  have h2' : (x.length : Int) ≤ 8:=by omega
  have hz2 : x.cps.size ≤ sizeLine:=hz
  have lp' : loopC (tgName 1) tYes_ is_name_C1 [] [some (.str x),none] (signsOf x) st = .ok (x.cps.toList.map fun _ => D.bl true) st:=lp
  simp [F_is_name,hz,h3',h2',hc,e3,hc2,bar,wipeL,lp',al,hz2]
theorem is_part_ok {l t r b W Hh : Int} {st : Store} (l0 : 0 ≤ l) (lr : l < r) (rW : r ≤ W) (t0 : 0 ≤ t) (tb : t < b) (bH : b ≤ Hh) : ∃ st',F_is_part [.tup [.int l,.int t,.int r,.int b],.int W,.int Hh] st = .ok (.bl true) st' ∧ Kp [] st st':=by
  have lp : loopC (tgName 7) tYes_ is_part_C1 [] [some (.tup [.int l,.int t,.int r,.int b]),some (.int W),some (.int Hh),none,none,none,none,none] ([l,t,r,b].map D.int) st = .ok ([l,t,r,b].map fun _ => D.bl true) st:=by
    refine loopC_pureS srcOk_nil fun c hc => ⟨[some (.tup [.int l,.int t,.int r,.int b]),some (.int W),some (.int Hh),none,none,none,none,some (.int c)],rfl,?_⟩
    simp [is_part_C1,is_integer_ok]
  simp only [List.map_cons,List.map_nil] at lp
  refine ⟨st.new (.lst [.bl true,.bl true,.bl true,.bl true]),?_,Kp.new⟩
  simp [F_is_part,wipeL,lp,boolsD,l0,lr,rW,t0,tb,bH]
theorem is_word_ok {x : Str} {ys : List Str} {st : Store} (hx : TOk x) (h : ∀ y ∈ ys,TOk y) (hm : x ∈ ys) : F_is_word [.str x,.tup (ys.map D.str)] st = .ok (.bl true) st:=by
  simp [F_is_word,in_tup hx h,hm]
theorem solid_loop {all : List Str} (hall : FirmOk all) : ∀ (suf pre : List Str) (x1 x2 : Option D) (st : Store),all = pre ++ suf → ∃ y1 y2 st',loopS (tgTup 2 (tgCons (tgName 1) (tgCons (tgName 2) tgNil))) check_solid_L1 [] (enumFrom pre.length (suf.map D.str)) [some (.tup (all.map D.str)),x1,x2] st =
    .nx [some (.tup (all.map D.str)),y1,y2] st' ∧ Kp [] st st'
  | [],pre,x1,x2,st,e => ⟨x1,x2,st,loopS_nil srcOk_nil,Kp.refl⟩
  | x :: suf,pre,x1,x2,st,e => by
    have hx : NameOk x:=hall.name x (by rw [e]; simp)
    obtain ⟨s1,e1,k1⟩:=is_name_ok (st:=st) hx
    have hl : all.length ≤ 8:=hall.l8
    have hp : pre.length < 8:=by
      have:=congrArg List.length e
      simp at this
      omega
    have ne8 : ¬ ((pre.length : Nat) : Int) = 8:=by omega
    have body : check_solid_L1 [some (.tup (all.map D.str)),some (.int (pre.length : Nat)),some (.str x)] st = .nx [some (.tup (all.map D.str)),some (.int (pre.length : Nat)),some (.str x)] s1:=by
      cases hpre : pre with
      | nil => simp [check_solid_L1,e1]
      | cons p0 pr =>
        have hpos : 0 < pre.length:=by rw [hpre]; simp
        have hy : ∃ y,all[pre.length - 1]? = some y ∧ y.cps.toList < x.cps.toList:=by
          have up:=hall.up
          have h1 : pre.length - 1 < all.length:=by rw [e]; simp; omega
          refine ⟨all[pre.length - 1],List.getElem?_eq_getElem h1,?_⟩
          have h2 : pre.length < all.length:=by rw [e]; simp
          have h3:=List.pairwise_iff_getElem.mp up (pre.length - 1) pre.length h1 h2 (by omega)
          have h4 : all[pre.length] = x:=by
            have : all[pre.length]? = some x:=by rw [e]; simp
            rw [List.getElem?_eq_getElem h2] at this
            exact Option.some.inj this
          rwa [h4] at h3
        obtain ⟨y,hy1,hy2⟩:=hy
        have at1 : atI (all.map D.str) ((pre.length : Nat) - 1 : Int) = some (.str y):=by
          refine ev_atI (by omega) ?_
          have : ((pre.length : Nat) - 1 : Int).toNat = pre.length - 1:=by omega
          rw [this,List.getElem?_map,hy1]
          rfl
        rw [← hpre]
        have hy3 : y.cps < x.cps:=by simpa using hy2
        simp [check_solid_L1,e1,ne8,hpos,at1,hy3]
    obtain ⟨y1,y2,s2,e2,k2⟩:=solid_loop hall suf (pre ++ [x]) (some (.int (pre.length : Nat))) (some (.str x)) s1 (by rw [e]; simp)
    refine ⟨y1,y2,s2,?_,k1.trans k2⟩
    simp only [List.map_cons,enumFrom]
    rw [loopS_nx srcOk_nil (by simp) body]
    simpa using e2
theorem check_solid_ok {firm : List Str} {st : Store} (h : FirmOk firm) : ∃ st',F_check_solid [.tup (firm.map D.str)] st = .ok .non st' ∧ Kp [] st st':=by
  obtain ⟨y1,y2,st',e,k⟩:=solid_loop h firm [] none none st rfl
  refine ⟨st',?_,k⟩
  have e' : loopS (tgTup 2 (tgCons (tgName 1) (tgCons (tgName 2) tgNil))) check_solid_L1 [] (enumFrom 0 (firm.map D.str)) [some (.tup (firm.map D.str)),none,none] st = .nx [some (.tup (firm.map D.str)),y1,y2] st':=e
  simp [F_check_solid,e']
theorem toData_fr {st : Store} {f : Fr} {W Hh : Int} (h : f.Ok W Hh) : ∃ x,toData st 19 f.d = some x:=by
  have h1:=h.ink.t
  have h2:=dooms_ok _ h.doom
  refine ⟨.tuple [.str f.ink,.tuple [.int f.l,.int f.t,.int f.r,.int f.b],.str f.doom],?_⟩
  unfold Fr.d Fr.part
  refine toData_tup (n:=18) ?_
  have e1:=toData_str (st:=st) (n:=17) h1
  have e2:=toData_str (st:=st) (n:=17) h2
  have e3 : toData st 18 (.tup [.int f.l,.int f.t,.int f.r,.int f.b]) = some (.tuple [.int f.l,.int f.t,.int f.r,.int f.b]):=toData_tup (n:=17) rfl
  simp only [optL,e1,e2,e3]
theorem optL_some {α β : Type} {f : α → Option β} : ∀ {xs : List α},(∀ x ∈ xs,∃ y,f x = some y) → ∃ ys,optL f xs = some ys
  | [],_ => ⟨[],rfl⟩
  | x :: xs,h => by
    obtain ⟨y,hy⟩:=h x (by simp)
    obtain ⟨ys,hys⟩:=optL_some (xs:=xs) fun z hz => h z (List.mem_cons_of_mem _ hz)
    exact ⟨y :: ys,by simp only [optL,hy,hys]⟩
def FilmAt (st : Store) (n : Nat) (p : Pic) : Prop:=st.at_ n = some (.ins 0 [("all",p.d)])
theorem frames_ne {st : Store} {fs : List Fr} {W Hh : Int} (h0 : fs ≠ []) (hf : ∀ f ∈ fs,f.Ok W Hh) : dataEq (.tup (fs.map Fr.d)) (.tup []) st = some false:=by
  cases fs with
  | nil => exact absurd rfl h0
  | cons f fs =>
    obtain ⟨ps,hps⟩:=optL_some (f:=toData st 19) (xs:=(f :: fs).map Fr.d) fun d hd => by
      obtain ⟨g,hg,rfl⟩:=List.mem_map.mp hd
      exact toData_fr (hf g hg)
    exact data_tupC hps
end G
namespace G
open DV PySem L2
section
variable {st : Store} {n : Nat} {p : Pic}
def players : List Str:=["full","keeps","wipes","blanks"]
def Fr.has (f : Fr) (x y : Int) : Bool:=(decide (f.l ≤ x) && decide (x < f.r)) && (decide (f.t ≤ y) && decide (y < f.b))
def Pic.cov (p : Pic) (x y : Int) : List Bool:=p.fs.map fun f => f.has x y
end
def overL (solid : List Str) : List Str → List Str → List Str
  | found,[] => found
  | found,x :: r => if (found.getLast?.any fun y => decide (y ∈ solid)) = true then found else overL solid (if x ∈ found then found else found ++ [x]) r
end G
namespace G
open DV PySem L2
structure Stand where
  row : List Str
  closed : Bool
def Stand.d (s : Stand) : D:=.tup [.tup (s.row.map D.str),.bl s.closed]
instance : DecidableEq Stand:=fun a b => decidable_of_iff (a.row = b.row ∧ a.closed = b.closed) (by cases a; cases b; simp)
def lastIn (solid found : List Str) : Bool:=found.getLast?.any fun y => decide (y ∈ solid)
def laidP (solid : List Str) (ink : Str) (s : Stand) : Stand:=⟨overL solid [ink] s.row,s.closed || lastIn solid (overL solid [ink] s.row)⟩
def fateOf (who doom : Str) : Str:=if doom = "back" ∧ (who = "keeps" ∨ who = "wipes") then (if who = "keeps" then "stays" else "wiped") else doom
def nothing : Stand:=⟨[],true⟩
def anything : Stand:=⟨[],false⟩
def stepS (solid : List Str) (who : Str) (s : Stand) (c : Bool) (f : Fr) : Stand:=
  if fateOf who f.doom = "wiped" ∧ (c = true ∨ who = "blanks") then nothing else if fateOf who f.doom = "back" then s else (if c then laidP solid f.ink s else s)
def showS (solid : List Str) (who : Str) : List Bool → List Fr → Stand → List Stand
  | c :: cs,f :: fs,s => (if c then laidP solid f.ink s else s) :: showS solid who cs fs (stepS solid who s c f)
  | _,_,_ => []
def lastS (solid : List Str) (who : Str) : List Bool → List Fr → Stand → Stand
  | c :: cs,f :: fs,s => lastS solid who cs fs (stepS solid who s c f)
  | _,_,s => s
structure Stand.Ok (I : List Str) (s : Stand) : Prop where
  inks : ∀ z ∈ s.row,z ∈ I
  nd : s.row.Nodup
theorem Stand.Ok.none {I : List Str} {b : Bool} : Stand.Ok I ⟨[],b⟩:=⟨by simp,by simp⟩
theorem Stand.Ok.sub {I J : List Str} {s : Stand} (h : s.Ok I) (hs : ∀ z ∈ I,z ∈ J) : s.Ok J:=⟨fun z hz => hs z (h.inks z hz),h.nd⟩
theorem nodup_len : ∀ (l m : List Str),l.Nodup → (∀ x ∈ l,x ∈ m) → l.length ≤ m.length
  | [],m,_,_ => Nat.zero_le _
  | x :: l,m,h1,h2 => by
    rw [List.nodup_cons] at h1
    have hx:=h2 x (by simp)
    have ih:=nodup_len l (m.erase x) h1.2 fun y hy => (List.mem_erase_of_ne fun e => h1.1 (by rw [← e]; exact hy)).mpr (h2 y (List.mem_cons_of_mem _ hy))
    rw [List.length_erase_of_mem hx] at ih
    have : 0 < m.length:=List.length_pos_of_mem hx
    simp only [List.length_cons]
    omega
theorem Stand.Ok.len {I : List Str} {s : Stand} (h : s.Ok I) : s.row.length ≤ I.length:=nodup_len _ _ h.nd h.inks
structure InkOk (I : List Str) : Prop where
  t : ∀ z ∈ I,TOk z
  l : I.length ≤ 40
theorem Stand.Ok.t {I : List Str} {s : Stand} (h : s.Ok I) (hI : InkOk I) : ∀ z ∈ s.row,TOk z:=fun z hz => hI.t z (h.inks z hz)
def Pic.inks (p : Pic) : List Str:=p.fs.map (·.ink)
end G
namespace G
open DV PySem L2
abbrev Col:=Option Int
def colD : Col → D
  | some i => .int i
  | none => .non
def PatAt (st : Store) (r : Nat) (done : List Str) (pat : Str → Col) : Prop:=st.at_ r = some (.dic (done.map fun x => (Sum.inr x,colD (pat x))))
end G
namespace G
open DV PySem L2
structure Stand.Good (firm I : List Str) (s : Stand) : Prop where
  ok : s.Ok I
  drop : ∀ z ∈ s.row.dropLast,z ∉ firm
  last : lastIn firm s.row = true → s.closed = true
end G
namespace G
open DV PySem L2
section
variable {n : Nat} {p : Pic} {st : Store}
def Pic.wf (p : Pic) (gs : List Fr) : Pic:=⟨p.W,p.Hh,gs,p.firm⟩
theorem Pic.Ok.wf (h : p.Ok) {gs : List Fr} (h0 : gs ≠ []) (h8 : gs.length ≤ 8) (hf : ∀ f ∈ gs,f.Ok p.W p.Hh) : (p.wf gs).Ok:=⟨h.W0,h.W1,h.H0,h.H1,h0,h8,hf,h.firm⟩
end
end G
namespace G
open DV PySem L2
def acrossP (W : Int) (fs : List Fr) : List Int:=sddI (0 :: W :: (fs.map Fr.l ++ fs.map Fr.r))
def downP (Hh : Int) (fs : List Fr) : List Int:=sddI (0 :: Hh :: (fs.map Fr.t ++ fs.map Fr.b))
end G
namespace G
open DV PySem L2
end G
namespace G
open DV PySem L2
abbrev Pat:=Str → Col
def PatOk (st : Store) (done : List Str) (a : Nat × Pat) : Prop:=a.1 < st.nxt ∧ PatAt st a.1 done a.2
theorem PatOk.mv {st st' : Store} {done : List Str} {a : Nat × Pat} {js : List Nat} (h : PatOk st done a) (k : Kp js st st') (hj : a.1 ∉ js) : PatOk st' done a:=⟨Nat.lt_of_lt_of_le h.1 k.le,k.get h.2 h.1 hj⟩
theorem PatOk.mv0 {st st' : Store} {done : List Str} {a : Nat × Pat} (h : PatOk st done a) (k : Kp [] st st') : PatOk st' done a:=h.mv k (by simp)
theorem dPut_new {done : List Str} {pat : Str → Col} {x : Str} {d : D} (hx : x ∉ done) : dPut (done.map fun y => ((Sum.inr y : Key),colD (pat y))) (Sum.inr x) d = (done.map fun y => ((Sum.inr y : Key),colD (pat y))) ++ [(Sum.inr x,d)]:=by
  unfold dPut
  rw [if_neg]
  intro h
  rw [List.any_map] at h
  obtain ⟨y,hy,e⟩:=List.any_eq_true.mp h
  have e2 : (Sum.inr y : Key) = Sum.inr x:=of_decide_eq_true e
  exact hx (by rw [← Sum.inr.inj e2]; exact hy)
def setP (pat : Str → Col) (x : Str) (c : Col) : Str → Col:=fun y => if y = x then c else pat y
theorem pat_more {st : Store} {r : Nat} {done : List Str} {pat : Str → Col} {x : Str} {c : Col} (hx : x ∉ done) (h : st.at_ r = some (.dic ((done.map fun y => ((Sum.inr y : Key),colD (pat y))) ++ [(Sum.inr x,colD c)]))) : PatAt st r (done ++ [x]) (setP pat x c):=by
  unfold PatAt
  rw [h,List.map_append]
  congr 2
  congr 1
  · refine List.map_congr_left fun y hy => ?_
    have : y ≠ x:=fun e => hx (by rw [← e]; exact hy)
    simp [setP,this]
  · simp [setP]
def patStep (firm : List Str) (x : Str) (k : Int) (ps : List Pat) : List Pat:=(ps.map fun p => if x ∈ firm then [setP p x (some (k + 1))] else [setP p x (some (k + 1)),setP p x none]).flatten
theorem pat_loop1 {firm done : List Str} {x : Str} (hx : x ∉ done) (hxi : TOk x) (hs : ∀ z ∈ firm,TOk z) (hd : done.length ≤ 10) {fm : Nat} {all : List D} {N0 : Nat} (hfm : fm < N0) : ∀ (rs : List (Nat × Pat)) (lg : Nat) (out : List (Nat × Pat)) (o4 o5 o6 : Option D) (st : Store),(∀ r ∈ rs,r.1 < N0 ∧ PatOk st done r) → N0 ≤ st.nxt → st.at_ fm = some (.lst all) → lg < st.nxt → st.at_ lg = some (.lst (out.map fun a => D.ref a.1)) → (∀ r ∈ out,PatOk st (done ++ [x]) r) → out.length + 2 * rs.length ≤ 100 →
    ∃ (lg' : Nat) (out' : List (Nat × Pat)) (o4' o5' o6' : Option D) (st' : Store),loopS (tgName 4) law_patterns_L1 [(fm,all)] (rs.map fun a => D.ref a.1) [some (.tup (firm.map D.str)),some (.ref fm),some (.str x),some (.ref lg),o4,o5,o6] st = .nx [some (.tup (firm.map D.str)),some (.ref fm),some (.str x),some (.ref lg'),o4',o5',o6'] st' ∧
      lg' < st'.nxt ∧ st'.at_ lg' = some (.lst (out'.map fun a => D.ref a.1)) ∧ (∀ r ∈ out',PatOk st' (done ++ [x]) r) ∧ Kp [] st st' ∧ out'.length ≤ out.length + 2 * rs.length ∧ out'.map (·.2) = out.map (·.2) ++ patStep firm x done.length (rs.map (·.2))
  | [],lg,out,o4,o5,o6,st,_,_,hf,hl,ho,hp,_ => ⟨lg,out,o4,o5,o6,st,loopS_nil (srcOk_one hf),hl,ho,hp,Kp.refl,by simp,by simp [patStep]⟩
  | (r,pat) :: rs,lg,out,o4,o5,o6,st,hrs,hN,hf,hl,ho,hp,hlen => by
    obtain ⟨hrN,hr1,hpat⟩:=hrs (r,pat) (by simp)
    simp only at hrN hr1
    unfold PatAt at hpat
    simp only at hpat
    have dz : (done.map fun y => ((Sum.inr y : Key),colD (pat y))).length < sizeLine:=Nat.lt_of_le_of_lt (show _ ≤ 10 by rw [List.length_map]; exact hd) (by decide)
    have dz' : done.length < sizeLine:=by simpa using dz
    -- the store after both dicts
    generalize hkv : (done.map fun y => ((Sum.inr y : Key),colD (pat y))) = kv at hpat dz
    have hk1 : dPut kv (Sum.inr x) (.int ((kv.length : Nat) + 1)) = kv ++ [(Sum.inr x,.int ((kv.length : Nat) + 1))]:=by rw [← hkv]; exact dPut_new hx
    have hk2 : dPut kv (Sum.inr x) .non = kv ++ [(Sum.inr x,.non)]:=by rw [← hkv]; exact dPut_new hx
    let s1:=(st.new (.dic kv)).put st.nxt (.dic (kv ++ [(Sum.inr x,.int ((kv.length : Nat) + 1))]))
    let s2:=(s1.new (.dic kv)).put (st.nxt + 1) (.dic (kv ++ [(Sum.inr x,.non)]))
    have n1 : s1.nxt = st.nxt + 1:=rfl
    have n2 : s2.nxt = st.nxt + 2:=rfl
    have k1 : Kp [] st s1:=(Kp.new.trans (Kp.put (js:=[st.nxt]) (by simp))).drop (Nat.le_refl _)
    have k12 : Kp [] s1 s2:=(Kp.new.trans (Kp.put (js:=[st.nxt + 1]) (by simp))).drop (by rw [n1]; exact Nat.le_refl _)
    have k2 : Kp [] st s2:=k1.trans k12
    have a1 : s2.at_ st.nxt = some (.dic (kv ++ [(Sum.inr x,.int ((kv.length : Nat) + 1))])):=k12.get0 Store.put_same (by rw [n1]; exact Nat.lt_succ_self _)
    have a2 : s2.at_ (st.nxt + 1) = some (.dic (kv ++ [(Sum.inr x,.non)])):=Store.put_same
    have ol:=k2.get0 ho hl
    have e0 : kv.length = done.length:=by rw [← hkv]; simp
    have P1 : PatOk s2 (done ++ [x]) (st.nxt,setP pat x (some ((kv.length : Nat) + 1))):=⟨by show st.nxt < s2.nxt; omega,pat_more hx (by rw [a1,← hkv]; rfl)⟩
    have P2 : PatOk s2 (done ++ [x]) (st.nxt + 1,setP pat x none):=⟨by show st.nxt + 1 < s2.nxt; omega,pat_more hx (by rw [a2,← hkv]; rfl)⟩
    have inx:=fun s' : Store => in_tup (st:=s') (x:=x) (ys:=firm) hxi hs
    have hz : out.length + 2 ≤ sizeLine:=small_line (by simp at hlen; omega)
    have hz1 : out.length + 1 ≤ sizeLine:=by omega
    -- what the body does
    obtain ⟨out2,s4,hout2,hbody,k4,ha4,hP4,hl4,hm4⟩ : ∃ (out2 : List (Nat × Pat)) (s4 : Store),out2.length ≤ out.length + 2 ∧ law_patterns_L1 [some (.tup (firm.map D.str)),some (.ref fm),some (.str x),some (.ref lg),some (.ref r),o5,o6] st =
        .nx [some (.tup (firm.map D.str)),some (.ref fm),some (.str x),some (.ref (s2.nxt + 1)),some (.ref r),some (.ref st.nxt),some (.ref (st.nxt + 1))] s4 ∧ Kp [] s2 s4 ∧ s4.at_ (s2.nxt + 1) = some (.lst (out2.map fun a => D.ref a.1)) ∧ (∀ q ∈ out2,PatOk s4 (done ++ [x]) q) ∧ s2.nxt + 1 < s4.nxt ∧ out2.map (·.2) = out.map (·.2) ++ (if x ∈ firm then [setP pat x (some ((done.length : Nat) + 1))] else [setP pat x (some ((done.length : Nat) + 1)),setP pat x none]):=by
      have hr2 : ((st.new (.dic kv)).put st.nxt (.dic (kv ++ [(Sum.inr x,.int ((kv.length : Nat) + 1))]))).at_ r = some (.dic kv):=k1.get0 hpat hr1
      have hr3 : r ≠ st.nxt:=by omega
      have hr4 : (st.new (.dic kv)).at_ r = some (.dic kv):=by rw [Store.new_ne hr3]; exact hpat
      have hl3 : lg ≠ st.nxt:=by omega
      have hl4 : lg ≠ st.nxt + 1:=by omega
      have hr5 : (((st.new (.dic kv)).put st.nxt (.dic (kv ++ [(Sum.inr x,.int ((kv.length : Nat) + 1))]))).new (.dic kv)).at_ (st.nxt + 1) = some (.dic kv):=Store.new_same
      by_cases z : x ∈ firm
      · refine ⟨out ++ [(st.nxt,setP pat x (some ((kv.length : Nat) + 1)))],(s2.new (.lst [.ref st.nxt])).new (.lst ((out.map fun a => D.ref a.1) ++ [.ref st.nxt])),by simp,?_,Kp.new.trans Kp.new,?_,?_,by show s2.nxt + 1 < s2.nxt + 1 + 1; omega,by simp [z,e0]⟩
        · have ol' : (s2.new (.lst [.ref st.nxt])).at_ lg = some (.lst (out.map fun a => D.ref a.1)):=by rw [Store.new_ne (show lg ≠ s2.nxt by omega)]; exact ol
          have ol2 : (s2.new (.lst [.ref st.nxt])).at_ (st.nxt + 1 + 1) = some (.lst [.ref st.nxt]):=Store.new_same
          simp only [s2,s1] at ol' ol2 ⊢
          have i1:=inx ((((st.new (.dic kv)).put st.nxt (.dic (kv ++ [(Sum.inr x,.int ((kv.length : Nat) + 1))]))).new (.dic kv)).put (st.nxt + 1) (.dic (kv ++ [(Sum.inr x,.non)])))
          simp [law_patterns_L1,hpat,hr4,hr5,dz,hk1,hr2,hk2,i1,z,ol',ol2,hz1]
        · exact (Store.new_same (st:=s2.new (.lst [.ref st.nxt]))).trans (by simp)
        · intro q hq
          rcases List.mem_append.mp hq with w | w
          · exact ((hp q w).mv k2 (by simp)).mv (js:=[]) (Kp.new.trans Kp.new) (by simp)
          · rw [List.mem_singleton.mp w]
            exact P1.mv (js:=[]) (Kp.new.trans Kp.new) (by simp)
      · refine ⟨out ++ [(st.nxt,setP pat x (some ((kv.length : Nat) + 1))),(st.nxt + 1,setP pat x none)],(s2.new (.lst [.ref st.nxt,.ref (st.nxt + 1)])).new (.lst ((out.map fun a => D.ref a.1) ++ [.ref st.nxt,.ref (st.nxt + 1)])),by simp,?_,Kp.new.trans Kp.new,?_,?_,by show s2.nxt + 1 < s2.nxt + 1 + 1; omega,by simp [z,e0]⟩
        · have ol' : (s2.new (.lst [.ref st.nxt,.ref (st.nxt + 1)])).at_ lg = some (.lst (out.map fun a => D.ref a.1)):=by rw [Store.new_ne (show lg ≠ s2.nxt by omega)]; exact ol
          have ol2 : (s2.new (.lst [.ref st.nxt,.ref (st.nxt + 1)])).at_ (st.nxt + 1 + 1) = some (.lst [.ref st.nxt,.ref (st.nxt + 1)]):=Store.new_same
          simp only [s2,s1] at ol' ol2 ⊢
          have i1:=inx ((((st.new (.dic kv)).put st.nxt (.dic (kv ++ [(Sum.inr x,.int ((kv.length : Nat) + 1))]))).new (.dic kv)).put (st.nxt + 1) (.dic (kv ++ [(Sum.inr x,.non)])))
          simp [law_patterns_L1,hpat,hr4,hr5,dz,hk1,hr2,hk2,i1,z,ol',ol2,hz]
        · exact (Store.new_same (st:=s2.new (.lst [.ref st.nxt,.ref (st.nxt + 1)]))).trans (by simp)
        · intro q hq
          rcases List.mem_append.mp hq with w | w
          · exact ((hp q w).mv k2 (by simp)).mv (js:=[]) (Kp.new.trans Kp.new) (by simp)
          · simp only [List.mem_cons,List.not_mem_nil,or_false] at w
            rcases w with w | w
            · rw [w]; exact P1.mv (js:=[]) (Kp.new.trans Kp.new) (by simp)
            · rw [w]; exact P2.mv (js:=[]) (Kp.new.trans Kp.new) (by simp)
    have k24:=k2.trans k4
    obtain ⟨lg',out',q4,q5,q6,s5,e5,h1,h2,h3,h4,h5,h6⟩:=pat_loop1 hx hxi hs hd (fm:=fm) (all:=all) hfm rs (s2.nxt + 1) out2 (some (.ref r)) (some (.ref st.nxt)) (some (.ref (st.nxt + 1))) s4 (fun q hq => ⟨(hrs q (List.mem_cons_of_mem _ hq)).1,(hrs q (List.mem_cons_of_mem _ hq)).2.mv k24 (by simp)⟩) (Nat.le_trans hN k24.le) (k24.get0 hf (by omega)) hl4 ha4 hP4 (by simp at hlen; omega)
    refine ⟨lg',out',q4,q5,q6,s5,?_,h1,h2,h3,k24.trans h4,by simp; omega,by rw [h6,hm4]; simp [patStep]⟩
    rw [List.map_cons,loopS_nx (srcOk_one hf) (by rfl) hbody]
    exact e5
theorem pat_step {firm done : List Str} {x : Str} (hx : x ∉ done) (hxi : TOk x) (hs : ∀ z ∈ firm,TOk z) (hd : done.length ≤ 10) (fm : Nat) (rs : List (Nat × Pat)) (o3 o4 o5 o6 o2 : Option D) (st : Store) (hfm : fm < st.nxt) (hf : st.at_ fm = some (.lst (rs.map fun a => D.ref a.1))) (hrs : ∀ r ∈ rs,PatOk st done r) (hl : rs.length ≤ 50) :
    ∃ (lg : Nat) (out : List (Nat × Pat)) (p3 p4 p5 p6 : Option D) (st' : Store),law_patterns_L2 [some (.tup (firm.map D.str)),some (.ref fm),some (.str x),o3,o4,o5,o6] st = .nx [some (.tup (firm.map D.str)),some (.ref lg),some (.str x),p3,p4,p5,p6] st' ∧
      lg < st'.nxt ∧ st'.at_ lg = some (.lst (out.map fun a => D.ref a.1)) ∧ (∀ r ∈ out,PatOk st' (done ++ [x]) r) ∧ Kp [] st st' ∧ out.length ≤ 2 * rs.length ∧ out.map (·.2) = patStep firm x done.length (rs.map (·.2)):=by
  have f1 : (st.new (.lst [])).at_ fm = some (.lst (rs.map fun a => D.ref a.1)):=by rw [Store.new_ne (by omega)]; exact hf
  obtain ⟨lg,out,q4,q5,q6,s2,e2,h1,h2,h3,h4,h5,h6⟩:=pat_loop1 hx hxi hs hd (N0:=st.nxt) hfm rs st.nxt [] o4 o5 o6 (st.new (.lst [])) (fun r hr => ⟨(hrs r hr).1,(hrs r hr).mv (js:=[]) Kp.new (by simp)⟩) (Nat.le_succ _) f1 (Nat.lt_succ_self _) Store.new_same (by simp) (by simp; omega)
  refine ⟨lg,out,some (.ref lg),q4,q5,q6,s2,?_,h1,h2,h3,Kp.new.trans h4,by simpa using h5,by simpa using h6⟩
  simp [law_patterns_L2,f1,e2]
def patsL (firm : List Str) : List Pat:=patStep firm "bird2" 2 (patStep firm "a" 1 (patStep firm "sky" 0 [fun _ => none]))
theorem patterns_ok {firm : List Str} (hs : ∀ z ∈ firm,TOk z) {st : Store} : ∃ (m : Nat) (out : List (Nat × Pat)) (st' : Store),F_law_patterns [.tup (firm.map D.str)] st = .ok (.ref m) st' ∧ m < st'.nxt ∧ st'.at_ m = some (.lst (out.map fun a => D.ref a.1)) ∧ (∀ r ∈ out,PatOk st' inks r) ∧ out.map (·.2) = patsL firm ∧ Kp [] st st':=by
  have t:=fun (z : Str) (hz : z ∈ inks) => (inks_name hz).t
  let s0:=((st.new (.dic [])).new (.lst [.ref st.nxt])).new (.lst [.str "sky",.str "a",.str "bird2"])
  have n0 : s0.nxt = st.nxt + 3:=rfl
  have f0 : s0.at_ (st.nxt + 1) = some (.lst ([(st.nxt,fun _ => none)].map fun (a : Nat × Pat) => D.ref a.1)):=by
    show (((st.new (.dic [])).new (.lst [.ref st.nxt])).new (.lst [.str "sky",.str "a",.str "bird2"])).at_ (st.nxt + 1) = _
    rw [Store.new_ne (show st.nxt + 1 ≠ st.nxt + 1 + 1 by omega)]
    exact Store.new_same
  have p0 : ∀ r ∈ [((st.nxt,fun _ => none) : Nat × Pat)],PatOk s0 [] r:=fun r hr => by
    rw [List.mem_singleton.mp hr]
    refine ⟨by rw [n0]; omega,?_⟩
    show (((st.new (.dic [])).new (.lst [.ref st.nxt])).new (.lst [.str "sky",.str "a",.str "bird2"])).at_ st.nxt = _
    rw [Store.new_ne (show st.nxt ≠ st.nxt + 1 + 1 by omega),Store.new_ne (show st.nxt ≠ st.nxt + 1 by omega)]
    exact Store.new_same
  have src0 : s0.at_ (st.nxt + 2) = some (.lst [.str "sky",.str "a",.str "bird2"]):=Store.new_same
  have nx0 : (("sky" : Str)) ∉ ([] : List Str):=by simp
  have nx1 : (("a" : Str)) ∉ (([] : List Str) ++ [("sky" : Str)]):=by decide +kernel
  have nx2 : (("bird2" : Str)) ∉ (([] : List Str) ++ [("sky" : Str)] ++ [("a" : Str)]):=by decide +kernel
  have t1:=t "sky" (by simp [inks])
  have t2:=t "a" (by simp [inks])
  have t3:=t "bird2" (by simp [inks])
  obtain ⟨g1,o1,a3,a4,a5,a6,s1,e1,b1,b2,b3,k1,l1,t4⟩:=pat_step (firm:=firm) (done:=([] : List Str)) (x:=("sky" : Str)) nx0 t1 hs (by decide) (st.nxt + 1) [(st.nxt,fun _ => none)] none none none none (some (.str "sky")) s0 (by rw [n0]; omega) f0 p0 (by simp)
  obtain ⟨g2,o2,c3,c4,c5,c6,s2,e2,d1,d2,d3,k2,l2,t5⟩:=pat_step (firm:=firm) (done:=([] : List Str) ++ [("sky" : Str)]) (x:=("a" : Str)) nx1 t2 hs (by decide) g1 o1 a3 a4 a5 a6 (some (.str "a")) s1 b1 b2 b3 (by simp at l1; omega)
  obtain ⟨g3,o3,f3,f4,f5,f6,s3,e3,h1,h2,h3,k3,l3,t6⟩:=pat_step (firm:=firm) (done:=([] : List Str) ++ [("sky" : Str)] ++ [("a" : Str)]) (x:=("bird2" : Str)) nx2 t3 hs (by decide) g2 o2 c3 c4 c5 c6 (some (.str "bird2")) s2 d1 d2 d3 (by simp at l1; omega)
  have src1:=k1.get0 src0 (by rw [n0]; omega)
  have src2:=k2.get0 src1 (Nat.lt_of_lt_of_le (show st.nxt + 2 < s0.nxt by rw [n0]; omega) k1.le)
  have src3:=k3.get0 src2 (Nat.lt_of_lt_of_le (show st.nxt + 2 < s0.nxt by rw [n0]; omega) (Nat.le_trans k1.le k2.le))
  refine ⟨g3,o3,s3,?_,h1,h2,h3,by rw [t6,t5,t4]; rfl,?_⟩
  · have lp : loopS (tgName 2) law_patterns_L2 [(st.nxt + 2,.lst [.str "sky",.str "a",.str "bird2"])] [.str "sky",.str "a",.str "bird2"] [some (.tup (firm.map D.str)),some (.ref (st.nxt + 1)),none,none,none,none,none] s0 = .nx [some (.tup (firm.map D.str)),some (.ref g3),some (.str "bird2"),f3,f4,f5,f6] s3:=by
      rw [loopS_nx (srcOk_one src0) (by rfl) e1,loopS_nx (srcOk_one src1) (by rfl) e2,loopS_nx (srcOk_one src2) (by rfl) e3]
      exact loopS_nil (srcOk_one src3)
    have src0' : (((st.new (.dic [])).new (.lst [.ref st.nxt])).new (.lst [.str "sky",.str "a",.str "bird2"])).at_ (st.nxt + 1 + 1) = some (.lst [.str "sky",.str "a",.str "bird2"]):=src0
    have lp' : loopS (tgName 2) law_patterns_L2 [(st.nxt + 1 + 1,.lst [.str "sky",.str "a",.str "bird2"])] [.str "sky",.str "a",.str "bird2"] [some (.tup (firm.map D.str)),some (.ref (st.nxt + 1)),none,none,none,none,none] (((st.new (.dic [])).new (.lst [.ref st.nxt])).new (.lst [.str "sky",.str "a",.str "bird2"])) = .nx [some (.tup (firm.map D.str)),some (.ref g3),some (.str "bird2"),f3,f4,f5,f6] s3:=lp
    simp [F_law_patterns,src0',lp']
  · exact (Kp.new.trans (Kp.new.trans Kp.new)).trans (k1.trans (k2.trans k3))
end G
namespace G
open DV PySem L2
theorem src_one {st0 : Store} {m : Nat} {xs : List D} (h : st0.at_ m = some (.lst xs)) (hm : m < st0.nxt) : ∀ st,Kp [] st0 st → SrcOk [(m,xs)] st:=fun st k => srcOk_one (k.get0 h hm)
theorem loopS_all {t : TGT} {body : MS} {srcs : List (Nat × Cell)} {α : Type} {k : α → D} {P : α → Bool} {J : DV.Loc → Prop} {bad : D} {st0 : Store} (so : ∀ st,Kp [] st0 st → SrcOk srcs st) : ∀ (xs : List α),
    (∀ a ∈ xs,∀ l st,J l → Kp [] st0 st → ∃ l1,t (k a) l st = some l1 ∧ (if P a = true then ∃ l2 st2,body l1 st = .nx l2 st2 ∧ J l2 ∧ Kp [] st st2 else ∃ st2,body l1 st = .rt bad st2 ∧ Kp [] st st2)) →
    ∀ l st,J l → Kp [] st0 st → (if xs.all P = true then ∃ l' st',loopS t body srcs (xs.map k) l st = .nx l' st' ∧ J l' ∧ Kp [] st st' else ∃ st',loopS t body srcs (xs.map k) l st = .rt bad st' ∧ Kp [] st st')
  | [],_,l,st,hJ,hk => by
    simp only [List.all_nil,if_true]
    exact ⟨l,st,loopS_nil (so st hk),hJ,Kp.refl⟩
  | a :: xs,step,l,st,hJ,hk => by
    obtain ⟨l1,h1,h2⟩:=step a (by simp) l st hJ hk
    simp only [List.all_cons,List.map_cons]
    cases q : P a with
    | false =>
      rw [q] at h2
      simp only [Bool.false_eq_true,if_false,Bool.false_and] at h2 ⊢
      obtain ⟨st2,e,k2⟩:=h2
      exact ⟨st2,loopS_rt (so st hk) h1 e,k2⟩
    | true =>
      rw [q] at h2
      simp only [if_true,Bool.true_and] at h2 ⊢
      obtain ⟨l2,st2,e,hJ2,k2⟩:=h2
      have ih:=loopS_all (J:=J) (bad:=bad) so xs (fun b hb => step b (List.mem_cons_of_mem _ hb)) l2 st2 hJ2 (hk.trans k2)
      rw [loopS_nx (so st hk) h1 e]
      split
      · rename_i w
        rw [if_pos w] at ih
        obtain ⟨l',st',e',j',k'⟩:=ih
        exact ⟨l',st',e',j',k2.trans k'⟩
      · rename_i w
        rw [if_neg w] at ih
        obtain ⟨st',e',k'⟩:=ih
        exact ⟨st',e',k2.trans k'⟩
def intL (i : Int) : Nat → List Int
  | 0 => []
  | n + 1 => i :: intL (i + 1) n
theorem ints_eq : ∀ (n : Nat) (i : Int),DV.intsFrom i n = (intL i n).map D.int
  | 0,_ => rfl
  | n + 1,i => by
    simp only [DV.intsFrom,intL,List.map_cons,ints_eq n]
theorem intL_len : ∀ {n : Nat} {i : Int},(intL i n).length = n
  | 0,_ => rfl
  | n + 1,i => by simp [intL,intL_len (n:=n)]
def dotD (q : Int × Int) : D:=.tup [.int q.1,.int q.2]
def dotsL (W Hh : Int) : List (Int × Int):=((intL 0 Hh.toNat).map fun y => (intL 0 W.toNat).map fun x => (x,y)).flatten
theorem dots_loop {p : Pic} {d3 d4 : D} (hW : 0 < p.W) (hW2 : p.W ≤ 30) : ∀ (n : Nat) (i : Int) (m : Nat) (ds : List D) (o2 : Option D) (st : Store),m < st.nxt → st.at_ m = some (.lst ds) → ds.length + 30 * n ≤ 1000 →
    ∃ (m' : Nat) (p2 : Option D) (st' : Store),loopS (tgName 2) law_dots_L1 [] (DV.intsFrom i n) [some (.tup [.int p.W,.int p.Hh,d3,d4]),some (.ref m),o2,none] st = .nx [some (.tup [.int p.W,.int p.Hh,d3,d4]),some (.ref m'),p2,none] st' ∧ m' < st'.nxt ∧ st'.at_ m' = some (.lst (ds ++ (((intL i n).map fun y => (intL 0 p.W.toNat).map fun x => (x,y)).flatten.map dotD))) ∧ Kp [] st st'
  | 0,i,m,ds,o2,st,hm,ha,_ => ⟨m,o2,st,loopS_nil srcOk_nil,hm,by simpa [intL] using ha,Kp.refl⟩
  | n + 1,i,m,ds,o2,st,hm,ha,hl => by
    have lp : loopC (tgName 3) tYes_ law_dots_C1 [] [some (.tup [.int p.W,.int p.Hh,d3,d4]),some (.ref m),some (.int i),none] (DV.intsFrom 0 p.W.toNat) st = .ok ((intL 0 p.W.toNat).map fun x => dotD (x,i)) st:=by
      rw [ints_eq]
      exact loopC_pureS srcOk_nil fun d hd => ⟨[some (.tup [.int p.W,.int p.Hh,d3,d4]),some (.ref m),some (.int i),some (.int d)],rfl,by simp [law_dots_C1,dotD]⟩
    have hz1 : (intL 0 p.W.toNat).length ≤ sizeLine:=by rw [intL_len]; exact small_line (by omega)
    have hz2 : ds.length + (intL 0 p.W.toNat).length ≤ sizeLine:=by rw [intL_len]; exact small_line (by omega)
    have a1 : (st.new (.lst ((intL 0 p.W.toNat).map fun x => dotD (x,i)))).at_ m = some (.lst ds):=by rw [Store.new_ne (by omega)]; exact ha
    have w1 : -4611686018427387904 ≤ p.W:=by omega
    have w2 : p.W < 4611686018427387904:=by omega
    have body : law_dots_L1 [some (.tup [.int p.W,.int p.Hh,d3,d4]),some (.ref m),some (.int i),none] st = .nx [some (.tup [.int p.W,.int p.Hh,d3,d4]),some (.ref (st.nxt + 1)),some (.int i),none] ((st.new (.lst ((intL 0 p.W.toNat).map fun x => dotD (x,i)))).new (.lst (ds ++ (intL 0 p.W.toNat).map fun x => dotD (x,i)))):=by
      simp [law_dots_L1,w1,w2,wipeL,lp,hz1,a1,hz2]
    obtain ⟨m',p2,s2,e2,h1,h2,h4⟩:=dots_loop (p:=p) (d3:=d3) (d4:=d4) hW hW2 n (i + 1) (st.nxt + 1) (ds ++ (intL 0 p.W.toNat).map fun x => dotD (x,i)) (some (.int i)) ((st.new (.lst ((intL 0 p.W.toNat).map fun x => dotD (x,i)))).new (.lst (ds ++ (intL 0 p.W.toNat).map fun x => dotD (x,i)))) (by show st.nxt + 1 < st.nxt + 1 + 1; omega) Store.new_same (by rw [List.length_append,List.length_map,intL_len]; omega)
    refine ⟨m',p2,s2,?_,h1,?_,(Kp.new.trans Kp.new).trans h4⟩
    · show loopS (tgName 2) law_dots_L1 [] (.int i :: DV.intsFrom (i + 1) n) _ st = _
      rw [loopS_nx srcOk_nil (by rfl) body]
      exact e2
    · rw [h2]
      simp [intL,Function.comp_def]
theorem dots_ok {p : Pic} {d3 d4 : D} {st : Store} (hW : 0 < p.W) (hW2 : p.W ≤ 30) (hH : 0 < p.Hh) (hH2 : p.Hh ≤ 30) : ∃ (m : Nat) (st' : Store),F_law_dots [.tup [.int p.W,.int p.Hh,d3,d4]] st = .ok (.ref m) st' ∧ m < st'.nxt ∧ st'.at_ m = some (.lst ((dotsL p.W p.Hh).map dotD)) ∧ Kp [] st st':=by
  obtain ⟨m',p2,s2,e2,h1,h2,h4⟩:=dots_loop (p:=p) (d3:=d3) (d4:=d4) hW hW2 p.Hh.toNat 0 st.nxt [] none (st.new (.lst [])) (Nat.lt_succ_self _) Store.new_same (by simp; omega)
  refine ⟨m',s2,?_,h1,by simpa [dotsL] using h2,Kp.new.trans h4⟩
  have w1 : -4611686018427387904 ≤ p.Hh:=by omega
  have w2 : p.Hh < 4611686018427387904:=by omega
  simp [F_law_dots,w1,w2,e2]
theorem pow18 {st : Store} : fPow (.int 10) (.int 18) st = some (.int 1000000000000000000,st):=by
  have c : CPow 10 18:=⟨by decide,by decide,by decide⟩
  have e : (10 : Int) ^ (18 : Int).toNat = 1000000000000000000:=by decide +kernel
  unfold fPow fI
  simp only [if_pos c,e]
theorem jar_loop {m : Nat} {all : List D} {o0 o1 o4 o5 : Option D} {st : Store} (ha : st.at_ m = some (.lst all)) : ∀ (is : List Int) (mx : Int) (o3 : Option D),∃ (mx' : Int) (p3 : Option D),loopS (tgName 3) law_jar_L1 [(m,all)] (is.map D.int) [o0,o1,some (.int mx),o3,o4,o5] st = .nx [o0,o1,some (.int mx'),p3,o4,o5] st
  | [],mx,o3 => ⟨mx,o3,loopS_nil (srcOk_one ha)⟩
  | i :: is,mx,o3 => by
    have c : CMul mx 733:=.inr ⟨by decide,by decide⟩
    have body : law_jar_L1 [o0,o1,some (.int mx),some (.int i),o4,o5] st = .nx [o0,o1,some (.int ((mx * 733 + i) % 1000000007)),some (.int i),o4,o5] st:=by simp [law_jar_L1,c]
    obtain ⟨mx',p3,e⟩:=jar_loop (o0:=o0) (o1:=o1) (o4:=o4) (o5:=o5) ha is ((mx * 733 + i) % 1000000007) (some (.int i))
    refine ⟨mx',p3,?_⟩
    rw [List.map_cons,loopS_nx (srcOk_one ha) (by rfl) body]
    exact e
theorem cut_ints (ns : List Int) (lo hi : Option Int) : ∃ is : List Int,cutD (ns.map D.int) lo hi = is.map D.int:=by
  unfold cutD
  rw [← List.map_drop,← List.map_take]
  exact ⟨_,rfl⟩
theorem jar_ok {ns : List Int} {k : Int} {st : Store} (h0 : 0 ≤ k) (h4 : k < 60) (hn : ns.length ≤ 63) : ∃ (j : Nat) (st' : Store),F_law_jar [.rol (ns.map D.int),.int k] st = .ok (.ref j) st' ∧ JarAt st' j ∧ j < st'.nxt ∧ st.nxt ≤ st'.nxt:=by
  obtain ⟨is,his⟩:=cut_ints ns none (some 4)
  obtain ⟨mx,p3,e3⟩:=jar_loop (m:=st.nxt) (all:=is.map D.int) (o0:=some (.rol (ns.map D.int))) (o1:=some (.int k)) (o4:=none) (o5:=none) (st:=st.new (.lst (is.map D.int))) Store.new_same is (8191 * (k + 2) * (k + 5) + 13 * (ns.length : Nat)) none
  have c1 : CMul 8191 (k + 2):=.inl ⟨by decide,by decide⟩
  have c2 : CMul (8191 * (k + 2)) (k + 5):=.inr ⟨by omega,by omega⟩
  have c3 : CMul 13 (ns.length : Nat):=.inl ⟨by decide,by decide⟩
  have c4 : CMul mx 7907:=.inr ⟨by decide,by decide⟩
  have c5 : ∀ o : Int,CMul o 65537:=fun o => .inr ⟨by decide,by decide⟩
  have c6 : CMul 104729 (k + 1):=.inl ⟨by decide,by decide⟩
  -- the cell's own number
  obtain ⟨own,ho⟩ : ∃ own : Int,(if k < (ns.length : Nat) then atI (ns.map D.int) k else some (.int 0)) = some (.int own):=by
    by_cases q : k < (ns.length : Nat)
    · have hk : k.toNat < ns.length:=by omega
      refine ⟨ns[k.toNat],?_⟩
      rw [if_pos q]
      exact ev_atI h0 (by rw [List.getElem?_map,List.getElem?_eq_getElem hk]; rfl)
    · exact ⟨0,by rw [if_neg q]⟩
  have own_ : mIf (tB_ (m2 fLt (mVar 1) (mL (f1 lenD) (maCons (mVar 0) maNil)))) (m2 fIx (mVar 0) (mVar 1)) (mC (.int 0)) [some (.rol (ns.map D.int)),some (.int k),some (.int mx),p3,none,none] (st.new (.lst (is.map D.int))) = .ok (.int own) (st.new (.lst (is.map D.int))):=by
    by_cases q : k < (ns.length : Nat)
    · rw [if_pos q] at ho
      simp [q,ho]
    · rw [if_neg q] at ho
      have z : own = 0:=by simpa using ho.symm
      simp [q,z]
  obtain ⟨dig,dig_⟩ : ∃ dig : Int,mIf (tOr_ (tB_ (m2 fLt (mVar 4) (mC (.int 0)))) (tB_ (m2 fGe (mVar 4) (m2 fPow (mC (.int 10)) (mC (.int 18)))))) (mL (f1 absD) (maCons (mVar 4) maNil)) (mC (.int 0)) [some (.rol (ns.map D.int)),some (.int k),some (.int mx),p3,some (.int own),none] (st.new (.lst (is.map D.int))) = .ok (.int dig) (st.new (.lst (is.map D.int))):=by
    by_cases q : own < 0
    · exact ⟨_,by simp [q]; rfl⟩
    · by_cases q2 : (1000000000000000000 : Int) ≤ own
      · exact ⟨_,by simp [q,pow18,q2]; rfl⟩
      · exact ⟨0,by simp [q,pow18,q2]⟩
  refine ⟨st.nxt + 1,(st.new (.lst (is.map D.int))).new (.lst [.int dig,.int ((mx * 7907 + own * 65537 + 104729 * (k + 1)) % 2147483587),.int 0]),?_,⟨_,_,_,Store.new_same⟩,by show st.nxt + 1 < st.nxt + 1 + 1; omega,by show st.nxt ≤ st.nxt + 1 + 1; omega⟩
  unfold F_law_jar
  have b1 : msAsg (m2 fAdd (m2 fMul (m2 fMul (mC (.int 8191)) (m2 fAdd (mVar 1) (mC (.int 2)))) (m2 fAdd (mVar 1) (mC (.int 5)))) (m2 fMul (mC (.int 13)) (mL (f1 lenD) (maCons (mVar 0) maNil)))) (tgName 2) [some (.rol (ns.map D.int)),some (.int k),none,none,none,none] st =
      .nx [some (.rol (ns.map D.int)),some (.int k),some (.int (8191 * (k + 2) * (k + 5) + 13 * (ns.length : Nat))),none,none,none] st:=by simp [c1,c2,c3]
  have b2 : miSeq (mSl (mVar 0) moNone (moSome (mC (.int 4)))) [some (.rol (ns.map D.int)),some (.int k),some (.int (8191 * (k + 2) * (k + 5) + 13 * (ns.length : Nat))),none,none,none] st = .ok ⟨[(st.nxt,is.map D.int)],is.map D.int⟩ (st.new (.lst (is.map D.int))):=by simp [his]
  simp only [ev_mDef,List.length_cons,List.length_nil,if_true,List.map_cons,List.map_nil,List.replicate,List.cons_append,List.nil_append]
  rw [ev_msSeq,b1]
  simp only
  rw [ev_msSeq,ev_msFor,b2]
  simp only [ev_toS_ok,e3]
  rw [ev_msSeq,ev_msAsg,own_]
  simp only [ev_toS_ok,ev_tgName,List.set_cons_succ,List.set_cons_zero]
  rw [ev_msSeq,ev_msAsg,dig_]
  simp only [ev_toS_ok,ev_tgName,List.set_cons_succ,List.set_cons_zero]
  simp [c4,c5,c6]
theorem bools_rep : ∀ n : Nat,boolsD (List.replicate n (.bl true)) = some (List.replicate n true)
  | 0 => rfl
  | n + 1 => by
    simp only [List.replicate_succ,boolsD,bools_rep n]
    rfl
section
variable {R : FD} (hR : ∀ (j : Nat) (st : Store),JarAt st j → j < st.nxt → ∃ st',R [.ref j] st = .ok (.bl true) st' ∧ st.nxt ≤ st'.nxt)
noncomputable def lawC (R : FD) : ME:=mCall R [] (maCons (mCall F_law_jar [] (maCons (mVar 0) (maCons (mVar 1) maNil))) maNil)
noncomputable def lawF (R : FD) (n : Int) : FD:=mDef 1 2 (msRet (mL (f1 (allD true)) (maCons (mLc (miRng rng1 (maCons (mL (f2I maxI) (maCons (mC (.int 2)) (maCons (mL (f2I minI) (maCons (mL (f1 lenD) (maCons (mVar 0) maNil)) (maCons (mC (.int n)) maNil))) maNil))) maNil)) (tgName 1) tYes_ (lawC R) [1]) maNil)))
include hR
theorem law_loop {ns : List Int} {o0 : Option D} (hn : ns.length ≤ 63) (h0 : o0 = some (.rol (ns.map D.int))) : ∀ (n : Nat) (i : Int) (st : Store),0 ≤ i → i + n ≤ 60 → ∃ st',loopC (tgName 1) tYes_ (lawC R) [] [o0,none] (DV.intsFrom i n) st = .ok (List.replicate n (.bl true)) st'
  | 0,i,st,_,_ => ⟨st,loopC_nil srcOk_nil⟩
  | n + 1,i,st,hi,hin => by
    obtain ⟨j,s1,e1,jr,jn,_⟩:=jar_ok (ns:=ns) (k:=i) (st:=st) hi (by omega) hn
    obtain ⟨s2,e2,_⟩:=hR j s1 jr jn
    obtain ⟨s3,e3⟩:=law_loop hn h0 n (i + 1) s2 (by omega) (by omega)
    have c1 : lawC R [o0,some (.int i)] st = .ok (.bl true) s2:=by
      subst h0
      simp [lawC,e1,e2]
    refine ⟨s3,?_⟩
    show loopC (tgName 1) tYes_ (lawC R) [] [o0,none] (.int i :: DV.intsFrom (i + 1) n) st = _
    rw [loopC_cons srcOk_nil (l1:=[o0,some (.int i)]) (by rfl)]
    simp only [ev_tYes_,if_true,c1,e3]
    rfl
theorem law_all {ns : List Int} {n : Int} (hn : ns.length ≤ 63) (hn2 : n ≤ 60) : ∃ st',lawF R n [.rol (ns.map D.int)] ⟨0,fun _ => none⟩ = .ok (.bl true) st':=by
  obtain ⟨r,hr,r0,r4⟩ : ∃ r : Int,r = maxI 2 (minI (ns.length : Nat) n) ∧ 0 ≤ r ∧ r ≤ 60:=by
    refine ⟨_,rfl,?_,?_⟩ <;> unfold maxI minI <;> split <;> (try split) <;> omega
  obtain ⟨s1,e1⟩:=law_loop hR hn (o0:=some (.rol (ns.map D.int))) rfl r.toNat 0 ⟨0,fun _ => none⟩ (by omega) (by omega)
  refine ⟨s1.new (.lst (List.replicate r.toNat (.bl true))),?_⟩
  have w1 : -4611686018427387904 ≤ r:=by omega
  have w2 : r < 4611686018427387904:=by omega
  have hz : r.toNat ≤ sizeLine:=small_line (by omega)
  have hb:=bools_rep r.toNat
  have rg : miRng rng1 (maCons (mL (f2I maxI) (maCons (mC (.int 2)) (maCons (mL (f2I minI) (maCons (mL (f1 lenD) (maCons (mVar 0) maNil)) (maCons (mC (.int n)) maNil))) maNil))) maNil) [some (.rol (ns.map D.int)),none] ⟨0,fun _ => none⟩ = .ok ⟨[],DV.intsFrom 0 r.toNat⟩ ⟨0,fun _ => none⟩:=by
    have e : miRng rng1 (maCons (mL (f2I maxI) (maCons (mC (.int 2)) (maCons (mL (f2I minI) (maCons (mL (f1 lenD) (maCons (mVar 0) maNil)) (maCons (mC (.int n)) maNil))) maNil))) maNil) [some (.rol (ns.map D.int)),none] ⟨0,fun _ => none⟩ = (match rng1 [.int (maxI 2 (minI (((ns.map D.int).length : Nat) : Int) n))] with
      | some it => (.ok it ⟨0,fun _ => none⟩ : Res Iter)
      | none => .bad):=rfl
    rw [e,List.length_map,← hr]
    simp [w1,w2]
  unfold lawF
  simp only [ev_mDef,List.length_cons,List.length_nil,if_true,List.map_cons,List.map_nil,List.replicate,List.cons_append,List.nil_append,ev_msRet,ev_mL,ev_maCons,ev_maNil,ev_mLc]
  simp only [rg,ev_bind_ok,wipeL,e1]
  simp [hz,hb,e1]
end
end G
namespace G
open DV PySem L2
structure Box where
  l : Int
  t : Int
  r : Int
  b : Int
def Box.d (c : Box) : D:=.tup [.int c.l,.int c.t,.int c.r,.int c.b]
def Box.has (c : Box) (x y : Int) : Prop:=c.l ≤ x ∧ x < c.r ∧ c.t ≤ y ∧ y < c.b
def cellsG (W Hh : Int) (fs : List Fr) : List Box:=(((downP Hh fs).zip (downP Hh fs).tail).map fun q => ((acrossP W fs).zip (acrossP W fs).tail).map fun s => (⟨s.1,q.1,s.2,q.2⟩ : Box)).flatten
theorem mem_cellsG {W Hh : Int} {fs : List Fr} {c : Box} : c ∈ cellsG W Hh fs ↔ (c.l,c.r) ∈ (acrossP W fs).zip (acrossP W fs).tail ∧ (c.t,c.b) ∈ (downP Hh fs).zip (downP Hh fs).tail:=by
  unfold cellsG
  simp only [List.mem_flatten,List.mem_map]
  constructor
  · rintro ⟨l,⟨q,hq,rfl⟩,h⟩
    obtain ⟨s,hs,rfl⟩:=List.mem_map.mp h
    exact ⟨hs,hq⟩
  · rintro ⟨h1,h2⟩
    exact ⟨_,⟨(c.t,c.b),h2,rfl⟩,List.mem_map.mpr ⟨(c.l,c.r),h1,rfl⟩⟩
section
variable {W Hh : Int} {fs : List Fr}
theorem acr_up : (acrossP W fs).Pairwise (· < ·):=up_sddI _
theorem dwn_up : (downP Hh fs).Pairwise (· < ·):=up_sddI _
theorem mem_acr {z : Int} : z ∈ acrossP W fs ↔ z = 0 ∨ z = W ∨ ∃ f ∈ fs,z = f.l ∨ z = f.r:=by
  unfold acrossP
  rw [mem_sddI]
  simp only [List.mem_cons,List.mem_append,List.mem_map]
  constructor
  · rintro (h | h | ⟨f,hf,rfl⟩ | ⟨f,hf,rfl⟩)
    · exact .inl h
    · exact .inr (.inl h)
    · exact .inr (.inr ⟨f,hf,.inl rfl⟩)
    · exact .inr (.inr ⟨f,hf,.inr rfl⟩)
  · rintro (h | h | ⟨f,hf,rfl | rfl⟩)
    · exact .inl h
    · exact .inr (.inl h)
    · exact .inr (.inr (.inl ⟨f,hf,rfl⟩))
    · exact .inr (.inr (.inr ⟨f,hf,rfl⟩))
theorem mem_dwn {z : Int} : z ∈ downP Hh fs ↔ z = 0 ∨ z = Hh ∨ ∃ f ∈ fs,z = f.t ∨ z = f.b:=by
  unfold downP
  rw [mem_sddI]
  simp only [List.mem_cons,List.mem_append,List.mem_map]
  constructor
  · rintro (h | h | ⟨f,hf,rfl⟩ | ⟨f,hf,rfl⟩)
    · exact .inl h
    · exact .inr (.inl h)
    · exact .inr (.inr ⟨f,hf,.inl rfl⟩)
    · exact .inr (.inr ⟨f,hf,.inr rfl⟩)
  · rintro (h | h | ⟨f,hf,rfl | rfl⟩)
    · exact .inl h
    · exact .inr (.inl h)
    · exact .inr (.inr (.inl ⟨f,hf,rfl⟩))
    · exact .inr (.inr (.inr ⟨f,hf,rfl⟩))
theorem cell_on {c : Box} (hW : 0 ≤ W) (hH : 0 ≤ Hh) (hf : ∀ f ∈ fs,f.Ok W Hh) (hc : c ∈ cellsG W Hh fs) : 0 ≤ c.l ∧ c.l < c.r ∧ c.r ≤ W ∧ 0 ≤ c.t ∧ c.t < c.b ∧ c.b ≤ Hh:=by
  obtain ⟨h1,h2⟩:=mem_cellsG.mp hc
  have l1:=zip_tail_lt acr_up h1
  have l2:=zip_tail_lt dwn_up h2
  have m1:=zip_tail_mem h1
  have m2:=zip_tail_mem h2
  have a : ∀ z,z ∈ acrossP W fs → 0 ≤ z ∧ z ≤ W:=fun z hz => by
    rcases mem_acr.mp hz with rfl | rfl | ⟨f,hf',rfl | rfl⟩
    · omega
    · omega
    · have q:=hf f hf'; have:=q.l0; have:=q.lr; have:=q.rW; omega
    · have q:=hf f hf'; have:=q.l0; have:=q.lr; have:=q.rW; omega
  have b : ∀ z,z ∈ downP Hh fs → 0 ≤ z ∧ z ≤ Hh:=fun z hz => by
    rcases mem_dwn.mp hz with rfl | rfl | ⟨f,hf',rfl | rfl⟩
    · omega
    · omega
    · have q:=hf f hf'; have:=q.t0; have:=q.tb; have:=q.bH; omega
    · have q:=hf f hf'; have:=q.t0; have:=q.tb; have:=q.bH; omega
  have q1:=a _ m1.1; have q2:=a _ m1.2; have q3:=b _ m2.1; have q4:=b _ m2.2
  omega
end
def cellsL (p : Pic) : List Box:=cellsG p.W p.Hh p.fs
theorem Pic.Ok.cell {p : Pic} (h : p.Ok) {c : Box} (hc : c ∈ cellsL p) : 0 ≤ c.l ∧ c.l < c.r ∧ c.r ≤ p.W ∧ 0 ≤ c.t ∧ c.t < c.b ∧ c.b ≤ p.Hh:=by
  have:=h.W0; have:=h.H0
  exact cell_on (by omega) (by omega) h.fr hc
theorem ints_range_ : ∀ (n i : Nat),DV.intsFrom (i : Int) n = (List.range' i n).map fun k : Nat => D.int (k : Int)
  | 0,_ => rfl
  | n + 1,i => by
    simp only [DV.intsFrom,List.range'_succ,List.map_cons]
    rw [← ints_range_ n (i + 1)]
    rfl
theorem ints_range (n : Nat) : DV.intsFrom 0 n = (List.range n).map fun k : Nat => D.int (k : Int):=by
  rw [List.range_eq_range']
  exact ints_range_ n 0
theorem rng_nat {n : Nat} (h : n ≤ 1000) : rng1 [.int (n : Int)] = some ⟨[],(List.range n).map fun k : Nat => D.int (k : Int)⟩:=by
  have c : -(2 ^ 62) ≤ (n : Int) ∧ (n : Int) < 2 ^ 62:=⟨by omega,by omega⟩
  rw [ev_rng1,if_pos c,← ints_range]
  rfl
theorem miRng_of {f : List D → Option Iter} {a : MA} {l : DV.Loc} {st st1 : Store} {ds : List D} {it : Iter} (e : a l st = .ok ds st1) (r : f ds = some it) : miRng f a l st = .ok it st1:=by
  rw [ev_miRng,e,ev_bind_ok,r]
end G
namespace G
open DV PySem L2
structure Shw (d : PyData) (n : Nat) : Prop where
  s : d.showable = true
  l : d.shown.length ≤ n
theorem Shw.mono {d : PyData} {n m : Nat} (h : Shw d n) (hl : n ≤ m) : Shw d m:=⟨h.s,Nat.le_trans h.l hl⟩
theorem shw_str {x : Str} (h : TOk x) : Shw (.str x) (10 * x.length + 2):=⟨by simp only [PyData.showable],by
  simp only [PyData.shown]
  refine StrLaws.reprText_len x fun c hc => ?_
  have h2 : x.cps.all (fun x => decide (x < 1114112)) = true:=h
  have:=Array.all_eq_true'.mp h2 c (by simpa using hc)
  have:=of_decide_eq_true this
  omega⟩
theorem shw_int {i : Int} (h : i.natAbs < 10 ^ 13) : Shw (.int i) 14:=by
  refine ⟨?_,?_⟩
  · simp only [PyData.showable]
    refine decide_eq_true ?_
    by_cases z : i.natAbs = 0
    · rw [z]; decide
    · have : i.natAbs.log2 < 44:=(Nat.log2_lt z).mpr (Nat.lt_trans h (by decide))
      omega
  · simp only [PyData.shown]
    have key : (toString i).length ≤ 14:=by
      cases i with
      | ofNat n =>
        have : (n.repr).length ≤ 13:=(Nat.length_repr_le_iff (by decide)).mpr h
        show (n.repr).length ≤ 14
        omega
      | negSucc n =>
        have : ((n + 1).repr).length ≤ 13:=(Nat.length_repr_le_iff (by decide)).mpr h
        show ("-" ++ (n + 1).repr).length ≤ 14
        rw [String.length_append]
        have e : ("-" : String).length = 1:=rfl
        omega
    have e : ((toString i : String) : Str).length = (toString i).length:=by
      exact ofString_length _
    rw [e]
    exact key
theorem shwAll {n : Nat} : ∀ {xs : List PyData},(∀ d ∈ xs,Shw d n) → PyData.showableAll xs = true ∧ piled (PyData.shownAll xs) ≤ xs.length * (n + 2)
  | [],_ => ⟨rfl,by simp [PyData.shownAll,piled]⟩
  | d :: xs,h => by
    have h1:=h d (by simp)
    obtain ⟨h2,h3⟩:=shwAll (xs:=xs) fun e he => h e (List.mem_cons_of_mem _ he)
    refine ⟨by simp only [PyData.showableAll,h1.s,h2,Bool.and_self],?_⟩
    have:=h1.l
    simp only [PyData.shownAll,piled_cons,List.length_cons,Nat.add_mul]
    omega
theorem shw_tuple {n : Nat} {xs : List PyData} (h : ∀ d ∈ xs,Shw d n) : Shw (.tuple xs) (xs.length * (n + 2) + 3):=by
  obtain ⟨h1,h2⟩:=shwAll h
  refine ⟨by simp only [PyData.showable,h1],?_⟩
  simp only [PyData.shown]
  unfold tupleText
  rw [strLen_append,strLen_append]
  have e1 : ((("(" : String) : Str)).length = 1:=rfl
  have e3 : (((if (PyData.shownAll xs).length == 1 then ",)" else ")" : String) : Str)).length ≤ 2:=by split <;> decide
  rw [e1]
  by_cases z : PyData.shownAll xs = []
  · rw [z] at e3 ⊢
    have e4 : (Str.join ", " []).length = 0:=rfl
    rw [e4]
    omega
  · have:=join_length_add _ z
    omega
theorem textFrom_up : ∀ (ts : List Str) (k : Nat) (acc : Str),(textFrom k acc ts).length ≤ acc.length + piled ts
  | [],k,acc => by simp [textFrom,piled]
  | t :: ts,k,acc => by
    unfold textFrom
    rw [piled_cons]
    refine Nat.le_trans (textFrom_up ts _ _) ?_
    split
    · rw [strLen_append,strLen_append]
      have e : ((", " : String) : Str).length = 2:=rfl
      rw [e]
      omega
    · rw [strLen_append,strLen_append]
      have e : (("" : String) : Str).length = 0:=rfl
      rw [e]
      omega
theorem shw_list {n : Nat} {xs : List PyData} (h : ∀ d ∈ xs,Shw d n) : Shw (.list xs) (xs.length * (n + 2) + 2):=by
  obtain ⟨h1,h2⟩:=shwAll h
  refine ⟨by simp only [PyData.showable,h1],?_⟩
  simp only [PyData.shown]
  unfold listText
  rw [strLen_append]
  have e1 : ((("[" : String) : Str)).length = 1:=rfl
  have e2 : ((("]" : String) : Str)).length = 1:=rfl
  have:=textFrom_up (PyData.shownAll xs) 0 "["
  omega
theorem big_line {n : Nat} (h : n ≤ 16000000) : n ≤ sizeLine:=Nat.le_trans h (by decide)
theorem repr_ref {st : Store} {m : Nat} {d : PyData} {n : Nat} (h : toData st 20 (.ref m) = some d) (s : Shw d n) (hn : n ≤ 16000000) : reprD (.ref m) st = some (.str d.shown,st):=by
  show (match toData st 20 (.ref m) with
    | some d => if d.showable = true ∧ d.shown.length ≤ sizeLine then some (D.str d.shown,st) else none
    | none => none) = _
  rw [h]
  simp only
  rw [if_pos ⟨s.s,Nat.le_trans s.l (big_line hn)⟩]
theorem repr_tup {st : Store} {ds : List D} {d : PyData} {n : Nat} (h : toData st 20 (.tup ds) = some d) (s : Shw d n) (hn : n ≤ 16000000) : reprD (.tup ds) st = some (.str d.shown,st):=by
  show (match toData st 20 (.tup ds) with
    | some d => if d.showable = true ∧ d.shown.length ≤ sizeLine then some (D.str d.shown,st) else none
    | none => none) = _
  rw [h]
  simp only
  rw [if_pos ⟨s.s,Nat.le_trans s.l (big_line hn)⟩]
theorem data_lst {st : Store} {n m : Nat} {ds : List D} {ps : List PyData} (e : st.at_ m = some (.lst ds)) (h : optL (toData st n) ds = some ps) : toData st (n + 1) (.ref m) = some (.list ps):=toData_lst e h
theorem str_same {a : Str} {st : Store} : dataEq (.str a) (.str a) st = some true:=by simp
end G
namespace G
open DV PySem L2
theorem all_snd {α β : Type} {P : β → Bool} {xs : List (α × β)} {ys : List β} (h : xs.map (·.2) = ys) : (xs.all fun a => P a.2) = ys.all P:=by
  subst h
  rw [List.all_map]
  rfl
theorem pats_loop {J : DV.Loc → Prop} {body : MS} {i : Nat} {Q : Pat → Bool} {bad : D} {firm : List Str} {l : DV.Loc} {st : Store} {mi : MI} (hfirm : ∀ z ∈ firm,TOk z) (hmi : ∀ m s1,F_law_patterns [.tup (firm.map D.str)] st = .ok (.ref m) s1 → ∀ xs,s1.at_ m = some (.lst xs) → mi l st = .ok ⟨[(m,xs)],xs⟩ s1) (hJ : J l)
    (step : ∀ pat ∈ patsL firm,∀ r l st2,J l → Kp [] st st2 → PatOk st2 inks (r,pat) → (if Q pat = true then ∃ l2 st3,body (l.set i (some (.ref r))) st2 = .nx l2 st3 ∧ J l2 ∧ Kp [] st2 st3 else ∃ st3,body (l.set i (some (.ref r))) st2 = .rt bad st3 ∧ Kp [] st2 st3)) :
    (if (patsL firm).all Q = true then ∃ l2 st3,msFor mi (tgName i) body l st = .nx l2 st3 ∧ J l2 ∧ Kp [] st st3 else ∃ st3,msFor mi (tgName i) body l st = .rt bad st3 ∧ Kp [] st st3):=by
  obtain ⟨m,rp,s1,e1,h1,h2,h3,h4,k1⟩:=patterns_ok (st:=st) hfirm
  have it:=hmi m s1 e1 _ h2
  have lp:=loopS_all (t:=tgName i) (body:=body) (k:=fun a : Nat × Pat => D.ref a.1) (P:=fun a => Q a.2) (J:=J) (bad:=bad) (src_one h2 h1) rp (fun a ha l st2 hl hk => by
    refine ⟨_,rfl,?_⟩
    exact step a.2 (by rw [← h4]; exact List.mem_map.mpr ⟨a,ha,rfl⟩) a.1 l st2 hl (k1.trans hk) ((h3 a ha).mv0 hk)) l s1 hJ Kp.refl
  rw [all_snd (P:=Q) h4] at lp
  rw [ev_msFor,it]
  simp only [ev_toS_ok]
  split
  · rename_i w
    rw [if_pos w] at lp
    obtain ⟨l',s3,e,j,k⟩:=lp
    exact ⟨l',s3,e,j,k1.trans k⟩
  · rename_i w
    rw [if_neg w] at lp
    obtain ⟨s3,e,k⟩:=lp
    exact ⟨s3,e,k1.trans k⟩
theorem dots_all {J : DV.Loc → Prop} {body : MS} {i : Nat} {Q : Int × Int → Bool} {bad : D} {p : Pic} {d3 d4 : D} {l : DV.Loc} {st : Store} {mi : MI} (hW : 0 < p.W) (hW2 : p.W ≤ 30) (hH : 0 < p.Hh) (hH2 : p.Hh ≤ 30) (hmi : ∀ m s1,F_law_dots [.tup [.int p.W,.int p.Hh,d3,d4]] st = .ok (.ref m) s1 → ∀ xs,s1.at_ m = some (.lst xs) → mi l st = .ok ⟨[(m,xs)],xs⟩ s1) (hJ : J l)
    (step : ∀ q ∈ dotsL p.W p.Hh,∀ l st2,J l → Kp [] st st2 → (if Q q = true then ∃ l2 st3,body (l.set i (some (dotD q))) st2 = .nx l2 st3 ∧ J l2 ∧ Kp [] st2 st3 else ∃ st3,body (l.set i (some (dotD q))) st2 = .rt bad st3 ∧ Kp [] st2 st3)) :
    (if (dotsL p.W p.Hh).all Q = true then ∃ l2 st3,msFor mi (tgName i) body l st = .nx l2 st3 ∧ J l2 ∧ Kp [] st st3 else ∃ st3,msFor mi (tgName i) body l st = .rt bad st3 ∧ Kp [] st st3):=by
  obtain ⟨m,s1,e1,h1,h2,k1⟩:=dots_ok (p:=p) (d3:=d3) (d4:=d4) (st:=st) hW hW2 hH hH2
  have it:=hmi m s1 e1 _ h2
  have lp:=loopS_all (t:=tgName i) (body:=body) (k:=dotD) (P:=Q) (J:=J) (bad:=bad) (src_one h2 h1) (dotsL p.W p.Hh) (fun q hq l st2 hl hk => ⟨_,rfl,step q hq l st2 hl (k1.trans hk)⟩) l s1 hJ Kp.refl
  rw [ev_msFor,it]
  simp only [ev_toS_ok]
  split
  · rename_i w
    rw [if_pos w] at lp
    obtain ⟨l',s3,e,j,k⟩:=lp
    exact ⟨l',s3,e,j,k1.trans k⟩
  · rename_i w
    rw [if_neg w] at lp
    obtain ⟨s3,e,k⟩:=lp
    exact ⟨s3,e,k1.trans k⟩
end G
namespace G
open DV PySem L2
def goS (solid : List Str) (who : Str) (on : Bool) (bs : List Bool) (fs : List Fr) : Nat → Stand → Stand
  | 0,s => s
  | n + 1,s => goS solid who on bs fs n (if on then lastS solid who bs fs s else s)
def turnS (p : Pic) (who way : Str) (turn : Nat) (bs : List Bool) : List Stand:=showS p.firm who bs p.fs (goS p.firm who (decide (way = "on")) bs p.fs (turn - 1) nothing)
end G
namespace G
open DV PySem L2
noncomputable section
end
end G
namespace G
open DV PySem L2
section
variable {n : Nat} {p : Pic} {who way : Str} {turn b : Nat}
end
end G
namespace G
open DV PySem L2
theorem seq_nx {a b : MS} {l l' : DV.Loc} {st st' : Store} (h : a l st = .nx l' st') : msSeq a b l st = b l' st':=by rw [ev_msSeq,h]
theorem seq_rt {a b : MS} {l : DV.Loc} {d : D} {st st' : Store} (h : a l st = .rt d st') : msSeq a b l st = .rt d st':=by rw [ev_msSeq,h]
theorem for_is {mi : MI} {t : TGT} {body : MS} {l : DV.Loc} {st st1 : Store} {it : Iter} {r : RS} (h : mi l st = .ok it st1) (e : loopS t body it.srcs it.items l st1 = r) : msFor mi t body l st = r:=by
  rw [ev_msFor,h]
  exact e
theorem def_rt {n len : Nat} {body : MS} {ds : List D} {l : DV.Loc} {d : D} {st st' : Store} (hn : ds.length = n) (hl : ds.map some ++ List.replicate (len - n) none = l) (h : body l st = .rt d st') : mDef n len body ds st = .ok d st':=by
  subst hl
  rw [ev_mDef,if_pos hn,h]
theorem def_nx {n len : Nat} {body : MS} {ds : List D} {l l' : DV.Loc} {st st' : Store} (hn : ds.length = n) (hl : ds.map some ++ List.replicate (len - n) none = l) (h : body l st = .nx l' st') : mDef n len body ds st = .ok .non st':=by
  subst hl
  rw [ev_mDef,if_pos hn,h]
end G
namespace G
open DV PySem L2
noncomputable section
end
end G
namespace G
open DV PySem L2
section
variable {n : Nat} {p : Pic} {st : Store}
end
end G
namespace G
open DV PySem L2
noncomputable section
end
end G
namespace G
open DV PySem L2
def enP (i : Nat) : List Stand → List Stand → List (Nat × Stand × Stand)
  | s :: ss,t :: ts => (i,s,t) :: enP (i + 1) ss ts
  | _,_ => []
def diffN (ss ts : List Stand) : List Nat:=((enP 0 ss ts).filter fun q => !decide (q.2.1 = q.2.2)).map (·.1)
def putF (F : Nat → Option (Int × Int)) (ks : List Nat) (q : Int × Int) : Nat → Option (Int × Int):=fun b => if b ∈ ks then (F b).or (some q) else F b
def firstC (diff : Box → List Nat) (cs : List Box) (b : Nat) : Option (Int × Int):=(cs.find? fun c => decide (b ∈ diff c)).map fun c => (c.l,c.t)
end G
namespace G
open DV PySem L2
def shown (p : Pic) (who : Str) (s : Stand) (bs : List Bool) : List Stand:=showS p.firm who bs p.fs s
section
variable {n1 n2 : Nat} {p q : Pic} {w1 w2 : Str} {s : Stand} {st : Store}
def cells2 (p q : Pic) : List Box:=cellsG p.W p.Hh (p.fs ++ q.fs)
def diff2 (p q : Pic) (w1 w2 : Str) (s : Stand) (c : Box) : List Nat:=diffN (shown p w1 s (p.cov c.l c.t)) (shown q w2 s (q.cov c.l c.t))
def beats2 (p q : Pic) : Nat:=min p.fs.length q.fs.length
end
end G
namespace G
open DV PySem L2
end G
namespace G
open DV PySem L2
section
variable {n : Nat} {p : Pic} {who way : Str} {st : Store}
def diffA (p : Pic) (who way : Str) (c : Box) : List Nat:=diffN (turnS p who way 1 (p.cov c.l c.t)) (turnS p who way 2 (p.cov c.l c.t))
end
end G
namespace G
open DV PySem L2
def bef (a b : Int × Int) : Prop:=a.2 < b.2 ∨ (a.2 = b.2 ∧ a.1 < b.1)
section
variable {p : Pic} {who : Str}
end
end G
namespace DV
open PySem PySem.Spec PyProof.Rows L2 NdefX LamX
theorem un_over {fs fs' : List Addr} {H H1 H2 : Hp} {h h1 h2 : Heap} (a : Un fs [] H H1 h h1) (b : Un fs' [] H1 H2 h1 h2) (hs : ∀ c ∈ fs',c ∈ fs ∨ h.objs.size ≤ c) : Un fs [] H H2 h h2 where
  keep:=fun c ob q n hc hx => b.keep c ob (a.keep c ob q n hc hx) (a.free c ob q n hx) (fun z => (hs c z).elim hc fun y => Nat.lt_irrefl _ (Nat.lt_of_lt_of_le (Heap.lt_size q) y)) hx
  slot:=fun c ob q n hc hx => by
    obtain ⟨sl,e1⟩:=a.slot c ob q n hc hx
    obtain ⟨sl',e2⟩:=b.any e1 (a.free c ob q n hx) hx
    exact ⟨sl',e2⟩
  free:=fun c ob q n hx => by
    obtain ⟨o',e1⟩:=a.there c ob q hx
    exact b.free c o' e1 (a.free c ob q n hx) hx
  there:=fun c ob q hx => by
    obtain ⟨o',e1⟩:=a.there c ob q hx
    exact b.there c o' e1 hx
  tups:=fun c xs q => b.tups c xs (a.tups c xs q)
  frzs:=fun c ob xs q => b.frzs c ob xs (a.frzs c ob xs q)
  tbls:=fun c ps q => by
    obtain ⟨m1,e1⟩:=a.tbls c ps q
    obtain ⟨m2,e2⟩:=b.tbls c _ e1
    exact ⟨m1 ++ m2,by rw [e2,Array.append_assoc]⟩
section
variable {X : Cx} {pins : List (Addr × Obj)} {σ : L2.St} {H H' : Hp} {s s' : Shared} {aT : Nat → Addr} {T : List NTab} {p : PP}
theorem clo_lamG {A' : Around} {outer' : List Env} {Eg : XK} {Ng : List Str} {qg : Str} {sg : Scope} {g f c' P2 : Addr} {cdg pm ctv : Value} {params : Arguments} {body : Expr} {scope : Scope} {k i : Nat} {y : Str} {m : ME} {l : Loc}
    (I : Inv X pins σ H s) (L : LamS X.env.scope scope) (hf : s.heap.get? f = some (PySem.W.kla_obj "<lambda>" (X.env.qual ++ "<lambda>") params body scope (cloFrom X.env.cells scope.names []) pm c' ctv)) (hfn : H f = none) (hfr : f ∉ frs X.stack)
    (hbind : bindArgs (PySem.W.kla_fn "<lambda>" (X.env.qual ++ "<lambda>") params body scope (cloFrom X.env.cells scope.names []) pm (.ref c') ctv) ⟨[],[]⟩ = pure [])
    (un0 : Un (frs X.stack) [] H H' s.heap s'.heap) (hsub : ∀ c ∈ frs outer',c ∈ frs X.stack ∨ s.heap.objs.size ≤ c)
    (hr : RoomG (k + 1) (A'.deeper (envOfC qg sg s'.heap.objs.size g cdg))) (hp : ∀ μ N H,p.P X.K μ N H → (ppL l σ c' (X.env.qual ++ "<lambda>") P2).P X.K μ N H)
    (hbody : ∀ (A : Around) (outer : List Env) (s : Shared) (H : Hp) (E : XK),RoomG k (A.deeper (lamEnv X scope s.heap.objs.size f c')) → Takes (lamCx X A outer s H E scope f c') (fun cls d _ H => E cls d H) → SE (lamCx X A outer s H E scope f c') (CL.of aT T p) (fun cls d _ H => E cls d H) body m)
    (hN : Ng[i]? = some y) (hv : Vis sg y) (hd : (y == ("__debug__" : Str)) = false:=by decide) (hcd : (y == ("__classdict__" : Str)) = false:=by decide) :
    CloL (cxOf (L2.CX X.prog X.w) X.prog X.w X.K X.mg X.base Ng qg sg g cdg A' outer' s' H' Eg) (CL.of aT T p) i y f (m l):=by
  refine ⟨fun pn xe W p1 p2 tk => ⟨fun pinsZ sZ σZ HZ Q IZ ⟨μ,st,lZ,S,LZ,h⟩ => ?_⟩⟩
  unfold mAct at h
  cases q : lZ[i]? with
  | none => rw [q] at h; exact h.elim
  | some o =>
    rw [q] at h
    cases o with
    | none => exact h.elim
    | some d1 =>
      cases d1 with
      | cst v2 =>
        cases v2 with
        | ref g2 =>
          simp only at h
          by_cases hga : g2 = f
          · subst hga
            rw [if_pos rfl] at h
            obtain ⟨v3,hs,rv⟩:=LZ.2 i _ q
            simp only [VR] at rv
            subst rv
            obtain ⟨hL,hc⟩:=hp _ _ _ S.pp
            refine wpAny_Call_Name_kw (thn ((pe_var (pos:=p1) (i:=i) hN hv hd hcd).run pinsZ sZ σZ HZ (fun v H1 => v = .ref g2 ∧ H1 = HZ) IZ ⟨.ref g2,hs,rfl,rfl⟩) fun u s1 ⟨v,H1,I1,r1,q1⟩ => ?_)
            obtain ⟨ev,eH⟩:=q1
            subst ev
            rw [eH] at I1
            obtain rfl : u = Value.ref g2:=r1
            have un : Un (frs X.stack) [] H HZ s.heap s1.heap:=un_over un0 I1.base hsub
            have of1 : s1.heap.get? g2 = some (PySem.W.kla_obj "<lambda>" (X.env.qual ++ "<lambda>") params body scope (cloFrom X.env.cells scope.names []) pm c' ctv):=un.keep g2 _ hf hfn hfr (fun z => nomatch (show g2 ∈ ([] : List Addr) from z))
            refine PySem.W.callWith_F0 ⟨_,_,_,_,of1⟩ ?_
            obtain ⟨⟨⟨oc,vs,t,hoc,hdc,hvc⟩,_⟩,_,_⟩:=I1.hok c' _ hc
            have rc : codeAny (model X.prog X.w) (A'.deeper (envOfC qg sg s'.heap.objs.size g cdg)) (.call (.ref g2) ⟨[],[]⟩) (CR (L2.CX X.prog X.w) (envOfC qg sg s'.heap.objs.size g cdg :: outer') X.prog X.w HZ s1 Q (WE W σZ)) s1:=by
              refine PySem.W.kla_callFunE hr.room.depth of1 rfl L.co L.gen rfl ⟨c',oc,vs,t,rfl,hoc,hdc,hvc⟩ ?_
              rw [hbind]
              refine wpAny_pure (wpAny_newFunctionEnv (fun y hy => (L.own y hy).2) (fun y hy => absurd hy (by simp)) (fun h₁ hns hsb => ⟨I1.nolimit.fresh _ hsb,?_⟩) L.kind)
              show codeAny _ _ (.expr body (lamEnv X scope s1.heap.objs.size g2 c')) _ _
              have kp : ∀ b o,s1.heap.get? b = some o → h₁.get? b = some o:=fun b o e => hsb.extBut b o (Nat.ne_of_lt (Heap.lt_size e)) (Heap.get?_push_of_some _ e)
              have J : Inv (lamCx X (A'.deeper (envOfC qg sg s'.heap.objs.size g cdg)) (envOfC qg sg s'.heap.objs.size g cdg :: outer') s1 HZ (WE W σZ) scope g2 c') [] σ HZ { s1 with heap:=h₁,toks:=s1.toks + ([] : List (Str × Value)).length }:=
                lam_start2 I L I1.env0 hr.room.hd un hns kp
              have body':=hbody (A'.deeper (envOfC qg sg s'.heap.objs.size g cdg)) (envOfC qg sg s'.heap.objs.size g cdg :: outer') s1 HZ (WE W σZ) ⟨hr.room.deeper _,hr.g⟩ (takes_of rfl rfl rfl rfl)
              refine PySem.W.kla_codeExpr (wpAny_mono (body'.run [] _ _ HZ Q J ⟨μ,st,l,S,hL,h⟩) (fun v s' hq => ?_) fun e s' hq => hq)
              obtain ⟨w',H',J',rv,q⟩:=hq
              exact ⟨w',H',J'.os,J'.bare,J'.base,J'.hok,rv,q⟩
            refine wpAny_call (codeAny_mono rc fun r s' hq => ?_)
            cases r with
            | error e => exact passAt tk σZ pinsZ HZ s1 e s' I1 hq
            | ok fl =>
              cases fl with
              | ret u => exact I1.after hq
              | next => exact False.elim hq
              | brk => exact False.elim hq
              | cont => exact False.elim hq
          · rw [if_neg hga] at h; exact h.elim
        | _ => exact h.elim
      | _ => exact h.elim
end
structure CloQ (X : Cx) (cl : CL) (k : Nat) (f : Addr) (Fd : Store → Res D) : Prop where
  at_ : ∀ (pins : List (Addr × Obj)) (σ : L2.St) (H : Hp) (s : Shared),Inv X pins σ H s → ∀ (Ng : List Str) (qg : Str) (sg : Scope) (g : Addr) (cdg : Value) (E : XK) (i : Nat) (y : Str),RoomG (k + 1) (X.A.deeper (envOfC qg sg s.heap.objs.size g cdg)) → Ng[i]? = some y → Vis sg y →
    (y == ("__debug__" : Str)) = false → (y == ("__classdict__" : Str)) = false → CloL (cxOf (L2.CX X.prog X.w) X.prog X.w X.K X.mg X.base Ng qg sg g cdg X.A X.stack s H E) cl i y f Fd
section
variable {X : Cx} {pins : List (Addr × Obj)} {σ : L2.St} {H : Hp} {s : Shared} {aT : Nat → Addr} {T : List NTab} {p : PP}
theorem clo_lamQ {Eg : XK} {Ng : List Str} {qg : Str} {sg : Scope} {g f c' P2 : Addr} {cdg pm ctv : Value} {params : Arguments} {body : Expr} {scope : Scope} {k : Nat} {m : ME} {l : Loc}
    (I : Inv X pins σ H s) (L : LamS X.env.scope scope) (hf : s.heap.get? f = some (PySem.W.kla_obj "<lambda>" (X.env.qual ++ "<lambda>") params body scope (cloFrom X.env.cells scope.names []) pm c' ctv)) (hfn : H f = none) (hfr : f ∉ frs X.stack)
    (hbind : bindArgs (PySem.W.kla_fn "<lambda>" (X.env.qual ++ "<lambda>") params body scope (cloFrom X.env.cells scope.names []) pm (.ref c') ctv) ⟨[],[]⟩ = pure [])
    (hp : ∀ μ N H,p.P X.K μ N H → (ppL l σ c' (X.env.qual ++ "<lambda>") P2).P X.K μ N H)
    (hbody : ∀ (A : Around) (outer : List Env) (s : Shared) (H : Hp) (E : XK),RoomG k (A.deeper (lamEnv X scope s.heap.objs.size f c')) → Takes (lamCx X A outer s H E scope f c') (fun cls d _ H => E cls d H) → SE (lamCx X A outer s H E scope f c') (CL.of aT T p) (fun cls d _ H => E cls d H) body m) :
    CloQ (cxOf (L2.CX X.prog X.w) X.prog X.w X.K X.mg X.base Ng qg sg g cdg X.A X.stack s H Eg) (CL.of aT T p) k f (m l):=
  ⟨fun pins1 σ1 H1 s1 I1 Ng1 qg1 sg1 g1 cdg1 E1 i y hr hN hv hd hcd => clo_lamG (X:=X) I L hf hfn hfr hbind I1.base (fun c z => by
    rcases List.mem_cons.mp (I1.stkSub c z) with e | e
    · exact .inr (Nat.le_of_eq e.symm)
    · exact .inl e) hr hp hbody hN hv hd hcd⟩
end
structure FnP (P : Program) (w : World) (K : PySem.W.Frag) (mg : Str → Option Value) (base : Heap) (aT : Nat → Addr) (T : List NTab) (k : Nat) (N : List Str) (qual : Str) (st : Stmt) (g : Addr) (fd : FuncData) (ps : List Str) (G : Addr → (Store → Res D) → FD) : Prop where
  len : ∀ f Fd ds st,G f Fd ds st ≠ .bad → ds.length = ps.length
  run : ∀ (j : Nat) (p : PP) (f : Addr) (Fd : Store → Res D) (A : Around) (outer : List Env) (s : Shared) (H : Hp) (args : Args) (us : List Value) (vs : List V) (Q : VK) (E : XK),RoomG (j + k) A → Env0 P w K mg base A outer s H → BindsTo s fd args (ps.zip us) → Vals vs us →
    (∀ cdv,CloQ (cxD P w K mg base N qual st g cdv A outer s H E) (CL.of aT T p) j f Fd) → spF K (CL.of aT T p) (G f Fd) vs H Q E → codeAny (model P w) A (.call (.ref g) args) (CR (L2.CX P w) outer P w H s Q E) s
section
variable {P : Program} {w : World} {K : PySem.W.Frag} {mg : Str → Option Value} {base : Heap} {aT : Nat → Addr} {T : List NTab}
theorem fnp_of {x qual : Str} {st : Stmt} {g : Addr} {fd : FuncData} {N ps : List Str} {k len n : Nat} {mb : Addr → (Store → Res D) → MS} (F : FunA K x qual st g fd) (S : FnScope N ps (defScope st)) (hn : ps.length = n) (hl : N.length = len)
    (hbody : ∀ (j : Nat) (p : PP) (f : Addr) (Fd : Store → Res D) (cdv : Value) (A : Around) (outer : List Env) (s : Shared) (H : Hp) (E : XK),CloQ (cxD P w K mg base N qual st g cdv A outer s H E) (CL.of aT T p) j f Fd → RoomG (j + k) (A.deeper (envOfC qual (defScope st) s.heap.objs.size g cdv)) →
      Takes (cxD P w K mg base N qual st g cdv A outer s H E) (fun cls d _ H => E cls d H) →
      SSs (cxD P w K mg base N qual st g cdv A outer s H E) (CL.of aT T p) (fun cls d _ H => E cls d H) (defBody st) (mb f Fd)) : FnP P w K mg base aT T (k + 1) N qual st g fd ps (fun f Fd => mDef n len (mb f Fd)):=by
  have hlen : ∀ f Fd ds st,mDef n len (mb f Fd) ds st ≠ .bad → ds.length = ps.length:=fun f Fd ds t h => by
    unfold mDef at h
    by_cases z : ds.length = n
    · rw [z,hn]
    · rw [if_neg z] at h; exact absurd rfl h
  obtain ⟨oc,od,dV,kV,doc,pm,an,cdv,ct,osl,efd,lk,hcd⟩:=F.ex
  refine ⟨hlen,fun j p f Fd A outer s H args us vs Q E hr e0 hb r clo ⟨μ,t,ds,SS,rv,h⟩ => ?_⟩
  subst efd
  have hvl : vs.length = ps.length:=by rw [← rv.length]; exact hlen f Fd ds t h.nb
  have kin0 : K.In s.heap:=e0.mod.kin.keeps fun b o e => (e0.bs b o e).1
  have nolim : s.heap.NoLimit:=e0.mod.nolimit.keeps fun b o e => (e0.bs b o e).1
  have binds : ∀ y ∈ ps.zip us,(defScope st).names.lookup y.1 = some .local ∨ ((defScope st).names.lookup y.1 = some .cell ∧ ((cellsFrom (s.heap.objs.size + 1) (defScope st).names []).lookup y.1).isSome = true):=by
    rintro ⟨n,v⟩ hy
    rcases S.par n (List.of_mem_zip hy).1 with c | c
    · exact .inl c
    · exact .inr ⟨c,PySem.W.cellsFrom_some _ _ _ (.inl c)⟩
  have hr0 : RoomG (j + k + 1) A:=hr
  have hr1 : RoomG (j + k) (A.deeper (envOfC qual (defScope st) s.heap.objs.size g cdv)):=⟨hr0.room.deeper _,hr0.g⟩
  refine codeAny_call_function hr0.room.depth (kin0 _ _ lk) rfl S.co S.gen rfl (PySem.W.codeRec_of kin0 hcd) (hb _ _ _ _ ?_)
  refine wpAny_newFunctionEnv_cells S.kind binds fun env1 henv t1 icc => ?_
  subst henv
  refine ⟨nolim.keeps icc.toInCall.keep,codeAny_func ?_⟩
  have body:=hbody j p f Fd cdv A outer s H E (clo cdv) hr1 (takes_of rfl rfl rfl rfl)
  have I0 : Inv (cxD P w K mg base N qual st g cdv A outer s H E) [] (L2.start N vs) H t1:=inv_start S hr0.room.hd e0 hvl r icc
  have want : rdS K (CL.of aT T p) (fun cls d _ H => E cls d H) (mb f Fd) { nx:=fun _ H' => Q .non H',rt:=Q } (L2.start N vs) H:=by
    refine ⟨μ,t,_,SS,rv.start hl,?_⟩
    unfold mDef at h
    have z : ds.length = n:=by rw [rv.length,hvl,hn]
    rw [if_pos z] at h
    rw [z]
    cases q : mb f Fd (ds.map some ++ List.replicate (len - n) none) t with
    | rt d st' => rw [q] at h; exact h
    | nx l st' =>
      rw [q] at h
      exact fun μ' H' σ' s e _ => h μ' H' .non s e (by simp only [VR])
    | exc c fs l st' =>
      rw [q] at h
      exact fun μ' H' σ' cls d s e _ x => h μ' H' cls d s e x
    | bk l st' => rw [q] at h; exact h.elim
    | ct l st' => rw [q] at h; exact h.elim
    | bad => rw [q] at h; exact h.elim
  refine wpAny_mono (body.run [] t1 (L2.start N vs) H _ I0 want) (fun fl t2 hs => ?_) fun _ _ hs => hs
  cases fl with
  | ret u =>
    obtain ⟨v,σ',H',J,rv,q⟩:=hs
    exact ⟨v,H',J.os,J.bare,J.base,J.hok,rv,q⟩
  | next =>
    obtain ⟨σ',H',J,q⟩:=hs
    exact ⟨V.non,H',J.os,J.bare,J.base,J.hok,rfl,q⟩
  | brk => exact hs.elim fun _ h => h.elim fun _ h => h.2.elim
  | cont => exact hs.elim fun _ h => h.elim fun _ h => h.2.elim
end
def mFwd (i : Nat) (G : Addr → (Store → Res D) → FD) (f : Addr) (Fd : Store → Res D) : ME:=fun l st => match l[i]? with
  | some (some (.cst (.ref g))) => if g = f then G f Fd [.cst (.ref f)] st else .bad
  | _ => .bad
section
variable {X : Cx} {aT : Nat → Addr} {T : List NTab} {p : PP} {W : WX}
theorem s_fwd {x y v qual : Str} {g f : Addr} {k kf i : Nat} {N : List Str} {st : Stmt} {fd : FuncData} {G : Addr → (Store → Res D) → FD} {Fd : Store → Res D} {pp p1 pos : Pos}
    (C : CloQ X (CL.of aT T p) k f Fd) (F : FnL X.prog X.w X.K X.mg X.base aT T kf N qual st g fd y G) (hr : RoomG (k + 2) X.A) (hrf : RoomG kf X.A) (tk : Takes X W) (hm : X.mg x = some (.ref g)) (hk : PySem.W.keepIn X.K (.ref g) = true) (hb : Binds X.K fd [y] []) (hNy : N[0]? = some y) (hvy : Vis (defScope st) y)
    (hi : X.N[i]? = some v) (hvv : Vis X.env.scope v) (hg : Gl X x:=by rfl) (hdb : (x == ("__debug__" : Str)) = false:=by decide) (hd : (y == ("__debug__" : Str)) = false:=by decide) (hcd : (y == ("__classdict__" : Str)) = false:=by decide)
    (hd1 : (v == ("__debug__" : Str)) = false:=by decide) (hcd1 : (v == ("__classdict__" : Str)) = false:=by decide) :
    SE X (CL.of aT T p) W (.Call (.Name x pp) [.Name v p1] [] pos) (mFwd i G f Fd):=by
  refine ⟨fun pins s σ H Q I ⟨μ,t,l,S,L,h⟩ => ?_⟩
  unfold mFwd at h
  cases q : l[i]? with
  | none => rw [q] at h; exact h.elim
  | some o =>
    rw [q] at h
    cases o with
    | none => exact h.elim
    | some d1 =>
      cases d1 with
      | cst v2 =>
        cases v2 with
        | ref g2 =>
          simp only at h
          by_cases hga : g2 = f
          · subst hga
            rw [if_pos rfl] at h
            obtain ⟨v3,hs,rv⟩:=L.2 i _ q
            simp only [VR] at rv
            subst rv
            refine wpAny_Call_Name_kw (ld_glob I hg hm ?_ hdb)
            refine PySem.W.callWith_K (h₀:=X.base) I.ok.mod.kin hk ?_ (by rfl) (by rfl)
            show wpAny _ _ (spliced ((false,eval (.Name v p1) X.env) :: backTo pos (starEach [] X.env))) _ _ s
            refine Calls.spliced_cons (thn ((pe_var (pos:=p1) (i:=i) hi hvv hd1 hcd1).run pins s σ H (fun v H1 => v = .ref g2 ∧ H1 = H) I ⟨.ref g2,hs,rfl,rfl⟩) fun u s1 ⟨v,H1,I1,r1,q1⟩ => ?_)
            obtain ⟨ev,eH⟩:=q1
            subst ev
            rw [eH] at I1
            obtain rfl : u = Value.ref g2:=r1
            refine Calls.spliced_nil ⟨I1.kIn,?_⟩
            have b:=hb s1 [Value.ref g2] I1.kIn rfl
            rw [List.append_nil] at b
            refine wpAny_call (codeAny_mono (F.run p g2 Fd X.A X.stack s1 H ⟨[.ref g2],[]⟩ Q (WE W σ) hrf I1.env0 b (fun cdv => C.at_ pins σ H s1 I1 N qual (defScope st) g cdv (WE W σ) 0 y ⟨hr.room.deeper _,hr.g⟩ hNy hvy hd hcd) ⟨μ,t,[.cst (.ref g2)],S,VRs.one (by simp only [VR]),h⟩) fun r s2 hq => ?_)
            cases r with
            | error e => exact passAt tk σ pins H s1 e s2 I1 hq
            | ok fl =>
              cases fl with
              | ret u => exact I1.after hq
              | next => exact False.elim hq
              | brk => exact False.elim hq
              | cont => exact False.elim hq
          · rw [if_neg hga] at h; exact h.elim
        | _ => exact h.elim
      | _ => exact h.elim
end
open Classical in
noncomputable def mLamA (m : ME) (G : Addr → (Store → Res D) → FD) (xs : MA) : ME:=fun l st => (xs l st).bind fun ds st1 => if h : ∃ r,∀ f,G f (m l) (.cst (.ref f) :: ds) st1 = r then Classical.choose h else .bad
theorem mLamA_eq {m : ME} {G : Addr → (Store → Res D) → FD} {xs : MA} {l : Loc} {st st1 : Store} {ds : List D} {r : Res D} (hx : xs l st = .ok ds st1) (h : ∀ f,G f (m l) (.cst (.ref f) :: ds) st1 = r) : mLamA m G xs l st = r:=by
  have e : ∃ r,∀ f,G f (m l) (.cst (.ref f) :: ds) st1 = r:=⟨r,h⟩
  unfold mLamA
  rw [hx]
  exact (dif_pos e).trans ((Classical.choose_spec e 0).symm.trans (h 0))
section
variable {X : Cx} {aT : Nat → Addr} {T : List NTab} {p : PP} {W : WX}
theorem s_lamP {x qual : Str} {g c P : Addr} {k kp : Nat} {N ps : List Str} {st : Stmt} {fd : FuncData} {G : Addr → (Store → Res D) → FD} {nm : Nat → Nat → Str} {params : Arguments} {body : Expr} {scope : Scope} {m : ME} {es : List Expr} {xs : MA} {pp lpos pos : Pos}
    (F : FnP X.prog X.w X.K X.mg X.base aT T kp N qual st g fd ps G) (hr : RoomG (k + kp) X.A) (tk : Takes X W) (hm : X.mg x = some (.ref g)) (hk : PySem.W.keepIn X.K (.ref g) = true) (hb : Binds X.K fd ps [])
    (TB : TabB X.base X.mg c P) (hcode : X.env.code = .ref c) (hmT : (P,nm) ∈ T) (hn : nm lpos.line lpos.col = X.env.qual ++ "<lambda>") (hu : ∀ t ∈ T,t.1 = P → t.2 = nm) (L : LamS X.env.scope scope) (hdef : defaultsOf params X.env = ([],[]))
    (hbind : ∀ (q : Str) (cl : List (Str × Addr)) (pm cv ctv : Value),bindArgs (PySem.W.kla_fn "<lambda>" q params body scope cl pm cv ctv) ⟨[],[]⟩ = pure [])
    (ha : SA X (CL.of aT T p) W es xs)
    (hbody : ∀ (p : PP) (A : Around) (outer : List Env) (s : Shared) (H : Hp) (E : XK) (f c' P2 : Addr),(∀ μ N H,p.P X.K μ N H → H c' = some (CodeT c' (X.env.qual ++ "<lambda>") P2)) → RoomG k (A.deeper (lamEnv X scope s.heap.objs.size f c')) → Takes (lamCx X A outer s H E scope f c') (fun cls d _ H => E cls d H) → SE (lamCx X A outer s H E scope f c') (CL.of aT T p) (fun cls d _ H => E cls d H) body m)
    (hg : Gl X x:=by rfl) (hdb : (x == ("__debug__" : Str)) = false:=by decide) (he : starEach (.Lambda params body scope lpos :: es) X.env = (false,eval (.Lambda params body scope lpos) X.env) :: starEach es X.env:=by rfl) (hpl : (backTo pos (starEach es X.env)).any (·.1) = false:=by rfl) :
    SE X (CL.of aT T p) W (.Call (.Name x pp) (.Lambda params body scope lpos :: es) [] pos) (mLamA m G xs):=by
  refine ⟨fun pins s σ H Q I ⟨μ,t,l,S,L2,h⟩ => ?_⟩
  refine wpAny_Call_Name_kw (ld_glob I hg hm ?_ hdb)
  refine PySem.W.callWith_K (h₀:=X.base) I.ok.mod.kin hk ?_ he hpl
  rw [he]
  show wpAny _ _ (spliced ((false,eval (.Lambda params body scope lpos) X.env) :: backTo pos (starEach es X.env))) _ _ s
  refine Calls.spliced_cons (lam_makeD I TB hcode S.tb (.inl ⟨rfl,rfl,_,hmT,hn,hu⟩) hdef (L.has I.ok) fun f c' P2' pm' ctv H1 s' I1 eN back T1 hf hfn hfr hco => ?_)
  have e : Ev X.K μ t.nxt H μ t.nxt H1:=by
    refine ⟨⟨Nat.le_refl _,fun _ _ => rfl,fun q vs z => ?_,fun q vs z => ?_,fun q φ z _ => eN _ _ z (fun _ y => by cases y),fun q fs z => eN _ _ z (fun _ y => by cases y),fun q ob u z => eN _ _ z (fun _ y => by cases y)⟩,fun b o z _ nt => eN _ _ z nt,fun n h1 h2 => absurd h2 (by omega),fun b z y => z (back b y)⟩
    · rcases z with (z | ⟨u,z⟩) | z
      · exact .inl (.inl (eN _ _ z (fun _ y => by cases y)))
      · exact .inl (.inr ⟨u,eN _ _ z (fun _ y => by cases y)⟩)
      · exact .inr z
    · rcases z with ⟨u,z⟩ | z
      · exact .inl ⟨u,eN _ _ z (fun _ y => by cases y)⟩
      · exact .inr z
  have S1 : SR X.K (CL.of aT T p) μ t H1:=by
    refine ⟨S.inj,fun n hn => ?_,S.out,p.up e.toEv0 S.pp,T1⟩
    obtain ⟨cc,h1,h2⟩:=S.cell n hn
    refine ⟨cc,h1,h2.ev e ?_⟩
    obtain ⟨o,ho,hc⟩:=h2.there0
    rw [ho]
    exact eN _ _ ho (fun ps y => hc ps y)
  -- the lambda's object is pinned while the arguments are made
  have fne : f ≠ X.env.locals:=fun z => by
    obtain ⟨mm,⟨o,es',ep,ho,hd',_⟩,_⟩:=I1.loc
    rw [← z,hf] at ho
    cases ho
    cases hd'
  have fnx : f ∉ X.fs:=fun z => by
    refine hfr ?_
    rcases I1.ok.stk with e | ⟨e,_⟩
    · rw [e]; exact z
    · rw [e]
      unfold frs
      rw [List.filterMap_cons]
      split
      · exact z
      · exact List.mem_cons_of_mem _ z
  have Ip : Inv X ((f,PySem.W.kla_obj "<lambda>" (X.env.qual ++ "<lambda>") params body scope (cloFrom X.env.cells scope.names []) pm' c' ctv) :: pins) σ H1 s':=I1.pins_of fun r hr => by
    rcases List.mem_cons.mp hr with rfl | hr
    · exact ⟨hf,hfn,fne,fnx,fun v z => by cases z⟩
    · exact I1.pin r (List.mem_append_right _ hr)
  have want : rdA X.K (CL.of aT T p) W xs σ H1 fun vs H2 => ∃ (μ2 : Nat → Addr) (st2 : Store) (ds : List D),SR X.K (CL.of aT T p) μ2 st2 H2 ∧ Ev X.K μ t.nxt H1 μ2 st2.nxt H2 ∧ VRs X.K μ2 st2.nxt H2 ds vs ∧ Post X.K (CL.of aT T p) (VR X.K) μ2 st2.nxt H2 Q (WE W σ) (G f (m l) (.cst (.ref f) :: ds) st2):=by
    refine ⟨μ,t,l,S1,L2.ev e,?_⟩
    have g : Post X.K (CL.of aT T p) (VR X.K) μ t.nxt H1 Q (WE W σ) (mLamA m G xs l t):=Post.mono e h
    refine Post.bind g fun ds st2 μ2 H2 vs _ S2 e2 r2 h2 => ⟨μ2,st2,ds,S2,e2,r2,?_⟩
    by_cases z : ∃ r,∀ f,G f (m l) (.cst (.ref f) :: ds) st2 = r
    · obtain ⟨r,hr⟩:=z
      rw [hr f]
      rw [dif_pos ⟨r,hr⟩] at h2
      have:=Classical.choose_spec (⟨r,hr⟩ : ∃ r,∀ f,G f (m l) (.cst (.ref f) :: ds) st2 = r) f
      rw [← this,hr f] at h2
      exact h2
    · rw [dif_neg z] at h2
      exact h2.elim
  refine wpAny_mono (ha.run pos _ s' σ H1 _ Ip want) (fun us s2 hu2 => ?_) fun _ _ z => z
  obtain ⟨vs,H2,I2,rvs,μ2,st2,ds,S2,e2,r2,h2⟩:=hu2
  have pin2:=I2.pin _ (List.mem_append_right _ List.mem_cons_self)
  have I3 : Inv X pins σ H2 s2:=I2.pins_of fun r hr => I2.pin r (List.mem_append_right _ (List.mem_cons_of_mem _ hr))
  refine ⟨I3.kIn,?_⟩
  have hl : (ds.length + 1) = ps.length:=F.len f (m l) (.cst (.ref f) :: ds) st2 h2.nb
  have hlu : (Value.ref f :: us).length = ps.length:=by
    rw [← hl,List.length_cons,← rvs.length,← r2.length]
  have b:=hb s2 (Value.ref f :: us) I3.kIn (by rw [List.append_nil]; exact hlu)
  rw [List.append_nil] at b
  have h3 : Post X.K (CL.of aT T (p.and (ppL l σ c' (X.env.qual ++ "<lambda>") P2'))) (VR X.K) μ2 st2.nxt H2 Q (WE W σ) (G f (m l) (.cst (.ref f) :: ds) st2):=Post.re (fun _ _ _ y => y.1) h2
  have S3 : SR X.K (CL.of aT T (p.and (ppL l σ c' (X.env.qual ++ "<lambda>") P2'))) μ2 st2 H2:=S2.re ⟨S2.pp,(ppL l σ c' (X.env.qual ++ "<lambda>") P2').up e2.toEv0 ⟨L2.ev e,hco⟩⟩
  refine wpAny_call (codeAny_mono (F.run k (p.and (ppL l σ c' (X.env.qual ++ "<lambda>") P2')) f (m l) X.A X.stack s2 H2 ⟨.ref f :: us,[]⟩ (.ref f :: us) (.ref f :: vs) Q (WE W σ) hr I3.env0 b (.cons rfl rvs) (fun cdv => ?_) ⟨μ2,st2,.cst (.ref f) :: ds,S3,(by simp only [VRs,VR]; exact ⟨_,_,rfl,rfl,r2⟩),h3⟩) fun r s3 hq => ?_)
  · exact clo_lamQ (k:=k) I3 L pin2.1 pin2.2.1 hfr (hbind _ _ _ _ _) (fun μ N H y => y.2) (fun A outer s H E hr2 tk2 => hbody _ A outer s H E f c' P2' (fun μ N H y => y.2.2) hr2 tk2)
  · cases r with
    | error e => exact passAt tk σ pins H2 s2 e s3 I3 hq
    | ok fl =>
      cases fl with
      | ret u => exact I3.after hq
      | next => exact False.elim hq
      | brk => exact False.elim hq
      | cont => exact False.elim hq
end
end DV
namespace PySem.W
open Lean Elab Tactic Meta PySem PySem.Calls PyProof.Rows
section
variable {prog : Program} {w : World} {M : Model} {A : Around} {E : Value → Shared → Prop} {s : Shared} {env : Env} {K : Frag} {x C L fe fx : Addr} {ox : Obj} {od : Option Obj} {pos : Pos}
def withErr (pos : Pos) (env : Env) (exit : Value) (exitArgs : List Value) (e : Value) : Sem Flow:=do
    noteFrame e env
    setFlight e none
    standAt pos
    holding [e] do
    let r ← withItem.marked e (.call exit ⟨exitArgs ++ [← typeOf e,e,← tracebackOf e],[]⟩)
    let r ← if false then awaitValue r 2 (some e) else pure r
    let swallow ← match r with
      | .none => pure false
      | .bool b => pure b
      | _ => do pure ((← withItem.marked e (.call (.type "bool") ⟨[r],[]⟩)) == .bool true)
    if swallow then rule "with.exit-swallows"; setFlight e none; pure .next else passOn "with" e env
theorem wi_core {b : Value → Sem Unit} {bdy : Sem Flow} {Q : Flow → Shared → Prop} (X : K.In s.heap) (I : InstAt s.heap x ox C od) (he : findIn K (.ref C) "__enter__" = some (some (.ref fe))) (hfe : isFn K (.ref fe) = true) (hx : findIn K (.ref C) "__exit__" = some (some (.ref fx))) (hfx : isFn K (.ref fx) = true)
    (h : wpAny (model prog w) A (call (.ref fe) [.ref x]) (fun v s₂ => wpAny (model prog w) A (b v) (fun _ s₃ => wpAny (model prog w) A bdy (fun f s₄ => wpAny (model prog w) A (call (.ref fx) [.ref x,.none,.none,.none]) (fun _ s₅ => Q f s₅) E s₄) (fun e s₄ => wpAny (model prog w) A (withErr pos env (.ref fx) [.ref x] e) Q E s₄) s₃) (fun _ _ => False) s₂) E s) :
    wpAny (model prog w) A (withItem false pos env (pure (.ref x)) (some b) bdy) Q E s:=by
  obtain ⟨cd,hcd,ae⟩:=kw_along he
  obtain ⟨cd',hcd',ax⟩:=kw_along hx
  cases hcd.symm.trans hcd'
  obtain ⟨hh,g,d,tt,os⟩:=s
  have L1 : Looks (model prog w) hh (specialOnItsLine (.ref x) "__enter__") (some (.ref fe),cd.mro):=kw_special X I hcd ae
  have L2 : Looks (model prog w) hh (specialOnItsLine (.ref x) "__exit__") (some (.ref fx),cd.mro):=kw_special X I hcd ax
  have L3 : Looks (model prog w) hh (bindSpecial (.ref fe) (.ref x)) (.ref fe,[.ref x]):=bind_fn X _ (beq_iff_eq.mp hfe)
  have L4 : Looks (model prog w) hh (bindSpecial (.ref fx) (.ref x)) (.ref fx,[.ref x]):=bind_fn X _ (beq_iff_eq.mp hfx)
  have L5 : Looks (model prog w) hh (aMethodOfAnotherBuiltinTypeStops (.ref fe) cd.mro) ():=Looks.of_pure rfl
  have L6 : Looks (model prog w) hh (aMethodOfAnotherBuiltinTypeStops (.ref fx) cd.mro) ():=Looks.of_pure rfl
  unfold withItem
  refine wpAny_bind (wpAny_pure ?_)
  refine wpAny_bind (wpAny_standAt ?_)
  simp only [Bool.false_eq_true,if_false]
  kw_lk
  refine wpAny_mono h (fun v s₂ h₂ => ?_) fun _ _ z => z
  kw_lk
  refine wpAny_attempt (kw_held ?_)
  show wpAny _ _ (b v >>= fun _ => bdy) _ _ _
  refine wpAny_bind (wpAny_mono h₂ (fun _ s₃ h₃ => wpAny_mono h₃ (fun f s₄ h₄ => ?_) fun e s₄ h₄ => ?_) fun _ _ z => z.elim)
  · kw_lk
    refine wpAny_mono h₄ (fun _ s₅ h₅ => ?_) fun _ _ z => z
    kw_lk
    exact h₅
  · exact h₄
end
end PySem.W
namespace DV
open PySem PySem.Spec PyProof.Rows L2
def ExitRuns (X : Cx) (fx : Addr) (x : Addr) (a : Addr) (pn : List (Addr × Obj)) (cls tv : Value) (Q : Hp → Prop) (σ : L2.St) (s : Shared) : Prop:=
  codeAny (model X.prog X.w) (X.A.mark (some (.ref a))) (.call (.ref fx) ⟨[.ref x,cls,.ref a,tv],[]⟩) (fun r s' => match r with
    | .ok (.ret v) => v = .none ∧ ∃ H6,Inv (X.suite a pn) [] σ H6 s' ∧ Q H6
    | _ => False) s
section
variable {X : Cx} {Wout : WX} {pos : Pos}
theorem wi_exc {pins : List (Addr × Obj)} {D : Ends} {u : Value} {s' : Shared} {fx x : Addr} {xe : Value → Shared → Prop} {Wm : WX} (hs : X.stack = X.env :: X.outer) (hf : X.env.frame = some X.env.locals) (hex : X.ex = []) (ok : X.Ok) (tk : Takes X Wout)
    (hexit : ∀ (a : Addr) (oe : Obj) (cls : Value) (d : Option Addr) (pn : List (Addr × Obj)) (σ : L2.St) (H : Hp) (s : Shared) (tv : Value),Zc cls d oe → (∃ vs,oe.data = .fields vs) → (tv = .none ∨ ∃ T,tv = .ref T) → Inv (X.suite a ((a,oe) :: pn)) [] σ H s → Wm cls d σ H → ExitRuns X fx x a ((a,oe) :: pn) cls tv (fun H6 => Wout cls d σ H6) σ s)
    (xx : XE (X.tr (X.pn ++ pins) xe) Wm u s') : wpAny (model X.prog X.w) X.A (PySem.W.withErr pos X.env (.ref fx) [.ref x] u) (SP X pins D) X.xe s':=by
  have hfr : X.A.frames = some (X.env :: X.outer):=by rw [ok.frames,hs]
  obtain ⟨a,B,sI,pins',σ',H',cls,d,rfl,J',nb,up,sky,na,os,ag,hw⟩:=xx
  have J : Inv X pins σ' H' sI:=J'.ofTry ok
  have sky' : Sky B (X.env :: X.outer) a (Zc cls d) X.env.locals s'.heap:=by rw [← hs]; exact sky
  unfold PySem.W.withErr
  refine wpAny_bind (wpAny_mono (Sky.land (E₁:=X.xe) (Q:=fun _ s₃ => wpAny (model X.prog X.w) X.A _ (SP X pins D) X.xe s₃) Zc.steady hfr hf sky' fun h3 fl3 up3 => ?_) (fun _ s₂ z => wpAny_bind z) fun _ _ z => z)
  have J3 : Inv X pins σ' H' { s' with heap:=h3 }:=J.landed nb fl3.1 (up.trans up3) os ag
  obtain ⟨k1,k2,k3,oe,vs,T,oT,ts,he3,hz,hd,hv1,hnT,hTe,hT,hdT,ht3⟩:=id fl3
  have nT : H' T = none:=(J.inGround nb).gone hnT
  have notFr : ∀ (b : Addr) (o : Obj) (fv : Array Value),h3.get? b = some o → o.data = .fields fv → b ∉ frs (X.env :: X.outer):=fun b o fv e dd hm => by
    obtain ⟨_,o',e',hnf⟩:=k3.mem hm
    have eo : o = o':=Option.some.inj (e.symm.trans e')
    rw [← eo] at hnf
    exact hnf _ dd
  have locF : X.env.locals ∈ frs (X.env :: X.outer):=List.mem_filterMap.mpr ⟨X.env,List.mem_cons_self,hf⟩
  have fsF : ∀ b,b ∈ X.fs → b ∈ frs (X.env :: X.outer):=fun b hm => by
    obtain ⟨e,he,q⟩:=List.mem_filterMap.mp hm
    exact List.mem_filterMap.mpr ⟨e,List.mem_cons_of_mem _ he,q⟩
  have fa:=notFr a oe vs he3 hd
  have fT:=notFr T oT ts hT hdT
  have S3 : Inv (X.suite a ((a,oe) :: (T,oT) :: (X.pn ++ pins))) [] σ' H' { s' with heap:=h3 }:=
    ⟨J3.ok.suite _ _,J3.os,J3.bare,J3.base,J3.loc,J3.cell,J3.free,J3.freeC,fun p hp => by
      rw [List.append_nil] at hp
      rcases List.mem_cons.mp hp with z | hp
      · rw [z]
        exact ⟨he3,na,fun z2 => fa (by rw [show a = X.env.locals from z2]; exact locF),fun z2 => fa (fsF _ z2),fun v z2 => by
          have z3 : oe.data = .cell v:=z2
          rw [hd] at z3
          cases z3⟩
      · rcases List.mem_cons.mp hp with z | hp
        · rw [z]
          exact ⟨hT,nT,fun z2 => fT (by rw [show T = X.env.locals from z2]; exact locF),fun z2 => fT (fsF _ z2),fun v z2 => by
            have z3 : oT.data = .cell v:=z2
            rw [hdT] at z3
            cases z3⟩
        · exact J3.pin p hp,J3.hok,J3.len⟩
  refine wpAny_bind (wpAny_standAt (wpAny_holding (wpAny_bind (wpAny_typeOf_ref he3 ?_))))
  rw [hz.1]
  -- the traceback as the exit is told it
  have tb : ∀ {Q : Value → Shared → Prop},(∀ tv,(tv = .none ∨ ∃ T,tv = .ref T) → Q tv { s' with heap:=h3 }) → wpAny (model X.prog X.w) X.A (tracebackOf (.ref a)) Q X.xe { s' with heap:=h3 }:=fun {Q} hq => by
    unfold tracebackOf
    refine wpAny_bind (wpAny_field he3 hd hv1 ?_)
    obtain ⟨v1,hv⟩ : ∃ v1,ts[1]? = some v1:=by
      have hlt : 3 < ts.size:=by
        have:=Array.getElem?_eq_some_iff.mp ht3
        exact this.1
      exact ⟨ts[1]'(by omega),Array.getElem?_eq_getElem (by omega)⟩
    have z1:=hq .none (.inl rfl)
    have z2:=hq (.ref T) (.inr ⟨T,rfl⟩)
    refine wpAny_bind (wpAny_field hT hdT hv ?_)
    cases (v1 == Value.none) with
    | true => exact wpAny_pure z1
    | false => exact wpAny_pure z2
  refine wpAny_bind (tb fun tv htv => wpAny_bind ?_)
  unfold PySem.withItem.marked
  refine wpAny_bind (wpAny_run (h:=some (.ref a)) (codeAny_mono (hexit a oe cls d ((T,oT) :: (X.pn ++ pins)) σ' H' _ tv hz ⟨_,hd⟩ htv S3 hw) fun r s6 hq => ?_) (fun z => ref_ne_byPass a (Option.some.inj z)))
  cases r with
  | error e => exact hq.elim
  | ok fl =>
    cases fl with
    | next => exact hq.elim
    | brk => exact hq.elim
    | cont => exact hq.elim
    | ret v =>
      obtain ⟨rfl,H6,S6,q6⟩:=hq
      refine wpAny_pure (wpAny_bind (wpAny_pure (wpAny_bind (wpAny_pure ?_))))
      have J6 : Inv X pins σ' H6 s6:=⟨ok,S6.os,S6.bare,S6.base,S6.loc,S6.cell,S6.free,S6.freeC,fun p hp => S6.pin p (List.mem_append_left _ (List.mem_cons_of_mem _ (List.mem_cons_of_mem _ hp))),S6.hok,S6.len⟩
      have pa:=S6.pin (a,oe) (List.mem_append_left _ List.mem_cons_self)
      have pT:=S6.pin (T,oT) (List.mem_append_left _ (List.mem_cons_of_mem _ List.mem_cons_self))
      have ga : s6.heap.get? a = some oe:=pa.1
      have gT : s6.heap.get? T = some oT:=pT.1
      have na6 : H6 a = none:=pa.2.1
      have nT6 : H6 T = none:=pT.2.1
      -- what is not the exception's
      have far : ∀ b o,sI.heap.get? b = some o → b ≠ a ∧ b ≠ T:=fun b o e => by
        by_cases hb : b ∈ frs X.stack
        · rw [hs] at hb
          exact ⟨fun z => fa (by rw [← z]; exact hb),fun z => fT (by rw [← z]; exact hb)⟩
        · have q:=nb b o e hb
          exact ⟨fun z => by
            rw [z,k2] at q
            exact (nomatch q),fun z => by
            rw [z,hnT] at q
            cases q⟩
      have far0 : ∀ b o,X.s_0.heap.get? b = some o → b ≠ a ∧ b ≠ T:=fun b o e => by
        obtain ⟨o',q⟩:=J.base.there b o e (by rw [hex]; simp)
        exact far b o' q
      have farP : ∀ p ∈ X.pn ++ pins,p.1 ≠ a ∧ p.1 ≠ T:=fun p hp => far p.1 p.2 (J.pin p hp).1
      obtain ⟨G,g1,g2⟩:=restrict s6.heap fun b => !(decide (b = a) || decide (b = T))
      have gIn : ∀ b o,G.get? b = some o → s6.heap.get? b = some o ∧ b ≠ a ∧ b ≠ T:=fun b o e => by
        cases q : (!(decide (b = a) || decide (b = T))) with
        | false =>
          rw [g2 b q] at e
          cases e
        | true =>
          rw [g1 b q] at e
          simp only [Bool.not_eq_true',Bool.or_eq_false_iff,decide_eq_false_iff_not] at q
          exact ⟨e,q.1,q.2⟩
      have gOf : ∀ b o,b ≠ a → b ≠ T → s6.heap.get? b = some o → G.get? b = some o:=fun b o h1 h2 e => by
        rw [g1 b (by simp [h1,h2])]
        exact e
      have I6 : Inv X pins σ' H6 { s6 with heap:=G }:=J6.less (fun b o e => (gIn b o e).1) gOf ⟨oe,vs,ga,hd⟩ ⟨oT,ts,gT,hdT⟩ na6 nT6 far0 farP
      -- the ground behind the exit
      have B6in : ∀ b o,(PySem.W.hideAll G (frs X.stack)).get? b = some o → s6.heap.get? b = some o:=fun b o e => (gIn b o (PySem.W.of_hideAll _ e)).1
      have Bno : ∀ b,(b = a ∨ b = T) → (PySem.W.hideAll G (frs X.stack)).get? b = none:=fun b hb => by
        cases q : (PySem.W.hideAll G (frs X.stack)).get? b with
        | none => rfl
        | some o =>
          obtain ⟨_,n1,n2⟩:=gIn b o (PySem.W.of_hideAll _ q)
          rcases hb with z | z
          · exact absurd z n1
          · exact absurd z n2
      have fl6 : HandSPX.FlyingZ (PySem.W.hideAll G (frs X.stack)) (X.env :: X.outer) a (Zc cls d) s6.heap:=by
        refine ⟨B6in,Bno a (.inl rfl),?_,oe,vs,T,oT,ts,ga,hz,hd,hv1,Bno T (.inr rfl),hTe,gT,hdT,ht3⟩
        have ff:=funFrames_none (B:=PySem.W.hideAll G (frs X.stack)) J6.stack fun b hb => PySem.W.hideAll_none _ hb
        rw [← hs]
        exact ff
      show wpAny (model X.prog X.w) X.A (PySem.passOn "with" (.ref a) X.env) (SP X pins D) X.xe s6
      unfold PySem.passOn
      refine wpAny_bind (wpAny_field ga hd hv1 ?_)
      rw [if_neg (show ¬ ((Value.ref T == Value.none) = true) from by simp)]
      have goOn : wpAny (model X.prog X.w) X.A (setFlight (.ref a) X.env.frame) (fun _ s7 => wpAny (model X.prog X.w) X.A (throw (.ref a) : Sem Flow) (SP X pins D) X.xe s7) X.xe s6:=by
        rw [hf]
        refine HandSPX.setFlight_upZ fl6 fun h7 hh7 up7 => wpAny_throw (tk _ _ ?_)
        refine ⟨a,PySem.W.hideAll G (frs X.stack),{ s6 with heap:=G },pins,σ',H6,cls,d,rfl,I6,fun b o e hb => PySem.W.hideAll_get _ e hb,?_,.inr (.inr (by rw [← hs] at hh7; exact hh7)),na6,rfl,J6.bare,q6⟩
        exact Heap.UpToSlots.trans (Heap.UpToSlots.of_keeps fun b o e => (gIn b o e).1) up7
      first
        | exact wpAny_bind (wpAny_pure (wpAny_bind goOn))
        | exact wpAny_bind goOn
end
structure FnHt (P : Program) (w : World) (K : PySem.W.Frag) (mg : Str → Option Value) (base : Heap) (cl : CL) (f : Addr) (fd : FuncData) (ps : List Str) (F : FD) : Prop where
  run : ∀ (A : Around) (outer : List Env) (s : Shared) (H : Hp) (args : Args) (us : List Value) (vs : List V) (Q : VK) (E : XK) (a : Addr) (oe : Obj),A.depth < recursionLimit → L2H.PinOk outer H s (a,oe) → Env0 P w K mg base A outer s H → BindsTo s fd args (ps.zip us) → Vals vs us → vs.length = ps.length → spF K cl F vs H Q E →
    codeAny (model P w) A (.call (.ref f) args) (CR (L2.CX P w) outer P w H s Q E) s
section
variable {P : Program} {w : World} {K : PySem.W.Frag} {mg : Str → Option Value} {base : Heap} {cl : CL}
theorem fnht_of {x qual : Str} {st : Stmt} {f : Addr} {fd : FuncData} {N ps : List Str} {n len : Nat} {mb : MS} (F : Fun K x qual st f fd) (S : FnScope N ps (defScope st)) (hl : N.length = len) (hn : ps.length = n)
    (hbody : ∀ (cdv : Value) (A : Around) (outer : List Env) (s : Shared) (H : Hp) (E : XK) (a : Addr) (oe : Obj),
      SSs (L2H.cxH (L2.CX P w) P w K mg base N qual (defScope st) f cdv A outer s H E (a,oe)) cl (fun cls d _ H => E cls d H) (defBody st) mb) : FnHt P w K mg base cl f fd ps (mDef n len mb):=by
  obtain ⟨oc,od,kV,doc,pm,an,cdv,ct,osl,efd,lk,hcd⟩:=F.ex
  refine ⟨fun A outer s H args us vs Q E a oe hr hpin e0 hb hv hvl ⟨μ,t,ds,SS,rv,h⟩ => ?_⟩
  subst efd
  have kin0 : K.In s.heap:=e0.mod.kin.keeps fun b o e => (e0.bs b o e).1
  have nolim : s.heap.NoLimit:=e0.mod.nolimit.keeps fun b o e => (e0.bs b o e).1
  have hkind : ∀ z ∈ ps.zip us,(defScope st).names.lookup z.1 = some .local ∨ ((defScope st).names.lookup z.1 = some .cell ∧ ((cellsFrom (s.heap.objs.size + 1) (defScope st).names []).lookup z.1).isSome = true):=by
    rintro ⟨y,v⟩ hy
    rcases S.par y (List.of_mem_zip hy).1 with c | c
    · exact .inl c
    · exact .inr ⟨c,PySem.W.cellsFrom_some _ _ _ (.inl c)⟩
  refine codeAny_call_function hr (kin0 _ _ lk) rfl S.co S.gen rfl (PySem.W.codeRec_of kin0 hcd) (hb _ _ _ _ ?_)
  refine wpAny_newFunctionEnv_cells S.kind hkind fun env1 henv t1 icc => ?_
  subst henv
  refine ⟨nolim.keeps icc.toInCall.keep,codeAny_func ?_⟩
  have body:=hbody cdv A outer s H E a oe
  have I0 : Inv (L2H.cxH (L2.CX P w) P w K mg base N qual (defScope st) f cdv A outer s H E (a,oe)) [] (L2.start N vs) H t1:=
    L2H.inv_startH (vs:=vs) (us:=us) S hpin e0 hvl hv icc
  have hlen : ds.length = n:=by rw [rv.length,hvl,hn]
  have want : rdS K cl (fun cls d _ H => E cls d H) mb { nx:=fun _ H' => Q .non H',rt:=Q } (L2.start N vs) H:=by
    refine ⟨μ,t,_,SS,rv.start hl,?_⟩
    unfold mDef at h
    rw [if_pos hlen] at h
    rw [hlen]
    cases q : mb (ds.map some ++ List.replicate (len - n) none) t with
    | rt d st' => rw [q] at h; exact h
    | nx l st' =>
      rw [q] at h
      exact fun μ' H' σ' s e _ => h μ' H' .non s e (by simp only [VR])
    | exc c fs l st' =>
      rw [q] at h
      exact fun μ' H' σ' cls d s e _ x => h μ' H' cls d s e x
    | bk l st' => rw [q] at h; exact h.elim
    | ct l st' => rw [q] at h; exact h.elim
    | bad => rw [q] at h; exact h.elim
  refine wpAny_mono (body.run [] t1 (L2.start N vs) H _ I0 want) (fun fl t2 hs => ?_) fun _ _ hs => hs
  cases fl with
  | ret u =>
    obtain ⟨v,σ',H',J,rv,q⟩:=hs
    exact ⟨v,H',J.os,J.bare,J.base,J.hok,rv,q⟩
  | next =>
    obtain ⟨σ',H',J,q⟩:=hs
    exact ⟨V.non,H',J.os,J.bare,J.base,J.hok,rfl,q⟩
  | brk => exact hs.elim fun _ h => h.elim fun _ h => h.2.elim
  | cont => exact hs.elim fun _ h => h.elim fun _ h => h.2.elim
end
open Classical in
noncomputable def withEnd (n : Nat) (Fx : FD) : RS → RS
  | .nx l st => (match Fx [.ref n,.non,.non,.non] st with
    | .ok d st4 => (match d with
      | .non => .nx l st4
      | _ => .bad)
    | _ => .bad)
  | .rt r st => (match Fx [.ref n,.non,.non,.non] st with
    | .ok d st4 => (match d with
      | .non => .rt r st4
      | _ => .bad)
    | _ => .bad)
  | .exc c fs l st => if h : ∃ st4,∀ (k : V) (a : Addr) (t : V),k ≠ .non → Fx [.ref n,.cst k,.cst (.ref a),.cst t] st = .ok .non st4 then .exc c fs l (Classical.choose h) else .bad
  | _ => .bad
noncomputable def msWith (i c : Nat) (me : ME) (Fe Fx : FD) (mb : MS) : MS:=fun l st => (me l st).toS l fun t st1 => match t with
  | .ref n => (match st1.at_ n with
    | some (.ins c' _) => if c' = c then (Fe [.ref n] st1).toS l fun v st2 => withEnd n Fx (mb (l.set i (some v)) st2) else .bad
    | _ => .bad)
  | _ => .bad
theorem withEnd_exc {n c : Nat} {Fx : FD} {fs : List (Str × D)} {l : Loc} {st st4 : Store} (h : ∀ (k : V) (a : Addr) (t : V),k ≠ .non → Fx [.ref n,.cst k,.cst (.ref a),.cst t] st = .ok .non st4) : withEnd n Fx (.exc c fs l st) = .exc c fs l st4:=by
  have e : ∃ st4,∀ (k : V) (a : Addr) (t : V),k ≠ .non → Fx [.ref n,.cst k,.cst (.ref a),.cst t] st = .ok .non st4:=⟨st4,h⟩
  unfold withEnd
  simp only [dif_pos e]
  have z:=(Classical.choose_spec e (.ref 0) 0 .non (by simp)).symm.trans (h (.ref 0) 0 .non (by simp))
  simp only [Res.ok.injEq,true_and] at z
  rw [z]
section
variable {X : Cx} {cl : CL} {W : WX}
def endNx (K : PySem.W.Frag) (cl : CL) (n : Nat) (x : Addr) (Fx : FD) (Q : Hp → Prop) (H' : Hp) : Prop:=
  ∃ μ' st3 st4,SR K cl μ' st3 H' ∧ n < st3.nxt ∧ μ' n = x ∧ Fx [.ref n,.non,.non,.non] st3 = .ok .non st4 ∧ ∀ μ'' H'',SR K cl μ'' st4 H'' → Ev K μ' st3.nxt H' μ'' st4.nxt H'' → Q H''
def endRt (K : PySem.W.Frag) (cl : CL) (n : Nat) (x : Addr) (Fx : FD) (Q : VK) (v : V) (H' : Hp) : Prop:=
  ∃ μ' st3 st4,SR K cl μ' st3 H' ∧ n < st3.nxt ∧ μ' n = x ∧ Fx [.ref n,.non,.non,.non] st3 = .ok .non st4 ∧ ∀ μ'' H'',SR K cl μ'' st4 H'' → Ev K μ' st3.nxt H' μ'' st4.nxt H'' → Q v H''
def endEx (K : PySem.W.Frag) (cl : CL) (n : Nat) (x : Addr) (Fx : FD) (W : WX) : WX:=fun cls d σ H' =>
  ∃ μ' st3 st4,SR K cl μ' st3 H' ∧ n < st3.nxt ∧ μ' n = x ∧ (∃ kv : V,kv ≠ .non ∧ RelV kv cls) ∧ (∀ (k : V) (a : Addr) (t : V),k ≠ .non → Fx [.ref n,.cst k,.cst (.ref a),.cst t] st3 = .ok .non st4) ∧ ∀ μ'' H'',SR K cl μ'' st4 H'' → Ev K μ' st3.nxt H' μ'' st4.nxt H'' → W cls d σ H''
theorem XR.ev {K : PySem.W.Frag} {μ μ1 : Nat → Addr} {N N1 : Nat} {H H1 : Hp} {c : Nat} {fs : List (Str × D)} {cls : Value} {d : Option Addr} (h : XR K cl μ N H c fs cls d) (e : Ev K μ N H μ1 N1 H1) : XR K cl μ1 N1 H1 c fs cls d:=by
  obtain ⟨a,b⟩:=h
  refine ⟨a,?_⟩
  rcases b with b | ⟨q,ps,h1,h2,h3,h4⟩
  · exact .inl b
  · exact .inr ⟨q,ps,h1,e.xd _ _ h2,h3,h4.ev e⟩
theorem end_post {n : Nat} {x : Addr} {Fx : FD} {D : Ends} {μ : Nat → Addr} {N : Nat} {H : Hp} {r : RS} (hn : n < N) (hx : μ n = x) (h : PostS X.K cl μ N H D W (withEnd n Fx r)) :
    PostS X.K cl μ N H { nx:=fun σ' H' => endNx X.K cl n x Fx (D.nx σ') H',rt:=fun v H' => endRt X.K cl n x Fx D.rt v H' } (endEx X.K cl n x Fx W) r:=by
  have at_ : ∀ {μ' N' H'},Ev X.K μ N H μ' N' H' → n < N' ∧ μ' n = x:=fun e => ⟨Nat.lt_of_lt_of_le hn e.le,(e.mu n hn).trans hx⟩
  cases r with
  | bad => exact h.elim
  | bk l st3 => exact h.elim
  | ct l st3 => exact h.elim
  | nx l st3 =>
    unfold withEnd at h
    simp only at h
    cases q : Fx [.ref n,.non,.non,.non] st3 with
    | bad => rw [q] at h; exact h.elim
    | exc c fs st4 => rw [q] at h; exact h.elim
    | ok d st4 =>
      rw [q] at h
      cases d with
      | non => exact fun μ' H' σ' S e L => ⟨μ',st3,st4,S,(at_ e).1,(at_ e).2,q,fun μ'' H'' S'' e'' => h μ'' H'' σ' S'' (e.trans e'') (L.ev e'')⟩
      | _ => exact h.elim
  | rt r st3 =>
    unfold withEnd at h
    simp only at h
    cases q : Fx [.ref n,.non,.non,.non] st3 with
    | bad => rw [q] at h; exact h.elim
    | exc c fs st4 => rw [q] at h; exact h.elim
    | ok d st4 =>
      rw [q] at h
      cases d with
      | non => exact fun μ' H' v S e rv => ⟨μ',st3,st4,S,(at_ e).1,(at_ e).2,q,fun μ'' H'' S'' e'' => h μ'' H'' v S'' (e.trans e'') (rv.ev e'')⟩
      | _ => exact h.elim
  | exc c fs l st3 =>
    by_cases z : ∃ st4,∀ (k : V) (a : Addr) (t : V),k ≠ .non → Fx [.ref n,.cst k,.cst (.ref a),.cst t] st3 = .ok .non st4
    · obtain ⟨st4,hz⟩:=z
      rw [withEnd_exc hz] at h
      exact fun μ' H' σ' cls d S e L x' => ⟨μ',st3,st4,S,(at_ e).1,(at_ e).2,(by
        rw [x'.1]
        unfold clsV
        split
        · exact ⟨.ref (cl c),by simp,rfl⟩
        · split
          · exact ⟨.ty "KeyError",by simp,rfl⟩
          · exact ⟨.ty "ZeroDivisionError",by simp,rfl⟩),hz,fun μ'' H'' S'' e'' => h μ'' H'' σ' cls d S'' (e.trans e'') (L.ev e'') (XR.ev x' e'')⟩
    · unfold withEnd at h
      simp only [dif_neg z] at h
      exact h.elim
end
section
variable {X : Cx} {cl : CL} {W : WX} {k : Nat} {f : Addr} {fd : FuncData} {ps : List Str} {F : FD}
theorem call_G {pins : List (Addr × Obj)} {σ : L2.St} {H : Hp} {s : Shared} {Q : VK} {us : List Value} {vs : List V} (G : FnS X.prog X.w X.K X.mg X.base cl k f fd ps F) (hr : RoomG k X.A) (tk : Takes X W) (hb : Binds X.K fd ps []) (I : Inv X pins σ H s) (r : Vals vs us) (hl : us.length = ps.length)
    (h : spF X.K cl F vs H Q (WE W σ)) : wpAny (model X.prog X.w) X.A (call (.ref f) us) (EP X pins σ Q) X.xe s:=by
  have b:=hb s us I.kIn (by simpa using hl)
  rw [List.append_nil] at b
  refine wpAny_call (codeAny_mono (run_g (args:=⟨us,[]⟩) G hr tk I (fun _ => b) r h) fun r s' hq => ?_)
  cases r with
  | error e => exact hq
  | ok fl =>
    cases fl with
    | ret u => exact hq
    | next => exact hq.elim
    | brk => exact hq.elim
    | cont => exact hq.elim
theorem ss_with {ctx : Expr} {y s1 : Str} {py pos : Pos} {body : List Stmt} {i c : Nat} {me : ME} {mb : MS} {fe fx : Addr} {fde fdx : FuncData} {Fe Fx : FD} {psx : List Str}
    (he : SE X cl W ctx me) (Me : Meth X.K (cl c) "__enter__" fe) (Mx : Meth X.K (cl c) "__exit__" fx)
    (Ge : FnS X.prog X.w X.K X.mg X.base cl k fe fde [s1] Fe) (be : Binds X.K fde [s1] []) (Gx : FnS X.prog X.w X.K X.mg X.base cl k fx fdx psx Fx) (bx : Binds X.K fdx psx []) (hps : psx.length = 4)
    (Hx : FnHt X.prog X.w X.K X.mg X.base cl fx fdx psx Fx) (hr : RoomG k X.A) (tk : Takes X W) (hs : X.stack = X.env :: X.outer) (hf : X.env.frame = some X.env.locals) (hex : X.ex = []) (hN : X.N.Nodup)
    (hb : ∀ (W : WX) (pn : List (Addr × Obj)) (xe : Value → Shared → Prop),Takes (X.tr pn xe) W → SSs (X.tr pn xe) cl W body mb) (hi : X.N[i]? = some y:=by rfl) (hln : X.env.kindOf y = some .local:=by rfl) :
    SS X cl W (.With [⟨ctx,some (.Name y py)⟩] body pos) (msWith i c me Fe Fx mb):=by
  refine ⟨fun pins s σ H D I ⟨μ,st,l,S,L,h⟩ => PySem.W.kw_execN ?_⟩
  have w : rdE X.K cl W me σ H (fun v H1 => ∃ (n : Nat) (μ1 : Nat → Addr) (st1 : Store) (fs : List (Str × DV.D)),v = .ref (μ1 n) ∧ SR X.K cl μ1 st1 H1 ∧ LR X.K μ1 st1.nxt H1 l σ ∧ st1.at_ n = some (.ins c fs) ∧ n < st1.nxt ∧
      PostS X.K cl μ1 st1.nxt H1 D W ((Fe [.ref n] st1).toS l fun v st2 => withEnd n Fx (mb (l.set i (some v)) st2))):=⟨μ,st,l,S,L,PostS.bind h L fun t st1 μ1 H1 v _ S1 e1 r1 h1 => by
    cases t with
    | ref n =>
      simp only [VR] at r1
      obtain ⟨hn,rfl⟩:=r1
      simp only at h1
      cases z : st1.at_ n with
      | none => rw [z] at h1; exact h1.elim
      | some cell =>
        rw [z] at h1
        cases cell with
        | ins c' fs =>
          simp only at h1
          by_cases hc : c' = c
          · subst hc
            rw [if_pos rfl] at h1
            exact ⟨n,μ1,st1,fs,rfl,S1,L.ev e1,z,hn,h1⟩
          · rw [if_neg hc] at h1; exact h1.elim
        | _ => exact h1.elim
    | _ => exact h1.elim⟩
  refine wpAny_mono (he.run pins s σ H _ I w) (fun u s1' hu => ?_) fun _ _ z => z
  obtain ⟨v,H1,I1,r1,n,μ1,st1,fs,rfl,S1,L1,z,hn,h1⟩:=hu
  obtain rfl : u = Value.ref (μ1 n):=r1
  obtain ⟨dx,qs,g,_,_⟩:=S1.get z
  obtain ⟨mA,om,_⟩:=ins_get I1.hok g
  obtain ⟨od,J,_⟩:=om.look
  refine PySem.W.wi_core (b:=assign (.Name y py) X.env) I1.kIn J Me.at_ Me.fn Mx.at_ Mx.fn ?_
  have w1 : spF X.K cl Fe [.ref (μ1 n)] H1 (fun v2 H2 => ∃ (μ2 : Nat → Addr) (st2 : Store) (d2 : DV.D),SR X.K cl μ2 st2 H2 ∧ Ev X.K μ1 st1.nxt H1 μ2 st2.nxt H2 ∧ VR X.K μ2 st2.nxt H2 d2 v2 ∧ PostS X.K cl μ2 st2.nxt H2 D W (withEnd n Fx (mb (l.set i (some d2)) st2))) (WE W σ):=
    ⟨μ1,st1,[.ref n],S1,VRs.one (by simp only [VR]; exact ⟨hn,trivial⟩),PostS.bind h1 L1 fun d2 st2 μ2 H2 v2 _ S2 e2 r2 h2 => ⟨μ2,st2,d2,S2,e2,r2,h2⟩⟩
  refine wpAny_mono (call_G Ge hr tk be I1 (us:=[Value.ref (μ1 n)]) (vs:=[.ref (μ1 n)]) (.cons rfl .nil) rfl w1) (fun u2 s2 hu2 => ?_) fun _ _ z => z
  obtain ⟨v2,H2,I2,ru2,μ2,st2,d2,S2,e2,rd2,h2⟩:=hu2
  refine wpAny_assign_Name (store_ok I2 hN hi (.inl hln) ru2 (fun s3 I3 => ?_) (.inr hln))
  have xn : μ2 n = μ1 n:=e2.mu n hn
  have tk' : Takes (X.tr (X.pn ++ pins) (fun e s₄ => wpAny (model X.prog X.w) X.A (PySem.W.withErr ctx.pos X.env (.ref fx) [.ref (μ1 n)] e) (SP X pins D) X.xe s₄)) (endEx X.K cl n (μ1 n) Fx W):=fun u' s' xx => by
    refine wi_exc hs hf hex I.ok tk (fun a oe cls d pn σ5 H5 s5 tv hz hfl htv I5 q => ?_) xx
    obtain ⟨μ',st3,st4,S3,hn3,hx3,⟨kv,hk,rk⟩,e3,kk⟩:=q
    obtain ⟨tV,rt⟩ : ∃ tV,RelV tV tv:=by
      rcases htv with rfl | ⟨T,rfl⟩
      · exact ⟨.non,rfl⟩
      · exact ⟨.ref T,rfl⟩
    have P1:=I5.pin (a,oe) (List.mem_append_left _ List.mem_cons_self)
    have hpin : L2H.PinOk X.stack H5 s5 (a,oe):=⟨P1.1,P1.2.1,fun hm => (List.mem_cons.mp (I5.stkSub a hm)).elim P1.2.2.1 P1.2.2.2.1,P1.2.2.2.2⟩
    have b:=bx s5 [.ref (μ1 n),cls,.ref a,tv] I5.kIn (by simp [hps])
    rw [List.append_nil] at b
    refine codeAny_mono (Hx.run (X.A.mark (some (.ref a))) X.stack s5 H5 ⟨[.ref (μ1 n),cls,.ref a,tv],[]⟩ [.ref (μ1 n),cls,.ref a,tv] [.ref (μ1 n),kv,.ref a,tV] (fun v H6 => v = .non ∧ W cls d σ5 H6) (fun _ _ _ => False) a oe hr.room.depth hpin I5.env0 b (.cons rfl (.cons rk (.cons rfl (.cons rt .nil)))) (by simp [hps]) ⟨μ',st3,[.ref n,.cst kv,.cst (.ref a),.cst tV],S3,?_,?_⟩) fun r s' hq => ?_
    · simp only [VRs,VR]
      exact ⟨_,_,rfl,⟨hn3,congrArg _ hx3.symm⟩,_,_,rfl,rfl,_,_,rfl,rfl,_,_,rfl,rfl,rfl⟩
    · rw [e3 kv a tV hk]
      exact fun μ'' H'' v S'' e'' rv => ⟨by simpa only [VR] using rv,kk μ'' H'' S'' e''⟩
    · cases r with
      | error e => exact hq.elim fun _ h => h.elim fun _ h => h.elim fun _ h => h.elim fun _ h => h.elim fun _ h => h.2.2.2.2.2.2.2
      | ok fl =>
        cases fl with
        | ret u =>
          obtain ⟨v,H6,J6,ru,ev,w6⟩:=I5.after hq
          subst ev
          exact ⟨ru,H6,J6,w6⟩
        | next => exact False.elim hq
        | brk => exact False.elim hq
        | cont => exact False.elim hq
  have out : ∀ {σ' : L2.St} {H' : Hp} {s4 : Shared} {Q : Hp → Prop},Inv X pins σ' H' s4 → (∃ μ' st3 st4,SR X.K cl μ' st3 H' ∧ n < st3.nxt ∧ μ' n = μ1 n ∧ Fx [.ref n,.non,.non,.non] st3 = .ok .non st4 ∧ ∀ μ'' H'',SR X.K cl μ'' st4 H'' → Ev X.K μ' st3.nxt H' μ'' st4.nxt H'' → Q H'') →
      wpAny (model X.prog X.w) X.A (call (.ref fx) [.ref (μ1 n),.none,.none,.none]) (fun _ s5 => ∃ H5,Inv X pins σ' H5 s5 ∧ Q H5) X.xe s4:=fun {σ' H' s4 Q} J' q => by
    obtain ⟨μ',st3,st4,S3,hn3,hx3,e3,kk⟩:=q
    refine wpAny_mono (call_G (Q:=fun _ H5 => Q H5) Gx hr tk bx J' (us:=[.ref (μ1 n),.none,.none,.none]) (vs:=[.ref (μ1 n),.non,.non,.non]) (.cons rfl (.cons rfl (.cons rfl (.cons rfl .nil)))) (by simp [hps]) ⟨μ',st3,[.ref n,.non,.non,.non],S3,?_,?_⟩) (fun u5 s5 hu => ?_) fun _ _ z => z
    · simp only [VRs,VR]
      exact ⟨_,_,rfl,⟨hn3,congrArg _ hx3.symm⟩,_,_,rfl,rfl,_,_,rfl,rfl,_,_,rfl,rfl,rfl⟩
    · rw [e3]
      exact fun μ'' H'' v S'' e'' _ => kk μ'' H'' S'' e''
    · obtain ⟨v5,H5,I5,_,q5⟩:=hu
      exact ⟨H5,I5,q5⟩
  refine wpAny_mono ((hb _ _ _ tk').run [] s3 (σ.set i (some v2)) H2 _ (I3.toTry _) ⟨μ2,st2,l.set i (some d2),S2,(L1.ev e2).set i rd2,end_post (Nat.lt_of_lt_of_le hn e2.le) xn h2⟩) (fun fl s4 hsp => ?_) fun _ _ z => z
  cases fl with
  | next =>
    obtain ⟨σ',H',J',q⟩:=hsp
    exact wpAny_mono (out (J'.ofTry I.ok) q) (fun _ s5 ⟨H5,I5,q5⟩ => ⟨σ',H5,I5,q5⟩) fun _ _ z => z
  | ret u =>
    obtain ⟨v,σ',H',J',rv,q⟩:=hsp
    exact wpAny_mono (out (J'.ofTry I.ok) q) (fun _ s5 ⟨H5,I5,q5⟩ => ⟨v,σ',H5,I5,rv,q5⟩) fun _ _ z => z
  | brk => exact hsp.elim fun _ h => h.elim fun _ h => h.2.elim
  | cont => exact hsp.elim fun _ h => h.elim fun _ h => h.2.elim
end
end DV
namespace DV
open PySem PySem.Spec PyProof.Rows L2 NdefX LamX
structure LamS1 (sc scope : Scope) (y : Str) : Prop where
  kind : scope.kind = .function
  co : scope.isCoroutine = false
  gen : scope.isGenerator = false
  own : ∀ z ∈ scope.names,z.2 ≠ .cell ∧ (z.2 = .local → z.1 = y)
  par : scope.names.lookup y = some .local
  free : ∀ z ∈ scope.names,z.2 = .free → sc.names.lookup z.1 = some .cell ∨ sc.names.lookup z.1 = some .free
def lamS1B (sc scope : Scope) (y : Str) : Bool:=
  decide (scope.kind = .function) && !scope.isCoroutine && !scope.isGenerator && decide (scope.names.lookup y = some .local) && scope.names.all fun z => !decide (z.2 = .cell) && (!decide (z.2 = .local) || z.1 == y) && (!decide (z.2 = .free) || decide (sc.names.lookup z.1 = some .cell) || decide (sc.names.lookup z.1 = some .free))
theorem lamS1_by {sc scope : Scope} {y : Str} (h : lamS1B sc scope y = true) : LamS1 sc scope y:=by
  unfold lamS1B at h
  simp only [Bool.and_eq_true,Bool.or_eq_true,Bool.not_eq_true',decide_eq_true_eq,decide_eq_false_iff_not,List.all_eq_true] at h
  obtain ⟨⟨⟨⟨h1,h2⟩,h3⟩,h5⟩,h4⟩:=h
  refine ⟨h1,h2,h3,fun z hz => ⟨(h4 z hz).1.1,fun e => ?_⟩,h5,fun z hz e => ?_⟩
  · rcases (h4 z hz).1.2 with c | c
    · exact absurd e c
    · exact beq_iff_eq.mp c
  · rcases (h4 z hz).2 with (c | c) | c
    · exact absurd e c
    · exact .inl c
    · exact .inr c
theorem LamS1.has {X : Cx} {scope : Scope} {y : Str} (L : LamS1 X.env.scope scope y) (ok : X.Ok) : ∀ z ∈ scope.names,z.2 = .free → ∃ c,X.env.cells.lookup z.1 = some c:=fun z hz e => by
  rcases L.free z hz e with k | k
  · exact ok.has _ (.inl k)
  · exact ok.has _ (.inr k)
def lamCx1 (X : Cx) (A : Around) (outer : List Env) (s : Shared) (H : Hp) (E : XK) (scope : Scope) (f c' : Addr) (y : Str) : Cx:={ lamCx X A outer s H E scope f c' with N:=X.N ++ [y] }
section
variable {X : Cx} {pins : List (Addr × Obj)} {σ : L2.St} {H HZ : Hp} {s s1 : Shared}
theorem lam_start1 {A : Around} {outer : List Env} {E : XK} {scope : Scope} {f c' : Addr} {h₁ : Heap} {tk : Nat} {y0 : Str} {v0 : V} {u0 : Value} (I : Inv X pins σ H s) (L : LamS1 X.env.scope scope y0) (hy0 : y0 ∉ X.N) (e0 : Env0 X.prog X.w X.K X.mg X.base A outer s1 HZ) (hd : A.handled = none)
    (un : Un (frs X.stack) [] H HZ s.heap s1.heap) (hns : h₁.Ns s1.heap.objs.size fun y => ([(y0,u0)] : List (Str × Value)).reverse.lookup y) (rv0 : RelV v0 u0) (kp : ∀ b o,s1.heap.get? b = some o → h₁.get? b = some o) :
    Inv (lamCx1 X A outer s1 HZ E scope f c' y0) [] (σ ++ [some v0]) HZ { s1 with heap:=h₁,toks:=tk }:=by
  have hfree:=L.has I.ok
  have cm : ∀ {y c},(cloFrom X.env.cells scope.names []).lookup y = some c → X.env.cells.lookup y = some c:=fun {y c} e => by
    rcases cloFrom_mem (PySem.mem_of_lookup e) with hm | ⟨h1,h2⟩
    · cases hm
    · obtain ⟨c1,hc⟩:=hfree _ h1 rfl
      have hc : X.env.cells.lookup y = some c1:=hc
      have e2 : c = c1:=by
        rw [h2,hc] <;> rfl
      rw [e2]
      exact hc
  have look : ∀ {y},scope.names.lookup y = some .free → ∃ c,(cloFrom X.env.cells scope.names []).lookup y = some c:=fun {y} hl => by
    have hy : (y,NameKind.free) ∈ scope.names:=PySem.mem_of_lookup hl
    exact mem_lookup (cloFrom_has (cells:=X.env.cells) (acc:=[]) hy)
  have cellK : ∀ {c : Addr} {v : Option Value},H c = none → s.heap.IsCell c v → h₁.IsCell c v:=fun {c v} n ⟨o,ho,hd⟩ => by
    obtain ⟨sl,q⟩:=un.any ho n (by simp)
    exact ⟨_,kp _ _ q,hd⟩
  have noA : ∀ b : Addr,b ∉ (lamCx1 X A outer s1 HZ E scope f c' y0).ex:=fun b z => absurd (show b ∈ ([] : List Addr) from z) (by simp)
  refine ⟨⟨e0.mod,L.kind,rfl,rfl,Nat.le_refl _,fun y z c e1 e2 => I.ok.inj y z c (cm e1) (cm e2),fun y hy => ?_,fun y c z _ => ?_,fun _ => hd,Around.frames_deeper e0.frames,.inr ⟨rfl,rfl⟩,fun b z => absurd z (noA b),e0.bs,e0.bsz,fun b _ _ => noA b,
      fun b z => absurd z (noA b),e0.funs,e0.frf⟩,
    rfl,e0.bare,Un.kept kp,⟨_,hns,fun i y v e1 e2 e3 => ?_⟩,fun y c e => ?_,e0.hok.fresh (Nat.le_refl _),fun y c e => ?_,fun q hq => absurd (show q ∈ ([] : List (Addr × Obj)) ++ [] from hq) (by simp),e0.hok.kept kp,?_⟩
  · have hy : scope.names.lookup y = some .cell ∨ scope.names.lookup y = some .free:=hy
    rcases hy with hy | hy
    · exact absurd rfl (L.own _ (PySem.mem_of_lookup hy)).1
    · exact look hy
  · have z : false = true:=z
    cases z
  · have e1 : (X.N ++ [y0])[i]? = some y:=e1
    have e3 : Vis scope y:=e3
    have hl:=I.len
    by_cases hi : i < X.N.length
    · rw [List.getElem?_append_left hi] at e1
      rw [List.getElem?_append_left (by rw [hl]; exact hi)] at e2
      have ne : y ≠ y0:=fun z => hy0 (by rw [← z]; exact List.mem_of_getElem? e1)
      rcases e3 with k | k | k
      · exact absurd ((L.own _ (PySem.mem_of_lookup k)).2 rfl) ne
      · exact absurd rfl (L.own _ (PySem.mem_of_lookup k)).1
      · obtain ⟨m,hn,hl⟩:=I.loc
        have hvis : Vis X.env.scope y:=(L.free _ (PySem.mem_of_lookup k) rfl).elim (fun k => .inr (.inl k)) (fun k => .inr (.inr k))
        obtain ⟨w',r,q⟩:=hl i y v e1 e2 hvis
        obtain ⟨c2,h2⟩:=look k
        refine ⟨w',r,.inr ⟨.inr k,c2,h2,?_⟩⟩
        have c1:=cm h2
        rcases q with ⟨k',_⟩ | ⟨_,c3,e',z⟩
        · have k' : X.env.scope.names.lookup y = some .local:=k'
          rcases L.free _ (PySem.mem_of_lookup k) rfl with k2 | k2 <;> rw [show X.env.scope.names.lookup y = _ from k2] at k' <;> cases k'
        · rw [c1] at e'
          cases e'
          exact cellK (I.freeC y _ c1) z
    · have e : i = X.N.length:=by
        have:=(List.getElem?_eq_some_iff.mp e1).1
        simp at this
        omega
      subst e
      rw [List.getElem?_append_right (Nat.le_refl _),Nat.sub_self] at e1
      rw [List.getElem?_append_right (by rw [hl]; exact Nat.le_refl _),hl,Nat.sub_self] at e2
      cases e1
      cases e2
      exact ⟨u0,rv0,.inl ⟨L.par,by simp [List.lookup]⟩⟩
  · obtain ⟨w',z⟩:=I.cell y c (cm e)
    exact ⟨w',cellK (I.freeC y c (cm e)) z⟩
  · obtain ⟨v,o,ho,hd⟩:=I.cell y c (cm e)
    exact un.free c o ho (I.freeC y c (cm e)) (by simp)
  · show (σ ++ [some v0]).length = (X.N ++ [y0]).length
    rw [List.length_append,List.length_append,I.len]
    rfl
end
def mAct1 (i : Nat) (f : Addr) (Fd : D → Store → Res D) (xs : MA) : ME:=fun l st => match l[i]? with
  | some (some (.cst (.ref g))) => if g = f then (xs l st).bind fun ds st1 => match ds with
    | [d] => Fd d st1
    | _ => .bad else .bad
  | _ => .bad
structure CloL1 (X : Cx) (cl : CL) (i : Nat) (y : Str) (f : Addr) (Fd : D → Store → Res D) : Prop where
  call : ∀ (pn : List (Addr × Obj)) (xe : Value → Shared → Prop) (W : WX) (p1 p2 : Pos) (e : Expr) (xs : MA),Takes (X.tr pn xe) W → starEach [e] X.env = (false,eval e X.env) :: starEach [] X.env → SA (X.tr pn xe) cl W [e] xs → SE (X.tr pn xe) cl W (.Call (.Name y p1) [e] [] p2) (mAct1 i f Fd xs)
theorem LR.snoc {K : PySem.W.Frag} {μ : Nat → Addr} {N : Nat} {H : Hp} {l : Loc} {σ : L2.St} {d : D} {v : V} (h : LR K μ N H l σ) (r : VR K μ N H d v) : LR K μ N H (l ++ [some d]) (σ ++ [some v]):=by
  obtain ⟨h1,h2⟩:=h
  refine ⟨by rw [List.length_append,List.length_append,h1]; rfl,fun i d' e => ?_⟩
  by_cases hi : i < l.length
  · rw [List.getElem?_append_left hi] at e
    rw [List.getElem?_append_left (by rw [← h1]; exact hi)]
    exact h2 i d' e
  · have e0 : i = l.length:=by
      have:=(List.getElem?_eq_some_iff.mp e).1
      simp at this
      omega
    subst e0
    rw [List.getElem?_append_right (Nat.le_refl _),Nat.sub_self] at e
    cases e
    rw [h1,List.getElem?_append_right (Nat.le_refl _),Nat.sub_self]
    exact ⟨v,rfl,r⟩
section
variable {X : Cx} {pins : List (Addr × Obj)} {σ : L2.St} {H H' : Hp} {s s' : Shared} {aT : Nat → Addr} {T : List NTab} {p : PP}
theorem clo_lam1 {A' : Around} {outer' : List Env} {Eg : XK} {Ng : List Str} {qg : Str} {sg : Scope} {g f c' P2 : Addr} {cdg pm ctv : Value} {params : Arguments} {body : Expr} {scope : Scope} {k i : Nat} {y y0 : Str} {m : ME} {l : Loc}
    (I : Inv X pins σ H s) (L : LamS1 X.env.scope scope y0) (hy0 : y0 ∉ X.N) (hf : s.heap.get? f = some (PySem.W.kla_obj "<lambda>" (X.env.qual ++ "<lambda>") params body scope (cloFrom X.env.cells scope.names []) pm c' ctv)) (hfn : H f = none) (hfr : f ∉ frs X.stack)
    (hbind : ∀ u : Value,bindArgs (PySem.W.kla_fn "<lambda>" (X.env.qual ++ "<lambda>") params body scope (cloFrom X.env.cells scope.names []) pm (.ref c') ctv) ⟨[u],[]⟩ = pure [(y0,u)])
    (un0 : Un (frs X.stack) [] H H' s.heap s'.heap) (hsub : ∀ c ∈ frs outer',c ∈ frs X.stack ∨ s.heap.objs.size ≤ c)
    (hr : RoomG (k + 1) (A'.deeper (envOfC qg sg s'.heap.objs.size g cdg))) (hp : ∀ μ N H,p.P X.K μ N H → (ppL l σ c' (X.env.qual ++ "<lambda>") P2).P X.K μ N H)
    (hbody : ∀ (A : Around) (outer : List Env) (s : Shared) (H : Hp) (E : XK),RoomG k (A.deeper (lamEnv X scope s.heap.objs.size f c')) → Takes (lamCx1 X A outer s H E scope f c' y0) (fun cls d _ H => E cls d H) → SE (lamCx1 X A outer s H E scope f c' y0) (CL.of aT T p) (fun cls d _ H => E cls d H) body m)
    (hN : Ng[i]? = some y) (hv : Vis sg y) (hd : (y == ("__debug__" : Str)) = false:=by decide) (hcd : (y == ("__classdict__" : Str)) = false:=by decide) :
    CloL1 (cxOf (L2.CX X.prog X.w) X.prog X.w X.K X.mg X.base Ng qg sg g cdg A' outer' s' H' Eg) (CL.of aT T p) i y f (fun d st => m (l ++ [some d]) st):=by
  refine ⟨fun pn xe W p1 p2 ex xs tk hse ha => ⟨fun pinsZ sZ σZ HZ Q IZ ⟨μ,st,lZ,S,LZ,h⟩ => ?_⟩⟩
  unfold mAct1 at h
  cases q : lZ[i]? with
  | none => rw [q] at h; exact h.elim
  | some o =>
    rw [q] at h
    cases o with
    | none => exact h.elim
    | some d1 =>
      cases d1 with
      | cst v2 =>
        cases v2 with
        | ref g2 =>
          simp only at h
          by_cases hga : g2 = f
          · subst hga
            rw [if_pos rfl] at h
            obtain ⟨v3,hs,rv⟩:=LZ.2 i _ q
            simp only [VR] at rv
            subst rv
            refine wpAny_Call_Name_kw (thn ((pe_var (pos:=p1) (i:=i) hN hv hd hcd).run pinsZ sZ σZ HZ (fun v H1 => v = .ref g2 ∧ H1 = HZ) IZ ⟨.ref g2,hs,rfl,rfl⟩) fun u s1 ⟨v,H1,I1,r1,q1⟩ => ?_)
            obtain ⟨ev,eH⟩:=q1
            subst ev
            rw [eH] at I1
            obtain rfl : u = Value.ref g2:=r1
            have kept : ∀ {HY : Hp} {sY : Shared},Un (frs outer') [] H' HY s'.heap sY.heap → sY.heap.get? g2 = some (PySem.W.kla_obj "<lambda>" (X.env.qual ++ "<lambda>") params body scope (cloFrom X.env.cells scope.names []) pm c' ctv):=fun {HY sY} b => (un_over un0 b hsub).keep g2 _ hf hfn hfr (fun z => nomatch (show g2 ∈ ([] : List Addr) from z))
            refine PySem.W.callWith_F ⟨_,_,_,_,kept I1.base⟩ ?_ hse rfl
            have w : rdA X.K (CL.of aT T p) W xs σZ HZ fun vs H2 => ∃ (μ2 : Nat → Addr) (st2 : Store) (d : D) (v : V),vs = [v] ∧ SR X.K (CL.of aT T p) μ2 st2 H2 ∧ VR X.K μ2 st2.nxt H2 d v ∧ Post X.K (CL.of aT T p) (VR X.K) μ2 st2.nxt H2 Q (WE W σZ) (m (l ++ [some d]) st2):=
              ⟨μ,st,lZ,S,LZ,Post.bind h fun ds st2 μ2 H2 vs _ S2 e2 r2 h2 => by
                cases ds with
                | nil => exact h2.elim
                | cons d ds =>
                  cases ds with
                  | cons _ _ => exact h2.elim
                  | nil =>
                    simp only [VRs] at r2
                    obtain ⟨v,r,rfl,rv,rfl⟩:=r2
                    exact ⟨μ2,st2,d,v,rfl,S2,rv,h2⟩⟩
            refine thn (ha.run p2 pinsZ s1 σZ HZ _ I1 w) fun us s2 ⟨vs,H2,I2,rvs,μ2,st2,d,v,evs,S2,rd,h2⟩ => ?_
            subst evs
            obtain ⟨u,rfl,ru⟩ : ∃ u,us = [u] ∧ RelV v u:=by
              cases rvs with
              | cons a b =>
                cases b
                exact ⟨_,rfl,a⟩
            have un : Un (frs X.stack) [] H H2 s.heap s2.heap:=un_over un0 I2.base hsub
            have of1:=kept I2.base
            refine ⟨⟨_,_,_,_,of1⟩,?_⟩
            obtain ⟨hL,hc⟩:=hp _ _ _ S2.pp
            obtain ⟨⟨⟨oc,vs,t,hoc,hdc,hvc⟩,_⟩,_,_⟩:=I2.hok c' _ hc
            have rc : codeAny (model X.prog X.w) (A'.deeper (envOfC qg sg s'.heap.objs.size g cdg)) (.call (.ref g2) ⟨[u],[]⟩) (CR (L2.CX X.prog X.w) (envOfC qg sg s'.heap.objs.size g cdg :: outer') X.prog X.w H2 s2 Q (WE W σZ)) s2:=by
              refine PySem.W.kla_callFunE hr.room.depth of1 rfl L.co L.gen rfl ⟨c',oc,vs,t,rfl,hoc,hdc,hvc⟩ ?_
              rw [hbind]
              refine wpAny_pure (wpAny_newFunctionEnv (fun y hy => (L.own y hy).1) (fun y hy => by
                rcases List.mem_singleton.mp hy with rfl
                exact L.par) (fun h₁ hns hsb => ⟨I2.nolimit.fresh _ hsb,?_⟩) L.kind)
              show codeAny _ _ (.expr body (lamEnv X scope s2.heap.objs.size g2 c')) _ _
              have kp : ∀ b o,s2.heap.get? b = some o → h₁.get? b = some o:=fun b o e => hsb.extBut b o (Nat.ne_of_lt (Heap.lt_size e)) (Heap.get?_push_of_some _ e)
              have J : Inv (lamCx1 X (A'.deeper (envOfC qg sg s'.heap.objs.size g cdg)) (envOfC qg sg s'.heap.objs.size g cdg :: outer') s2 H2 (WE W σZ) scope g2 c' y0) [] (σ ++ [some v]) H2 { s2 with heap:=h₁,toks:=s2.toks + ([(y0,u)] : List (Str × Value)).length }:=
                lam_start1 I L hy0 I2.env0 hr.room.hd un hns ru kp
              have body':=hbody (A'.deeper (envOfC qg sg s'.heap.objs.size g cdg)) (envOfC qg sg s'.heap.objs.size g cdg :: outer') s2 H2 (WE W σZ) ⟨hr.room.deeper _,hr.g⟩ (takes_of rfl rfl rfl rfl)
              refine PySem.W.kla_codeExpr (wpAny_mono (body'.run [] _ _ H2 Q J ⟨μ2,st2,l ++ [some d],S2,hL.snoc rd,h2⟩) (fun v s' hq => ?_) fun e s' hq => hq)
              obtain ⟨w',H',J',rv,q⟩:=hq
              exact ⟨w',H',J'.os,J'.bare,J'.base,J'.hok,rv,q⟩
            refine wpAny_call (codeAny_mono rc fun r s' hq => ?_)
            cases r with
            | error e => exact passAt tk σZ pinsZ H2 s2 e s' I2 hq
            | ok fl =>
              cases fl with
              | ret u => exact I2.after hq
              | next => exact False.elim hq
              | brk => exact False.elim hq
              | cont => exact False.elim hq
          · rw [if_neg hga] at h; exact h.elim
        | _ => exact h.elim
      | _ => exact h.elim
end
structure FnM1 (P : Program) (w : World) (K : PySem.W.Frag) (mg : Str → Option Value) (base : Heap) (aT : Nat → Addr) (T : List NTab) (k : Nat) (N : List Str) (qual : Str) (st : Stmt) (g : Addr) (fd : FuncData) (ps : List Str) (G : Addr → (D → Store → Res D) → FD) : Prop where
  len : ∀ f Fd ds st,G f Fd ds st ≠ .bad → ds.length = ps.length
  run : ∀ (p : PP) (f : Addr) (Fd : D → Store → Res D) (A : Around) (outer : List Env) (s : Shared) (H : Hp) (args : Args) (us : List Value) (vs : List V) (Q : VK) (E : XK),RoomG k A → Env0 P w K mg base A outer s H → BindsTo s fd args (ps.zip us) → Vals vs us →
    (∀ cdv,∃ y,ps[1]? = some y ∧ CloL1 (cxD P w K mg base N qual st g cdv A outer s H E) (CL.of aT T p) 1 y f Fd) → spF K (CL.of aT T p) (G f Fd) vs H Q E → codeAny (model P w) A (.call (.ref g) args) (CR (L2.CX P w) outer P w H s Q E) s
section
variable {P : Program} {w : World} {K : PySem.W.Frag} {mg : Str → Option Value} {base : Heap} {aT : Nat → Addr} {T : List NTab}
theorem fnm1_of {x qual y : Str} {st : Stmt} {g : Addr} {fd : FuncData} {N ps : List Str} {k len n : Nat} {mb : Addr → (D → Store → Res D) → MS} (F : FunA K x qual st g fd) (S : FnScope N ps (defScope st)) (hn : ps.length = n) (hl : N.length = len) (hy : ps[1]? = some y)
    (hbody : ∀ (p : PP) (f : Addr) (Fd : D → Store → Res D) (cdv : Value) (A : Around) (outer : List Env) (s : Shared) (H : Hp) (E : XK),CloL1 (cxD P w K mg base N qual st g cdv A outer s H E) (CL.of aT T p) 1 y f Fd → RoomG k (A.deeper (envOfC qual (defScope st) s.heap.objs.size g cdv)) →
      Takes (cxD P w K mg base N qual st g cdv A outer s H E) (fun cls d _ H => E cls d H) →
      SSs (cxD P w K mg base N qual st g cdv A outer s H E) (CL.of aT T p) (fun cls d _ H => E cls d H) (defBody st) (mb f Fd)) : FnM1 P w K mg base aT T (k + 1) N qual st g fd ps (fun f Fd => mDef n len (mb f Fd)):=by
  have hlen : ∀ f Fd ds st,mDef n len (mb f Fd) ds st ≠ .bad → ds.length = ps.length:=fun f Fd ds t h => by
    unfold mDef at h
    by_cases z : ds.length = n
    · rw [z,hn]
    · rw [if_neg z] at h; exact absurd rfl h
  obtain ⟨oc,od,dV,kV,doc,pm,an,cdv,ct,osl,efd,lk,hcd⟩:=F.ex
  refine ⟨hlen,fun p f Fd A outer s H args us vs Q E hr e0 hb r clo ⟨μ,t,ds,SS,rv,h⟩ => ?_⟩
  subst efd
  have hvl : vs.length = ps.length:=by rw [← rv.length]; exact hlen f Fd ds t h.nb
  have kin0 : K.In s.heap:=e0.mod.kin.keeps fun b o e => (e0.bs b o e).1
  have nolim : s.heap.NoLimit:=e0.mod.nolimit.keeps fun b o e => (e0.bs b o e).1
  have binds : ∀ y ∈ ps.zip us,(defScope st).names.lookup y.1 = some .local ∨ ((defScope st).names.lookup y.1 = some .cell ∧ ((cellsFrom (s.heap.objs.size + 1) (defScope st).names []).lookup y.1).isSome = true):=by
    rintro ⟨n,v⟩ hy
    rcases S.par n (List.of_mem_zip hy).1 with c | c
    · exact .inl c
    · exact .inr ⟨c,PySem.W.cellsFrom_some _ _ _ (.inl c)⟩
  have hr0 : RoomG (k + 1) A:=hr
  have hr1 : RoomG k (A.deeper (envOfC qual (defScope st) s.heap.objs.size g cdv)):=⟨hr0.room.deeper _,hr0.g⟩
  refine codeAny_call_function hr0.room.depth (kin0 _ _ lk) rfl S.co S.gen rfl (PySem.W.codeRec_of kin0 hcd) (hb _ _ _ _ ?_)
  refine wpAny_newFunctionEnv_cells S.kind binds fun env1 henv t1 icc => ?_
  subst henv
  refine ⟨nolim.keeps icc.toInCall.keep,codeAny_func ?_⟩
  obtain ⟨y',hy',clo'⟩:=clo cdv
  obtain rfl : y = y':=by rw [hy] at hy'; exact Option.some.inj hy'
  have body:=hbody p f Fd cdv A outer s H E clo' hr1 (takes_of rfl rfl rfl rfl)
  have I0 : Inv (cxD P w K mg base N qual st g cdv A outer s H E) [] (L2.start N vs) H t1:=inv_start S hr0.room.hd e0 hvl r icc
  have want : rdS K (CL.of aT T p) (fun cls d _ H => E cls d H) (mb f Fd) { nx:=fun _ H' => Q .non H',rt:=Q } (L2.start N vs) H:=by
    refine ⟨μ,t,_,SS,rv.start hl,?_⟩
    unfold mDef at h
    have z : ds.length = n:=by rw [rv.length,hvl,hn]
    rw [if_pos z] at h
    rw [z]
    cases q : mb f Fd (ds.map some ++ List.replicate (len - n) none) t with
    | rt d st' => rw [q] at h; exact h
    | nx l st' =>
      rw [q] at h
      exact fun μ' H' σ' s e _ => h μ' H' .non s e (by simp only [VR])
    | exc c fs l st' =>
      rw [q] at h
      exact fun μ' H' σ' cls d s e _ x => h μ' H' cls d s e x
    | bk l st' => rw [q] at h; exact h.elim
    | ct l st' => rw [q] at h; exact h.elim
    | bad => rw [q] at h; exact h.elim
  refine wpAny_mono (body.run [] t1 (L2.start N vs) H _ I0 want) (fun fl t2 hs => ?_) fun _ _ hs => hs
  cases fl with
  | ret u =>
    obtain ⟨v,σ',H',J,rv,q⟩:=hs
    exact ⟨v,H',J.os,J.bare,J.base,J.hok,rv,q⟩
  | next =>
    obtain ⟨σ',H',J,q⟩:=hs
    exact ⟨V.non,H',J.os,J.bare,J.base,J.hok,rfl,q⟩
  | brk => exact hs.elim fun _ h => h.elim fun _ h => h.2.elim
  | cont => exact hs.elim fun _ h => h.elim fun _ h => h.2.elim
theorem FnM1.mono {j k : Nat} {N : List Str} {qual : Str} {st : Stmt} {g : Addr} {fd : FuncData} {ps : List Str} {G : Addr → (D → Store → Res D) → FD} (F : FnM1 P w K mg base aT T j N qual st g fd ps G) (h : j ≤ k) : FnM1 P w K mg base aT T k N qual st g fd ps G:=
  ⟨F.len,fun p f Fd A outer s H args us vs Q E hr => F.run p f Fd A outer s H args us vs Q E (hr.mono h)⟩
end
open Classical in
noncomputable def lam1V (m : ME) (G : Addr → (D → Store → Res D) → FD) (l : Loc) (r : Nat) (st : Store) : Res D:=if h : ∃ q,∀ f,G f (fun d st => m (l ++ [some d]) st) [.ref r,.cst (.ref f)] st = q then Classical.choose h else .bad
theorem lam1V_eq {m : ME} {G : Addr → (D → Store → Res D) → FD} {l : Loc} {r : Nat} {st : Store} {q : Res D} (h : ∀ f,G f (fun d st => m (l ++ [some d]) st) [.ref r,.cst (.ref f)] st = q) : lam1V m G l r st = q:=by
  have e : ∃ q,∀ f,G f (fun d st => m (l ++ [some d]) st) [.ref r,.cst (.ref f)] st = q:=⟨q,h⟩
  unfold lam1V
  rw [dif_pos e]
  exact (Classical.choose_spec e 0).symm.trans (h 0)
theorem lam1V_at {m : ME} {G : Addr → (D → Store → Res D) → FD} {l : Loc} {r : Nat} {st : Store} (h : lam1V m G l r st ≠ .bad) (f : Addr) : G f (fun d st => m (l ++ [some d]) st) [.ref r,.cst (.ref f)] st = lam1V m G l r st:=by
  by_cases e : ∃ q,∀ f,G f (fun d st => m (l ++ [some d]) st) [.ref r,.cst (.ref f)] st = q
  · obtain ⟨q,hq⟩:=e
    rw [lam1V_eq hq,hq f]
  · unfold lam1V at h
    rw [dif_neg e] at h
    exact absurd rfl h
noncomputable def mMethL (c : Nat) (name : Str) (m : ME) (G : Addr → (D → Store → Res D) → FD) (mo : ME) : ME:=fun l st => (mo l st).bind fun o st1 => match o with
  | .ref r => (match st1.at_ r with
    | some (.ins c' fs) => if c' = c ∧ fs.lookup name = none then lam1V m G l r st1 else .bad
    | _ => .bad)
  | _ => .bad
theorem mMethL_eq {c : Nat} {name : Str} {m : ME} {G : Addr → (D → Store → Res D) → FD} {mo : ME} {l : Loc} {st st1 : Store} {n : Nat} {fs : List (Str × D)} {r : Res D} (ho : mo l st = .ok (.ref n) st1) (hi : st1.at_ n = some (.ins c fs)) (hl : fs.lookup name = none)
    (h : ∀ f,G f (fun d st => m (l ++ [some d]) st) [.ref n,.cst (.ref f)] st1 = r) : mMethL c name m G mo l st = r:=by
  unfold mMethL
  rw [ho]
  show (match st1.at_ n with
    | some (.ins c' fs) => if c' = c ∧ fs.lookup name = none then lam1V m G l n st1 else .bad
    | _ => .bad) = r
  rw [hi]
  simp only [hl,and_self,if_true]
  exact lam1V_eq h
section
variable {X : Cx} {aT : Nat → Addr} {T : List NTab} {p : PP} {W : WX}
theorem s_methL {qual self y y0 name : Str} {g cD P0 cM P : Addr} {c k : Nat} {N : List Str} {st : Stmt} {fd : FuncData} {G : Addr → (D → Store → Res D) → FD} {params : Arguments} {body o : Expr} {scope : Scope} {m mo : ME} {apos lpos pos : Pos} {pl : Sem Bool}
    (ho : SE X (CL.of aT T p) W o mo) (cc : Cls X.K ((CL.of aT T p) c)) (hm : Meth X.K ((CL.of aT T p) c) name g) (F : FnM1 X.prog X.w X.K X.mg X.base aT T (k + 2) N qual st g fd [self,y] G) (hr : RoomG (k + 2) X.A) (tk : Takes X W) (hb : Binds X.K fd [self,y] []) (hNy : N[1]? = some y) (hvy : Vis (defScope st) y)
    (TB : TabB X.base X.mg cD P0) (hcode : X.env.code = .ref cM) (hC : ∀ μ st H,SR X.K (CL.of aT T p) μ st H → TabC T H cD P0 cM P lpos (X.env.qual ++ "<lambda>")) (L : LamS1 X.env.scope scope y0) (hy0 : y0 ∉ X.N) (hdef : defaultsOf params X.env = ([],[]))
    (hbind : ∀ (q : Str) (cl : List (Str × Addr)) (pm cv ctv u : Value),bindArgs (PySem.W.kla_fn "<lambda>" q params body scope cl pm cv ctv) ⟨[u],[]⟩ = pure [(y0,u)])
    (hbody : ∀ (p : PP) (A : Around) (outer : List Env) (s : Shared) (H : Hp) (E : XK) (f c' P2 : Addr),(∀ μ N H,p.P X.K μ N H → H c' = some (CodeT c' (X.env.qual ++ "<lambda>") P2)) → RoomG k (A.deeper (lamEnv X scope s.heap.objs.size f c')) → Takes (lamCx1 X A outer s H E scope f c' y0) (fun cls d _ H => E cls d H) → SE (lamCx1 X A outer s H E scope f c' y0) (CL.of aT T p) (fun cls d _ H => E cls d H) body m)
    (hd : (y == ("__debug__" : Str)) = false:=by decide) (hcd : (y == ("__classdict__" : Str)) = false:=by decide)
    (he : starEach [.Lambda params body scope lpos] X.env = (false,eval (.Lambda params body scope lpos) X.env) :: starEach [] X.env:=by rfl) (hpl : (backTo pos (starEach [] X.env)).any (·.1) = false:=by rfl)
    (ht : eval (.Call (.Attribute o name apos) [.Lambda params body scope lpos] [] pos) X.env = (do
      let ov ← eval o X.env
      standAt apos.atName
      let (f,first) ← holding [ov] (getMethod ov name pl)
      callWith pos f first (backTo pos (starEach [.Lambda params body scope lpos] X.env)) (backToKw pos (keywordEach [] X.env))):=by rfl) :
    SE X (CL.of aT T p) W (.Call (.Attribute o name apos) [.Lambda params body scope lpos] [] pos) (mMethL c name m G mo):=by
  refine ⟨fun pins s σ H Q I ⟨μ,t,l,S,L0,h⟩ => ?_⟩
  have w : rdE X.K (CL.of aT T p) W mo σ H fun x H1 => ∃ (r : Nat) (μ1 : Nat → Addr) (st1 : Store) (dx : Addr) (qs : List (Str × V)),x = .ref (μ1 r) ∧ H1 (μ1 r) = some (.ins ((CL.of aT T p) c) dx qs) ∧ qs.lookup name = none ∧ r < st1.nxt ∧ SR X.K (CL.of aT T p) μ1 st1 H1 ∧ LR X.K μ1 st1.nxt H1 l σ ∧
      Post X.K (CL.of aT T p) (VR X.K) μ1 st1.nxt H1 Q (WE W σ) (lam1V m G l r st1):=
    ⟨μ,t,l,S,L0,Post.bind h fun d st1 μ1 H1 v _ S1 e1 r1 h1 => by
      cases d with
      | ref r =>
        simp only [VR] at r1
        obtain ⟨hr,rfl⟩:=r1
        simp only at h1
        cases z : st1.at_ r with
        | none => rw [z] at h1; exact h1.elim
        | some cell =>
          rw [z] at h1
          cases cell with
          | ins c' fs =>
            simp only at h1
            by_cases yy : c' = c ∧ fs.lookup name = none
            · rw [if_pos yy] at h1
              obtain ⟨rfl,y2⟩:=yy
              obtain ⟨dx,qs,g1,g2,g3⟩:=S1.get z
              exact ⟨r,μ1,st1,dx,qs,rfl,g1,lookN_rel g2 y2,hr,S1,L0.ev e1,h1⟩
            · rw [if_neg yy] at h1; exact h1.elim
          | _ => exact h1.elim
      | _ => exact h1.elim⟩
  refine PySem.W.methodCall_KW (pl:=pl) (thn (ho.run pins s σ H _ I w) fun u s1 ⟨x,H1,I1,rx,r,μ1,st1,dx,qs,ex,ea,ln,hrn,S1,L1,h1⟩ => ?_) ht
  subst ex
  obtain rfl : u = Value.ref (μ1 r):=rx
  refine getmeth_ok I1 ea cc hm ln ?_
  refine PySem.W.callWith_K (first:=[.ref (μ1 r)]) (h₀:=X.base) I.ok.mod.kin hm.kp ?_ he hpl
  rw [he]
  show wpAny _ _ (spliced ((false,eval (.Lambda params body scope lpos) X.env) :: backTo pos (starEach [] X.env))) _ _ s1
  refine Calls.spliced_cons (lam_makeD I1 TB hcode S1.tb (hC _ _ _ S1) hdef (L.has I1.ok) fun f c' P2 pm' ctv H2 s2 I2 eN back T1 hf hfn hfr hco => ?_)
  refine Calls.spliced_nil ⟨I2.kIn,?_⟩
  have e : Ev X.K μ1 st1.nxt H1 μ1 st1.nxt H2:=by
    refine ⟨⟨Nat.le_refl _,fun _ _ => rfl,fun q vs z => ?_,fun q vs z => ?_,fun q φ z _ => eN _ _ z (fun _ y => by cases y),fun q fs z => eN _ _ z (fun _ y => by cases y),fun q ob u z => eN _ _ z (fun _ y => by cases y)⟩,fun b o z _ nt => eN _ _ z nt,fun n h1 h2 => absurd h2 (by omega),fun b z y => z (back b y)⟩
    · rcases z with (z | ⟨u,z⟩) | z
      · exact .inl (.inl (eN _ _ z (fun _ y => by cases y)))
      · exact .inl (.inr ⟨u,eN _ _ z (fun _ y => by cases y)⟩)
      · exact .inr z
    · rcases z with ⟨u,z⟩ | z
      · exact .inl ⟨u,eN _ _ z (fun _ y => by cases y)⟩
      · exact .inr z
  have S2 : SR X.K (CL.of aT T p) μ1 st1 H2:=by
    refine ⟨S1.inj,fun n hn => ?_,S1.out,p.up e.toEv0 S1.pp,T1⟩
    obtain ⟨cc,h1,h2⟩:=S1.cell n hn
    refine ⟨cc,h1,h2.ev e ?_⟩
    obtain ⟨o,ho,hc⟩:=h2.there0
    rw [ho]
    exact eN _ _ ho (fun ps y => hc ps y)
  have h2 : Post X.K (CL.of aT T (p.and (ppL l σ c' (X.env.qual ++ "<lambda>") P2))) (VR X.K) μ1 st1.nxt H2 Q (WE W σ) (G f (fun d st => m (l ++ [some d]) st) [.ref r,.cst (.ref f)] st1):=by
    rw [lam1V_at h1.nb f]
    exact Post.re (fun _ _ _ y => y.1) (Post.mono e h1)
  have b:=hb s2 [Value.ref (μ1 r),Value.ref f] I2.kIn rfl
  rw [List.append_nil] at b
  refine wpAny_call (codeAny_mono (F.run (p.and (ppL l σ c' (X.env.qual ++ "<lambda>") P2)) f (fun d st => m (l ++ [some d]) st) X.A X.stack s2 H2 ⟨[.ref (μ1 r),.ref f],[]⟩ [.ref (μ1 r),.ref f] [.ref (μ1 r),.ref f] Q (WE W σ) hr I2.env0 b (.cons rfl (.cons rfl .nil)) (fun cdv => ⟨y,rfl,?_⟩)
    ⟨μ1,st1,[.ref r,.cst (.ref f)],S2.re ⟨S2.pp,L1.ev e,hco⟩,?_,h2⟩) fun r s3 hq => ?_)
  · exact clo_lam1 (k:=k) I2 L hy0 hf hfn hfr (hbind _ _ _ _ _) (Un.kept fun _ _ z => z) (fun _ z => .inl z) ⟨hr.room.deeper _,hr.g⟩ (fun μ N H y => y.2) (fun A outer s H E hr2 tk2 => hbody _ A outer s H E f c' P2 (fun μ N H y => y.2.2) hr2 tk2) hNy hvy hd hcd
  · simp only [VRs,VR]
    exact ⟨_,_,rfl,⟨hrn,rfl⟩,_,_,rfl,rfl,rfl⟩
  · cases r with
    | error e => exact passAt tk σ pins H2 s2 e s3 I2 hq
    | ok fl =>
      cases fl with
      | ret u => exact I2.after hq
      | next => exact False.elim hq
      | brk => exact False.elim hq
      | cont => exact False.elim hq
end
def fNotC : F2:=fun x y st => match x with
  | .cst w => (match y with
    | .non => some (.bl (!decide (w = .non)),st)
    | _ => none)
  | _ => fNotN x y st
section
variable {X : Cx} {cl : CL}
theorem o_notC : OpS X cl (compareOp .IsNot) fNotC:=by
  intro pins s σ H x y v u Q I rx ry ⟨μ,st,d1,d2,S,r1,r2,h⟩
  cases d1 with
  | cst w =>
    cases d2 with
    | non =>
      simp only [VR] at r1 r2
      subst r1 r2
      exact op_notN pins s σ H _ _ v u Q I rx ry ⟨rfl,h μ H _ S Ev.refl (by simp only [VR])⟩
    | _ => exact h.elim
  | _ => exact o_notN pins s σ H x y v u Q I rx ry ⟨μ,st,_,d2,S,r1,r2,h⟩
end
end DV
namespace DV
open PySem PySem.Spec PyProof.Rows L2 NdefX LamX
section
variable {X : Cx} {aT : Nat → Addr} {T : List NTab} {p : PP} {W : WX} {k : Nat}
theorem s_methLK {qual self y y0 name : Str} {g cD P0 cM P : Addr} {c k : Nat} {N : List Str} {st : Stmt} {fd : FuncData} {G : Addr → (D → Store → Res D) → FD} {params : Arguments} {body o : Expr} {scope : Scope} {m mo : ME} {apos lpos kpos pos : Pos} {pl : Sem Bool}
    (ho : SE X (CL.of aT T p) W o mo) (cc : Cls X.K ((CL.of aT T p) c)) (hm : Meth X.K ((CL.of aT T p) c) name g) (F : FnM1 X.prog X.w X.K X.mg X.base aT T (k + 2) N qual st g fd [self,y] G) (hr : RoomG (k + 2) X.A) (tk : Takes X W) (hb : KB X.K fd [self,y] 1 [y] [.p 0,.k 0] []) (hNy : N[1]? = some y) (hvy : Vis (defScope st) y)
    (TB : TabB X.base X.mg cD P0) (hcode : X.env.code = .ref cM) (hC : ∀ μ st H,SR X.K (CL.of aT T p) μ st H → TabC T H cD P0 cM P lpos (X.env.qual ++ "<lambda>")) (L : LamS1 X.env.scope scope y0) (hy0 : y0 ∉ X.N) (hdef : defaultsOf params X.env = ([],[]))
    (hbind : ∀ (q : Str) (cl : List (Str × Addr)) (pm cv ctv u : Value),bindArgs (PySem.W.kla_fn "<lambda>" q params body scope cl pm cv ctv) ⟨[u],[]⟩ = pure [(y0,u)])
    (hbody : ∀ (p : PP) (A : Around) (outer : List Env) (s : Shared) (H : Hp) (E : XK) (f c' P2 : Addr),(∀ μ N H,p.P X.K μ N H → H c' = some (CodeT c' (X.env.qual ++ "<lambda>") P2)) → RoomG k (A.deeper (lamEnv X scope s.heap.objs.size f c')) → Takes (lamCx1 X A outer s H E scope f c' y0) (fun cls d _ H => E cls d H) → SE (lamCx1 X A outer s H E scope f c' y0) (CL.of aT T p) (fun cls d _ H => E cls d H) body m)
    (hd : (y == ("__debug__" : Str)) = false:=by decide) (hcd : (y == ("__classdict__" : Str)) = false:=by decide)
    (hall : (backToKw pos (keywordEach [⟨some y,.Lambda params body scope lpos,kpos⟩] X.env)).all (·.1.isSome) = true:=by rfl) (hpl : ((backTo pos (starEach [] X.env)).any (·.1) || (backToKw pos (keywordEach [⟨some y,.Lambda params body scope lpos,kpos⟩] X.env)).any (·.1.isNone)) = false:=by rfl)
    (ht : eval (.Call (.Attribute o name apos) [] [⟨some y,.Lambda params body scope lpos,kpos⟩] pos) X.env = (do
      let ov ← eval o X.env
      standAt apos.atName
      let (f,first) ← holding [ov] (getMethod ov name pl)
      callWith pos f first (backTo pos (starEach [] X.env)) (backToKw pos (keywordEach [⟨some y,.Lambda params body scope lpos,kpos⟩] X.env))):=by rfl) :
    SE X (CL.of aT T p) W (.Call (.Attribute o name apos) [] [⟨some y,.Lambda params body scope lpos,kpos⟩] pos) (mMethL c name m G mo):=by
  refine ⟨fun pins s σ H Q I ⟨μ,t,l,S,L0,h⟩ => ?_⟩
  have w : rdE X.K (CL.of aT T p) W mo σ H fun x H1 => ∃ (r : Nat) (μ1 : Nat → Addr) (st1 : Store) (dx : Addr) (qs : List (Str × V)),x = .ref (μ1 r) ∧ H1 (μ1 r) = some (.ins ((CL.of aT T p) c) dx qs) ∧ qs.lookup name = none ∧ r < st1.nxt ∧ SR X.K (CL.of aT T p) μ1 st1 H1 ∧ LR X.K μ1 st1.nxt H1 l σ ∧
      Post X.K (CL.of aT T p) (VR X.K) μ1 st1.nxt H1 Q (WE W σ) (lam1V m G l r st1):=
    ⟨μ,t,l,S,L0,Post.bind h fun d st1 μ1 H1 v _ S1 e1 r1 h1 => by
      cases d with
      | ref r =>
        simp only [VR] at r1
        obtain ⟨hr,rfl⟩:=r1
        simp only at h1
        cases z : st1.at_ r with
        | none => rw [z] at h1; exact h1.elim
        | some cell =>
          rw [z] at h1
          cases cell with
          | ins c' fs =>
            simp only at h1
            by_cases yy : c' = c ∧ fs.lookup name = none
            · rw [if_pos yy] at h1
              obtain ⟨rfl,y2⟩:=yy
              obtain ⟨dx,qs,g1,g2,g3⟩:=S1.get z
              exact ⟨r,μ1,st1,dx,qs,rfl,g1,lookN_rel g2 y2,hr,S1,L0.ev e1,h1⟩
            · rw [if_neg yy] at h1; exact h1.elim
          | _ => exact h1.elim
      | _ => exact h1.elim⟩
  refine PySem.W.methodCall_KW (pl:=pl) (thn (ho.run pins s σ H _ I w) fun u s1 ⟨x,H1,I1,rx,r,μ1,st1,dx,qs,ex,ea,ln,hrn,S1,L1,h1⟩ => ?_) ht
  subst ex
  obtain rfl : u = Value.ref (μ1 r):=rx
  refine getmeth_ok I1 ea cc hm ln ?_
  refine PySem.W.callWith_KW0 (first:=[.ref (μ1 r)]) (h₀:=X.base) I.ok.mod.kin hm.kp hall ?_ hpl
  show wpAny _ _ (evalAll [(do let v ← eval (.Lambda params body scope lpos) X.env; standAt pos; pure v)]) _ _ s1
  refine wpAny_evalAll_cons (wpAny_bind (lam_makeD I1 TB hcode S1.tb (hC _ _ _ S1) hdef (L.has I1.ok) fun f c' P2 pm' ctv H2 s2 I2 eN back T1 hf hfn hfr hco => wpAny_bind (wpAny_standAt (wpAny_pure (wpAny_evalAll_nil ?_)))))
  refine ⟨I2.kIn,?_⟩
  have e : Ev X.K μ1 st1.nxt H1 μ1 st1.nxt H2:=by
    refine ⟨⟨Nat.le_refl _,fun _ _ => rfl,fun q vs z => ?_,fun q vs z => ?_,fun q φ z _ => eN _ _ z (fun _ y => by cases y),fun q fs z => eN _ _ z (fun _ y => by cases y),fun q ob u z => eN _ _ z (fun _ y => by cases y)⟩,fun b o z _ nt => eN _ _ z nt,fun n h1 h2 => absurd h2 (by omega),fun b z y => z (back b y)⟩
    · rcases z with (z | ⟨u,z⟩) | z
      · exact .inl (.inl (eN _ _ z (fun _ y => by cases y)))
      · exact .inl (.inr ⟨u,eN _ _ z (fun _ y => by cases y)⟩)
      · exact .inr z
    · rcases z with ⟨u,z⟩ | z
      · exact .inl ⟨u,eN _ _ z (fun _ y => by cases y)⟩
      · exact .inr z
  have S2 : SR X.K (CL.of aT T p) μ1 st1 H2:=by
    refine ⟨S1.inj,fun n hn => ?_,S1.out,p.up e.toEv0 S1.pp,T1⟩
    obtain ⟨cc,h1,h2⟩:=S1.cell n hn
    refine ⟨cc,h1,h2.ev e ?_⟩
    obtain ⟨o,ho,hc⟩:=h2.there0
    rw [ho]
    exact eN _ _ ho (fun ps y => hc ps y)
  have h2 : Post X.K (CL.of aT T (p.and (ppL l σ c' (X.env.qual ++ "<lambda>") P2))) (VR X.K) μ1 st1.nxt H2 Q (WE W σ) (G f (fun d st => m (l ++ [some d]) st) [.ref r,.cst (.ref f)] st1):=by
    rw [lam1V_at h1.nb f]
    exact Post.re (fun _ _ _ y => y.1) (Post.mono e h1)
  obtain ⟨dv,hb⟩:=hb
  have b:=hb.to s2 [Value.ref (μ1 r)] [Value.ref f] I2.kIn rfl rfl
  refine wpAny_call (codeAny_mono (F.run (p.and (ppL l σ c' (X.env.qual ++ "<lambda>") P2)) f (fun d st => m (l ++ [some d]) st) X.A X.stack s2 H2 ⟨[.ref (μ1 r)],[(y,.ref f)]⟩ [.ref (μ1 r),.ref f] [.ref (μ1 r),.ref f] Q (WE W σ) hr I2.env0 b (.cons rfl (.cons rfl .nil)) (fun cdv => ⟨y,rfl,?_⟩)
    ⟨μ1,st1,[.ref r,.cst (.ref f)],S2.re ⟨S2.pp,L1.ev e,hco⟩,?_,h2⟩) fun r s3 hq => ?_)
  · exact clo_lam1 (k:=k) I2 L hy0 hf hfn hfr (hbind _ _ _ _ _) (Un.kept fun _ _ z => z) (fun _ z => .inl z) ⟨hr.room.deeper _,hr.g⟩ (fun μ N H y => y.2) (fun A outer s H E hr2 tk2 => hbody _ A outer s H E f c' P2 (fun μ N H y => y.2.2) hr2 tk2) hNy hvy hd hcd
  · simp only [VRs,VR]
    exact ⟨_,_,rfl,⟨hrn,rfl⟩,_,_,rfl,rfl,rfl⟩
  · cases r with
    | error e => exact passAt tk σ pins H2 s2 e s3 I2 hq
    | ok fl =>
      cases fl with
      | ret u => exact I2.after hq
      | next => exact False.elim hq
      | brk => exact False.elim hq
      | cont => exact False.elim hq
end
end DV
namespace G
open DV PySem L2
noncomputable section
def F_check_part : FD:=mDef 3 3 (msIf (tNot_ (tB_ (mCall F_is_part [] (maCons (mVar 0) (maCons (mVar 1) (maCons (mVar 2) maNil))))))
  (msRaise 10 "given" (maCons (mVar 0) maNil))
  msNil)
def F_check_fate : FD:=mDef 1 1 (msIf (tNot_ (tB_ (mCall F_is_word [] (maCons (mVar 0) (maCons (mC (.tup [(.str "stays"),(.str "wiped"),(.str "back")])) maNil)))))
  (msRaise 11 "given" (maCons (mVar 0) maNil))
  msNil)
end
end G
namespace DV
open PySem PySem.Spec PyProof.Rows L2
def ltS (a b : Str) : Bool:=decide (a.cps.toList < b.cps.toList)
def insS (x : Str) : List Str → List Str
  | [] => [x]
  | y :: r => if x = y then y :: r else if ltS x y then x :: y :: r else y :: insS x r
def sddS (xs : List Str) : List Str:=xs.foldr insS []
def txK (e : Int × Value) : Str:=match e.2 with
  | .str k _ => k
  | _ => ""
def TxE (w : World) (e : Int × Value) : Prop:=∃ k tk,e.2 = Value.str k tk ∧ e.1 = hashStr w k
def TxR (w : World) (h : Heap) (a : Addr) (M : Str → Bool) (n : Nat) : Prop:=
  ∃ u items c t,h.get? a = some u ∧ u.ExactSet ∧ u.data = .set items c t ∧ (∀ e ∈ items.toList,TxE w e) ∧ (items.toList.map txK).Nodup ∧ (∀ k,M k = true ↔ k ∈ items.toList.map txK) ∧
    items.size < scanBound ∧ t.fits items.size = true ∧ items.size = n ∧ Ris t.place.toList ∧ (w.params.followText "set-order" = true ∨ t.led = true)
section
variable {P : Program} {w : World} {h h' : Heap} {a : Addr} {M : Str → Bool} {n : Nat}
theorem TxR.as {M' : Str → Bool} (R : TxR w h a M n) (e : ∀ k,M' k = M k) : TxR w h a M' n:=by
  obtain rfl : M' = M:=funext e
  exact R
theorem TxR.at_ (R : TxR w h a M n) (k : ∀ o,h.get? a = some o → h'.get? a = some o) : TxR w h' a M n:=
  let ⟨u,items,c,t,hu,r⟩:=R; ⟨u,items,c,t,k u hu,r⟩
end
section
variable {P : Program} {w : World} {A : Around} {E : Value → Shared → Prop} {s : Shared} {a : Addr} {M : Str → Bool} {n : Nat}
end
end DV
namespace DV
open PySem PySem.Spec PyProof.Rows L2
section
variable {P : Program} {w : World} {A : Around} {E : Value → Shared → Prop} {s : Shared}
variable {R : Result → Shared → Prop} {I : Addr} {fp wr : List Addr} {G : Array GenState → Array GenState → Prop} {n : Nat} {Pv : Nat → Value → Prop} {St : Nat → Shared → Prop}
set_option maxHeartbeats 16000000 in
end
section
variable {X : Cx} {cl : CL} {W : WX}
end
end DV
namespace DV
open PySem PySem.Spec PyProof.Rows L2
section
variable {X : Cx} {cl : CL} {W : WX} {o e f : Expr} {mo me mf : ME} {apos cpos : Pos}
end
end DV
namespace G
open DV PySem L2
noncomputable section
end
end G
namespace G
open DV PySem L2
def tagsB (c : Nat) (a : Addr) : List (Str × Str × Nat) → MS
  | [] => msRet (mVar 1)
  | y :: r => msSeq (msAsg (m2 fAdd (mVar 1) (mIf (tB_ (mIsE 0 a (decide (c = y.2.2)))) (mLst (maCons (mC (.str y.1)) maNil)) (mLst maNil))) (tgName 1)) (tagsB c a r)
def F_law_tags (c : Nat) (a : Addr) : FD:=mDef 1 2 (msSeq (msAsg (mLst maNil) (tgName 1)) (tagsB c a tagW))
def caughtH (c : Nat) (fs : List (Str × D)) (a : Addr) : MS:=msSeq (msAsg (mTags 2 a (F_law_tags c a)) (tgName 3))
  (msSeq (msIf (tB_ (m2 fNe (mL (f1 lenD) (maCons (mVar 3) maNil)) (mC (.int 1)))) (msRet (mLst (maCons (mC (.str "odd")) (maCons (mC (.str "")) maNil)))) msNil)
  (msSeq (msIf (tB_ (m2 fIn (m2 fIx (mVar 3) (mC (.int 0))) (mLst (maCons (mC (.str "frames")) (maCons (mC (.str "solid")) (maCons (mC (.str "sheets")) (maCons (mC (.str "plan")) (maCons (mC (.str "row")) (maCons (mC (.str "use")) (maCons (mC (.str "broken")) maNil)))))))))) (msRet (mLst (maCons (m2 fIx (mVar 3) (mC (.int 0))) (maCons (mL (f1 reprA) (maCons (mXf 2 a fs "index") maNil)) maNil)))) msNil)
  (msSeq (msIf (tB_ (m2 fIn (m2 fIx (mVar 3) (mC (.int 0))) (mLst (maCons (mC (.str "fit")) (maCons (mC (.str "undo")) (maCons (mC (.str "painted")) maNil)))))) (msRet (mLst (maCons (m2 fIx (mVar 3) (mC (.int 0))) (maCons (mC (.str "")) maNil)))) msNil)
  (msRet (mLst (maCons (m2 fIx (mVar 3) (mC (.int 0))) (maCons (mL (f1 reprA) (maCons (mIf (tB_ (m2 fEq (m2 fIx (mVar 3) (mC (.int 0))) (mC (.str "many")))) (mXf 2 a fs "limit") (mXf 2 a fs "given")) maNil)) maNil)))))))
noncomputable def caughtB (cs : List Nat) (f : Addr) (Fd : Store → Res D) : MS:=msSeq (mTry 2 cs (msAsg (mAct 0 f Fd) (tgName 1)) caughtH)
  (msRet (mLst (maCons (mC (.str "back")) (maCons (mL (f1 reprA) (maCons (mVar 1) maNil)) maNil))))
noncomputable def F_law_caught (cs : List Nat) (f : Addr) (Fd : Store → Res D) : FD:=mDef 1 4 (caughtB cs f Fd)
end G
namespace G
open DV PySem L2
noncomputable section
end
end G
namespace DV
open PySem PySem.Spec PyProof.Rows L2
section
variable {X : Cx} {cl : CL} {W : WX} {o e : Expr} {mo me : ME} {apos pos : Pos}
end
section
variable {X : Cx} {cl : CL} {W : WX} {e : Expr} {m : ME} {pos : Pos}
inductive SJ (X : Cx) (cl : CL) (W : WX) : List Expr → List ME → Prop where
  | nil : SJ X cl W [] []
  | cons {e : Expr} {m : ME} {es : List Expr} {ms : List ME} (h : SE X cl W e m) (r : SJ X cl W es ms) : SJ X cl W (e :: es) (m :: ms)
end
section
variable {X : Cx} {cl : CL}
end
section
variable {X : Cx} {cl : CL} {W : WX} {k c : Nat} {f : Addr} {fd : FuncData} {ps : List Str} {F : FD} {e : Expr} {m : ME} {p pos : Pos}
end
end DV
namespace DV
open PySem PySem.Spec PyProof.Rows L2
section
variable {prog : Program} {w : World} {A : Around} {E : Value → Shared → Prop} {s : Shared} {K : PySem.W.Frag} {x y C f : Addr} {ox oy : Obj} {od od' : Option Obj}
theorem ifBound_B {M : Model} {name : Str} {id : String} {args : List Value} {Q : Option Value → Shared → Prop} (X : K.In s.heap) (I : PySem.W.InstAt s.heap x ox C od) (hs : PySem.W.findIn K (.ref C) name = some (some (.builtin id)))
    (hb : ∀ self,bindSpecial (.builtin id) self = pure (.builtin id,[self])) (h : wpAny M A (call (.builtin id) (.ref x :: args)) (fun v => Q (some v)) E s) : wpAny M A (callSpecialIfBound? (.ref x) name args) Q E s:=by
  simp only [callSpecialIfBound?,bindSpecialIfBound?]
  refine wpAny_holding (wpAny_bind (wpAny_bind (wpAny_bind (I.type.here ((PySem.W.looks_findIn X hs).here ?_)))))
  refine wpAny_bind (wpAny_askSetting (wpAny_ite ?_))
  have fin : wpAny M A (call (.builtin id) ([.ref x] ++ args) >>= fun v => pure (some v)) Q E s:=wpAny_bind (wpAny_mono h (fun v s' h' => wpAny_pure h') fun _ _ h' => h')
  split
  · exact wpAny_bind ((PySem.W.Looks.of_pure (hb _)).here (wpAny_pure (by exact fin)))
  · exact wpAny_tryCatch (wpAny_bind ((PySem.W.Looks.of_pure (hb _)).here (wpAny_pure (by exact fin))))
end
section
variable {X : Cx} {cl : CL} {k c : Nat} {f : Addr} {fd : FuncData} {ps : List Str} {F : FD}
end
end DV
namespace DV
open PySem PySem.Spec PyProof.Rows L2
section
variable {prog : Program} {w : World} {A : Around} {E : Value → Shared → Prop} {s : Shared} {K : PySem.W.Frag} {x C f : Addr} {ox : Obj} {od : Option Obj}
end
section
variable {X : Cx} {cl : CL} {W : WX} {k c : Nat} {f : Addr} {fd : FuncData} {ps : List Str} {F : FD} {e : Expr} {m : ME} {p pos : Pos}
end
end DV
namespace G
open DV PySem L2
noncomputable section
end
end G
namespace G
open DV PySem L2
noncomputable section
def F_Screen_init : FD:=mDef 4 4 (msSeq (msExpr (mCall F_check_size [] (maCons (mVar 1) maNil)))
  (msSeq (msExpr (mCall F_check_size [] (maCons (mVar 2) maNil)))
  (msSeq (msExpr (mCall F_check_solid [] (maCons (mVar 3) maNil)))
  (msSeq (msFld 3 "head" (mVar 0) (mTup (maCons (mVar 1) (maCons (mVar 2) (maCons (mVar 3) maNil)))))
  (msFld 3 "state" (mVar 0) (mTup maNil))))))
def F_law_board : FD:=mDef 1 1 (msRet (mMake 3 F_Screen_init 2 1 [.p 0,.p 1,.p 2,.k 0] [] (maCons (m2 fIx (mVar 0) (mC (.int 0))) (maCons (m2 fIx (mVar 0) (mC (.int 1))) maNil)) (maCons (m2 fIx (mVar 0) (mC (.int 3))) maNil)))
def F_Screen_paint : FD:=mDef 4 4 (msSeq (msIf (tNot_ (tB_ (mCall F_is_name [] (maCons (mVar 1) maNil))))
  (msRaise 18 "given" (maCons (mVar 1) maNil))
  msNil)
  (msSeq (msExpr (mCall F_check_part [] (maCons (mVar 2) (maCons (m2 fIx (mFld 3 "head" (mVar 0)) (mC (.int 0))) (maCons (m2 fIx (mFld 3 "head" (mVar 0)) (mC (.int 1))) maNil)))))
  (msSeq (msExpr (mCall F_check_fate [] (maCons (mVar 3) maNil)))
  (msSeq (msIf (tB_ (m2 fEq (mL (f1 lenD) (maCons (mFld 3 "state" (mVar 0)) maNil)) (mC (.int 8))))
  (msRaise 33 "limit" (maCons (mC (.int 8)) maNil))
  msNil)
  (msFld 3 "state" (mVar 0) (mTup (maStar (mFld 3 "state" (mVar 0)) (maCons (mTup (maCons (mVar 1) (maCons (mVar 2) (maCons (mVar 3) maNil)))) maNil))))))))
def F_Screen_frames : FD:=mDef 1 1 (msRet (mFld 3 "state" (mVar 0)))
def F_Screen_undo : FD:=mDef 1 1 (msSeq (msIf (tB_ (m2 fEq (mFld 3 "state" (mVar 0)) (mTup maNil)))
  (msRaise0 30)
  msNil)
  (msFld 3 "state" (mVar 0) (mSl (mFld 3 "state" (mVar 0)) moNone (moSome (m1 fNeg (mC (.int 1)))))))
end
end G
namespace DV
open PySem PySem.Spec PyProof.Rows L2
section
variable {prog : Program} {w : World} {A : Around} {E : Value → Shared → Prop} {s : Shared} {K : PySem.W.Frag} {x y C f : Addr} {ox oy : Obj} {od od' : Option Obj}
theorem same_K {M : Model} {R : Bool → Shared → Prop} (hx : s.heap.get? x = some ox) (hy : s.heap.get? y = some oy) (hnt : ox.cls ≠ .type "tuple") (h : R (decide (x = y)) s) : wpAny M A (isSame (.ref x) (.ref y)) R E s:=by
  by_cases e : x = y
  · subst e
    exact wpAny_isSame_ref_self (by simpa using h)
  · exact wpAny_isSame_ref_other e hx hy hnt (by simpa [e] using h)
theorem inst_nt (I : PySem.W.InstAt s.heap x ox C od) : ox.cls ≠ .type "tuple":=by
  rw [I.cls]
  intro e
  cases e
def eqObj (b : Bool) : Value:=if b then .bool true else .notImplemented
theorem objEq_entry {M : Model} {Q : Fin → Shared → Prop} (I : PySem.W.InstAt s.heap x ox C od) (I' : PySem.W.InstAt s.heap y oy C od') (hq : Q (.done (.ret (eqObj (decide (x = y))))) s) : wpAny M A (Builtin.«object.__eq__» ⟨[.ref x,.ref y],[]⟩) Q E s:=by
  unfold Builtin.«object.__eq__»
  refine wpAny_bind (wpAny_pure (a:=(Value.ref x,[Value.ref y])) ?_)
  dsimp only
  refine wpAny_bind (m:=isSame _ _) (same_K I.at_ I'.at_ (inst_nt I) ?_)
  by_cases e : x = y
  · rw [decide_eq_true e] at hq ⊢
    exact wpAny_pure hq
  · rw [decide_eq_false e] at hq ⊢
    exact wpAny_pure hq
theorem ifB_eq {Q : Option Value → Shared → Prop} (X : K.In s.heap) (I : PySem.W.InstAt s.heap x ox C od) (I' : PySem.W.InstAt s.heap y oy C od') (hm : PySem.W.mroIn K C (.type "object") = some true) (hs : PySem.W.findIn K (.ref C) "__eq__" = some (some (.builtin "object.__eq__")))
    (hq : Q (some (eqObj (decide (x = y)))) s) : wpAny (model prog w) A (callSpecialIfBound? (.ref x) "__eq__" [.ref y]) Q E s:=
  ifBound_B X I hs PySem.F.cmp_object.eq.bind (wpAny_call (codeAny_call_builtin PySem.F.cmp_object.eq.plain F.cmpEntry_eq
    (PySem.W.check_slot (i:="object.__eq__") (owner:="object") (n:="__eq__") F.cmpKind_eq F.cmpSplit_eq (I.type.andThen (PySem.W.looks_mroIn X hm)) (F.cmpArgs_eq _ _) (objEq_entry I I' hq))))
theorem rc_eqI {Q : Value → Shared → Prop} (hu0 : A.units < cLine) (X : K.In s.heap) (I : PySem.W.InstAt s.heap x ox C od) (I' : PySem.W.InstAt s.heap y oy C od') (hm : PySem.W.mroIn K C (.type "object") = some true) (hs : PySem.W.findIn K (.ref C) "__eq__" = some (some (.builtin "object.__eq__")))
    (hq : Q (.bool (decide (x = y))) s) : wpAny (model prog w) A (richCompare .Eq (.ref x) (.ref y)) Q E s:=by
  simp only [richCompare,cmpInfo_Eq,oneThing_ref]
  refine wpAny_holding (wpAny_bind (wpAny_cRoomFor hu0 ?_))
  refine wpAny_bind (I.type.here (wpAny_bind (I'.type.here ?_)))
  rw [show (Value.ref C != Value.ref C) = false by simp]
  refine wpAny_bind (wpAny_pure ?_)
  simp only [Bool.false_eq_true,if_false,Bool.not_false,if_true]
  by_cases e : x = y
  · have one : wpAny (model prog w) A (tryCompare (.ref x) "__eq__" (.ref y)) (fun r s' => r = some (.bool true) ∧ s' = s) E s:=by
      unfold tryCompare
      refine wpAny_bind (ifB_eq X I I' hm hs ?_)
      rw [decide_eq_true e]
      exact wpAny_pure ⟨rfl,rfl⟩
    rw [decide_eq_true e] at hq
    refine wpAny_bind (wpAny_mono one (fun r s1 z => ?_) fun _ _ e => e)
    obtain ⟨rfl,rfl⟩:=z
    exact wpAny_pure hq
  · have one : wpAny (model prog w) A (tryCompare (.ref x) "__eq__" (.ref y)) (fun r s' => r = none ∧ s' = s) E s:=by
      unfold tryCompare
      refine wpAny_bind (ifB_eq X I I' hm hs ?_)
      rw [decide_eq_false e]
      exact wpAny_pure ⟨rfl,rfl⟩
    have two : wpAny (model prog w) A (tryCompare (.ref y) "__eq__" (.ref x)) (fun r s' => r = none ∧ s' = s) E s:=by
      unfold tryCompare
      refine wpAny_bind (ifB_eq X I' I hm hs ?_)
      rw [decide_eq_false (fun h => e h.symm)]
      exact wpAny_pure ⟨rfl,rfl⟩
    refine wpAny_bind (m:=tryCompare (.ref x) _ (.ref y)) (wpAny_mono one (fun r s1 z => ?_) fun _ _ e => e)
    obtain ⟨z1,z2⟩:=z
    subst z1
    subst z2
    refine wpAny_bind (m:=tryCompare (.ref y) _ (.ref x)) (wpAny_mono two (fun r s2 z => ?_) fun _ _ e => e)
    obtain ⟨z1,z2⟩:=z
    subst z1
    subst z2
    exact wpAny_bind (wpAny_rule (wpAny_bind (same_K I.at_ I'.at_ (inst_nt I) (wpAny_pure hq))))
end
def fEqI (c : Nat) : F2:=fun x y st => match x,y with
  | .ref r,.ref q => (match st.at_ r,st.at_ q with
    | some (.ins c1 _),some (.ins c2 _) => if c1 = c ∧ c2 = c then some (.bl (decide (r = q)),st) else none
    | _,_ => fEq (.ref r) (.ref q) st)
  | x,y => fEq x y st
section
variable {X : Cx} {cl : CL} {c : Nat}
theorem o_eqI (hs : PySem.W.findIn X.K (.ref (cl c)) "__eq__" = some (some (.builtin "object.__eq__"))) (hm : PySem.W.mroIn X.K (cl c) (.type "object") = some true) (hu : X.A.units + 64 < cLine) : OpS X cl (compareOp .Eq) (fEqI c):=by
  intro pins s σ H x y v u Q I rx ry ⟨μ,st,d1,d2,S,r1,r2,h⟩
  have old : PostO X.K cl (VR X.K) μ st.nxt H Q (fEq d1 d2 st) → wpAny (model X.prog X.w) X.A (compareOp .Eq v u) (EP X pins σ Q) X.xe s:=fun h => o_eq hu pins s σ H x y v u Q I rx ry ⟨μ,st,d1,d2,S,r1,r2,h⟩
  unfold fEqI at h
  cases d1 with
  | ref r =>
    cases d2 with
    | ref q =>
      simp only at h
      cases z1 : st.at_ r with
      | none => rw [z1] at h; exact old h
      | some c1 =>
        cases z2 : st.at_ q with
        | none => rw [z1,z2] at h; cases c1 <;> exact old h
        | some c2 =>
          rw [z1,z2] at h
          cases c1 with
          | lst xs => exact old h
          | dic xs => exact old h
          | fdc xs => exact old h
          | dn _ _ => exact old h
          | ins c1 fs =>
            cases c2 with
            | lst xs => exact old h
            | dic xs => exact old h
            | fdc xs => exact old h
            | dn _ _ => exact old h
            | ins c2 gs =>
              simp only at h
              by_cases zz : c1 = c ∧ c2 = c
              · rw [if_pos zz] at h
                obtain ⟨rfl,e2⟩:=zz
                subst e2
                simp only [VR] at r1 r2
                obtain ⟨h1,rfl⟩:=r1
                obtain ⟨h2,rfl⟩:=r2
                obtain ⟨dx,qs,g1,_,_⟩:=S.get z1
                obtain ⟨dy,qs2,g2,_,_⟩:=S.get z2
                cases rx
                cases ry
                obtain ⟨mA,O,_,_,_,_⟩:=ins_get I.hok g1
                obtain ⟨mB,O2,_,_,_,_⟩:=ins_get I.hok g2
                obtain ⟨od,J,_⟩:=O.look
                obtain ⟨od',J',_⟩:=O2.look
                refine rc_eqI (by omega) I.kIn J J' hm hs ?_
                have ez : decide (μ r = μ q) = decide (r = q):=decide_eq_decide.mpr ⟨fun e => S.inj r q h1 h2 e,fun e => by rw [e]⟩
                rw [ez]
                exact ⟨.bl (decide (r = q)),H,I,rfl,h μ H (.bl (decide (r = q))) S .refl (by simp only [VR])⟩
              · rw [if_neg zz] at h; exact h.elim
    | _ => exact old h
  | _ => exact old h
end
section
variable {prog : Program} {w : World} {A : Around} {E : Value → Shared → Prop} {s : Shared} {K : PySem.W.Frag} {x C f : Addr} {ox : Obj} {od : Option Obj}
end
section
variable {X : Cx} {cl : CL} {W : WX} {k c : Nat} {f : Addr} {fd : FuncData} {ps : List Str} {F : FD} {e : Expr} {m : ME} {p pos : Pos}
end
end DV
namespace DV
open PySem PySem.Spec PyProof.Rows L2
section
variable {X : Cx} {cl : CL} {W : WX} {k c : Nat} {f : Addr} {fd : FuncData} {ps : List Str} {F : FD} {mo mi mv : ME} {o i e : Expr} {pos pos' : Pos}
end
end DV
namespace DV
open PySem PySem.Spec PyProof.Rows L2
section
variable {X : Cx} {cl : CL}
end
section
variable {X : Cx} {cl : CL}
end
end DV
namespace DV
open PySem PySem.Spec PyProof.Rows L2
section
variable {prog : Program} {w : World} {A : Around} {E : Value → Shared → Prop} {s : Shared} {d : Addr} {vs : List (Key × Value)} {ks : List Str} {Q : Value → Shared → Prop}
end
section
variable {X : Cx} {cl : CL}
end
end DV
namespace DV
open PySem PySem.Spec PyProof.Rows L2
section
variable {X : Cx} {cl : CL} {W : WX}
end
end DV
namespace DV
open PySem PySem.Spec PyProof.Rows L2
section
variable {prog : Program} {w : World} {K : Type} [DecidableEq K] {knd : KeyKind prog w K} {A : Around} {E : Value → Shared → Prop} {s : Shared}
end
end DV
namespace DV
open PySem PySem.Spec PyProof.Rows L2
section
variable {X : Cx} {ax kx vx : Expr} {ta tk tv : TE} {pos : Pos}
end
section
variable {X : Cx} {cl : CL} {W : WX}
end
end DV
namespace DV
open PySem PySem.Spec PyProof.Rows L2 NdefX He in
open PySem PySem.Spec PyProof.Rows L2 NdefX He
section
variable {X : Cx} {cl : CL} {W : WX} {e : Expr} {me : ME} {p apos cpos : Pos}
end
end DV
namespace DV
open PySem PySem.Spec PyProof.Rows L2
section
variable {X : Cx} {cl : CL}
end
end DV
namespace G
open DV PySem L2
noncomputable section
end
end G
namespace DV
open PySem PySem.Spec PyProof.Rows L2
section
variable {X : Cx} {cl : CL} {W : WX} {o e f : Expr} {mo me mf : ME} {apos cpos : Pos}
end
end DV
namespace G
open DV PySem L2
noncomputable section
end
end G
namespace DV
open PySem PySem.Spec PyProof.Rows L2
section
variable {X : Cx} {cl : CL} {W : WX}
end
end DV
namespace DV
open PySem PySem.Spec PyProof.Rows L2
section
variable {X : Cx} {cl : CL} {W : WX} {e : Expr} {m : ME}
end
end DV
namespace G
open DV PySem L2
noncomputable section
end
end G
namespace DV
open PySem PySem.Spec PyProof.Rows L2
section
variable {X : Cx} {cl : CL} {W : WX} {x : Str} {c : Value} {body suite : List Stmt} {b₀ : Stmt} {np pos pos' : Pos} {mb mh : MS} {cs : List Nat}
end
end DV
namespace DV
open PySem PySem.Spec PyProof.Rows L2
def wOnly2 (K : PySem.W.Frag) (c1 c2 : Value) (ts1 ts2 : Addr → Value → Option Addr → TS) (D : Ends) : WX:=fun cls d σ H =>
  (PySem.W.exmOne K cls c1 = some true ∧ ∀ a,H a = none → ts1 a cls d D σ H) ∨ (PySem.W.exmOne K cls c1 = some false ∧ PySem.W.exmOne K cls c2 = some true ∧ ∀ a,H a = none → ts2 a cls d D σ H)
section
variable {X : Cx} {x1 x2 : Str} {c1 c2 : Value} {body su1 su2 : List Stmt} {b1 b2 : Stmt} {n1 n2 q1 q2 pos : Pos} {tb : WX → TS} {ts1 ts2 : Addr → Value → Option Addr → TS}
theorem ps_try_only2 (hs : X.stack = X.env :: X.outer) (hf : X.env.frame = some X.env.locals) (hc1 : Names X x1 c1) (hc2 : Names X x2 c2)
    (hb : ∀ (W : WX) (pn : List (Addr × Obj)) (xe : Value → Shared → Prop),Takes (X.tr pn xe) W → PassesOwn (model X.prog X.w) X.A X.env xe → PSs (X.tr pn xe) body (tb W))
    (h1 : ∀ (a : Addr) (oe : Obj) (cls : Value) (d : Option Addr) (pn : List (Addr × Obj)),Zc cls d oe → (∃ vs,oe.data = .fields vs) → PSs (X.suite a ((a,oe) :: pn)) (b1 :: su1) (ts1 a cls d))
    (h2 : ∀ (a : Addr) (oe : Obj) (cls : Value) (d : Option Addr) (pn : List (Addr × Obj)),Zc cls d oe → (∃ vs,oe.data = .fields vs) → PSs (X.suite a ((a,oe) :: pn)) (b2 :: su2) (ts2 a cls d)) :
    PS X (.Try body [.ExceptHandler (some (.Name x1 n1)) none (b1 :: su1) q1,.ExceptHandler (some (.Name x2 n2)) none (b2 :: su2) q2] [] [] pos) (fun D σ H => tb (wOnly2 X.K c1 c2 ts1 ts2 D) D σ H):=by
  refine ⟨fun pins s σ H D I h => ?_⟩
  have ok:=I.ok
  have hfr : X.A.frames = some (X.env :: X.outer):=by rw [ok.frames,hs]
  refine wpAny_Try_except ?_
  refine wpAny_mono ((hb (wOnly2 X.K c1 c2 ts1 ts2 D) (X.pn ++ pins) (fun e s₁ => wpAny (model X.prog X.w) X.A (noteFrame e X.env) (fun _ s₂ => wpAny (model X.prog X.w) X.A (setFlight e none) (fun _ s₃ =>
    wpAny (model X.prog X.w) X.A (handleBy e X.env [.ExceptHandler (some (.Name x1 n1)) none (b1 :: su1) q1,.ExceptHandler (some (.Name x2 n2)) none (b2 :: su2) q2]) (SP X pins D) X.xe s₃) X.xe s₂) X.xe s₁) (fun u s' xx => ?_) PassesOwn.looking).run [] s σ H D (I.toTry _) h) (fun f s1 hsp => ?_) (fun e s1 he => he)
  · obtain ⟨a,B,sI,pins',σ',H',cls,d,rfl,J',nb,up,sky,na,os,ag,hw⟩:=xx
    have J : Inv X pins σ' H' sI:=J'.ofTry ok
    have sky' : Sky B (X.env :: X.outer) a (Zc cls d) X.env.locals s'.heap:=by rw [← hs]; exact sky
    show wpAny (model X.prog X.w) X.A (noteFrame (.ref a) X.env) _ _ _
    refine Sky.land Zc.steady hfr hf sky' fun h3 fl3 up3 => ?_
    have J3 : Inv X pins σ' H' { s' with heap:=h3 }:=J.landed nb fl3.1 (up.trans up3) os ag
    obtain ⟨oe3,vs3,he3,hz3,hd3⟩:=fl3.there
    have notFr : ∀ {h : Heap} {o : Obj} {vs : Array Value},h.FunFrames B (X.env :: X.outer) → h.get? a = some o → o.data = .fields vs → a ∉ frs (X.env :: X.outer):=fun {h o vs} ff e dd hm => by
      obtain ⟨_,o',e',hnf⟩:=ff.mem hm
      rw [e] at e'; cases e'
      exact hnf _ dd
    have nfr:=notFr fl3.2.2.1 he3 hd3
    have nL : a ≠ X.env.locals:=fun z => nfr (List.mem_filterMap.mpr ⟨X.env,List.mem_cons_self,by rw [hf,z]⟩)
    have nF : a ∉ X.fs:=fun hm => by
      obtain ⟨e,he,q⟩:=List.mem_filterMap.mp hm
      exact nfr (List.mem_filterMap.mpr ⟨e,List.mem_cons_of_mem _ he,q⟩)
    have S3:=J3.suite he3 hd3 na nL nF
    have LT : PySem.W.Looks (model X.prog X.w) h3 (typeOf (.ref a)) cls:=fun A Q E s k q => wpAny_typeOf_ref (k _ _ he3) (by rw [hz3.1]; exact q)
    have test : ∀ {x : Str} {c : Value} {np : Pos} {Q : Value → Shared → Prop} {E : Value → Shared → Prop},Names X x c → Q c { s' with heap:=h3 } → wpAny (model X.prog X.w) (X.A.mark (some (.ref a))) (eval (.Name x np) X.env) Q E { s' with heap:=h3 }:=fun {x c np Q E} hc q => by
      obtain ⟨hg,hdbg,hm | ⟨hm,hv,hnn⟩⟩:=hc
      · exact ld_glob (X:=X.suite a ((a,oe3) :: (X.pn ++ pins))) S3 hg hm q hdbg
      · exact ld_blt (X:=X.suite a ((a,oe3) :: (X.pn ++ pins))) S3 hg hm hv q hnn hdbg
    have suite : ∀ {b₀ : Stmt} {su : List Stmt} {ts : Addr → Value → Option Addr → TS},(∀ (a : Addr) (oe : Obj) (cls : Value) (d : Option Addr) (pn : List (Addr × Obj)),Zc cls d oe → (∃ vs,oe.data = .fields vs) → PSs (X.suite a ((a,oe) :: pn)) (b₀ :: su) (ts a cls d)) → ts a cls d D σ' H' →
        ∀ (h4 : Heap) (E : Value → Shared → Prop),HandSPX.FlyingZ B (X.env :: X.outer) a (Zc cls d) h4 → Heap.UpToSlots h3 h4 → wpAny (model X.prog X.w) (X.A.mark (some (.ref a))) (execs (b₀ :: su) X.env) (SP X pins D) E { s' with heap:=h4 }:=fun {b₀ su ts} hsu hyes h4 E fl4 up4 => by
      have J4 : Inv X pins σ' H' { s' with heap:=h4 }:=J.landed nb fl4.1 ((up.trans up3).trans up4) os ag
      obtain ⟨oe4,vs4,he4,hz4,hd4⟩:=fl4.there
      have S4:=J4.suite he4 hd4 na nL nF
      refine wpAny_mono ((hsu a oe4 cls d (X.pn ++ pins) hz4 ⟨_,hd4⟩).run [] _ _ H' _ S4 hyes) (fun f s6 hsp => ?_) (fun _ _ z => False.elim z)
      cases f with
      | next =>
        obtain ⟨σ6,H6,S6,q6⟩:=hsp
        exact ⟨_,_,S6.unsuite ok,q6⟩
      | brk =>
        obtain ⟨σ6,H6,S6,q6⟩:=hsp
        exact ⟨_,_,S6.unsuite ok,q6⟩
      | cont =>
        obtain ⟨σ6,H6,S6,q6⟩:=hsp
        exact ⟨_,_,S6.unsuite ok,q6⟩
      | ret u =>
        obtain ⟨v6,σ6,H6,S6,r6,q6⟩:=hsp
        exact ⟨_,_,_,S6.unsuite ok,r6,q6⟩
    rcases hw with ⟨e1,hyes⟩ | ⟨e1,e2,hyes⟩
    · refine wpAny_handleBy_cons (codeAny_handlers_test ?_) (by intro q; cases q)
      refine test hc1 ((PySem.W.exm_one (M:=model X.prog X.w) (J3.kIn) LT e1).here ?_)
      refine codeAny_handlers_suite ?_
      exact HandSPX.lands_againZ fl3 fun h4 fl4 up4 => suite h1 (hyes a na) h4 _ fl4 up4
    · refine wpAny_handleBy_cons (codeAny_handlers_test ?_) (by intro q; cases q)
      refine test hc1 ((PySem.W.exm_one (M:=model X.prog X.w) (J3.kIn) LT e1).here ?_)
      show wpAny _ X.A (handleBy (.ref a) X.env [.ExceptHandler (some (.Name x2 n2)) none (b2 :: su2) q2]) _ _ _
      refine wpAny_handleBy_cons (codeAny_handlers_test ?_) (by intro q; cases q)
      refine test hc2 ((PySem.W.exm_one (M:=model X.prog X.w) (J3.kIn) LT e2).here ?_)
      refine codeAny_handlers_suite ?_
      exact HandSPX.lands_againZ fl3 fun h4 fl4 up4 => suite h2 (hyes a na) h4 _ fl4 up4
  · cases f with
    | next =>
      obtain ⟨σ',H',J',q⟩:=hsp
      exact wpAny_execs_nil ⟨σ',H',J'.ofTry ok,q⟩
    | brk =>
      obtain ⟨σ',H',J',q⟩:=hsp
      exact ⟨σ',H',J'.ofTry ok,q⟩
    | cont =>
      obtain ⟨σ',H',J',q⟩:=hsp
      exact ⟨σ',H',J'.ofTry ok,q⟩
    | ret u =>
      obtain ⟨v,σ',H',J',r,q⟩:=hsp
      exact ⟨v,σ',H',J'.ofTry ok,r,q⟩
end
theorem exm_ZK {K : PySem.W.Frag} : PySem.W.exmOne K (.type "ZeroDivisionError") (.type "KeyError") = some false:=by kernel_rfl
theorem exm_ZZ {K : PySem.W.Frag} : PySem.W.exmOne K (.type "ZeroDivisionError") (.type "ZeroDivisionError") = some true:=by kernel_rfl
theorem boot_Zero : bootBuiltins "ZeroDivisionError" = some (.type "ZeroDivisionError"):=by decide +kernel
def RS.noE : RS → RS
  | .exc _ _ _ _ => .bad
  | r => r
def mTryPy (mb m1 m2 : MS) : MS:=fun l st => match mb l st with
  | .exc c _ l' st' => if c = 1000 then (m1 l' st').noE else if c = 1001 then (m2 l' st').noE else .bad
  | r => r
section
variable {X : Cx} {cl : CL} {W : WX} {body su1 su2 : List Stmt} {b1 b2 : Stmt} {n1 n2 q1 q2 pos : Pos} {mb m1 m2 : MS}
theorem ss_tryPy (hs : X.stack = X.env :: X.outer) (hf : X.env.frame = some X.env.locals) (g1 : Gl X "KeyError") (e1 : X.mg "KeyError" = none) (g2 : Gl X "ZeroDivisionError") (e2 : X.mg "ZeroDivisionError" = none)
    (hb : ∀ (W : WX) (pn : List (Addr × Obj)) (xe : Value → Shared → Prop),Takes (X.tr pn xe) W → SSs (X.tr pn xe) cl W body mb)
    (h1 : ∀ (a : Addr) (oe : Obj) (pn : List (Addr × Obj)),SSs (X.suite a ((a,oe) :: pn)) cl WNo (b1 :: su1) m1)
    (h2 : ∀ (a : Addr) (oe : Obj) (pn : List (Addr × Obj)),SSs (X.suite a ((a,oe) :: pn)) cl WNo (b2 :: su2) m2) :
    SS X cl W (.Try body [.ExceptHandler (some (.Name "KeyError" n1)) none (b1 :: su1) q1,.ExceptHandler (some (.Name "ZeroDivisionError" n2)) none (b2 :: su2) q2] [] [] pos) (mTryPy mb m1 m2):=by
  refine PS.weak (ps_try_only2 (X:=X) (c1:=.type "KeyError") (c2:=.type "ZeroDivisionError") (tb:=fun W => rdS X.K cl W mb) (ts1:=fun _ _ _ => rdS X.K cl WNo m1) (ts2:=fun _ _ _ => rdS X.K cl WNo m2) hs hf
    ⟨g1,by decide,.inr ⟨e1,L2.boot_KeyError,by decide⟩⟩ ⟨g2,by decide,.inr ⟨e2,boot_Zero,by decide⟩⟩ (fun W pn xe tk _ => hb W pn xe tk) (fun a oe cls d pn _ _ => h1 a oe pn) (fun a oe cls d pn _ _ => h2 a oe pn)) fun E σ H ⟨μ,st,l,S,L,h⟩ => ?_
  refine ⟨μ,st,l,S,L,?_⟩
  unfold mTryPy at h
  have fin : ∀ {μ' : Nat → Addr} {N' : Nat} {H' : Hp} {r : RS},PostS X.K cl μ' N' H' E W r.noE → PostS X.K cl μ' N' H' E WNo r:=fun {μ' N' H' r} p => by
    cases r with
    | exc _ _ _ _ => exact p.elim
    | _ => exact p
  cases q : mb l st with
  | nx l st' => rw [q] at h; exact h
  | rt d st' => rw [q] at h; exact h
  | bk l st' => rw [q] at h; exact h
  | ct l st' => rw [q] at h; exact h
  | bad => rw [q] at h; exact h
  | exc c fs l' st' =>
    rw [q] at h
    simp only at h
    intro μ' H' σ' cls d S' e L' xr
    obtain ⟨ex,_⟩:=xr
    by_cases z : c = 1000
    · subst z
      rw [if_pos rfl] at h
      obtain rfl : cls = .type "KeyError":=ex
      exact .inl ⟨L2.exm_KE,fun a _ => ⟨μ',st',l',S',L',fin (PostS.mono e h)⟩⟩
    · rw [if_neg z] at h
      by_cases y : c = 1001
      · subst y
        rw [if_pos rfl] at h
        obtain rfl : cls = .type "ZeroDivisionError":=ex
        exact .inr ⟨exm_ZK,exm_ZZ,fun a _ => ⟨μ',st',l',S',L',fin (PostS.mono e h)⟩⟩
      · rw [if_neg y] at h
        exact h.elim
end
end DV
namespace DV
open PySem PySem.Spec PyProof.Rows L2
section
variable {X : Cx} {cl : CL} {W : WX} {e : Expr} {pos : Pos}
theorem ss_raiseP {t : L2.St → Hp → XK → Prop} {T : String} (c : Nat) (hc : X.calm = true) (tk : Takes X W) (big : 1000 ≤ c) (hT : clsV cl c = .type T) (pm : PMk X e t) (ht : ∀ σ H Q,(∀ d,Q (.type T) d H) → t σ H Q) :
    SS X cl W (.Raise (some e) none pos) (msRaise0 c):=
  PS.weak (L2.ps_raise hc tk pm) fun E σ H ⟨μ,st,l,S,L,h⟩ => ht _ _ _ fun d =>
    h μ H σ (.type T) d S Ev.refl L ⟨hT.symm,.inl ⟨rfl,.inr big⟩⟩
theorem ss_raiseKey {s : Str} {j : Nat} {p p2 p3 : Pos} (hc : X.calm = true) (tk : Takes X W) (hm : X.mg "KeyError" = none) (hg : Gl X "KeyError":=by rfl) :
    SS X cl W (.Raise (some (.Call (.Name "KeyError" p) [.Constant (.str s) j p2] [] p3)) none pos) (msRaise0 1000):=
  ss_raiseP (T:="KeyError") 1000 hc tk (by decide) rfl (pmk_exc excClass_KeyError ty_KeyError hg hm L2.boot_KeyError (pa_cons pe_str pa_nil)) fun σ H Q h => ⟨(by show 1 ≤ sizeLine; rw [sizeLine_eq]; omega),h⟩
theorem ss_raiseZero {s : Str} {j : Nat} {p p2 p3 : Pos} (hc : X.calm = true) (tk : Takes X W) (hm : X.mg "ZeroDivisionError" = none) (hg : Gl X "ZeroDivisionError":=by rfl) :
    SS X cl W (.Raise (some (.Call (.Name "ZeroDivisionError" p) [.Constant (.str s) j p2] [] p3)) none pos) (msRaise0 1001):=
  ss_raiseP (T:="ZeroDivisionError") 1001 hc tk (by decide) rfl (pmk_exbS exb_ZeroDivisionError hg hm L2.boot_ZeroDivisionError) fun σ H Q h => h none
end
theorem CloQ.tr {X : Cx} {cl : CL} {k : Nat} {f : Addr} {Fd : Store → Res D} (C : CloQ X cl k f Fd) (hp : X.pn = []) (pn : List (Addr × Obj)) (xe : Value → Shared → Prop) : CloQ (X.tr pn xe) cl k f Fd:=
  ⟨fun pins σ H s I => C.at_ [] σ H s ⟨Cx.Ok.ofTry I.ok,I.os,I.bare,I.base,I.loc,I.cell,I.free,I.freeC,(fun p h => by rw [hp] at h; cases h),I.hok,I.len⟩⟩
end DV
namespace L58
open DV G PySem L2
noncomputable section
def csL : List Nat:=[9,10,11,18,23,27,30,33]
def law_acts_L1 : MS:=(msSeq (msAsg (mTup (maCons (mCall F_law_pick [] (maCons (mVar 0) (maCons (mLst (maCons (mC (.str "sky")) (maCons (mC (.str "a")) (maCons (mC (.str "bird2")) maNil)))) maNil))) (maCons (mCall F_law_rect [] (maCons (mVar 0) (maCons (m2 fIx (mVar 1) (mC (.int 0))) (maCons (m2 fIx (mVar 1) (mC (.int 1))) maNil)))) (maCons (mC (.str "stays")) maNil)))) (tgName 4))
  (msExpr (mM "list" fAppend (mVar 2) (maCons (mTup (maCons (mCall F_law_dip [] (maCons (mVar 0) (maCons (mC (.int 3)) maNil))) (maCons (m2 fEq (mCall F_law_dip [] (maCons (mVar 0) (maCons (mC (.int 2)) maNil))) (mC (.int 0))) (maCons (mVar 4) maNil)))) maNil))))
def F_law_acts : FD:=mDef 2 5 (msSeq (msAsg (mLst maNil) (tgName 2))
  (msSeq (msFor (miRng rng1 (maCons (mCall F_law_dip [] (maCons (mVar 0) (maCons (mC (.int 5)) maNil))) maNil)) (tgName 3)
  law_acts_L1)
  (msRet (mVar 2))))
def F_law_went (f : Addr) (Fd : Store → Res D) : FD:=mDef 1 2 (msSeq (mTryPy (msAsg (mFwd 0 (F_law_caught csL) f Fd) (tgName 1)) (msRet (mLst (maCons (mC (.str "key")) (maCons (mC (.str "")) maNil)))) (msRet (mLst (maCons (mC (.str "zero")) (maCons (mC (.str "")) maNil)))))
  (msRet (mVar 1)))
def F_Trial_init : FD:=mDef 2 2 (msSeq (msFld 2 "box" (mVar 0) (mVar 1))
  (msFld 2 "begun" (mVar 0) (mC .non)))
def F_Screen_trial : FD:=mDef 1 1 (msRet (mMake 2 F_Trial_init 1 0 [.p 0,.p 1] [] (maCons (mVar 0) maNil) maNil))
def F_Trial_enter : FD:=mDef 1 1 (msSeq (msFld 2 "begun" (mVar 0) (mFld 3 "state" (mFld 2 "box" (mVar 0))))
  (msRet (mFld 2 "box" (mVar 0))))
def F_Trial_exit : FD:=mDef 4 4 (msIf (tB_ (m2 fNotC (mVar 1) (mC .non)))
  (msFld 3 "state" (mFld 2 "box" (mVar 0)) (mFld 2 "begun" (mVar 0)))
  msNil)
noncomputable def F_Screen_tried (f : Addr) (Fd : D → Store → Res D) : FD:=mDef 2 3 (msWith 2 2 (mMeth 3 "trial" F_Screen_trial 0 0 [.p 0] [] (mVar 0) maNil maNil) F_Trial_enter F_Trial_exit
  (msRet (mAct1 1 f Fd (maCons (mVar 2) maNil))))
def law_done_L1 : MS:=(msSeq (msAsg (mIf (tB_ (mVar 4)) (mVar 1) (mVar 0)) (tgName 6))
  (msIf (tB_ (m2 fEq (mVar 3) (mC (.int 0))))
  (msExpr (mMeth 3 "undo" F_Screen_undo 0 0 [.p 0] [] (mVar 6) maNil maNil))
  (msExpr (mMeth 3 "paint" F_Screen_paint 3 0 [.p 0,.p 1,.p 2,.p 3] [] (mVar 6) (maCons (m2 fIx (mVar 5) (mC (.int 0))) (maCons (m2 fIx (mVar 5) (mC (.int 1))) (maCons (m2 fIx (mVar 5) (mC (.int 2))) maNil))) maNil))))
def F_law_done : FD:=mDef 3 7 (msFor (miSeq (mVar 2)) (tgTup 3 (tgCons (tgName 3) (tgCons (tgName 4) (tgCons (tgName 5) tgNil))))
  law_done_L1)
def F_law_ending : FD:=mDef 1 1 (msSeq (msIf (tB_ (m2 fEq (mVar 0) (mC (.int 0))))
  (msRaise0 1000)
  msNil)
  (msSeq (msIf (tB_ (m2 fEq (mVar 0) (mC (.int 1))))
  (msRaise0 1001)
  msNil)
  (msSeq (msIf (tB_ (m2 fEq (mVar 0) (mC (.int 2))))
  (msRaise 33 "limit" (maCons (mC (.int 5)) maNil))
  msNil)
  (msSeq (msIf (tB_ (m2 fEq (mVar 0) (mC (.int 3))))
  (msRaise 27 "given" (maCons (mC (.str "nobody")) maNil))
  msNil)
  (msRet (mTup (maCons (mC (.str "done")) (maCons (mVar 0) maNil))))))))
def F_law_inner : FD:=mDef 5 5 (msSeq (msExpr (mM "list" fAppend (mVar 4) (maCons (mLst (maCons (m2 (fEqI 3) (mVar 0) (mVar 1)) (maCons (mL (f1 reprA) (maCons (mProp 3 F_Screen_frames (mVar 1)) maNil)) maNil))) maNil)))
  (msSeq (msExpr (mCall F_law_done [] (maCons (mVar 0) (maCons (mVar 1) (maCons (mVar 2) maNil)))))
  (msRet (mCall F_law_ending [] (maCons (mVar 3) maNil)))))
def F_law_action : FD:=mDef 4 10 (msSeq (msAsg (mVar 2) (tgTup 4 (tgCons (tgName 4) (tgCons (tgName 5) (tgCons (tgName 6) (tgCons (tgName 7) tgNil))))))
  (msSeq (msExpr (mCall F_law_done [] (maCons (mVar 0) (maCons (mVar 1) (maCons (mVar 4) maNil)))))
  (msSeq (msExpr (mM "list" fAppend (mVar 3) (maCons (mLst (maCons (m2 (fEqI 3) (mVar 0) (mVar 1)) (maCons (mL (f1 reprA) (maCons (mProp 3 F_Screen_frames (mVar 0)) maNil)) (maCons (mL (f1 reprA) (maCons (mProp 3 F_Screen_frames (mVar 1)) maNil)) maNil)))) maNil)))
  (msSeq (msAsg (mLst maNil) (tgName 8))
  (msSeq (msAsg (mLamA (mMethL 3 "tried" (mCall F_law_inner [] (maCons (mVar 10) (maCons (mVar 1) (maCons (mVar 5) (maCons (mVar 7) (maCons (mVar 8) maNil)))))) F_Screen_tried (mVar 0)) F_law_went maNil) (tgName 9))
  (msSeq (msExpr (mM "list" fAppend (mVar 3) (maCons (mLst (maCons (mVar 9) (maCons (mVar 8) (maCons (mL (f1 reprA) (maCons (mProp 3 F_Screen_frames (mVar 1)) maNil)) maNil)))) maNil)))
  (msRet (mCall F_law_ending [] (maCons (mVar 6) maNil)))))))))
def law_after_L1 : MS:=(msSeq (msIf (tAnd_ (tB_ (m2 fEq (mVar 2) (mC (.int 0)))) (tB_ (m2 fEq (mVar 0) (mTup maNil))))
  (msRet (mTup (maCons (mVar 0) (maCons (mLst (maCons (mC (.str "undo")) (maCons (mC (.str "")) maNil))) maNil))))
  msNil)
  (msSeq (msIf (tAnd_ (tB_ (m2 fNe (mVar 2) (mC (.int 0)))) (tB_ (m2 fEq (mL (f1 lenD) (maCons (mVar 0) maNil)) (mC (.int 8)))))
  (msRet (mTup (maCons (mVar 0) (maCons (mLst (maCons (mC (.str "many")) (maCons (mC (.str "8")) maNil))) maNil))))
  msNil)
  (msAsg (mIf (tB_ (m2 fEq (mVar 2) (mC (.int 0)))) (mSl (mVar 0) moNone (moSome (m1 fNeg (mC (.int 1))))) (m2 fAdd (mVar 0) (mTup (maCons (mVar 4) maNil)))) (tgName 0))))
def F_law_after : FD:=mDef 2 5 (msSeq (msFor (miSeq (mVar 1)) (tgTup 3 (tgCons (tgName 2) (tgCons (tgName 3) (tgCons (tgName 4) tgNil))))
  law_after_L1)
  (msRet (mTup (maCons (mVar 0) (maCons (mC .non) maNil)))))
def F_law_end_due : FD:=mDef 1 2 (msSeq (msAsg (mLst (maCons (mLst (maCons (mC (.str "key")) (maCons (mC (.str "")) maNil))) (maCons (mLst (maCons (mC (.str "zero")) (maCons (mC (.str "")) maNil))) (maCons (mLst (maCons (mC (.str "many")) (maCons (mC (.str "5")) maNil))) (maCons (mLst (maCons (mC (.str "unknown")) (maCons (mC (.str "'nobody'")) maNil))) maNil))))) (tgName 1))
  (msRet (mIf (tB_ (m2 fLt (mVar 0) (mC (.int 4)))) (m2 fIx (mVar 1) (mVar 0)) (mLst (maCons (mC (.str "back")) (maCons (mL (f1 reprA) (maCons (mTup (maCons (mC (.str "done")) (maCons (mVar 0) maNil))) maNil)) maNil))))))
def F_law_notes_due : FD:=mDef 2 13 (msSeq (msAsg (mVar 1) (tgTup 4 (tgCons (tgName 2) (tgCons (tgName 3) (tgCons (tgName 4) (tgCons (tgName 5) tgNil))))))
  (msSeq (msAsg (mCall F_law_after [] (maCons (mVar 0) (maCons (mVar 2) maNil))) (tgTup 2 (tgCons (tgName 6) (tgCons (tgName 7) tgNil))))
  (msSeq (msIf (tB_ (m2 fNotN (mVar 7) (mC .non)))
  (msRet (mTup (maCons (mLst maNil) (maCons (mVar 7) (maCons (mVar 0) maNil)))))
  msNil)
  (msSeq (msAsg (mLst (maCons (mLst (maCons (mC (.bl true)) (maCons (mL (f1 reprA) (maCons (mVar 6) maNil)) (maCons (mL (f1 reprA) (maCons (mVar 6) maNil)) maNil)))) maNil)) (tgName 8))
  (msSeq (msAsg (mCall F_law_after [] (maCons (mVar 6) (maCons (mVar 3) maNil))) (tgTup 2 (tgCons (tgName 9) (tgCons (tgName 10) tgNil))))
  (msSeq (msAsg (mIf (tB_ (m2 fIsN (mVar 10) (mC .non))) (mCall F_law_end_due [] (maCons (mVar 5) maNil)) (mVar 10)) (tgName 11))
  (msSeq (msAsg (mIf (tB_ (m2 fEq (m2 fIx (mVar 11) (mC (.int 0))) (mC (.str "back")))) (mVar 9) (mVar 6)) (tgName 9))
  (msSeq (msExpr (mM "list" fAppend (mVar 8) (maCons (mLst (maCons (mVar 11) (maCons (mLst (maCons (mLst (maCons (mC (.bl true)) (maCons (mL (f1 reprA) (maCons (mVar 6) maNil)) maNil))) maNil)) (maCons (mL (f1 reprA) (maCons (mVar 9) maNil)) maNil)))) maNil)))
  (msSeq (msAsg (mCall F_law_end_due [] (maCons (mVar 4) maNil)) (tgName 12))
  (msRet (mTup (maCons (mVar 8) (maCons (mVar 12) (maCons (mIf (tB_ (m2 fEq (m2 fIx (mVar 12) (mC (.int 0))) (mC (.str "back")))) (mVar 9) (mVar 0)) maNil))))))))))))))
def F_Screen_len : FD:=mDef 1 1 (msRet (mL (f1 lenD) (maCons (mFld 3 "state" (mVar 0)) maNil)))
def law_right_L1 : MS:=(msExpr (mMeth 3 "paint" F_Screen_paint 3 0 [.p 0,.p 1,.p 2,.p 3] [] (mVar 2) (maCons (m2 fIx (mVar 4) (mC (.int 0))) (maCons (m2 fIx (mVar 4) (mC (.int 1))) (maCons (m2 fIx (mVar 4) (mC (.int 2))) maNil))) maNil))
def law_right_L2 : MS:=(msSeq (msAsg (mTup (maCons (mCall F_law_acts [] (maCons (mVar 0) (maCons (mVar 1) maNil))) (maCons (mCall F_law_acts [] (maCons (mVar 0) (maCons (mVar 1) maNil))) (maCons (mCall F_law_dip [] (maCons (mVar 0) (maCons (mC (.int 7)) maNil))) (maCons (mCall F_law_dip [] (maCons (mVar 0) (maCons (mC (.int 7)) maNil))) maNil))))) (tgName 6))
  (msSeq (msAsg (mLst maNil) (tgName 7))
  (msSeq (msAsg (mLamA (mMethL 3 "tried" (mCall F_law_action [] (maCons (mVar 11) (maCons (mVar 2) (maCons (mVar 6) (maCons (mVar 7) maNil))))) F_Screen_tried (mVar 2)) F_law_went maNil) (tgName 8))
  (msSeq (msAsg (mCall F_law_notes_due [] (maCons (mVar 3) (maCons (mVar 6) maNil))) (tgTup 3 (tgCons (tgName 9) (tgCons (tgName 10) (tgCons (tgName 3) tgNil)))))
  (msIf (tOr_ (tB_ (m2 fNe (mVar 8) (mVar 10))) (tOr_ (tB_ (m2 fNe (mVar 7) (mVar 9))) (tB_ (m2 fNe (mL (f1 reprA) (maCons (mLst (maCons (mProp 3 F_Screen_frames (mVar 2)) (maCons (mLenX 3 F_Screen_len (mVar 2)) maNil))) maNil)) (mL (f1 reprA) (maCons (mLst (maCons (mVar 3) (maCons (mL (f1 lenD) (maCons (mVar 3) maNil)) maNil))) maNil))))))
  (msRet (mC (.bl false)))
  msNil)))))
def F_law_right : FD:=mDef 1 11 (msSeq (msAsg (mCall F_law_model [] (maCons (mVar 0) (maCons (mC (.int 6)) (maCons (mC (.int 4)) (maCons (mC (.int 3)) maNil))))) (tgName 1))
  (msSeq (msAsg (mTup (maCons (mCall F_law_board [] (maCons (mVar 1) maNil)) (maCons (m2 fIx (mVar 1) (mC (.int 2))) maNil))) (tgTup 2 (tgCons (tgName 2) (tgCons (tgName 3) tgNil))))
  (msSeq (msFor (miSeq (mVar 3)) (tgName 4)
  law_right_L1)
  (msSeq (msFor (miRng rng1 (maCons (mC (.int 3)) maNil)) (tgName 5)
  law_right_L2)
  (msSeq (msIf (tAnd_ (tB_ (m2 fNe (mVar 3) (mTup maNil))) (tOr_ (tB_ (m2 fNotN (mMeth 3 "undo" F_Screen_undo 0 0 [.p 0] [] (mVar 2) maNil maNil) (mC .non))) (tB_ (m2 fNe (mL (f1 reprA) (maCons (mProp 3 F_Screen_frames (mVar 2)) maNil)) (mL (f1 reprA) (maCons (mSl (mVar 3) moNone (moSome (m1 fNeg (mC (.int 1))))) maNil))))))
  (msRet (mC (.bl false)))
  msNil)
  (msRet (m2 fEq (mMethL 3 "tried" (mL (f1 lenD) (maCons (mProp 3 F_Screen_frames (mVar 11)) maNil)) F_Screen_tried (mVar 2)) (mLenX 3 F_Screen_len (mVar 2)))))))))
def law_C1 : ME:=(mCall F_law_right [] (maCons (mCall F_law_jar [] (maCons (mVar 0) (maCons (mVar 1) maNil))) maNil))
def F_law : FD:=mDef 1 2 (msRet (mL (f1 (allD true)) (maCons (mLc (miRng rng1 (maCons (mL (f2I maxI) (maCons (mC (.int 2)) (maCons (mL (f2I minI) (maCons (mL (f1 lenD) (maCons (mVar 0) maNil)) (maCons (mC (.int 5)) maNil))) maNil))) maNil)) (tgName 1) tYes_ law_C1 [1]) maNil)))
end
end L58
namespace L58
open DV G PySem PySem.Spec PyProof.Rows L2 He NdefX
def clN : Nat → Str:=fun n => match n with
  | 9 => "InvalidSize"
  | 23 => "InvalidSolid"
  | 3 => "Screen"
  | 18 => "InvalidName"
  | 10 => "InvalidPart"
  | 11 => "InvalidFate"
  | 33 => "TooMany"
  | 12 => "InvalidBeat"
  | 13 => "InvalidSpot"
  | 14 => "InvalidIndex"
  | 7 => "InvalidPlayer"
  | 15 => "InvalidTurn"
  | 16 => "InvalidAnew"
  | 8 => "InvalidStart"
  | 17 => "InvalidText"
  | 19 => "InvalidHope"
  | 20 => "NotAFilm"
  | 21 => "NotAWish"
  | 22 => "InvalidFrames"
  | 24 => "InvalidSheets"
  | 25 => "InvalidPlan"
  | 26 => "WrongRow"
  | 27 => "UnknownName"
  | 28 => "InUse"
  | 29 => "DoNotFit"
  | 30 => "NothingToUndo"
  | 31 => "NothingPainted"
  | 32 => "Broken"
  | 2 => "Trial"
  | _ => ""
abbrev clA (K : PySem.W.Frag) : Nat → Addr:=fun n => ga K (clN n)
def nmAll : Nat → Nat → Str:=fun l _ => if l < 524 then "_law_action.<locals>.<lambda>" else "_law_right.<locals>.<lambda>"
def tabs (K : PySem.W.Frag) : List NTab:=[((cT K ("_law_action",none)).2,nmAll),((cT K ("_law_right",none)).2,nmAll)]
abbrev cl (K : PySem.W.Frag) (p : PP) : CL:=CL.of (clA K) (tabs K) p
section
variable {P : Program} {w : World} {K : PySem.W.Frag} {mg : Str → Option Value} {base : Heap} {p : PP}
theorem sc_law_dip : FnScope ["_law_jar_here","_law_many","_law_digit","_law_seed"] ["_law_jar_here","_law_many"] (defScope s_law_dip):=⟨rfl,rfl,rfl,by decide +kernel,rfl,by decide +kernel,by decide +kernel⟩
abbrev GD_law_dip (P : Program) (w : World) (K : PySem.W.Frag) (mg : Str → Option Value) (base : Heap) (p : PP) : Prop:=GD P w K mg base (cl K p) 1 (ga K "_law_dip") "_law_dip" "_law_dip" s_law_dip [] ["_law_jar_here","_law_many"] F_law_dip
theorem bd_law_dip (kV doc pm : Value) (an : Option Addr) (cdv ct : Value) (us : List Value) (hl : us.length = (["_law_jar_here","_law_many"] : List Str).length) : bindArgs (PySem.W.fnOf "_law_dip" "_law_dip" (defArgs s_law_dip) (defBody s_law_dip) (defScope s_law_dip) .none kV doc pm an cdv ct) ⟨us,[]⟩ = pure ((["_law_jar_here","_law_many"] : List Str).zip us):=match us,hl with | [_,_],_ => rfl
theorem ok_law_dip (T : Tx fx fn K mg) (TB : TBs base mg (csOf K tf)) : GD_law_dip P w K mg base p:=by
  refine gd_of (T.says.def_ 0 (d:=d_law_dip) rfl) sc_law_dip rfl rfl fun cdv A outer s H E hr tk => ?_
  exact (ss_cons (ss_sub hr.hu (s_op o_add (s_ix (x_ix hr.hu) (s_var 0) s_int) s_int) (s_var 0) s_int)
    (ss_cons (ss_if (t_cmp o_gt (s_ix (x_ix hr.hu) (s_var 0) s_int) s_int)
    (ss_cons (ss_set 2 sc_law_dip.nd (s_op o_mod (s_callTy c_int rfl (T.free 4) rfl (sa_cons (s_ix (x_ix hr.hu) (s_var 0) s_int) sa_nil)) (s_var 1)))
    (ss_cons (ss_sub hr.hu (s_op o_fdiv (s_callTy c_int rfl (T.free 4) rfl (sa_cons (s_ix (x_ix hr.hu) (s_var 0) s_int) sa_nil)) (s_var 1)) (s_var 0) s_int)
    (ss_one (ss_ret (s_var 2)))))
    ss_nil)
    (ss_cons (ss_set 3 sc_law_dip.nd (s_callTy c_int rfl (T.free 4) rfl (sa_cons (s_ix (x_ix hr.hu) (s_var 0) s_int) sa_nil)))
    (ss_cons (ss_sub hr.hu (s_op o_mod (s_callTy c_int rfl (T.free 4) rfl (sa_cons (s_op o_add (s_op o_add (s_op o_mul (s_var 3) s_int) (s_op o_mul (s_ix (x_ix hr.hu) (s_var 0) s_int) s_int)) s_int) sa_nil)) s_int) (s_var 0) s_int)
    (ss_one (ss_ret (s_op o_mod (s_callTy c_int rfl (T.free 4) rfl (sa_cons (s_op o_fdiv (s_ix (x_ix hr.hu) (s_var 0) s_int) s_int) sa_nil)) (s_var 1))))))))
theorem sc_law_rect : FnScope ["_law_jar_here","_law_wide","_law_high","_law_left","_law_top"] ["_law_jar_here","_law_wide","_law_high"] (defScope s_law_rect):=⟨rfl,rfl,rfl,by decide +kernel,rfl,by decide +kernel,by decide +kernel⟩
abbrev GD_law_rect (P : Program) (w : World) (K : PySem.W.Frag) (mg : Str → Option Value) (base : Heap) (p : PP) : Prop:=GD P w K mg base (cl K p) 2 (ga K "_law_rect") "_law_rect" "_law_rect" s_law_rect [] ["_law_jar_here","_law_wide","_law_high"] F_law_rect
theorem bd_law_rect (kV doc pm : Value) (an : Option Addr) (cdv ct : Value) (us : List Value) (hl : us.length = (["_law_jar_here","_law_wide","_law_high"] : List Str).length) : bindArgs (PySem.W.fnOf "_law_rect" "_law_rect" (defArgs s_law_rect) (defBody s_law_rect) (defScope s_law_rect) .none kV doc pm an cdv ct) ⟨us,[]⟩ = pure ((["_law_jar_here","_law_wide","_law_high"] : List Str).zip us):=match us,hl with | [_,_,_],_ => rfl
theorem ok_law_rect (T : Tx fx fn K mg) (TB : TBs base mg (csOf K tf)) : GD_law_rect P w K mg base p:=by
  have ok_law_dip_ : GD_law_dip P w K mg base p:=ok_law_dip T TB
  obtain ⟨fd_law_dip,G_law_dip,D_law_dip⟩:=ok_law_dip_.ex
  refine gd_of (T.says.def_ 1 (d:=d_law_rect) rfl) sc_law_rect rfl rfl fun cdv A outer s H E hr tk => ?_
  exact (ss_cons (ss_par 3 4 rfl sc_law_rect.nd (sa_cons (s_cal ok_law_dip_ (hr.mono (by decide)) tk (T.glo 5) (sa_cons (s_var 0) (sa_cons (s_var 1) sa_nil)) bd_law_dip) (sa_cons (s_cal ok_law_dip_ (hr.mono (by decide)) tk (T.glo 5) (sa_cons (s_var 0) (sa_cons (s_var 2) sa_nil)) bd_law_dip) sa_nil)))
    (ss_one (ss_ret (s_tup (sa_cons (s_var 3) (sa_cons (s_var 4) (sa_cons (s_op o_add (s_op o_add (s_var 3) s_int) (s_cal ok_law_dip_ (hr.mono (by decide)) tk (T.glo 5) (sa_cons (s_var 0) (sa_cons (s_op o_sub (s_var 1) (s_var 3)) sa_nil)) bd_law_dip)) (sa_cons (s_op o_add (s_op o_add (s_var 4) s_int) (s_cal ok_law_dip_ (hr.mono (by decide)) tk (T.glo 5) (sa_cons (s_var 0) (sa_cons (s_op o_sub (s_var 2) (s_var 4)) sa_nil)) bd_law_dip)) sa_nil))))))))
theorem sc_law_pick : FnScope ["_law_jar_here","_law_menu","_law_at"] ["_law_jar_here","_law_menu"] (defScope s_law_pick):=⟨rfl,rfl,rfl,by decide +kernel,rfl,by decide +kernel,by decide +kernel⟩
abbrev GD_law_pick (P : Program) (w : World) (K : PySem.W.Frag) (mg : Str → Option Value) (base : Heap) (p : PP) : Prop:=GD P w K mg base (cl K p) 2 (ga K "_law_pick") "_law_pick" "_law_pick" s_law_pick [] ["_law_jar_here","_law_menu"] F_law_pick
theorem bd_law_pick (kV doc pm : Value) (an : Option Addr) (cdv ct : Value) (us : List Value) (hl : us.length = (["_law_jar_here","_law_menu"] : List Str).length) : bindArgs (PySem.W.fnOf "_law_pick" "_law_pick" (defArgs s_law_pick) (defBody s_law_pick) (defScope s_law_pick) .none kV doc pm an cdv ct) ⟨us,[]⟩ = pure ((["_law_jar_here","_law_menu"] : List Str).zip us):=match us,hl with | [_,_],_ => rfl
theorem ok_law_pick (T : Tx fx fn K mg) (TB : TBs base mg (csOf K tf)) : GD_law_pick P w K mg base p:=by
  have ok_law_dip_ : GD_law_dip P w K mg base p:=ok_law_dip T TB
  obtain ⟨fd_law_dip,G_law_dip,D_law_dip⟩:=ok_law_dip_.ex
  refine gd_of (T.says.def_ 2 (d:=d_law_pick) rfl) sc_law_pick rfl rfl fun cdv A outer s H E hr tk => ?_
  exact (ss_cons (ss_set 2 sc_law_pick.nd (s_cal ok_law_dip_ (hr.mono (by decide)) tk (T.glo 5) (sa_cons (s_var 0) (sa_cons (s_callB c_len rfl (T.free 0) rfl (sa_cons (s_var 1) sa_nil)) sa_nil)) bd_law_dip))
    (ss_one (ss_ret (s_ix (x_ix hr.hu) (s_var 1) (s_var 2)))))
theorem sc_law_model : FnScope ["_law_jar_here","_law_most","_law_wide","_law_high","_law_inks","_law_firm","_law_across","_law_down","_law_rows","_law_k","_law_rect_here","_law_ink"] ["_law_jar_here","_law_most","_law_wide","_law_high"] (defScope s_law_model):=⟨rfl,rfl,rfl,by decide +kernel,rfl,by decide +kernel,by decide +kernel⟩
abbrev GD_law_model (P : Program) (w : World) (K : PySem.W.Frag) (mg : Str → Option Value) (base : Heap) (p : PP) : Prop:=GD P w K mg base (cl K p) 3 (ga K "_law_model") "_law_model" "_law_model" s_law_model [] ["_law_jar_here","_law_most","_law_wide","_law_high"] F_law_model
theorem bd_law_model (kV doc pm : Value) (an : Option Addr) (cdv ct : Value) (us : List Value) (hl : us.length = (["_law_jar_here","_law_most","_law_wide","_law_high"] : List Str).length) : bindArgs (PySem.W.fnOf "_law_model" "_law_model" (defArgs s_law_model) (defBody s_law_model) (defScope s_law_model) .none kV doc pm an cdv ct) ⟨us,[]⟩ = pure ((["_law_jar_here","_law_most","_law_wide","_law_high"] : List Str).zip us):=match us,hl with | [_,_,_,_],_ => rfl
theorem ok_law_model (T : Tx fx fn K mg) (TB : TBs base mg (csOf K tf)) : GD_law_model P w K mg base p:=by
  have ok_law_dip_ : GD_law_dip P w K mg base p:=ok_law_dip T TB
  obtain ⟨fd_law_dip,G_law_dip,D_law_dip⟩:=ok_law_dip_.ex
  have ok_law_rect_ : GD_law_rect P w K mg base p:=ok_law_rect T TB
  obtain ⟨fd_law_rect,G_law_rect,D_law_rect⟩:=ok_law_rect_.ex
  have ok_law_pick_ : GD_law_pick P w K mg base p:=ok_law_pick T TB
  obtain ⟨fd_law_pick,G_law_pick,D_law_pick⟩:=ok_law_pick_.ex
  refine gd_of (T.says.def_ 3 (d:=d_law_model) rfl) sc_law_model rfl rfl fun cdv A outer s H E hr tk => ?_
  exact (ss_cons (ss_set 4 sc_law_model.nd (s_sl (s_lst (sa_cons s_str (sa_cons s_str (sa_cons s_str sa_nil)))) so_none (so_some (s_op o_add s_int (s_cal ok_law_dip_ (hr.mono (by decide)) tk (T.glo 5) (sa_cons (s_var 0) (sa_cons s_int sa_nil)) bd_law_dip)))))
    (ss_cons (ss_set 5 sc_law_model.nd (s_callTy c_tuple rfl (T.free 6) rfl (sa_cons (s_lc [("_law_ink",11)] rfl sc_law_model.nd (i_seq (s_lst (sa_cons s_str (sa_cons s_str (sa_cons s_str (sa_cons s_str sa_nil)))))) (blkOk_by (N:=["_law_jar_here","_law_most","_law_wide","_law_high","_law_inks","_law_firm","_law_across","_law_down","_law_rows","_law_k","_law_rect_here","_law_ink"]) (sc:=defScope s_law_model) (own:=[("_law_ink",11)]) (by decide +kernel)) (fun _ _ _ _ _ => (g_name 11 sc_law_model.nd)) (fun _ _ _ _ _ => (ts_one (t_cmp (o_eq hr.hu) (s_cal ok_law_dip_ (hr.mono (by decide)) takes0 (T.glo 5) (sa_cons (s_var 0) (sa_cons s_int sa_nil)) bd_law_dip) s_int))) (fun _ _ _ _ _ => (s_var 11))) sa_nil)))
    (ss_cons (ss_par 6 7 rfl sc_law_model.nd (sa_cons (s_op o_add s_int (s_cal ok_law_dip_ (hr.mono (by decide)) tk (T.glo 5) (sa_cons (s_var 0) (sa_cons (s_var 2) sa_nil)) bd_law_dip)) (sa_cons (s_op o_add s_int (s_cal ok_law_dip_ (hr.mono (by decide)) tk (T.glo 5) (sa_cons (s_var 0) (sa_cons (s_var 3) sa_nil)) bd_law_dip)) sa_nil)))
    (ss_cons (ss_set 8 sc_law_model.nd (s_lst sa_nil))
    (ss_cons (ss_for (passes_of rfl) rfl (i_rng1 (T.free 3) (sa_cons (s_op o_add s_int (s_cal ok_law_dip_ (hr.mono (by decide)) tk (T.glo 5) (sa_cons (s_var 0) (sa_cons (s_var 1) sa_nil)) bd_law_dip)) sa_nil)) (g_name 9 sc_law_model.nd)
    (ss_cons (ss_set 10 sc_law_model.nd (s_if (t_cmp (o_eq hr.hu) (s_cal ok_law_dip_ (hr.mono (by decide)) tk (T.glo 5) (sa_cons (s_var 0) (sa_cons s_int sa_nil)) bd_law_dip) s_int) (s_tup (sa_cons s_int (sa_cons s_int (sa_cons (s_var 6) (sa_cons (s_var 7) sa_nil))))) (s_cal ok_law_rect_ (hr.mono (by decide)) tk (T.glo 7) (sa_cons (s_var 0) (sa_cons (s_var 6) (sa_cons (s_var 7) sa_nil))) bd_law_rect)))
    (ss_one (ss_expr (s_append (s_var 8) (s_tup (sa_cons (s_cal ok_law_pick_ (hr.mono (by decide)) tk (T.glo 8) (sa_cons (s_var 0) (sa_cons (s_var 4) sa_nil)) bd_law_pick) (sa_cons (s_var 10) (sa_cons (s_cal ok_law_pick_ (hr.mono (by decide)) tk (T.glo 8) (sa_cons (s_var 0) (sa_cons (s_lst (sa_cons s_str (sa_cons s_str (sa_cons s_str (sa_cons s_str sa_nil))))) sa_nil)) bd_law_pick) sa_nil)))))))))
    (ss_one (ss_ret (s_tup (sa_cons (s_var 6) (sa_cons (s_var 7) (sa_cons (s_callTy c_tuple rfl (T.free 6) rfl (sa_cons (s_var 8) sa_nil)) (sa_cons (s_var 5) sa_nil))))))))))))
theorem sc_is_integer : FnScope ["value"] ["value"] (defScope s_is_integer):=⟨rfl,rfl,rfl,by decide +kernel,rfl,by decide +kernel,by decide +kernel⟩
abbrev GD_is_integer (P : Program) (w : World) (K : PySem.W.Frag) (mg : Str → Option Value) (base : Heap) (p : PP) : Prop:=GD P w K mg base (cl K p) 1 (ga K "is_integer") "is_integer" "is_integer" s_is_integer [] ["value"] F_is_integer
theorem bd_is_integer (kV doc pm : Value) (an : Option Addr) (cdv ct : Value) (us : List Value) (hl : us.length = (["value"] : List Str).length) : bindArgs (PySem.W.fnOf "is_integer" "is_integer" (defArgs s_is_integer) (defBody s_is_integer) (defScope s_is_integer) .none kV doc pm an cdv ct) ⟨us,[]⟩ = pure ((["value"] : List Str).zip us):=match us,hl with | [_],_ => rfl
theorem ok_is_integer (T : Tx fx fn K mg) (TB : TBs base mg (csOf K tf)) : GD_is_integer P w K mg base p:=by
  refine gd_of (T.says.def_ 4 (d:=d_is_integer) rfl) sc_is_integer rfl rfl fun cdv A outer s H E hr tk => ?_
  exact (ss_one (ss_ret (s_and (s_isi isi_ty (ce_ty rfl (T.free 4) rfl) (s_var 0) (hm:=T.free 10)) (s_one (s_not (s_isi isi_ty (ce_ty rfl (T.free 11) rfl) (s_var 0) (hm:=T.free 10)))))))
theorem sc_is_within : FnScope ["value","low","high"] ["value","low","high"] (defScope s_is_within):=⟨rfl,rfl,rfl,by decide +kernel,rfl,by decide +kernel,by decide +kernel⟩
abbrev GD_is_within (P : Program) (w : World) (K : PySem.W.Frag) (mg : Str → Option Value) (base : Heap) (p : PP) : Prop:=GD P w K mg base (cl K p) 2 (ga K "is_within") "is_within" "is_within" s_is_within [] ["value","low","high"] F_is_within
theorem bd_is_within (kV doc pm : Value) (an : Option Addr) (cdv ct : Value) (us : List Value) (hl : us.length = (["value","low","high"] : List Str).length) : bindArgs (PySem.W.fnOf "is_within" "is_within" (defArgs s_is_within) (defBody s_is_within) (defScope s_is_within) .none kV doc pm an cdv ct) ⟨us,[]⟩ = pure ((["value","low","high"] : List Str).zip us):=match us,hl with | [_,_,_],_ => rfl
theorem ok_is_within (T : Tx fx fn K mg) (TB : TBs base mg (csOf K tf)) : GD_is_within P w K mg base p:=by
  have ok_is_integer_ : GD_is_integer P w K mg base p:=ok_is_integer T TB
  obtain ⟨fd_is_integer,G_is_integer,D_is_integer⟩:=ok_is_integer_.ex
  refine gd_of (T.says.def_ 5 (d:=d_is_within) rfl) sc_is_within rfl rfl fun cdv A outer s H E hr tk => ?_
  exact (ss_one (ss_ret (s_and (s_cal ok_is_integer_ (hr.mono (by decide)) tk (T.glo 12) (sa_cons (s_var 0) sa_nil) bd_is_integer) (s_one (s_chain o_le o_le (s_var 1) (s_var 0) (s_var 2))))))
theorem sc_InvalidSize_init : FnScope ["self","given"] ["self","given"] (defScope s_InvalidSize_init):=⟨rfl,rfl,rfl,by decide +kernel,rfl,by decide +kernel,by decide +kernel⟩
theorem bd_InvalidSize_init (kV doc pm : Value) (an : Option Addr) (cdv ct : Value) (us : List Value) (hl : us.length = (["self","given"] : List Str).length) : bindArgs (PySem.W.fnOf "__init__" "InvalidSize.__init__" (defArgs s_InvalidSize_init) (defBody s_InvalidSize_init) (defScope s_InvalidSize_init) .none kV doc pm an cdv ct) ⟨us,[]⟩ = pure ((["self","given"] : List Str).zip us):=match us,hl with | [_,_],_ => rfl
theorem xd_InvalidSize_init (T : Tx fx fn K mg) : ∃ fd,FunD K "__init__" "InvalidSize.__init__" (defArgs s_InvalidSize_init) (defBody s_InvalidSize_init) (defScope s_InvalidSize_init) [] [] (ma K (ga K "InvalidSize") "__init__") fd:=T.says.def_ 6 (d:=d_InvalidSize_init) rfl
theorem sc_check_size : FnScope ["size"] ["size"] (defScope s_check_size):=⟨rfl,rfl,rfl,by decide +kernel,rfl,by decide +kernel,by decide +kernel⟩
abbrev GD_check_size (P : Program) (w : World) (K : PySem.W.Frag) (mg : Str → Option Value) (base : Heap) (p : PP) : Prop:=GD P w K mg base (cl K p) 3 (ga K "check_size") "check_size" "check_size" s_check_size [] ["size"] F_check_size
theorem bd_check_size (kV doc pm : Value) (an : Option Addr) (cdv ct : Value) (us : List Value) (hl : us.length = (["size"] : List Str).length) : bindArgs (PySem.W.fnOf "check_size" "check_size" (defArgs s_check_size) (defBody s_check_size) (defScope s_check_size) .none kV doc pm an cdv ct) ⟨us,[]⟩ = pure ((["size"] : List Str).zip us):=match us,hl with | [_],_ => rfl
theorem ok_check_size (T : Tx fx fn K mg) (TB : TBs base mg (csOf K tf)) : GD_check_size P w K mg base p:=by
  have ok_is_within_ : GD_is_within P w K mg base p:=ok_is_within T TB
  obtain ⟨fd_is_within,G_is_within,D_is_within⟩:=ok_is_within_.ex
  obtain ⟨fd_InvalidSize_init,D_InvalidSize_init⟩:=xd_InvalidSize_init T
  refine gd_of (T.says.def_ 7 (d:=d_check_size) rfl) sc_check_size rfl rfl fun cdv A outer s H E hr tk => ?_
  exact (ss_one (ss_if (t_not (t_val (s_cal ok_is_within_ (hr.mono (by decide)) tk (T.glo 14) (sa_cons (s_var 0) (sa_cons s_int (sa_cons (s_dat (T.dat 13)) sa_nil))) bd_is_within)))
    (ss_one (ss_raise1 (k:=0) (st:=s_InvalidSize_init) (y:="given") (f:="given") 9 (xc_ok (T.any 15)).1 (xi_ok (T.any 16)) D_InvalidSize_init sc_InvalidSize_init rfl bd_InvalidSize_init (hr.mono (by decide)) rfl tk (T.glo 17) (sa_cons (s_var 0) sa_nil)))
    ss_nil))
theorem sc_InvalidSolid_init : FnScope ["self","index"] ["self","index"] (defScope s_InvalidSolid_init):=⟨rfl,rfl,rfl,by decide +kernel,rfl,by decide +kernel,by decide +kernel⟩
theorem bd_InvalidSolid_init (kV doc pm : Value) (an : Option Addr) (cdv ct : Value) (us : List Value) (hl : us.length = (["self","index"] : List Str).length) : bindArgs (PySem.W.fnOf "__init__" "InvalidSolid.__init__" (defArgs s_InvalidSolid_init) (defBody s_InvalidSolid_init) (defScope s_InvalidSolid_init) .none kV doc pm an cdv ct) ⟨us,[]⟩ = pure ((["self","index"] : List Str).zip us):=match us,hl with | [_,_],_ => rfl
theorem xd_InvalidSolid_init (T : Tx fx fn K mg) : ∃ fd,FunD K "__init__" "InvalidSolid.__init__" (defArgs s_InvalidSolid_init) (defBody s_InvalidSolid_init) (defScope s_InvalidSolid_init) [] [] (ma K (ga K "InvalidSolid") "__init__") fd:=T.says.def_ 8 (d:=d_InvalidSolid_init) rfl
theorem sc_is_name : FnScope ["value","sign"] ["value"] (defScope s_is_name):=⟨rfl,rfl,rfl,by decide +kernel,rfl,by decide +kernel,by decide +kernel⟩
abbrev GD_is_name (P : Program) (w : World) (K : PySem.W.Frag) (mg : Str → Option Value) (base : Heap) (p : PP) : Prop:=GD P w K mg base (cl K p) 1 (ga K "is_name") "is_name" "is_name" s_is_name [] ["value"] F_is_name
theorem bd_is_name (kV doc pm : Value) (an : Option Addr) (cdv ct : Value) (us : List Value) (hl : us.length = (["value"] : List Str).length) : bindArgs (PySem.W.fnOf "is_name" "is_name" (defArgs s_is_name) (defBody s_is_name) (defScope s_is_name) .none kV doc pm an cdv ct) ⟨us,[]⟩ = pure ((["value"] : List Str).zip us):=match us,hl with | [_],_ => rfl
theorem ok_is_name (T : Tx fx fn K mg) (TB : TBs base mg (csOf K tf)) : GD_is_name P w K mg base p:=by
  refine gd_of (T.says.def_ 9 (d:=d_is_name) rfl) sc_is_name rfl rfl fun cdv A outer s H E hr tk => ?_
  exact (ss_cons (ss_if (t_w (t_or (t_not (t_val (s_isi isi_ty (ce_ty rfl (T.free 24) rfl) (s_var 0) (hm:=T.free 10)))) (t_or (t_not (t_chain o_le o_le s_int (s_callB c_len rfl (T.free 0) rfl (sa_cons (s_var 0) sa_nil)) (s_dat (T.dat 25)))) (t_or1 (t_cmp (o_nin hr.hu) (s_ix (x_ix hr.hu) (s_var 0) s_int) (s_dat (T.dat 26)))))))
    (ss_one (ss_ret s_bl))
    ss_nil)
    (ss_one (ss_ret (s_and (s_cmp (o_nin hr.hu) (s_var 0) (s_dat (T.dat 27))) (s_one (s_callB (c_all rfl) rfl (T.free 29) rfl (sa_cons (s_lc [("sign",1)] rfl sc_is_name.nd (i_str (s_var 0)) (blkOk_by (N:=["value","sign"]) (sc:=defScope s_is_name) (own:=[("sign",1)]) (by decide +kernel)) (fun _ _ _ _ _ => (g_name 1 sc_is_name.nd)) (fun _ _ _ _ _ => ts_nil) (fun _ _ _ _ _ => (s_or (s_cmp (o_in hr.hu) (s_var 1) (s_dat (T.dat 26))) (s_one (s_cmp (o_in hr.hu) (s_var 1) (s_dat (T.dat 28))))))) sa_nil)))))))
theorem sc_check_solid : FnScope ["solid","index","name"] ["solid"] (defScope s_check_solid):=⟨rfl,rfl,rfl,by decide +kernel,rfl,by decide +kernel,by decide +kernel⟩
abbrev GD_check_solid (P : Program) (w : World) (K : PySem.W.Frag) (mg : Str → Option Value) (base : Heap) (p : PP) : Prop:=GD P w K mg base (cl K p) 3 (ga K "check_solid") "check_solid" "check_solid" s_check_solid [] ["solid"] F_check_solid
theorem bd_check_solid (kV doc pm : Value) (an : Option Addr) (cdv ct : Value) (us : List Value) (hl : us.length = (["solid"] : List Str).length) : bindArgs (PySem.W.fnOf "check_solid" "check_solid" (defArgs s_check_solid) (defBody s_check_solid) (defScope s_check_solid) .none kV doc pm an cdv ct) ⟨us,[]⟩ = pure ((["solid"] : List Str).zip us):=match us,hl with | [_],_ => rfl
theorem ok_check_solid (T : Tx fx fn K mg) (TB : TBs base mg (csOf K tf)) : GD_check_solid P w K mg base p:=by
  obtain ⟨fd_InvalidSolid_init,D_InvalidSolid_init⟩:=xd_InvalidSolid_init T
  have ok_is_name_ : GD_is_name P w K mg base p:=ok_is_name T TB
  obtain ⟨fd_is_name,G_is_name,D_is_name⟩:=ok_is_name_.ex
  refine gd_of (T.says.def_ 10 (d:=d_check_solid) rfl) sc_check_solid rfl rfl fun cdv A outer s H E hr tk => ?_
  exact (ss_cons (ss_if (t_not (t_val (s_isi isi_ty (ce_ty rfl (T.free 6) rfl) (s_var 0) (hm:=T.free 10))))
    (ss_one (ss_raise1 (k:=0) (st:=s_InvalidSolid_init) (y:="index") (f:="index") 23 (xc_ok (T.any 19)).1 (xi_ok (T.any 20)) D_InvalidSolid_init sc_InvalidSolid_init rfl bd_InvalidSolid_init (hr.mono (by decide)) rfl tk (T.glo 21) (sa_cons s_non sa_nil)))
    ss_nil)
    (ss_one (ss_for (passes_of rfl) rfl (i_enum (T.free 22) (sa_cons (s_var 0) sa_nil)) (g_tup rfl (g_cons (g_name 1 sc_check_solid.nd) (g_cons (g_name 2 sc_check_solid.nd) g_nil)))
    (ss_one (ss_if (t_w (t_or (t_cmp (o_eq hr.hu) (s_var 1) (s_dat (T.dat 23))) (t_or (t_not (t_val (s_cal ok_is_name_ (hr.mono (by decide)) tk (T.glo 30) (sa_cons (s_var 2) sa_nil) bd_is_name))) (t_or1 (t_w (t_and (t_cmp o_gt (s_var 1) s_int) (t_and1 (t_cmp o_ge (s_ix (x_ix hr.hu) (s_var 0) (s_op o_sub (s_var 1) s_int)) (s_var 2)))))))))
    (ss_one (ss_raise1 (k:=0) (st:=s_InvalidSolid_init) (y:="index") (f:="index") 23 (xc_ok (T.any 19)).1 (xi_ok (T.any 20)) D_InvalidSolid_init sc_InvalidSolid_init rfl bd_InvalidSolid_init (hr.mono (by decide)) rfl tk (T.glo 21) (sa_cons (s_var 1) sa_nil)))
    ss_nil)))))
theorem sc_Screen_init : FnScope ["self","width","height","solid"] ["self","width","height","solid"] (defScope s_Screen_init):=⟨rfl,rfl,rfl,by decide +kernel,rfl,by decide +kernel,by decide +kernel⟩
abbrev GD_Screen_init (P : Program) (w : World) (K : PySem.W.Frag) (mg : Str → Option Value) (base : Heap) (p : PP) : Prop:=GD P w K mg base (cl K p) 4 (ma K (ga K "Screen") "__init__") "__init__" "Screen.__init__" s_Screen_init [] ["self","width","height","solid"] F_Screen_init
theorem ok_Screen_init (T : Tx fx fn K mg) (TB : TBs base mg (csOf K tf)) : GD_Screen_init P w K mg base p:=by
  have ok_check_size_ : GD_check_size P w K mg base p:=ok_check_size T TB
  obtain ⟨fd_check_size,G_check_size,D_check_size⟩:=ok_check_size_.ex
  have ok_check_solid_ : GD_check_solid P w K mg base p:=ok_check_solid T TB
  obtain ⟨fd_check_solid,G_check_solid,D_check_solid⟩:=ok_check_solid_.ex
  refine gd_of (T.says.def_ 11 (d:=d_Screen_init) rfl) sc_Screen_init rfl rfl fun cdv A outer s H E hr tk => ?_
  exact (ss_cons (ss_expr (s_cal ok_check_size_ (hr.mono (by decide)) tk (T.glo 18) (sa_cons (s_var 1) sa_nil) bd_check_size))
    (ss_cons (ss_expr (s_cal ok_check_size_ (hr.mono (by decide)) tk (T.glo 18) (sa_cons (s_var 2) sa_nil) bd_check_size))
    (ss_cons (ss_expr (s_cal ok_check_solid_ (hr.mono (by decide)) tk (T.glo 31) (sa_cons (s_var 3) sa_nil) bd_check_solid))
    (ss_cons (ss_fld (c:=3) (T.cls 32).cl (T.noat 33) (s_var 0) (s_tup (sa_cons (s_var 1) (sa_cons (s_var 2) (sa_cons (s_var 3) sa_nil)))))
    (ss_one (ss_fld (c:=3) (T.cls 32).cl (T.noat 34) (s_var 0) (s_tup sa_nil)))))))
theorem sc_law_board : FnScope ["_law_model_here"] ["_law_model_here"] (defScope s_law_board):=⟨rfl,rfl,rfl,by decide +kernel,rfl,by decide +kernel,by decide +kernel⟩
abbrev GD_law_board (P : Program) (w : World) (K : PySem.W.Frag) (mg : Str → Option Value) (base : Heap) (p : PP) : Prop:=GD P w K mg base (cl K p) 6 (ga K "_law_board") "_law_board" "_law_board" s_law_board [] ["_law_model_here"] F_law_board
theorem bd_law_board (kV doc pm : Value) (an : Option Addr) (cdv ct : Value) (us : List Value) (hl : us.length = (["_law_model_here"] : List Str).length) : bindArgs (PySem.W.fnOf "_law_board" "_law_board" (defArgs s_law_board) (defBody s_law_board) (defScope s_law_board) .none kV doc pm an cdv ct) ⟨us,[]⟩ = pure ((["_law_model_here"] : List Str).zip us):=match us,hl with | [_],_ => rfl
theorem ok_law_board (T : Tx fx fn K mg) (TB : TBs base mg (csOf K tf)) : GD_law_board P w K mg base p:=by
  have ok_Screen_init_ : GD_Screen_init P w K mg base p:=ok_Screen_init T TB
  obtain ⟨fd_Screen_init,G_Screen_init,D_Screen_init⟩:=ok_Screen_init_.ex
  refine gd_of (T.says.def_ 12 (d:=d_law_board) rfl) sc_law_board rfl rfl fun cdv A outer s H E hr tk => ?_
  exact (ss_one (ss_ret (s_makeK (ks:=["solid"]) (cl:=cl K _) (c:=3) (n:=2) (T.mkr 35) G_Screen_init (hr.mono (by decide)) tk (T.glo 36) (kb_plain (He5.fun_of D_Screen_init) 3 ["solid"] [.p 0,.p 1,.p 2,.k 0] (fun _ _ _ _ _ _ us ws h1 h2 => match us,ws,h1,h2 with | [_,_,_],[_],_,_ => rfl)) dfl_nil (sa_cons (s_ix (x_ix hr.hu) (s_var 0) s_int) (sa_cons (s_ix (x_ix hr.hu) (s_var 0) s_int) sa_nil)) (sk_cons (s_ix (x_ix hr.hu) (s_var 0) s_int) sk_nil))))
theorem sc_InvalidName_init : FnScope ["self","given"] ["self","given"] (defScope s_InvalidName_init):=⟨rfl,rfl,rfl,by decide +kernel,rfl,by decide +kernel,by decide +kernel⟩
theorem bd_InvalidName_init (kV doc pm : Value) (an : Option Addr) (cdv ct : Value) (us : List Value) (hl : us.length = (["self","given"] : List Str).length) : bindArgs (PySem.W.fnOf "__init__" "InvalidName.__init__" (defArgs s_InvalidName_init) (defBody s_InvalidName_init) (defScope s_InvalidName_init) .none kV doc pm an cdv ct) ⟨us,[]⟩ = pure ((["self","given"] : List Str).zip us):=match us,hl with | [_,_],_ => rfl
theorem xd_InvalidName_init (T : Tx fx fn K mg) : ∃ fd,FunD K "__init__" "InvalidName.__init__" (defArgs s_InvalidName_init) (defBody s_InvalidName_init) (defScope s_InvalidName_init) [] [] (ma K (ga K "InvalidName") "__init__") fd:=T.says.def_ 13 (d:=d_InvalidName_init) rfl
theorem sc_is_part : FnScope ["value","width","height","left","top","right","bottom","edge"] ["value","width","height"] (defScope s_is_part):=⟨rfl,rfl,rfl,by decide +kernel,rfl,by decide +kernel,by decide +kernel⟩
abbrev GD_is_part (P : Program) (w : World) (K : PySem.W.Frag) (mg : Str → Option Value) (base : Heap) (p : PP) : Prop:=GD P w K mg base (cl K p) 2 (ga K "is_part") "is_part" "is_part" s_is_part [] ["value","width","height"] F_is_part
theorem bd_is_part (kV doc pm : Value) (an : Option Addr) (cdv ct : Value) (us : List Value) (hl : us.length = (["value","width","height"] : List Str).length) : bindArgs (PySem.W.fnOf "is_part" "is_part" (defArgs s_is_part) (defBody s_is_part) (defScope s_is_part) .none kV doc pm an cdv ct) ⟨us,[]⟩ = pure ((["value","width","height"] : List Str).zip us):=match us,hl with | [_,_,_],_ => rfl
theorem ok_is_part (T : Tx fx fn K mg) (TB : TBs base mg (csOf K tf)) : GD_is_part P w K mg base p:=by
  have ok_is_integer_ : GD_is_integer P w K mg base p:=ok_is_integer T TB
  obtain ⟨fd_is_integer,G_is_integer,D_is_integer⟩:=ok_is_integer_.ex
  refine gd_of (T.says.def_ 14 (d:=d_is_part) rfl) sc_is_part rfl rfl fun cdv A outer s H E hr tk => ?_
  exact (ss_cons (ss_if (t_w (t_or (t_not (t_val (s_isi isi_ty (ce_ty rfl (T.free 6) rfl) (s_var 0) (hm:=T.free 10)))) (t_or (t_cmp (o_ne hr.hu) (s_callB c_len rfl (T.free 0) rfl (sa_cons (s_var 0) sa_nil)) s_int) (t_or1 (t_not (t_val (s_callB (c_all rfl) rfl (T.free 29) rfl (sa_cons (s_lc [("edge",7)] rfl sc_is_part.nd (i_seq (s_var 0)) (blkOk_by (N:=["value","width","height","left","top","right","bottom","edge"]) (sc:=defScope s_is_part) (own:=[("edge",7)]) (by decide +kernel)) (fun _ _ _ _ _ => (g_name 7 sc_is_part.nd)) (fun _ _ _ _ _ => ts_nil) (fun _ _ _ _ _ => (s_cal ok_is_integer_ (hr.mono (by decide)) takes0 (T.glo 12) (sa_cons (s_var 7) sa_nil) bd_is_integer))) sa_nil))))))))
    (ss_one (ss_ret s_bl))
    ss_nil)
    (ss_cons (ss_asg (s_var 0) (g_tup rfl (g_cons (g_name 3 sc_is_part.nd) (g_cons (g_name 4 sc_is_part.nd) (g_cons (g_name 5 sc_is_part.nd) (g_cons (g_name 6 sc_is_part.nd) g_nil))))))
    (ss_one (ss_ret (s_and (s_chain3 o_le o_lt o_le s_int (s_var 3) (s_var 5) (s_var 1)) (s_one (s_chain3 o_le o_lt o_le s_int (s_var 4) (s_var 6) (s_var 2))))))))
theorem sc_InvalidPart_init : FnScope ["self","given"] ["self","given"] (defScope s_InvalidPart_init):=⟨rfl,rfl,rfl,by decide +kernel,rfl,by decide +kernel,by decide +kernel⟩
theorem bd_InvalidPart_init (kV doc pm : Value) (an : Option Addr) (cdv ct : Value) (us : List Value) (hl : us.length = (["self","given"] : List Str).length) : bindArgs (PySem.W.fnOf "__init__" "InvalidPart.__init__" (defArgs s_InvalidPart_init) (defBody s_InvalidPart_init) (defScope s_InvalidPart_init) .none kV doc pm an cdv ct) ⟨us,[]⟩ = pure ((["self","given"] : List Str).zip us):=match us,hl with | [_,_],_ => rfl
theorem xd_InvalidPart_init (T : Tx fx fn K mg) : ∃ fd,FunD K "__init__" "InvalidPart.__init__" (defArgs s_InvalidPart_init) (defBody s_InvalidPart_init) (defScope s_InvalidPart_init) [] [] (ma K (ga K "InvalidPart") "__init__") fd:=T.says.def_ 15 (d:=d_InvalidPart_init) rfl
theorem sc_check_part : FnScope ["part","width","height"] ["part","width","height"] (defScope s_check_part):=⟨rfl,rfl,rfl,by decide +kernel,rfl,by decide +kernel,by decide +kernel⟩
abbrev GD_check_part (P : Program) (w : World) (K : PySem.W.Frag) (mg : Str → Option Value) (base : Heap) (p : PP) : Prop:=GD P w K mg base (cl K p) 3 (ga K "check_part") "check_part" "check_part" s_check_part [] ["part","width","height"] F_check_part
theorem bd_check_part (kV doc pm : Value) (an : Option Addr) (cdv ct : Value) (us : List Value) (hl : us.length = (["part","width","height"] : List Str).length) : bindArgs (PySem.W.fnOf "check_part" "check_part" (defArgs s_check_part) (defBody s_check_part) (defScope s_check_part) .none kV doc pm an cdv ct) ⟨us,[]⟩ = pure ((["part","width","height"] : List Str).zip us):=match us,hl with | [_,_,_],_ => rfl
theorem ok_check_part (T : Tx fx fn K mg) (TB : TBs base mg (csOf K tf)) : GD_check_part P w K mg base p:=by
  have ok_is_part_ : GD_is_part P w K mg base p:=ok_is_part T TB
  obtain ⟨fd_is_part,G_is_part,D_is_part⟩:=ok_is_part_.ex
  obtain ⟨fd_InvalidPart_init,D_InvalidPart_init⟩:=xd_InvalidPart_init T
  refine gd_of (T.says.def_ 16 (d:=d_check_part) rfl) sc_check_part rfl rfl fun cdv A outer s H E hr tk => ?_
  exact (ss_one (ss_if (t_not (t_val (s_cal ok_is_part_ (hr.mono (by decide)) tk (T.glo 41) (sa_cons (s_var 0) (sa_cons (s_var 1) (sa_cons (s_var 2) sa_nil))) bd_is_part)))
    (ss_one (ss_raise1 (k:=0) (st:=s_InvalidPart_init) (y:="given") (f:="given") 10 (xc_ok (T.any 42)).1 (xi_ok (T.any 43)) D_InvalidPart_init sc_InvalidPart_init rfl bd_InvalidPart_init (hr.mono (by decide)) rfl tk (T.glo 44) (sa_cons (s_var 0) sa_nil)))
    ss_nil))
theorem sc_is_word : FnScope ["value","words"] ["value","words"] (defScope s_is_word):=⟨rfl,rfl,rfl,by decide +kernel,rfl,by decide +kernel,by decide +kernel⟩
abbrev GD_is_word (P : Program) (w : World) (K : PySem.W.Frag) (mg : Str → Option Value) (base : Heap) (p : PP) : Prop:=GD P w K mg base (cl K p) 1 (ga K "is_word") "is_word" "is_word" s_is_word [] ["value","words"] F_is_word
theorem bd_is_word (kV doc pm : Value) (an : Option Addr) (cdv ct : Value) (us : List Value) (hl : us.length = (["value","words"] : List Str).length) : bindArgs (PySem.W.fnOf "is_word" "is_word" (defArgs s_is_word) (defBody s_is_word) (defScope s_is_word) .none kV doc pm an cdv ct) ⟨us,[]⟩ = pure ((["value","words"] : List Str).zip us):=match us,hl with | [_,_],_ => rfl
theorem ok_is_word (T : Tx fx fn K mg) (TB : TBs base mg (csOf K tf)) : GD_is_word P w K mg base p:=by
  refine gd_of (T.says.def_ 17 (d:=d_is_word) rfl) sc_is_word rfl rfl fun cdv A outer s H E hr tk => ?_
  exact (ss_one (ss_ret (s_and (s_isi isi_ty (ce_ty rfl (T.free 24) rfl) (s_var 0) (hm:=T.free 10)) (s_one (s_cmp (o_in hr.hu) (s_var 0) (s_var 1))))))
theorem sc_InvalidFate_init : FnScope ["self","given"] ["self","given"] (defScope s_InvalidFate_init):=⟨rfl,rfl,rfl,by decide +kernel,rfl,by decide +kernel,by decide +kernel⟩
theorem bd_InvalidFate_init (kV doc pm : Value) (an : Option Addr) (cdv ct : Value) (us : List Value) (hl : us.length = (["self","given"] : List Str).length) : bindArgs (PySem.W.fnOf "__init__" "InvalidFate.__init__" (defArgs s_InvalidFate_init) (defBody s_InvalidFate_init) (defScope s_InvalidFate_init) .none kV doc pm an cdv ct) ⟨us,[]⟩ = pure ((["self","given"] : List Str).zip us):=match us,hl with | [_,_],_ => rfl
theorem xd_InvalidFate_init (T : Tx fx fn K mg) : ∃ fd,FunD K "__init__" "InvalidFate.__init__" (defArgs s_InvalidFate_init) (defBody s_InvalidFate_init) (defScope s_InvalidFate_init) [] [] (ma K (ga K "InvalidFate") "__init__") fd:=T.says.def_ 18 (d:=d_InvalidFate_init) rfl
theorem sc_check_fate : FnScope ["fate"] ["fate"] (defScope s_check_fate):=⟨rfl,rfl,rfl,by decide +kernel,rfl,by decide +kernel,by decide +kernel⟩
abbrev GD_check_fate (P : Program) (w : World) (K : PySem.W.Frag) (mg : Str → Option Value) (base : Heap) (p : PP) : Prop:=GD P w K mg base (cl K p) 3 (ga K "check_fate") "check_fate" "check_fate" s_check_fate [] ["fate"] F_check_fate
theorem bd_check_fate (kV doc pm : Value) (an : Option Addr) (cdv ct : Value) (us : List Value) (hl : us.length = (["fate"] : List Str).length) : bindArgs (PySem.W.fnOf "check_fate" "check_fate" (defArgs s_check_fate) (defBody s_check_fate) (defScope s_check_fate) .none kV doc pm an cdv ct) ⟨us,[]⟩ = pure ((["fate"] : List Str).zip us):=match us,hl with | [_],_ => rfl
theorem ok_check_fate (T : Tx fx fn K mg) (TB : TBs base mg (csOf K tf)) : GD_check_fate P w K mg base p:=by
  have ok_is_word_ : GD_is_word P w K mg base p:=ok_is_word T TB
  obtain ⟨fd_is_word,G_is_word,D_is_word⟩:=ok_is_word_.ex
  obtain ⟨fd_InvalidFate_init,D_InvalidFate_init⟩:=xd_InvalidFate_init T
  refine gd_of (T.says.def_ 19 (d:=d_check_fate) rfl) sc_check_fate rfl rfl fun cdv A outer s H E hr tk => ?_
  exact (ss_one (ss_if (t_not (t_val (s_cal ok_is_word_ (hr.mono (by decide)) tk (T.glo 47) (sa_cons (s_var 0) (sa_cons (s_dat (T.dat 46)) sa_nil)) bd_is_word)))
    (ss_one (ss_raise1 (k:=0) (st:=s_InvalidFate_init) (y:="given") (f:="given") 11 (xc_ok (T.any 48)).1 (xi_ok (T.any 49)) D_InvalidFate_init sc_InvalidFate_init rfl bd_InvalidFate_init (hr.mono (by decide)) rfl tk (T.glo 50) (sa_cons (s_var 0) sa_nil)))
    ss_nil))
theorem sc_TooMany_init : FnScope ["self","limit"] ["self","limit"] (defScope s_TooMany_init):=⟨rfl,rfl,rfl,by decide +kernel,rfl,by decide +kernel,by decide +kernel⟩
theorem bd_TooMany_init (kV doc pm : Value) (an : Option Addr) (cdv ct : Value) (us : List Value) (hl : us.length = (["self","limit"] : List Str).length) : bindArgs (PySem.W.fnOf "__init__" "TooMany.__init__" (defArgs s_TooMany_init) (defBody s_TooMany_init) (defScope s_TooMany_init) .none kV doc pm an cdv ct) ⟨us,[]⟩ = pure ((["self","limit"] : List Str).zip us):=match us,hl with | [_,_],_ => rfl
theorem xd_TooMany_init (T : Tx fx fn K mg) : ∃ fd,FunD K "__init__" "TooMany.__init__" (defArgs s_TooMany_init) (defBody s_TooMany_init) (defScope s_TooMany_init) [] [] (ma K (ga K "TooMany") "__init__") fd:=T.says.def_ 20 (d:=d_TooMany_init) rfl
theorem sc_Screen_paint : FnScope ["self","picture","part","fate"] ["self","picture","part","fate"] (defScope s_Screen_paint):=⟨rfl,rfl,rfl,by decide +kernel,rfl,by decide +kernel,by decide +kernel⟩
abbrev GD_Screen_paint (P : Program) (w : World) (K : PySem.W.Frag) (mg : Str → Option Value) (base : Heap) (p : PP) : Prop:=GD P w K mg base (cl K p) 4 (ma K (ga K "Screen") "paint") "paint" "Screen.paint" s_Screen_paint [] ["self","picture","part","fate"] F_Screen_paint
theorem ok_Screen_paint (T : Tx fx fn K mg) (TB : TBs base mg (csOf K tf)) : GD_Screen_paint P w K mg base p:=by
  have ok_is_name_ : GD_is_name P w K mg base p:=ok_is_name T TB
  obtain ⟨fd_is_name,G_is_name,D_is_name⟩:=ok_is_name_.ex
  obtain ⟨fd_InvalidName_init,D_InvalidName_init⟩:=xd_InvalidName_init T
  have ok_check_part_ : GD_check_part P w K mg base p:=ok_check_part T TB
  obtain ⟨fd_check_part,G_check_part,D_check_part⟩:=ok_check_part_.ex
  have ok_check_fate_ : GD_check_fate P w K mg base p:=ok_check_fate T TB
  obtain ⟨fd_check_fate,G_check_fate,D_check_fate⟩:=ok_check_fate_.ex
  obtain ⟨fd_TooMany_init,D_TooMany_init⟩:=xd_TooMany_init T
  refine gd_of (T.says.def_ 21 (d:=d_Screen_paint) rfl) sc_Screen_paint rfl rfl fun cdv A outer s H E hr tk => ?_
  exact (ss_cons (ss_if (t_not (t_val (s_cal ok_is_name_ (hr.mono (by decide)) tk (T.glo 30) (sa_cons (s_var 1) sa_nil) bd_is_name)))
    (ss_one (ss_raise1 (k:=0) (st:=s_InvalidName_init) (y:="given") (f:="given") 18 (xc_ok (T.any 38)).1 (xi_ok (T.any 39)) D_InvalidName_init sc_InvalidName_init rfl bd_InvalidName_init (hr.mono (by decide)) rfl tk (T.glo 40) (sa_cons (s_var 1) sa_nil)))
    ss_nil)
    (ss_cons (ss_expr (s_cal ok_check_part_ (hr.mono (by decide)) tk (T.glo 45) (sa_cons (s_var 2) (sa_cons (s_ix (x_ix hr.hu) (s_fld (c:=3) (T.cls 32).cl (T.noat 33) (s_var 0)) s_int) (sa_cons (s_ix (x_ix hr.hu) (s_fld (c:=3) (T.cls 32).cl (T.noat 33) (s_var 0)) s_int) sa_nil))) bd_check_part))
    (ss_cons (ss_expr (s_cal ok_check_fate_ (hr.mono (by decide)) tk (T.glo 51) (sa_cons (s_var 3) sa_nil) bd_check_fate))
    (ss_cons (ss_if (t_cmp (o_eq hr.hu) (s_callB c_len rfl (T.free 0) rfl (sa_cons (s_fld (c:=3) (T.cls 32).cl (T.noat 34) (s_var 0)) sa_nil)) (s_dat (T.dat 52)))
    (ss_one (ss_raise1 (k:=0) (st:=s_TooMany_init) (y:="limit") (f:="limit") 33 (xc_ok (T.any 53)).1 (xi_ok (T.any 54)) D_TooMany_init sc_TooMany_init rfl bd_TooMany_init (hr.mono (by decide)) rfl tk (T.glo 55) (sa_cons (s_dat (T.dat 52)) sa_nil)))
    ss_nil)
    (ss_one (ss_fld (c:=3) (T.cls 32).cl (T.noat 34) (s_var 0) (s_tup (sa_star (s_fld (c:=3) (T.cls 32).cl (T.noat 34) (s_var 0)) (sa_cons (s_tup (sa_cons (s_var 1) (sa_cons (s_var 2) (sa_cons (s_var 3) sa_nil)))) sa_nil)))))))))
theorem sc_law_acts : FnScope ["_law_jar_here","_law_model_here","_law_found","_law_k","_law_row"] ["_law_jar_here","_law_model_here"] (defScope s_law_acts):=⟨rfl,rfl,rfl,by decide +kernel,rfl,by decide +kernel,by decide +kernel⟩
abbrev GD_law_acts (P : Program) (w : World) (K : PySem.W.Frag) (mg : Str → Option Value) (base : Heap) (p : PP) : Prop:=GD P w K mg base (cl K p) 3 (ga K "_law_acts") "_law_acts" "_law_acts" s_law_acts [] ["_law_jar_here","_law_model_here"] F_law_acts
theorem bd_law_acts (kV doc pm : Value) (an : Option Addr) (cdv ct : Value) (us : List Value) (hl : us.length = (["_law_jar_here","_law_model_here"] : List Str).length) : bindArgs (PySem.W.fnOf "_law_acts" "_law_acts" (defArgs s_law_acts) (defBody s_law_acts) (defScope s_law_acts) .none kV doc pm an cdv ct) ⟨us,[]⟩ = pure ((["_law_jar_here","_law_model_here"] : List Str).zip us):=match us,hl with | [_,_],_ => rfl
theorem ok_law_acts (T : Tx fx fn K mg) (TB : TBs base mg (csOf K tf)) : GD_law_acts P w K mg base p:=by
  have ok_law_dip_ : GD_law_dip P w K mg base p:=ok_law_dip T TB
  obtain ⟨fd_law_dip,G_law_dip,D_law_dip⟩:=ok_law_dip_.ex
  have ok_law_pick_ : GD_law_pick P w K mg base p:=ok_law_pick T TB
  obtain ⟨fd_law_pick,G_law_pick,D_law_pick⟩:=ok_law_pick_.ex
  have ok_law_rect_ : GD_law_rect P w K mg base p:=ok_law_rect T TB
  obtain ⟨fd_law_rect,G_law_rect,D_law_rect⟩:=ok_law_rect_.ex
  refine gd_of (T.says.def_ 22 (d:=d_law_acts) rfl) sc_law_acts rfl rfl fun cdv A outer s H E hr tk => ?_
  exact (ss_cons (ss_set 2 sc_law_acts.nd (s_lst sa_nil))
    (ss_cons (ss_for (passes_of rfl) rfl (i_rng1 (T.free 3) (sa_cons (s_cal ok_law_dip_ (hr.mono (by decide)) tk (T.glo 5) (sa_cons (s_var 0) (sa_cons s_int sa_nil)) bd_law_dip) sa_nil)) (g_name 3 sc_law_acts.nd)
    (ss_cons (ss_set 4 sc_law_acts.nd (s_tup (sa_cons (s_cal ok_law_pick_ (hr.mono (by decide)) tk (T.glo 8) (sa_cons (s_var 0) (sa_cons (s_lst (sa_cons s_str (sa_cons s_str (sa_cons s_str sa_nil)))) sa_nil)) bd_law_pick) (sa_cons (s_cal ok_law_rect_ (hr.mono (by decide)) tk (T.glo 7) (sa_cons (s_var 0) (sa_cons (s_ix (x_ix hr.hu) (s_var 1) s_int) (sa_cons (s_ix (x_ix hr.hu) (s_var 1) s_int) sa_nil))) bd_law_rect) (sa_cons s_str sa_nil)))))
    (ss_one (ss_expr (s_append (s_var 2) (s_tup (sa_cons (s_cal ok_law_dip_ (hr.mono (by decide)) tk (T.glo 5) (sa_cons (s_var 0) (sa_cons s_int sa_nil)) bd_law_dip) (sa_cons (s_cmp (o_eq hr.hu) (s_cal ok_law_dip_ (hr.mono (by decide)) tk (T.glo 5) (sa_cons (s_var 0) (sa_cons s_int sa_nil)) bd_law_dip) s_int) (sa_cons (s_var 4) sa_nil)))))))))
    (ss_one (ss_ret (s_var 2)))))
theorem sc_law_tags : FnScope ["_law_e","_law_found"] ["_law_e"] (defScope s_law_tags):=⟨rfl,rfl,rfl,by decide +kernel,rfl,by decide +kernel,by decide +kernel⟩
theorem bd_law_tags (kV doc pm : Value) (an : Option Addr) (cdv ct : Value) (us : List Value) (hl : us.length = (["_law_e"] : List Str).length) : bindArgs (PySem.W.fnOf "_law_tags" "_law_tags" (defArgs s_law_tags) (defBody s_law_tags) (defScope s_law_tags) .none kV doc pm an cdv ct) ⟨us,[]⟩ = pure ((["_law_e"] : List Str).zip us):=match us,hl with | [_],_ => rfl
theorem xd_law_tags (T : Tx fx fn K mg) : ∃ fd,FunD K "_law_tags" "_law_tags" (defArgs s_law_tags) (defBody s_law_tags) (defScope s_law_tags) [] [] (ga K "_law_tags") fd:=T.says.def_ 23 (d:=d_law_tags) rfl
theorem cls_ok (T : Tx fx fn K mg) (c : Nat) (hc : c ∈ csL) : ExcE K (clA K c) ∧ PySem.W.exmAny K (.ref (clA K c)) [.ref (ga K "WrongValue"),.ref (ga K "WrongName"),.ref (ga K "NoAnswer")] = some true ∧ (∀ (i : Nat) (y : Str × Str × Nat),tagW[i]? = some y → PySem.W.kitOne K (.ref (clA K c)) (.ref (ga K y.2.1)) = some (decide (c = y.2.2))) ∧ PySem.W.findIn K (.ref (clA K c)) "index" = some none ∧ PySem.W.findIn K (.ref (clA K c)) "given" = some none ∧ PySem.W.findIn K (.ref (clA K c)) "limit" = some none:=by
  simp only [csL,List.mem_cons,List.not_mem_nil,or_false] at hc
  rcases hc with rfl | rfl | rfl | rfl | rfl | rfl | rfl | rfl
  · exact ⟨(xc_ok (T.any 15)).2,xm_ok (T.any 117),fun i y hy => xkN_ok (T.any 116) i y hy,xa_ok (T.any 118)⟩
  · exact ⟨(xc_ok (T.any 42)).2,xm_ok (T.any 120),fun i y hy => xkN_ok (T.any 119) i y hy,xa_ok (T.any 121)⟩
  · exact ⟨(xc_ok (T.any 48)).2,xm_ok (T.any 123),fun i y hy => xkN_ok (T.any 122) i y hy,xa_ok (T.any 124)⟩
  · exact ⟨(xc_ok (T.any 38)).2,xm_ok (T.any 126),fun i y hy => xkN_ok (T.any 125) i y hy,xa_ok (T.any 127)⟩
  · exact ⟨(xc_ok (T.any 19)).2,xm_ok (T.any 129),fun i y hy => xkN_ok (T.any 128) i y hy,xa_ok (T.any 130)⟩
  · exact ⟨(xc_ok (T.any 101)).2,xm_ok (T.any 132),fun i y hy => xkN_ok (T.any 131) i y hy,xa_ok (T.any 133)⟩
  · exact ⟨(xc_ok (T.any 95)).2,xm_ok (T.any 135),fun i y hy => xkN_ok (T.any 134) i y hy,xa_ok (T.any 136)⟩
  · exact ⟨(xc_ok (T.any 53)).2,xm_ok (T.any 138),fun i y hy => xkN_ok (T.any 137) i y hy,xa_ok (T.any 139)⟩
theorem ok_law_tags (T : Tx fx fn K mg) : ∃ fd,FnE P w K mg base (clA K) (tabs K) csL 1 (ga K "_law_tags") fd "_law_e" F_law_tags ∧ FunD K "_law_tags" "_law_tags" (defArgs s_law_tags) (defBody s_law_tags) (defScope s_law_tags) [] [] (ga K "_law_tags") fd:=by
  obtain ⟨fd,D⟩:=xd_law_tags T
  refine ⟨fd,fne_of (k:=0) (mb:=fun c a => msSeq (msAsg (mLst maNil) (tgName 1)) (tagsB c a tagW)) (funA_of D) sc_law_tags rfl (fun c hc p cdv A outer s H E a oe d fs hz hf hp => ?_),D⟩
  obtain ⟨x1,x2,x3,x4⟩:=cls_ok T c hc
  exact (ss_cons (ss_set 1 sc_law_tags.nd (s_lst sa_nil))
    (ss_cons (ss_set 1 sc_law_tags.nd (s_op o_add (s_var 1) (s_if (t_val (s_isE 0 x1 hz hf List.mem_cons_self hp (x3 0 _ rfl) (ce_own rfl (T.glo 17)) (T.free 10))) (s_lst (sa_cons s_str sa_nil)) (s_lst sa_nil))))
    (ss_cons (ss_set 1 sc_law_tags.nd (s_op o_add (s_var 1) (s_if (t_val (s_isE 0 x1 hz hf List.mem_cons_self hp (x3 1 _ rfl) (ce_own rfl (T.glo 44)) (T.free 10))) (s_lst (sa_cons s_str sa_nil)) (s_lst sa_nil))))
    (ss_cons (ss_set 1 sc_law_tags.nd (s_op o_add (s_var 1) (s_if (t_val (s_isE 0 x1 hz hf List.mem_cons_self hp (x3 2 _ rfl) (ce_own rfl (T.glo 50)) (T.free 10))) (s_lst (sa_cons s_str sa_nil)) (s_lst sa_nil))))
    (ss_cons (ss_set 1 sc_law_tags.nd (s_op o_add (s_var 1) (s_if (t_val (s_isE 0 x1 hz hf List.mem_cons_self hp (x3 3 _ rfl) (ce_own rfl (T.glo 58)) (T.free 10))) (s_lst (sa_cons s_str sa_nil)) (s_lst sa_nil))))
    (ss_cons (ss_set 1 sc_law_tags.nd (s_op o_add (s_var 1) (s_if (t_val (s_isE 0 x1 hz hf List.mem_cons_self hp (x3 4 _ rfl) (ce_own rfl (T.glo 59)) (T.free 10))) (s_lst (sa_cons s_str sa_nil)) (s_lst sa_nil))))
    (ss_cons (ss_set 1 sc_law_tags.nd (s_op o_add (s_var 1) (s_if (t_val (s_isE 0 x1 hz hf List.mem_cons_self hp (x3 5 _ rfl) (ce_own rfl (T.glo 60)) (T.free 10))) (s_lst (sa_cons s_str sa_nil)) (s_lst sa_nil))))
    (ss_cons (ss_set 1 sc_law_tags.nd (s_op o_add (s_var 1) (s_if (t_val (s_isE 0 x1 hz hf List.mem_cons_self hp (x3 6 _ rfl) (ce_own rfl (T.glo 61)) (T.free 10))) (s_lst (sa_cons s_str sa_nil)) (s_lst sa_nil))))
    (ss_cons (ss_set 1 sc_law_tags.nd (s_op o_add (s_var 1) (s_if (t_val (s_isE 0 x1 hz hf List.mem_cons_self hp (x3 7 _ rfl) (ce_own rfl (T.glo 62)) (T.free 10))) (s_lst (sa_cons s_str sa_nil)) (s_lst sa_nil))))
    (ss_cons (ss_set 1 sc_law_tags.nd (s_op o_add (s_var 1) (s_if (t_val (s_isE 0 x1 hz hf List.mem_cons_self hp (x3 8 _ rfl) (ce_own rfl (T.glo 63)) (T.free 10))) (s_lst (sa_cons s_str sa_nil)) (s_lst sa_nil))))
    (ss_cons (ss_set 1 sc_law_tags.nd (s_op o_add (s_var 1) (s_if (t_val (s_isE 0 x1 hz hf List.mem_cons_self hp (x3 9 _ rfl) (ce_own rfl (T.glo 64)) (T.free 10))) (s_lst (sa_cons s_str sa_nil)) (s_lst sa_nil))))
    (ss_cons (ss_set 1 sc_law_tags.nd (s_op o_add (s_var 1) (s_if (t_val (s_isE 0 x1 hz hf List.mem_cons_self hp (x3 10 _ rfl) (ce_own rfl (T.glo 65)) (T.free 10))) (s_lst (sa_cons s_str sa_nil)) (s_lst sa_nil))))
    (ss_cons (ss_set 1 sc_law_tags.nd (s_op o_add (s_var 1) (s_if (t_val (s_isE 0 x1 hz hf List.mem_cons_self hp (x3 11 _ rfl) (ce_own rfl (T.glo 40)) (T.free 10))) (s_lst (sa_cons s_str sa_nil)) (s_lst sa_nil))))
    (ss_cons (ss_set 1 sc_law_tags.nd (s_op o_add (s_var 1) (s_if (t_val (s_isE 0 x1 hz hf List.mem_cons_self hp (x3 12 _ rfl) (ce_own rfl (T.glo 66)) (T.free 10))) (s_lst (sa_cons s_str sa_nil)) (s_lst sa_nil))))
    (ss_cons (ss_set 1 sc_law_tags.nd (s_op o_add (s_var 1) (s_if (t_val (s_isE 0 x1 hz hf List.mem_cons_self hp (x3 13 _ rfl) (ce_own rfl (T.glo 67)) (T.free 10))) (s_lst (sa_cons s_str sa_nil)) (s_lst sa_nil))))
    (ss_cons (ss_set 1 sc_law_tags.nd (s_op o_add (s_var 1) (s_if (t_val (s_isE 0 x1 hz hf List.mem_cons_self hp (x3 14 _ rfl) (ce_own rfl (T.glo 68)) (T.free 10))) (s_lst (sa_cons s_str sa_nil)) (s_lst sa_nil))))
    (ss_cons (ss_set 1 sc_law_tags.nd (s_op o_add (s_var 1) (s_if (t_val (s_isE 0 x1 hz hf List.mem_cons_self hp (x3 15 _ rfl) (ce_own rfl (T.glo 69)) (T.free 10))) (s_lst (sa_cons s_str sa_nil)) (s_lst sa_nil))))
    (ss_cons (ss_set 1 sc_law_tags.nd (s_op o_add (s_var 1) (s_if (t_val (s_isE 0 x1 hz hf List.mem_cons_self hp (x3 16 _ rfl) (ce_own rfl (T.glo 21)) (T.free 10))) (s_lst (sa_cons s_str sa_nil)) (s_lst sa_nil))))
    (ss_cons (ss_set 1 sc_law_tags.nd (s_op o_add (s_var 1) (s_if (t_val (s_isE 0 x1 hz hf List.mem_cons_self hp (x3 17 _ rfl) (ce_own rfl (T.glo 70)) (T.free 10))) (s_lst (sa_cons s_str sa_nil)) (s_lst sa_nil))))
    (ss_cons (ss_set 1 sc_law_tags.nd (s_op o_add (s_var 1) (s_if (t_val (s_isE 0 x1 hz hf List.mem_cons_self hp (x3 18 _ rfl) (ce_own rfl (T.glo 71)) (T.free 10))) (s_lst (sa_cons s_str sa_nil)) (s_lst sa_nil))))
    (ss_cons (ss_set 1 sc_law_tags.nd (s_op o_add (s_var 1) (s_if (t_val (s_isE 0 x1 hz hf List.mem_cons_self hp (x3 19 _ rfl) (ce_own rfl (T.glo 72)) (T.free 10))) (s_lst (sa_cons s_str sa_nil)) (s_lst sa_nil))))
    (ss_cons (ss_set 1 sc_law_tags.nd (s_op o_add (s_var 1) (s_if (t_val (s_isE 0 x1 hz hf List.mem_cons_self hp (x3 20 _ rfl) (ce_own rfl (T.glo 73)) (T.free 10))) (s_lst (sa_cons s_str sa_nil)) (s_lst sa_nil))))
    (ss_cons (ss_set 1 sc_law_tags.nd (s_op o_add (s_var 1) (s_if (t_val (s_isE 0 x1 hz hf List.mem_cons_self hp (x3 21 _ rfl) (ce_own rfl (T.glo 74)) (T.free 10))) (s_lst (sa_cons s_str sa_nil)) (s_lst sa_nil))))
    (ss_cons (ss_set 1 sc_law_tags.nd (s_op o_add (s_var 1) (s_if (t_val (s_isE 0 x1 hz hf List.mem_cons_self hp (x3 22 _ rfl) (ce_own rfl (T.glo 75)) (T.free 10))) (s_lst (sa_cons s_str sa_nil)) (s_lst sa_nil))))
    (ss_cons (ss_set 1 sc_law_tags.nd (s_op o_add (s_var 1) (s_if (t_val (s_isE 0 x1 hz hf List.mem_cons_self hp (x3 23 _ rfl) (ce_own rfl (T.glo 76)) (T.free 10))) (s_lst (sa_cons s_str sa_nil)) (s_lst sa_nil))))
    (ss_cons (ss_set 1 sc_law_tags.nd (s_op o_add (s_var 1) (s_if (t_val (s_isE 0 x1 hz hf List.mem_cons_self hp (x3 24 _ rfl) (ce_own rfl (T.glo 77)) (T.free 10))) (s_lst (sa_cons s_str sa_nil)) (s_lst sa_nil))))
    (ss_cons (ss_set 1 sc_law_tags.nd (s_op o_add (s_var 1) (s_if (t_val (s_isE 0 x1 hz hf List.mem_cons_self hp (x3 25 _ rfl) (ce_own rfl (T.glo 78)) (T.free 10))) (s_lst (sa_cons s_str sa_nil)) (s_lst sa_nil))))
    (ss_cons (ss_set 1 sc_law_tags.nd (s_op o_add (s_var 1) (s_if (t_val (s_isE 0 x1 hz hf List.mem_cons_self hp (x3 26 _ rfl) (ce_own rfl (T.glo 55)) (T.free 10))) (s_lst (sa_cons s_str sa_nil)) (s_lst sa_nil))))
    (ss_one (ss_ret (s_var 1)))))))))))))))))))))))))))))))
theorem sc_law_caught : FnScope ["_law_act","_law_back","_law_e","_law_found"] ["_law_act"] (defScope s_law_caught):=⟨rfl,rfl,rfl,by decide +kernel,rfl,by decide +kernel,by decide +kernel⟩
theorem bd_law_caught (kV doc pm : Value) (an : Option Addr) (cdv ct : Value) (us : List Value) (hl : us.length = (["_law_act"] : List Str).length) : bindArgs (PySem.W.fnOf "_law_caught" "_law_caught" (defArgs s_law_caught) (defBody s_law_caught) (defScope s_law_caught) .none kV doc pm an cdv ct) ⟨us,[]⟩ = pure ((["_law_act"] : List Str).zip us):=match us,hl with | [_],_ => rfl
theorem xd_law_caught (T : Tx fx fn K mg) : ∃ fd,FunD K "_law_caught" "_law_caught" (defArgs s_law_caught) (defBody s_law_caught) (defScope s_law_caught) [] [] (ga K "_law_caught") fd:=T.says.def_ 24 (d:=d_law_caught) rfl
theorem ok_law_caught (T : Tx fx fn K mg) (TB : TBs base mg (csOf K tf)) : ∃ fd,FnL P w K mg base (clA K) (tabs K) 5 ["_law_act","_law_back","_law_e","_law_found"] "_law_caught" s_law_caught (ga K "_law_caught") fd "_law_act" (F_law_caught csL) ∧ FunD K "_law_caught" "_law_caught" (defArgs s_law_caught) (defBody s_law_caught) (defScope s_law_caught) [] [] (ga K "_law_caught") fd:=by
  obtain ⟨fd,D⟩:=xd_law_caught T
  obtain ⟨fd_t,E_t,D_t⟩:=ok_law_tags (P:=P) (w:=w) (base:=base) T
  refine ⟨fd,fnl_of (k:=4) (mb:=fun f Fd => caughtB csL f Fd) (funA_of D) sc_law_caught rfl (fun p f Fd cdv A outer s H E C hr tk => ?_),D⟩
  exact (ss_cons (ss_try3 (cs:=csL) (i:=2) tk rfl rfl sc_law_caught.nd rfl (T.glo 80) rfl (T.glo 81) rfl (T.glo 82) (fun c hc => (cls_ok T c hc).2.1) (xt_ok (T.any 140)) (xt_ok (T.any 141)) (by decide) (fun W pn xe tk => ss_one (ss_set 1 sc_law_caught.nd (C.call pn xe W _ _ tk))) (fun c hc fs a oe d pn hz hf => by
      obtain ⟨x1,x2,x3,x4⟩:=cls_ok T c hc
      exact (ss_cons (ss_set 3 sc_law_caught.nd (s_tags 2 E_t (hr.mono (by decide)) hc hz hf (fun _ _ _ h => h.2) (T.glo 83) (T.kp 83) (D_t.bindsN bd_law_tags)))
      (ss_cons (ss_if (t_cmp (o_ne hr.hu) (s_callB c_len rfl (T.free 0) rfl (sa_cons (s_var 3) sa_nil)) s_int) (ss_one (ss_ret (s_lst (sa_cons s_str (sa_cons s_str sa_nil))))) ss_nil)
      (ss_cons (ss_if (t_cmp (o_in hr.hu) (s_ix (x_ix hr.hu) (s_var 3) s_int) (s_lst (sa_cons s_str (sa_cons s_str (sa_cons s_str (sa_cons s_str (sa_cons s_str (sa_cons s_str (sa_cons s_str sa_nil))))))))) (ss_one (ss_ret (s_lst (sa_cons (s_ix (x_ix hr.hu) (s_var 3) s_int) (sa_cons (s_callB (c_reprA hr.g hr.hu) rfl (T.free 79) rfl (sa_cons (s_xf 2 x1 x4.1 hz hf (fun _ _ _ h => h.2)) sa_nil)) sa_nil))))) ss_nil)
      (ss_cons (ss_if (t_cmp (o_in hr.hu) (s_ix (x_ix hr.hu) (s_var 3) s_int) (s_lst (sa_cons s_str (sa_cons s_str (sa_cons s_str sa_nil))))) (ss_one (ss_ret (s_lst (sa_cons (s_ix (x_ix hr.hu) (s_var 3) s_int) (sa_cons s_str sa_nil))))) ss_nil)
      (ss_one (ss_ret (s_lst (sa_cons (s_ix (x_ix hr.hu) (s_var 3) s_int) (sa_cons (s_callB (c_reprA hr.g hr.hu) rfl (T.free 79) rfl (sa_cons (s_if (t_cmp (o_eq hr.hu) (s_ix (x_ix hr.hu) (s_var 3) s_int) s_str) (s_xf 2 x1 x4.2.2 hz hf (fun _ _ _ h => h.2)) (s_xf 2 x1 x4.2.1 hz hf (fun _ _ _ h => h.2))) sa_nil)) sa_nil)))))))))))
    (ss_one (ss_ret (s_lst (sa_cons s_str (sa_cons (s_callB (c_reprA hr.g hr.hu) rfl (T.free 79) rfl (sa_cons (s_var 1) sa_nil)) sa_nil))))))
theorem sc_law_went : FnScope ["_law_act","_law_back"] ["_law_act"] (defScope s_law_went):=⟨rfl,rfl,rfl,by decide +kernel,rfl,by decide +kernel,by decide +kernel⟩
theorem bd_law_went (kV doc pm : Value) (an : Option Addr) (cdv ct : Value) (us : List Value) (hl : us.length = (["_law_act"] : List Str).length) : bindArgs (PySem.W.fnOf "_law_went" "_law_went" (defArgs s_law_went) (defBody s_law_went) (defScope s_law_went) .none kV doc pm an cdv ct) ⟨us,[]⟩ = pure ((["_law_act"] : List Str).zip us):=match us,hl with | [_],_ => rfl
theorem xd_law_went (T : Tx fx fn K mg) : ∃ fd,FunD K "_law_went" "_law_went" (defArgs s_law_went) (defBody s_law_went) (defScope s_law_went) [] [] (ga K "_law_went") fd:=T.says.def_ 25 (d:=d_law_went) rfl
theorem ok_law_went (T : Tx fx fn K mg) (TB : TBs base mg (csOf K tf)) : ∃ fd,FnP P w K mg base (clA K) (tabs K) 6 ["_law_act","_law_back"] "_law_went" s_law_went (ga K "_law_went") fd ["_law_act"] F_law_went ∧ FunD K "_law_went" "_law_went" (defArgs s_law_went) (defBody s_law_went) (defScope s_law_went) [] [] (ga K "_law_went") fd:=by
  obtain ⟨fd,D⟩:=xd_law_went T
  obtain ⟨fd_law_caught,L_law_caught,D_law_caught⟩:=ok_law_caught (P:=P) (w:=w) (base:=base) T TB
  refine ⟨fd,fnp_of (k:=5) (mb:=fun f Fd => (msSeq (mTryPy (msAsg (mFwd 0 (F_law_caught csL) f Fd) (tgName 1)) (msRet (mLst (maCons (mC (.str "key")) (maCons (mC (.str "")) maNil)))) (msRet (mLst (maCons (mC (.str "zero")) (maCons (mC (.str "")) maNil)))))
  (msRet (mVar 1)))) (funA_of D) sc_law_went rfl rfl (fun j p f Fd cdv A outer s H E C hr tk => ?_),D⟩
  exact (ss_cons (ss_tryPy rfl rfl rfl (T.free 85) rfl (T.free 86)
  (fun W pn xe tk => (fun C => (ss_one (ss_set 1 sc_law_went.nd (s_fwd C L_law_caught (hr.mono (by omega)) (hr.mono (by omega)) tk (T.glo 84) (T.kp 84) (D_law_caught.bindsN bd_law_caught) rfl (.inl rfl) rfl (.inl rfl))))) (C.tr rfl pn xe))
  (fun a oe pn => (ss_one (ss_ret (s_lst (sa_cons s_str (sa_cons s_str sa_nil))))))
  (fun a oe pn => (ss_one (ss_ret (s_lst (sa_cons s_str (sa_cons s_str sa_nil)))))))
  (ss_one (ss_ret (s_var 1))))
theorem sc_Trial_init : FnScope ["self","box"] ["self","box"] (defScope s_Trial_init):=⟨rfl,rfl,rfl,by decide +kernel,rfl,by decide +kernel,by decide +kernel⟩
abbrev GD_Trial_init (P : Program) (w : World) (K : PySem.W.Frag) (mg : Str → Option Value) (base : Heap) (p : PP) : Prop:=GD P w K mg base (cl K p) 1 (ma K (ga K "Trial") "__init__") "__init__" "Trial.__init__" s_Trial_init [] ["self","box"] F_Trial_init
theorem ok_Trial_init (T : Tx fx fn K mg) (TB : TBs base mg (csOf K tf)) : GD_Trial_init P w K mg base p:=by
  refine gd_of (T.says.def_ 26 (d:=d_Trial_init) rfl) sc_Trial_init rfl rfl fun cdv A outer s H E hr tk => ?_
  exact (ss_cons (ss_fld (c:=2) (T.cls 87).cl (T.noat 88) (s_var 0) (s_var 1))
    (ss_one (ss_fld (c:=2) (T.cls 87).cl (T.noat 89) (s_var 0) s_non)))
theorem sc_Screen_trial : FnScope ["self"] ["self"] (defScope s_Screen_trial):=⟨rfl,rfl,rfl,by decide +kernel,rfl,by decide +kernel,by decide +kernel⟩
abbrev GD_Screen_trial (P : Program) (w : World) (K : PySem.W.Frag) (mg : Str → Option Value) (base : Heap) (p : PP) : Prop:=GD P w K mg base (cl K p) 3 (ma K (ga K "Screen") "trial") "trial" "Screen.trial" s_Screen_trial [] ["self"] F_Screen_trial
theorem ok_Screen_trial (T : Tx fx fn K mg) (TB : TBs base mg (csOf K tf)) : GD_Screen_trial P w K mg base p:=by
  have ok_Trial_init_ : GD_Trial_init P w K mg base p:=ok_Trial_init T TB
  obtain ⟨fd_Trial_init,G_Trial_init,D_Trial_init⟩:=ok_Trial_init_.ex
  refine gd_of (T.says.def_ 27 (d:=d_Screen_trial) rfl) sc_Screen_trial rfl rfl fun cdv A outer s H E hr tk => ?_
  exact (ss_one (ss_ret (s_makeK (ks:=[]) (cl:=cl K _) (c:=2) (n:=1) (T.mkr 90) G_Trial_init (hr.mono (by decide)) tk (T.glo 91) (kb_plain (He5.fun_of D_Trial_init) 2 [] [.p 0,.p 1] (fun _ _ _ _ _ _ us ws h1 h2 => match us,ws,h1,h2 with | [_,_],[],_,_ => rfl)) dfl_nil (sa_cons (s_var 0) sa_nil) sk_nil)))
theorem sc_Trial_enter : FnScope ["self"] ["self"] (defScope s_Trial_enter):=⟨rfl,rfl,rfl,by decide +kernel,rfl,by decide +kernel,by decide +kernel⟩
abbrev GD_Trial_enter (P : Program) (w : World) (K : PySem.W.Frag) (mg : Str → Option Value) (base : Heap) (p : PP) : Prop:=GD P w K mg base (cl K p) 1 (ma K (ga K "Trial") "__enter__") "__enter__" "Trial.__enter__" s_Trial_enter [] ["self"] F_Trial_enter
theorem bd_Trial_enter (kV doc pm : Value) (an : Option Addr) (cdv ct : Value) (us : List Value) (hl : us.length = (["self"] : List Str).length) : bindArgs (PySem.W.fnOf "__enter__" "Trial.__enter__" (defArgs s_Trial_enter) (defBody s_Trial_enter) (defScope s_Trial_enter) .none kV doc pm an cdv ct) ⟨us,[]⟩ = pure ((["self"] : List Str).zip us):=match us,hl with | [_],_ => rfl
theorem b_Trial_enter {fd : FuncData} (D : FunD K "__enter__" "Trial.__enter__" (defArgs s_Trial_enter) (defBody s_Trial_enter) (defScope s_Trial_enter) [] [] (ma K (ga K "Trial") "__enter__") fd) : Binds K fd ["self"] []:=D.bindsN bd_Trial_enter
theorem ok_Trial_enter (T : Tx fx fn K mg) (TB : TBs base mg (csOf K tf)) : GD_Trial_enter P w K mg base p:=by
  refine gd_of (T.says.def_ 28 (d:=d_Trial_enter) rfl) sc_Trial_enter rfl rfl fun cdv A outer s H E hr tk => ?_
  exact (ss_cons (ss_fld (c:=2) (T.cls 87).cl (T.noat 89) (s_var 0) (s_fld (c:=3) (T.cls 32).cl (T.noat 34) (s_fld (c:=2) (T.cls 87).cl (T.noat 88) (s_var 0))))
    (ss_one (ss_ret (s_fld (c:=2) (T.cls 87).cl (T.noat 88) (s_var 0)))))
theorem sc_Trial_exit : FnScope ["self","kind","value","trace"] ["self","kind","value","trace"] (defScope s_Trial_exit):=⟨rfl,rfl,rfl,by decide +kernel,rfl,by decide +kernel,by decide +kernel⟩
abbrev GD_Trial_exit (P : Program) (w : World) (K : PySem.W.Frag) (mg : Str → Option Value) (base : Heap) (p : PP) : Prop:=GD P w K mg base (cl K p) 1 (ma K (ga K "Trial") "__exit__") "__exit__" "Trial.__exit__" s_Trial_exit [] ["self","kind","value","trace"] F_Trial_exit
theorem bd_Trial_exit (kV doc pm : Value) (an : Option Addr) (cdv ct : Value) (us : List Value) (hl : us.length = (["self","kind","value","trace"] : List Str).length) : bindArgs (PySem.W.fnOf "__exit__" "Trial.__exit__" (defArgs s_Trial_exit) (defBody s_Trial_exit) (defScope s_Trial_exit) .none kV doc pm an cdv ct) ⟨us,[]⟩ = pure ((["self","kind","value","trace"] : List Str).zip us):=match us,hl with | [_,_,_,_],_ => rfl
theorem b_Trial_exit {fd : FuncData} (D : FunD K "__exit__" "Trial.__exit__" (defArgs s_Trial_exit) (defBody s_Trial_exit) (defScope s_Trial_exit) [] [] (ma K (ga K "Trial") "__exit__") fd) : Binds K fd ["self","kind","value","trace"] []:=D.bindsN bd_Trial_exit
theorem ok_Trial_exit (T : Tx fx fn K mg) (TB : TBs base mg (csOf K tf)) : GD_Trial_exit P w K mg base p:=by
  refine gd_of (T.says.def_ 29 (d:=d_Trial_exit) rfl) sc_Trial_exit rfl rfl fun cdv A outer s H E hr tk => ?_
  exact (ss_one (ss_if (t_cmp o_notC (s_var 1) s_non)
    (ss_one (ss_fld (c:=3) (T.cls 32).cl (T.noat 34) (s_fld (c:=2) (T.cls 87).cl (T.noat 88) (s_var 0)) (s_fld (c:=2) (T.cls 87).cl (T.noat 89) (s_var 0))))
    ss_nil))
theorem ht_Trial_exit (T : Tx fx fn K mg) (TB : TBs base mg (csOf K tf)) {fd : FuncData} (D : FunD K "__exit__" "Trial.__exit__" (defArgs s_Trial_exit) (defBody s_Trial_exit) (defScope s_Trial_exit) [] [] (ma K (ga K "Trial") "__exit__") fd) : FnHt P w K mg base (cl K p) (ma K (ga K "Trial") "__exit__") fd ["self","kind","value","trace"] F_Trial_exit:=
  fnht_of (He5.fun_of D) sc_Trial_exit rfl rfl fun cdv A outer s H E a oe =>
    (ss_one (ss_if (t_cmp o_notC (s_var 1) s_non)
      (ss_one (ss_fld (c:=3) (T.cls 32).cl (T.noat 34) (s_fld (c:=2) (T.cls 87).cl (T.noat 88) (s_var 0)) (s_fld (c:=2) (T.cls 87).cl (T.noat 89) (s_var 0))))
      ss_nil))
theorem sc_Screen_tried : FnScope ["self","action","screen"] ["self","action"] (defScope s_Screen_tried):=⟨rfl,rfl,rfl,by decide +kernel,rfl,by decide +kernel,by decide +kernel⟩
theorem bd_Screen_tried (kV doc pm : Value) (an : Option Addr) (cdv ct : Value) (us : List Value) (hl : us.length = (["self","action"] : List Str).length) : bindArgs (PySem.W.fnOf "tried" "Screen.tried" (defArgs s_Screen_tried) (defBody s_Screen_tried) (defScope s_Screen_tried) .none kV doc pm an cdv ct) ⟨us,[]⟩ = pure ((["self","action"] : List Str).zip us):=match us,hl with | [_,_],_ => rfl
theorem xd_Screen_tried (T : Tx fx fn K mg) : ∃ fd,FunD K "tried" "Screen.tried" (defArgs s_Screen_tried) (defBody s_Screen_tried) (defScope s_Screen_tried) [] [] (ma K (ga K "Screen") "tried") fd:=T.says.def_ 30 (d:=d_Screen_tried) rfl
theorem ok_Screen_tried (T : Tx fx fn K mg) (TB : TBs base mg (csOf K tf)) : ∃ fd,FnM1 P w K mg base (clA K) (tabs K) 4 ["self","action","screen"] "Screen.tried" s_Screen_tried (ma K (ga K "Screen") "tried") fd ["self","action"] F_Screen_tried ∧ FunD K "tried" "Screen.tried" (defArgs s_Screen_tried) (defBody s_Screen_tried) (defScope s_Screen_tried) [] [] (ma K (ga K "Screen") "tried") fd:=by
  obtain ⟨fd,D⟩:=xd_Screen_tried T
  refine ⟨fd,fnm1_of (k:=3) (mb:=fun f Fd => (msWith 2 2 (mMeth 3 "trial" F_Screen_trial 0 0 [.p 0] [] (mVar 0) maNil maNil) F_Trial_enter F_Trial_exit
  (msRet (mAct1 1 f Fd (maCons (mVar 2) maNil))))) (funA_of D) sc_Screen_tried rfl rfl rfl (fun p f Fd cdv A outer s H E C hr tk => ?_),D⟩
  have ok_Screen_trial_ : GD_Screen_trial P w K mg base p:=ok_Screen_trial T TB
  obtain ⟨fd_Screen_trial,G_Screen_trial,D_Screen_trial⟩:=ok_Screen_trial_.ex
  have ok_Trial_enter_ : GD_Trial_enter P w K mg base p:=ok_Trial_enter T TB
  obtain ⟨fd_Trial_enter,G_Trial_enter,D_Trial_enter⟩:=ok_Trial_enter_.ex
  have ok_Trial_exit_ : GD_Trial_exit P w K mg base p:=ok_Trial_exit T TB
  obtain ⟨fd_Trial_exit,G_Trial_exit,D_Trial_exit⟩:=ok_Trial_exit_.ex
  exact (ss_one (ss_with (cl:=cl K _) (k:=1) (i:=2) (c:=2) (s_meth0 (ks:=[]) (cl:=cl K _) (c:=3) (s_var 0) (T.cls 32).cl (T.meth 92) G_Screen_trial (hr.mono (by decide)) tk (kb_plain (He5.fun_of D_Screen_trial) 1 [] [.p 0] (fun _ _ _ _ _ _ us ws h1 h2 => match us,ws,h1,h2 with | [_],[],_,_ => rfl)) dfl_nil sk_nil) (T.meth 93) (T.meth 94) (FnS.mono G_Trial_enter (by decide)) (b_Trial_enter D_Trial_enter) (FnS.mono G_Trial_exit (by decide)) (b_Trial_exit D_Trial_exit) rfl (ht_Trial_exit T TB D_Trial_exit) (hr.mono (by decide)) tk rfl rfl rfl sc_Screen_tried.nd
  (fun W pn xe tk => (ss_one (ss_ret (C.call pn xe W _ _ _ _ tk rfl (sa_cons (s_var 2) sa_nil)))))))
theorem sc_Screen_undo : FnScope ["self"] ["self"] (defScope s_Screen_undo):=⟨rfl,rfl,rfl,by decide +kernel,rfl,by decide +kernel,by decide +kernel⟩
abbrev GD_Screen_undo (P : Program) (w : World) (K : PySem.W.Frag) (mg : Str → Option Value) (base : Heap) (p : PP) : Prop:=GD P w K mg base (cl K p) 1 (ma K (ga K "Screen") "undo") "undo" "Screen.undo" s_Screen_undo [] ["self"] F_Screen_undo
theorem ok_Screen_undo (T : Tx fx fn K mg) (TB : TBs base mg (csOf K tf)) : GD_Screen_undo P w K mg base p:=by
  refine gd_of (T.says.def_ 31 (d:=d_Screen_undo) rfl) sc_Screen_undo rfl rfl fun cdv A outer s H E hr tk => ?_
  exact (ss_cons (ss_if (t_cmp (o_eq hr.hu) (s_fld (c:=3) (T.cls 32).cl (T.noat 34) (s_var 0)) (s_tup sa_nil))
    (ss_one (ss_raise0 30 (xc_ok (T.any 95)).1 (T.any 96) rfl tk (T.glo 76) (xc_ok (T.any 95)).1.kC))
    ss_nil)
    (ss_one (ss_fld (c:=3) (T.cls 32).cl (T.noat 34) (s_var 0) (s_sl (s_fld (c:=3) (T.cls 32).cl (T.noat 34) (s_var 0)) so_none (so_some (s_un u_neg s_int))))))
theorem sc_law_done : FnScope ["_law_box","_law_mine","_law_acts_here","_law_way","_law_outer","_law_row","_law_here"] ["_law_box","_law_mine","_law_acts_here"] (defScope s_law_done):=⟨rfl,rfl,rfl,by decide +kernel,rfl,by decide +kernel,by decide +kernel⟩
abbrev GD_law_done (P : Program) (w : World) (K : PySem.W.Frag) (mg : Str → Option Value) (base : Heap) (p : PP) : Prop:=GD P w K mg base (cl K p) 5 (ga K "_law_done") "_law_done" "_law_done" s_law_done [] ["_law_box","_law_mine","_law_acts_here"] F_law_done
theorem bd_law_done (kV doc pm : Value) (an : Option Addr) (cdv ct : Value) (us : List Value) (hl : us.length = (["_law_box","_law_mine","_law_acts_here"] : List Str).length) : bindArgs (PySem.W.fnOf "_law_done" "_law_done" (defArgs s_law_done) (defBody s_law_done) (defScope s_law_done) .none kV doc pm an cdv ct) ⟨us,[]⟩ = pure ((["_law_box","_law_mine","_law_acts_here"] : List Str).zip us):=match us,hl with | [_,_,_],_ => rfl
theorem ok_law_done (T : Tx fx fn K mg) (TB : TBs base mg (csOf K tf)) : GD_law_done P w K mg base p:=by
  have ok_Screen_undo_ : GD_Screen_undo P w K mg base p:=ok_Screen_undo T TB
  obtain ⟨fd_Screen_undo,G_Screen_undo,D_Screen_undo⟩:=ok_Screen_undo_.ex
  have ok_Screen_paint_ : GD_Screen_paint P w K mg base p:=ok_Screen_paint T TB
  obtain ⟨fd_Screen_paint,G_Screen_paint,D_Screen_paint⟩:=ok_Screen_paint_.ex
  refine gd_of (T.says.def_ 32 (d:=d_law_done) rfl) sc_law_done rfl rfl fun cdv A outer s H E hr tk => ?_
  exact (ss_one (ss_for (passes_of rfl) rfl (i_seq (s_var 2)) (g_tup rfl (g_cons (g_name 3 sc_law_done.nd) (g_cons (g_name 4 sc_law_done.nd) (g_cons (g_name 5 sc_law_done.nd) g_nil))))
    (ss_cons (ss_set 6 sc_law_done.nd (s_if (t_val (s_var 4)) (s_var 1) (s_var 0)))
    (ss_one (ss_if (t_cmp (o_eq hr.hu) (s_var 3) s_int)
    (ss_one (ss_expr (s_meth0 (ks:=[]) (cl:=cl K _) (c:=3) (s_var 6) (T.cls 32).cl (T.meth 97) G_Screen_undo (hr.mono (by decide)) tk (kb_plain (He5.fun_of D_Screen_undo) 1 [] [.p 0] (fun _ _ _ _ _ _ us ws h1 h2 => match us,ws,h1,h2 with | [_],[],_,_ => rfl)) dfl_nil sk_nil)))
    (ss_one (ss_expr (s_meth (ks:=[]) (cl:=cl K _) (c:=3) (n:=3) (s_var 6) (T.cls 32).cl (T.meth 56) G_Screen_paint (hr.mono (by decide)) tk (kb_plain (He5.fun_of D_Screen_paint) 4 [] [.p 0,.p 1,.p 2,.p 3] (fun _ _ _ _ _ _ us ws h1 h2 => match us,ws,h1,h2 with | [_,_,_,_],[],_,_ => rfl)) dfl_nil (sa_cons (s_ix (x_ix hr.hu) (s_var 5) s_int) (sa_cons (s_ix (x_ix hr.hu) (s_var 5) s_int) (sa_cons (s_ix (x_ix hr.hu) (s_var 5) s_int) sa_nil))) sk_nil))))))))
theorem sc_Screen_frames : FnScope ["self"] ["self"] (defScope s_Screen_frames):=⟨rfl,rfl,rfl,by decide +kernel,rfl,by decide +kernel,by decide +kernel⟩
abbrev GD_Screen_frames (P : Program) (w : World) (K : PySem.W.Frag) (mg : Str → Option Value) (base : Heap) (p : PP) : Prop:=GD P w K mg base (cl K p) 1 (pgA K "Screen" "frames") "frames" "Screen.frames" s_Screen_frames [] ["self"] F_Screen_frames
theorem bd_Screen_frames (kV doc pm : Value) (an : Option Addr) (cdv ct : Value) (us : List Value) (hl : us.length = (["self"] : List Str).length) : bindArgs (PySem.W.fnOf "frames" "Screen.frames" (defArgs s_Screen_frames) (defBody s_Screen_frames) (defScope s_Screen_frames) .none kV doc pm an cdv ct) ⟨us,[]⟩ = pure ((["self"] : List Str).zip us):=match us,hl with | [_],_ => rfl
theorem b_Screen_frames {fd : FuncData} (D : FunD K "frames" "Screen.frames" (defArgs s_Screen_frames) (defBody s_Screen_frames) (defScope s_Screen_frames) [] [] (pgA K "Screen" "frames") fd) : Binds K fd ["self"] []:=D.bindsN bd_Screen_frames
theorem ok_Screen_frames (T : Tx fx fn K mg) (TB : TBs base mg (csOf K tf)) : GD_Screen_frames P w K mg base p:=by
  refine gd_of (T.says.def_ 33 (d:=d_Screen_frames) rfl) sc_Screen_frames rfl rfl fun cdv A outer s H E hr tk => ?_
  exact (ss_one (ss_ret (s_fld (c:=3) (T.cls 32).cl (T.noat 34) (s_var 0))))
theorem sc_UnknownName_init : FnScope ["self","given"] ["self","given"] (defScope s_UnknownName_init):=⟨rfl,rfl,rfl,by decide +kernel,rfl,by decide +kernel,by decide +kernel⟩
theorem bd_UnknownName_init (kV doc pm : Value) (an : Option Addr) (cdv ct : Value) (us : List Value) (hl : us.length = (["self","given"] : List Str).length) : bindArgs (PySem.W.fnOf "__init__" "UnknownName.__init__" (defArgs s_UnknownName_init) (defBody s_UnknownName_init) (defScope s_UnknownName_init) .none kV doc pm an cdv ct) ⟨us,[]⟩ = pure ((["self","given"] : List Str).zip us):=match us,hl with | [_,_],_ => rfl
theorem xd_UnknownName_init (T : Tx fx fn K mg) : ∃ fd,FunD K "__init__" "UnknownName.__init__" (defArgs s_UnknownName_init) (defBody s_UnknownName_init) (defScope s_UnknownName_init) [] [] (ma K (ga K "UnknownName") "__init__") fd:=T.says.def_ 34 (d:=d_UnknownName_init) rfl
theorem sc_law_ending : FnScope ["_law_way"] ["_law_way"] (defScope s_law_ending):=⟨rfl,rfl,rfl,by decide +kernel,rfl,by decide +kernel,by decide +kernel⟩
abbrev GD_law_ending (P : Program) (w : World) (K : PySem.W.Frag) (mg : Str → Option Value) (base : Heap) (p : PP) : Prop:=GD P w K mg base (cl K p) 3 (ga K "_law_ending") "_law_ending" "_law_ending" s_law_ending [] ["_law_way"] F_law_ending
theorem bd_law_ending (kV doc pm : Value) (an : Option Addr) (cdv ct : Value) (us : List Value) (hl : us.length = (["_law_way"] : List Str).length) : bindArgs (PySem.W.fnOf "_law_ending" "_law_ending" (defArgs s_law_ending) (defBody s_law_ending) (defScope s_law_ending) .none kV doc pm an cdv ct) ⟨us,[]⟩ = pure ((["_law_way"] : List Str).zip us):=match us,hl with | [_],_ => rfl
theorem ok_law_ending (T : Tx fx fn K mg) (TB : TBs base mg (csOf K tf)) : GD_law_ending P w K mg base p:=by
  obtain ⟨fd_TooMany_init,D_TooMany_init⟩:=xd_TooMany_init T
  obtain ⟨fd_UnknownName_init,D_UnknownName_init⟩:=xd_UnknownName_init T
  refine gd_of (T.says.def_ 35 (d:=d_law_ending) rfl) sc_law_ending rfl rfl fun cdv A outer s H E hr tk => ?_
  exact (ss_cons (ss_if (t_cmp (o_eq hr.hu) (s_var 0) s_int)
    (ss_one (ss_raiseKey rfl tk (T.free 85)))
    ss_nil)
    (ss_cons (ss_if (t_cmp (o_eq hr.hu) (s_var 0) s_int)
    (ss_one (ss_raiseZero rfl tk (T.free 86)))
    ss_nil)
    (ss_cons (ss_if (t_cmp (o_eq hr.hu) (s_var 0) s_int)
    (ss_one (ss_raise1 (k:=0) (st:=s_TooMany_init) (y:="limit") (f:="limit") 33 (xc_ok (T.any 53)).1 (xi_ok (T.any 54)) D_TooMany_init sc_TooMany_init rfl bd_TooMany_init (hr.mono (by decide)) rfl tk (T.glo 55) (sa_cons s_int sa_nil)))
    ss_nil)
    (ss_cons (ss_if (t_cmp (o_eq hr.hu) (s_var 0) s_int)
    (ss_one (ss_raise1 (k:=0) (st:=s_UnknownName_init) (y:="given") (f:="given") 27 (xc_ok (T.any 101)).1 (xi_ok (T.any 102)) D_UnknownName_init sc_UnknownName_init rfl bd_UnknownName_init (hr.mono (by decide)) rfl tk (T.glo 73) (sa_cons s_str sa_nil)))
    ss_nil)
    (ss_one (ss_ret (s_tup (sa_cons s_str (sa_cons (s_var 0) sa_nil)))))))))
theorem sc_law_inner : FnScope ["_law_deep","_law_mine","_law_inner_here","_law_inner_way","_law_here"] ["_law_deep","_law_mine","_law_inner_here","_law_inner_way","_law_here"] (defScope s_law_inner):=⟨rfl,rfl,rfl,by decide +kernel,rfl,by decide +kernel,by decide +kernel⟩
abbrev GD_law_inner (P : Program) (w : World) (K : PySem.W.Frag) (mg : Str → Option Value) (base : Heap) (p : PP) : Prop:=GD P w K mg base (cl K p) 6 (ga K "_law_inner") "_law_inner" "_law_inner" s_law_inner [] ["_law_deep","_law_mine","_law_inner_here","_law_inner_way","_law_here"] F_law_inner
theorem bd_law_inner (kV doc pm : Value) (an : Option Addr) (cdv ct : Value) (us : List Value) (hl : us.length = (["_law_deep","_law_mine","_law_inner_here","_law_inner_way","_law_here"] : List Str).length) : bindArgs (PySem.W.fnOf "_law_inner" "_law_inner" (defArgs s_law_inner) (defBody s_law_inner) (defScope s_law_inner) .none kV doc pm an cdv ct) ⟨us,[]⟩ = pure ((["_law_deep","_law_mine","_law_inner_here","_law_inner_way","_law_here"] : List Str).zip us):=match us,hl with | [_,_,_,_,_],_ => rfl
theorem ok_law_inner (T : Tx fx fn K mg) (TB : TBs base mg (csOf K tf)) : GD_law_inner P w K mg base p:=by
  have ok_Screen_frames_ : GD_Screen_frames P w K mg base p:=ok_Screen_frames T TB
  obtain ⟨fd_Screen_frames,G_Screen_frames,D_Screen_frames⟩:=ok_Screen_frames_.ex
  have ok_law_done_ : GD_law_done P w K mg base p:=ok_law_done T TB
  obtain ⟨fd_law_done,G_law_done,D_law_done⟩:=ok_law_done_.ex
  have ok_law_ending_ : GD_law_ending P w K mg base p:=ok_law_ending T TB
  obtain ⟨fd_law_ending,G_law_ending,D_law_ending⟩:=ok_law_ending_.ex
  refine gd_of (T.says.def_ 36 (d:=d_law_inner) rfl) sc_law_inner rfl rfl fun cdv A outer s H E hr tk => ?_
  exact (ss_cons (ss_expr (s_append (s_var 4) (s_lst (sa_cons (s_cmp (o_eqI (c:=3) (T.bm 99) (T.cls 32).hm hr.hu) (s_var 0) (s_var 1)) (sa_cons (s_callB (c_reprA hr.g hr.hu) rfl (T.free 79) rfl (sa_cons (s_prop (c:=3) (T.cls 32).cl (T.prop 100) G_Screen_frames (hr.mono (by decide)) (b_Screen_frames D_Screen_frames) (s_var 1)) sa_nil)) sa_nil)))))
    (ss_cons (ss_expr (s_cal ok_law_done_ (hr.mono (by decide)) tk (T.glo 98) (sa_cons (s_var 0) (sa_cons (s_var 1) (sa_cons (s_var 2) sa_nil))) bd_law_done))
    (ss_one (ss_ret (s_cal ok_law_ending_ (hr.mono (by decide)) tk (T.glo 103) (sa_cons (s_var 3) sa_nil) bd_law_ending)))))
theorem sc_law_action : FnScope ["_law_box","_law_mine","_law_some","_law_notes","_law_acts_here","_law_inner_here","_law_way","_law_inner_way","_law_here","_law_said"] ["_law_box","_law_mine","_law_some","_law_notes"] (defScope s_law_action):=⟨rfl,rfl,rfl,by decide +kernel,rfl,by decide +kernel,by decide +kernel⟩
abbrev GD_law_action (P : Program) (w : World) (K : PySem.W.Frag) (mg : Str → Option Value) (base : Heap) (p : PP) : Prop:=GD P w K mg base (cl K p) 15 (ga K "_law_action") "_law_action" "_law_action" s_law_action [] ["_law_box","_law_mine","_law_some","_law_notes"] F_law_action
theorem bd_law_action (kV doc pm : Value) (an : Option Addr) (cdv ct : Value) (us : List Value) (hl : us.length = (["_law_box","_law_mine","_law_some","_law_notes"] : List Str).length) : bindArgs (PySem.W.fnOf "_law_action" "_law_action" (defArgs s_law_action) (defBody s_law_action) (defScope s_law_action) .none kV doc pm an cdv ct) ⟨us,[]⟩ = pure ((["_law_box","_law_mine","_law_some","_law_notes"] : List Str).zip us):=match us,hl with | [_,_,_,_],_ => rfl
theorem ok_law_action (T : Tx fx fn K mg) (TB : TBs base mg (csOf K tf)) : GD_law_action P w K mg base p:=by
  have ok_law_done_ : GD_law_done P w K mg base p:=ok_law_done T TB
  obtain ⟨fd_law_done,G_law_done,D_law_done⟩:=ok_law_done_.ex
  have ok_Screen_frames_ : GD_Screen_frames P w K mg base p:=ok_Screen_frames T TB
  obtain ⟨fd_Screen_frames,G_Screen_frames,D_Screen_frames⟩:=ok_Screen_frames_.ex
  obtain ⟨fd_law_went,L_law_went,D_law_went⟩:=ok_law_went (P:=P) (w:=w) (base:=base) T TB
  obtain ⟨fd_Screen_tried,L_Screen_tried,D_Screen_tried⟩:=ok_Screen_tried (P:=P) (w:=w) (base:=base) T TB
  have ok_law_inner_ : GD_law_inner P w K mg base p:=ok_law_inner T TB
  obtain ⟨fd_law_inner,G_law_inner,D_law_inner⟩:=ok_law_inner_.ex
  have ok_law_ending_ : GD_law_ending P w K mg base p:=ok_law_ending T TB
  obtain ⟨fd_law_ending,G_law_ending,D_law_ending⟩:=ok_law_ending_.ex
  refine gd_ofC (T.says.def_ 37 (d:=d_law_action) rfl) sc_law_action rfl rfl fun A outer s H E hr tk => ?_
  exact (ss_cons (ss_asg (s_var 2) (g_tup rfl (g_cons (g_name 4 sc_law_action.nd) (g_cons (g_name 5 sc_law_action.nd) (g_cons (g_name 6 sc_law_action.nd) (g_cons (g_name 7 sc_law_action.nd) g_nil))))))
    (ss_cons (ss_expr (s_cal ok_law_done_ (hr.mono (by decide)) tk (T.glo 98) (sa_cons (s_var 0) (sa_cons (s_var 1) (sa_cons (s_var 4) sa_nil))) bd_law_done))
    (ss_cons (ss_expr (s_append (s_var 3) (s_lst (sa_cons (s_cmp (o_eqI (c:=3) (T.bm 99) (T.cls 32).hm hr.hu) (s_var 0) (s_var 1)) (sa_cons (s_callB (c_reprA hr.g hr.hu) rfl (T.free 79) rfl (sa_cons (s_prop (c:=3) (T.cls 32).cl (T.prop 100) G_Screen_frames (hr.mono (by decide)) (b_Screen_frames D_Screen_frames) (s_var 0)) sa_nil)) (sa_cons (s_callB (c_reprA hr.g hr.hu) rfl (T.free 79) rfl (sa_cons (s_prop (c:=3) (T.cls 32).cl (T.prop 100) G_Screen_frames (hr.mono (by decide)) (b_Screen_frames D_Screen_frames) (s_var 1)) sa_nil)) sa_nil))))))
    (ss_cons (ss_set 8 sc_law_action.nd (s_lst sa_nil))
    (ss_cons (ss_set 9 sc_law_action.nd (s_lamP (k:=8) (nm:=nmAll) (m:=(mMethL 3 "tried" (mCall F_law_inner [] (maCons (mVar 10) (maCons (mVar 1) (maCons (mVar 5) (maCons (mVar 7) (maCons (mVar 8) maNil)))))) F_Screen_tried (mVar 0))) L_law_went (hr.mono (by decide)) tk (T.glo 106) (T.kp 106) (D_law_went.bindsN bd_law_went) (TB _ (List.mem_map.mpr ⟨("_law_action",none),by simp [tf],rfl⟩)) rfl (by unfold tabs; exact List.mem_cons_self ..) (by kernel_rfl) (fun t ht _ => by unfold tabs at ht; simp only [List.mem_cons,List.not_mem_nil,or_false] at ht; rcases ht with rfl | rfl <;> rfl) (LamX.lamS_by (by kernel_rfl)) rfl (fun _ _ _ _ _ => rfl) sa_nil
        (fun p A outer s H E f c1 P2 hpc hr tk => by
        obtain ⟨fd_Screen_tried,L_Screen_tried,D_Screen_tried⟩:=ok_Screen_tried (P:=P) (w:=w) (base:=base) T TB
        have ok_law_inner_ : GD_law_inner P w K mg base p:=ok_law_inner T TB
        obtain ⟨fd_law_inner,G_law_inner,D_law_inner⟩:=ok_law_inner_.ex
        exact (s_methL (k:=6) (c:=3) (m:=(mCall F_law_inner [] (maCons (mVar 10) (maCons (mVar 1) (maCons (mVar 5) (maCons (mVar 7) (maCons (mVar 8) maNil))))))) (s_var 0) (T.cls 32).cl (T.meth 105) (FnM1.mono L_Screen_tried (by decide)) (hr.mono (by decide)) tk (D_Screen_tried.bindsN bd_Screen_tried) rfl (.inl rfl) (TB _ (List.mem_map.mpr ⟨("_law_action",none),by simp [tf],rfl⟩)) rfl (fun _ _ _ S => .inr ⟨_,hpc _ _ _ S.pp,lamN_app _,rfl⟩) (lamS1_by (by kernel_rfl)) (show ("_law_deep" : Str) ∉ (["_law_box","_law_mine","_law_some","_law_notes","_law_acts_here","_law_inner_here","_law_way","_law_inner_way","_law_here","_law_said"] : List Str) from by decide +kernel) rfl (fun _ _ _ _ _ _ => rfl)
        (fun p A outer s H E f2 c2 P3 hpc2 hr tk => by
        have ok_law_inner_ : GD_law_inner P w K mg base p:=ok_law_inner T TB
        obtain ⟨fd_law_inner,G_law_inner,D_law_inner⟩:=ok_law_inner_.ex
        exact (s_cal ok_law_inner_ (hr.mono (by decide)) tk (T.glo 104) (sa_cons (s_var 10) (sa_cons (s_var 1) (sa_cons (s_var 5) (sa_cons (s_var 7) (sa_cons (s_var 8) sa_nil))))) bd_law_inner))))))
    (ss_cons (ss_expr (s_append (s_var 3) (s_lst (sa_cons (s_var 9) (sa_cons (s_var 8) (sa_cons (s_callB (c_reprA hr.g hr.hu) rfl (T.free 79) rfl (sa_cons (s_prop (c:=3) (T.cls 32).cl (T.prop 100) G_Screen_frames (hr.mono (by decide)) (b_Screen_frames D_Screen_frames) (s_var 1)) sa_nil)) sa_nil))))))
    (ss_one (ss_ret (s_cal ok_law_ending_ (hr.mono (by decide)) tk (T.glo 103) (sa_cons (s_var 6) sa_nil) bd_law_ending)))))))))
theorem sc_law_after : FnScope ["_law_rows","_law_acts_here","_law_way","_law_outer","_law_row"] ["_law_rows","_law_acts_here"] (defScope s_law_after):=⟨rfl,rfl,rfl,by decide +kernel,rfl,by decide +kernel,by decide +kernel⟩
abbrev GD_law_after (P : Program) (w : World) (K : PySem.W.Frag) (mg : Str → Option Value) (base : Heap) (p : PP) : Prop:=GD P w K mg base (cl K p) 1 (ga K "_law_after") "_law_after" "_law_after" s_law_after [] ["_law_rows","_law_acts_here"] F_law_after
theorem bd_law_after (kV doc pm : Value) (an : Option Addr) (cdv ct : Value) (us : List Value) (hl : us.length = (["_law_rows","_law_acts_here"] : List Str).length) : bindArgs (PySem.W.fnOf "_law_after" "_law_after" (defArgs s_law_after) (defBody s_law_after) (defScope s_law_after) .none kV doc pm an cdv ct) ⟨us,[]⟩ = pure ((["_law_rows","_law_acts_here"] : List Str).zip us):=match us,hl with | [_,_],_ => rfl
theorem ok_law_after (T : Tx fx fn K mg) (TB : TBs base mg (csOf K tf)) : GD_law_after P w K mg base p:=by
  refine gd_of (T.says.def_ 38 (d:=d_law_after) rfl) sc_law_after rfl rfl fun cdv A outer s H E hr tk => ?_
  exact (ss_cons (ss_for (passes_of rfl) rfl (i_seq (s_var 1)) (g_tup rfl (g_cons (g_name 2 sc_law_after.nd) (g_cons (g_name 3 sc_law_after.nd) (g_cons (g_name 4 sc_law_after.nd) g_nil))))
    (ss_cons (ss_if (t_w (t_and (t_cmp (o_eq hr.hu) (s_var 2) s_int) (t_and1 (t_cmp (o_eq hr.hu) (s_var 0) (s_tup sa_nil)))))
    (ss_one (ss_ret (s_tup (sa_cons (s_var 0) (sa_cons (s_lst (sa_cons s_str (sa_cons s_str sa_nil))) sa_nil)))))
    ss_nil)
    (ss_cons (ss_if (t_w (t_and (t_cmp (o_ne hr.hu) (s_var 2) s_int) (t_and1 (t_cmp (o_eq hr.hu) (s_callB c_len rfl (T.free 0) rfl (sa_cons (s_var 0) sa_nil)) s_int))))
    (ss_one (ss_ret (s_tup (sa_cons (s_var 0) (sa_cons (s_lst (sa_cons s_str (sa_cons s_str sa_nil))) sa_nil)))))
    ss_nil)
    (ss_one (ss_set 0 sc_law_after.nd (s_if (t_cmp (o_eq hr.hu) (s_var 2) s_int) (s_sl (s_var 0) so_none (so_some (s_un u_neg s_int))) (s_op o_add (s_var 0) (s_tup (sa_cons (s_var 4) sa_nil)))))))))
    (ss_one (ss_ret (s_tup (sa_cons (s_var 0) (sa_cons s_non sa_nil))))))
theorem sc_law_end_due : FnScope ["_law_way","_law_dues"] ["_law_way"] (defScope s_law_end_due):=⟨rfl,rfl,rfl,by decide +kernel,rfl,by decide +kernel,by decide +kernel⟩
abbrev GD_law_end_due (P : Program) (w : World) (K : PySem.W.Frag) (mg : Str → Option Value) (base : Heap) (p : PP) : Prop:=GD P w K mg base (cl K p) 1 (ga K "_law_end_due") "_law_end_due" "_law_end_due" s_law_end_due [] ["_law_way"] F_law_end_due
theorem bd_law_end_due (kV doc pm : Value) (an : Option Addr) (cdv ct : Value) (us : List Value) (hl : us.length = (["_law_way"] : List Str).length) : bindArgs (PySem.W.fnOf "_law_end_due" "_law_end_due" (defArgs s_law_end_due) (defBody s_law_end_due) (defScope s_law_end_due) .none kV doc pm an cdv ct) ⟨us,[]⟩ = pure ((["_law_way"] : List Str).zip us):=match us,hl with | [_],_ => rfl
theorem ok_law_end_due (T : Tx fx fn K mg) (TB : TBs base mg (csOf K tf)) : GD_law_end_due P w K mg base p:=by
  refine gd_of (T.says.def_ 39 (d:=d_law_end_due) rfl) sc_law_end_due rfl rfl fun cdv A outer s H E hr tk => ?_
  exact (ss_cons (ss_set 1 sc_law_end_due.nd (s_lst (sa_cons (s_lst (sa_cons s_str (sa_cons s_str sa_nil))) (sa_cons (s_lst (sa_cons s_str (sa_cons s_str sa_nil))) (sa_cons (s_lst (sa_cons s_str (sa_cons s_str sa_nil))) (sa_cons (s_lst (sa_cons s_str (sa_cons s_str sa_nil))) sa_nil))))))
    (ss_one (ss_ret (s_if (t_cmp o_lt (s_var 0) s_int) (s_ix (x_ix hr.hu) (s_var 1) (s_var 0)) (s_lst (sa_cons s_str (sa_cons (s_callB (c_reprA hr.g hr.hu) rfl (T.free 79) rfl (sa_cons (s_tup (sa_cons s_str (sa_cons (s_var 0) sa_nil))) sa_nil)) sa_nil)))))))
theorem sc_law_notes_due : FnScope ["_law_rows","_law_some","_law_acts_here","_law_inner_here","_law_way","_law_inner_way","_law_first","_law_wrong","_law_notes","_law_later","_law_inner_wrong","_law_said","_law_due"] ["_law_rows","_law_some"] (defScope s_law_notes_due):=⟨rfl,rfl,rfl,by decide +kernel,rfl,by decide +kernel,by decide +kernel⟩
abbrev GD_law_notes_due (P : Program) (w : World) (K : PySem.W.Frag) (mg : Str → Option Value) (base : Heap) (p : PP) : Prop:=GD P w K mg base (cl K p) 2 (ga K "_law_notes_due") "_law_notes_due" "_law_notes_due" s_law_notes_due [] ["_law_rows","_law_some"] F_law_notes_due
theorem bd_law_notes_due (kV doc pm : Value) (an : Option Addr) (cdv ct : Value) (us : List Value) (hl : us.length = (["_law_rows","_law_some"] : List Str).length) : bindArgs (PySem.W.fnOf "_law_notes_due" "_law_notes_due" (defArgs s_law_notes_due) (defBody s_law_notes_due) (defScope s_law_notes_due) .none kV doc pm an cdv ct) ⟨us,[]⟩ = pure ((["_law_rows","_law_some"] : List Str).zip us):=match us,hl with | [_,_],_ => rfl
theorem ok_law_notes_due (T : Tx fx fn K mg) (TB : TBs base mg (csOf K tf)) : GD_law_notes_due P w K mg base p:=by
  have ok_law_after_ : GD_law_after P w K mg base p:=ok_law_after T TB
  obtain ⟨fd_law_after,G_law_after,D_law_after⟩:=ok_law_after_.ex
  have ok_law_end_due_ : GD_law_end_due P w K mg base p:=ok_law_end_due T TB
  obtain ⟨fd_law_end_due,G_law_end_due,D_law_end_due⟩:=ok_law_end_due_.ex
  refine gd_of (T.says.def_ 40 (d:=d_law_notes_due) rfl) sc_law_notes_due rfl rfl fun cdv A outer s H E hr tk => ?_
  exact (ss_cons (ss_asg (s_var 1) (g_tup rfl (g_cons (g_name 2 sc_law_notes_due.nd) (g_cons (g_name 3 sc_law_notes_due.nd) (g_cons (g_name 4 sc_law_notes_due.nd) (g_cons (g_name 5 sc_law_notes_due.nd) g_nil))))))
    (ss_cons (ss_asg (s_cal ok_law_after_ (hr.mono (by decide)) tk (T.glo 108) (sa_cons (s_var 0) (sa_cons (s_var 2) sa_nil)) bd_law_after) (g_tup rfl (g_cons (g_name 6 sc_law_notes_due.nd) (g_cons (g_name 7 sc_law_notes_due.nd) g_nil))))
    (ss_cons (ss_if (t_cmp o_notN (s_var 7) s_non)
    (ss_one (ss_ret (s_tup (sa_cons (s_lst sa_nil) (sa_cons (s_var 7) (sa_cons (s_var 0) sa_nil))))))
    ss_nil)
    (ss_cons (ss_set 8 sc_law_notes_due.nd (s_lst (sa_cons (s_lst (sa_cons s_bl (sa_cons (s_callB (c_reprA hr.g hr.hu) rfl (T.free 79) rfl (sa_cons (s_var 6) sa_nil)) (sa_cons (s_callB (c_reprA hr.g hr.hu) rfl (T.free 79) rfl (sa_cons (s_var 6) sa_nil)) sa_nil)))) sa_nil)))
    (ss_cons (ss_asg (s_cal ok_law_after_ (hr.mono (by decide)) tk (T.glo 108) (sa_cons (s_var 6) (sa_cons (s_var 3) sa_nil)) bd_law_after) (g_tup rfl (g_cons (g_name 9 sc_law_notes_due.nd) (g_cons (g_name 10 sc_law_notes_due.nd) g_nil))))
    (ss_cons (ss_set 11 sc_law_notes_due.nd (s_if (t_cmp o_isN (s_var 10) s_non) (s_cal ok_law_end_due_ (hr.mono (by decide)) tk (T.glo 109) (sa_cons (s_var 5) sa_nil) bd_law_end_due) (s_var 10)))
    (ss_cons (ss_set 9 sc_law_notes_due.nd (s_if (t_cmp (o_eq hr.hu) (s_ix (x_ix hr.hu) (s_var 11) s_int) s_str) (s_var 9) (s_var 6)))
    (ss_cons (ss_expr (s_append (s_var 8) (s_lst (sa_cons (s_var 11) (sa_cons (s_lst (sa_cons (s_lst (sa_cons s_bl (sa_cons (s_callB (c_reprA hr.g hr.hu) rfl (T.free 79) rfl (sa_cons (s_var 6) sa_nil)) sa_nil))) sa_nil)) (sa_cons (s_callB (c_reprA hr.g hr.hu) rfl (T.free 79) rfl (sa_cons (s_var 9) sa_nil)) sa_nil))))))
    (ss_cons (ss_set 12 sc_law_notes_due.nd (s_cal ok_law_end_due_ (hr.mono (by decide)) tk (T.glo 109) (sa_cons (s_var 4) sa_nil) bd_law_end_due))
    (ss_one (ss_ret (s_tup (sa_cons (s_var 8) (sa_cons (s_var 12) (sa_cons (s_if (t_cmp (o_eq hr.hu) (s_ix (x_ix hr.hu) (s_var 12) s_int) s_str) (s_var 9) (s_var 0)) sa_nil)))))))))))))))
theorem sc_Screen_len : FnScope ["self"] ["self"] (defScope s_Screen_len):=⟨rfl,rfl,rfl,by decide +kernel,rfl,by decide +kernel,by decide +kernel⟩
abbrev GD_Screen_len (P : Program) (w : World) (K : PySem.W.Frag) (mg : Str → Option Value) (base : Heap) (p : PP) : Prop:=GD P w K mg base (cl K p) 1 (ma K (ga K "Screen") "__len__") "__len__" "Screen.__len__" s_Screen_len [] ["self"] F_Screen_len
theorem bd_Screen_len (kV doc pm : Value) (an : Option Addr) (cdv ct : Value) (us : List Value) (hl : us.length = (["self"] : List Str).length) : bindArgs (PySem.W.fnOf "__len__" "Screen.__len__" (defArgs s_Screen_len) (defBody s_Screen_len) (defScope s_Screen_len) .none kV doc pm an cdv ct) ⟨us,[]⟩ = pure ((["self"] : List Str).zip us):=match us,hl with | [_],_ => rfl
theorem b_Screen_len {fd : FuncData} (D : FunD K "__len__" "Screen.__len__" (defArgs s_Screen_len) (defBody s_Screen_len) (defScope s_Screen_len) [] [] (ma K (ga K "Screen") "__len__") fd) : Binds K fd ["self"] []:=D.bindsN bd_Screen_len
theorem ok_Screen_len (T : Tx fx fn K mg) (TB : TBs base mg (csOf K tf)) : GD_Screen_len P w K mg base p:=by
  refine gd_of (T.says.def_ 41 (d:=d_Screen_len) rfl) sc_Screen_len rfl rfl fun cdv A outer s H E hr tk => ?_
  exact (ss_one (ss_ret (s_callB c_len rfl (T.free 0) rfl (sa_cons (s_fld (c:=3) (T.cls 32).cl (T.noat 34) (s_var 0)) sa_nil))))
theorem sc_law_right : FnScope ["_law_jar_here","_law_model_here","_law_mine","_law_rows","_law_row","_law_lap","_law_some","_law_notes","_law_got","_law_said","_law_due"] ["_law_jar_here"] (defScope s_law_right):=⟨rfl,rfl,rfl,by decide +kernel,rfl,by decide +kernel,by decide +kernel⟩
abbrev GD_law_right (P : Program) (w : World) (K : PySem.W.Frag) (mg : Str → Option Value) (base : Heap) (p : PP) : Prop:=GD P w K mg base (cl K p) 24 (ga K "_law_right") "_law_right" "_law_right" s_law_right [] ["_law_jar_here"] F_law_right
theorem bd_law_right (kV doc pm : Value) (an : Option Addr) (cdv ct : Value) (us : List Value) (hl : us.length = (["_law_jar_here"] : List Str).length) : bindArgs (PySem.W.fnOf "_law_right" "_law_right" (defArgs s_law_right) (defBody s_law_right) (defScope s_law_right) .none kV doc pm an cdv ct) ⟨us,[]⟩ = pure ((["_law_jar_here"] : List Str).zip us):=match us,hl with | [_],_ => rfl
theorem ok_law_right (T : Tx fx fn K mg) (TB : TBs base mg (csOf K tf)) : GD_law_right P w K mg base p:=by
  have ok_law_model_ : GD_law_model P w K mg base p:=ok_law_model T TB
  obtain ⟨fd_law_model,G_law_model,D_law_model⟩:=ok_law_model_.ex
  have ok_law_board_ : GD_law_board P w K mg base p:=ok_law_board T TB
  obtain ⟨fd_law_board,G_law_board,D_law_board⟩:=ok_law_board_.ex
  have ok_Screen_paint_ : GD_Screen_paint P w K mg base p:=ok_Screen_paint T TB
  obtain ⟨fd_Screen_paint,G_Screen_paint,D_Screen_paint⟩:=ok_Screen_paint_.ex
  have ok_law_acts_ : GD_law_acts P w K mg base p:=ok_law_acts T TB
  obtain ⟨fd_law_acts,G_law_acts,D_law_acts⟩:=ok_law_acts_.ex
  have ok_law_dip_ : GD_law_dip P w K mg base p:=ok_law_dip T TB
  obtain ⟨fd_law_dip,G_law_dip,D_law_dip⟩:=ok_law_dip_.ex
  obtain ⟨fd_law_went,L_law_went,D_law_went⟩:=ok_law_went (P:=P) (w:=w) (base:=base) T TB
  obtain ⟨fd_Screen_tried,L_Screen_tried,D_Screen_tried⟩:=ok_Screen_tried (P:=P) (w:=w) (base:=base) T TB
  have ok_law_action_ : GD_law_action P w K mg base p:=ok_law_action T TB
  obtain ⟨fd_law_action,G_law_action,D_law_action⟩:=ok_law_action_.ex
  have ok_law_notes_due_ : GD_law_notes_due P w K mg base p:=ok_law_notes_due T TB
  obtain ⟨fd_law_notes_due,G_law_notes_due,D_law_notes_due⟩:=ok_law_notes_due_.ex
  have ok_Screen_frames_ : GD_Screen_frames P w K mg base p:=ok_Screen_frames T TB
  obtain ⟨fd_Screen_frames,G_Screen_frames,D_Screen_frames⟩:=ok_Screen_frames_.ex
  have ok_Screen_len_ : GD_Screen_len P w K mg base p:=ok_Screen_len T TB
  obtain ⟨fd_Screen_len,G_Screen_len,D_Screen_len⟩:=ok_Screen_len_.ex
  have ok_Screen_undo_ : GD_Screen_undo P w K mg base p:=ok_Screen_undo T TB
  obtain ⟨fd_Screen_undo,G_Screen_undo,D_Screen_undo⟩:=ok_Screen_undo_.ex
  refine gd_ofC (T.says.def_ 42 (d:=d_law_right) rfl) sc_law_right rfl rfl fun A outer s H E hr tk => ?_
  exact (ss_cons (ss_set 1 sc_law_right.nd (s_cal ok_law_model_ (hr.mono (by decide)) tk (T.glo 9) (sa_cons (s_var 0) (sa_cons s_int (sa_cons s_int (sa_cons s_int sa_nil)))) bd_law_model))
    (ss_cons (ss_asg (s_tup (sa_cons (s_cal ok_law_board_ (hr.mono (by decide)) tk (T.glo 37) (sa_cons (s_var 1) sa_nil) bd_law_board) (sa_cons (s_ix (x_ix hr.hu) (s_var 1) s_int) sa_nil))) (g_tup rfl (g_cons (g_name 2 sc_law_right.nd) (g_cons (g_name 3 sc_law_right.nd) g_nil))))
    (ss_cons (ss_for (passes_of rfl) rfl (i_seq (s_var 3)) (g_name 4 sc_law_right.nd)
    (ss_one (ss_expr (s_meth (ks:=[]) (cl:=cl K _) (c:=3) (n:=3) (s_var 2) (T.cls 32).cl (T.meth 56) G_Screen_paint (hr.mono (by decide)) tk (kb_plain (He5.fun_of D_Screen_paint) 4 [] [.p 0,.p 1,.p 2,.p 3] (fun _ _ _ _ _ _ us ws h1 h2 => match us,ws,h1,h2 with | [_,_,_,_],[],_,_ => rfl)) dfl_nil (sa_cons (s_ix (x_ix hr.hu) (s_var 4) s_int) (sa_cons (s_ix (x_ix hr.hu) (s_var 4) s_int) (sa_cons (s_ix (x_ix hr.hu) (s_var 4) s_int) sa_nil))) sk_nil))))
    (ss_cons (ss_for (passes_of rfl) rfl (i_rng1 (T.free 3) (sa_cons s_int sa_nil)) (g_name 5 sc_law_right.nd)
    (ss_cons (ss_set 6 sc_law_right.nd (s_tup (sa_cons (s_cal ok_law_acts_ (hr.mono (by decide)) tk (T.glo 57) (sa_cons (s_var 0) (sa_cons (s_var 1) sa_nil)) bd_law_acts) (sa_cons (s_cal ok_law_acts_ (hr.mono (by decide)) tk (T.glo 57) (sa_cons (s_var 0) (sa_cons (s_var 1) sa_nil)) bd_law_acts) (sa_cons (s_cal ok_law_dip_ (hr.mono (by decide)) tk (T.glo 5) (sa_cons (s_var 0) (sa_cons s_int sa_nil)) bd_law_dip) (sa_cons (s_cal ok_law_dip_ (hr.mono (by decide)) tk (T.glo 5) (sa_cons (s_var 0) (sa_cons s_int sa_nil)) bd_law_dip) sa_nil))))))
    (ss_cons (ss_set 7 sc_law_right.nd (s_lst sa_nil))
    (ss_cons (ss_set 8 sc_law_right.nd (s_lamP (k:=17) (nm:=nmAll) (m:=(mMethL 3 "tried" (mCall F_law_action [] (maCons (mVar 11) (maCons (mVar 2) (maCons (mVar 6) (maCons (mVar 7) maNil))))) F_Screen_tried (mVar 2))) L_law_went (hr.mono (by decide)) tk (T.glo 106) (T.kp 106) (D_law_went.bindsN bd_law_went) (TB _ (List.mem_map.mpr ⟨("_law_right",none),by simp [tf],rfl⟩)) rfl (by unfold tabs; exact List.mem_cons_of_mem _ (List.mem_cons_self ..)) (by kernel_rfl) (fun t ht _ => by unfold tabs at ht; simp only [List.mem_cons,List.not_mem_nil,or_false] at ht; rcases ht with rfl | rfl <;> rfl) (LamX.lamS_by (by kernel_rfl)) rfl (fun _ _ _ _ _ => rfl) sa_nil
        (fun p A outer s H E f c1 P2 hpc hr tk => by
        obtain ⟨fd_Screen_tried,L_Screen_tried,D_Screen_tried⟩:=ok_Screen_tried (P:=P) (w:=w) (base:=base) T TB
        have ok_law_action_ : GD_law_action P w K mg base p:=ok_law_action T TB
        obtain ⟨fd_law_action,G_law_action,D_law_action⟩:=ok_law_action_.ex
        exact (s_methL (k:=15) (c:=3) (m:=(mCall F_law_action [] (maCons (mVar 11) (maCons (mVar 2) (maCons (mVar 6) (maCons (mVar 7) maNil)))))) (s_var 2) (T.cls 32).cl (T.meth 105) (FnM1.mono L_Screen_tried (by decide)) (hr.mono (by decide)) tk (D_Screen_tried.bindsN bd_Screen_tried) rfl (.inl rfl) (TB _ (List.mem_map.mpr ⟨("_law_right",none),by simp [tf],rfl⟩)) rfl (fun _ _ _ S => .inr ⟨_,hpc _ _ _ S.pp,lamN_app _,rfl⟩) (lamS1_by (by kernel_rfl)) (show ("_law_box" : Str) ∉ (["_law_jar_here","_law_model_here","_law_mine","_law_rows","_law_row","_law_lap","_law_some","_law_notes","_law_got","_law_said","_law_due"] : List Str) from by decide +kernel) rfl (fun _ _ _ _ _ _ => rfl)
        (fun p A outer s H E f2 c2 P3 hpc2 hr tk => by
        have ok_law_action_ : GD_law_action P w K mg base p:=ok_law_action T TB
        obtain ⟨fd_law_action,G_law_action,D_law_action⟩:=ok_law_action_.ex
        exact (s_cal ok_law_action_ (hr.mono (by decide)) tk (T.glo 107) (sa_cons (s_var 11) (sa_cons (s_var 2) (sa_cons (s_var 6) (sa_cons (s_var 7) sa_nil)))) bd_law_action))))))
    (ss_cons (ss_asg (s_cal ok_law_notes_due_ (hr.mono (by decide)) tk (T.glo 110) (sa_cons (s_var 3) (sa_cons (s_var 6) sa_nil)) bd_law_notes_due) (g_tup rfl (g_cons (g_name 9 sc_law_right.nd) (g_cons (g_name 10 sc_law_right.nd) (g_cons (g_name 3 sc_law_right.nd) g_nil)))))
    (ss_one (ss_if (t_w (t_or (t_cmp (o_ne hr.hu) (s_var 8) (s_var 10)) (t_or (t_cmp (o_ne hr.hu) (s_var 7) (s_var 9)) (t_or1 (t_cmp (o_ne hr.hu) (s_callB (c_reprA hr.g hr.hu) rfl (T.free 79) rfl (sa_cons (s_lst (sa_cons (s_prop (c:=3) (T.cls 32).cl (T.prop 100) G_Screen_frames (hr.mono (by decide)) (b_Screen_frames D_Screen_frames) (s_var 2)) (sa_cons (s_lenX (c:=3) (T.meth 111) G_Screen_len (hr.mono (by decide)) (b_Screen_len D_Screen_len) (s_var 2) (T.free 0)) sa_nil))) sa_nil)) (s_callB (c_reprA hr.g hr.hu) rfl (T.free 79) rfl (sa_cons (s_lst (sa_cons (s_var 3) (sa_cons (s_callB c_len rfl (T.free 0) rfl (sa_cons (s_var 3) sa_nil)) sa_nil))) sa_nil)))))))
    (ss_one (ss_ret s_bl))
    ss_nil)))))))
    (ss_cons (ss_if (t_w (t_and (t_cmp (o_ne hr.hu) (s_var 3) (s_tup sa_nil)) (t_and1 (t_w (t_or (t_cmp o_notN (s_meth0 (ks:=[]) (cl:=cl K _) (c:=3) (s_var 2) (T.cls 32).cl (T.meth 97) G_Screen_undo (hr.mono (by decide)) tk (kb_plain (He5.fun_of D_Screen_undo) 1 [] [.p 0] (fun _ _ _ _ _ _ us ws h1 h2 => match us,ws,h1,h2 with | [_],[],_,_ => rfl)) dfl_nil sk_nil) s_non) (t_or1 (t_cmp (o_ne hr.hu) (s_callB (c_reprA hr.g hr.hu) rfl (T.free 79) rfl (sa_cons (s_prop (c:=3) (T.cls 32).cl (T.prop 100) G_Screen_frames (hr.mono (by decide)) (b_Screen_frames D_Screen_frames) (s_var 2)) sa_nil)) (s_callB (c_reprA hr.g hr.hu) rfl (T.free 79) rfl (sa_cons (s_sl (s_var 3) so_none (so_some (s_un u_neg s_int))) sa_nil)))))))))
    (ss_one (ss_ret s_bl))
    ss_nil)
    (ss_one (ss_ret (s_cmp (o_eq hr.hu) (s_methLK (k:=2) (c:=3) (m:=(mL (f1 lenD) (maCons (mProp 3 F_Screen_frames (mVar 11)) maNil))) (s_var 2) (T.cls 32).cl (T.meth 105) (FnM1.mono L_Screen_tried (by decide)) (hr.mono (by decide)) tk (kb_plain (He5.fun_of D_Screen_tried) 1 ["action"] [.p 0,.k 0] (fun _ _ _ _ _ _ us ws h1 h2 => match us,ws,h1,h2 with | [_],[_],_,_ => rfl)) rfl (.inl rfl) (TB _ (List.mem_map.mpr ⟨("_law_right",none),by simp [tf],rfl⟩)) rfl (fun _ _ _ _ => .inl ⟨rfl,rfl,_,by unfold tabs; exact List.mem_cons_of_mem _ (List.mem_cons_self ..),by kernel_rfl,fun t ht _ => by unfold tabs at ht; simp only [List.mem_cons,List.not_mem_nil,or_false] at ht; rcases ht with rfl | rfl <;> rfl⟩) (lamS1_by (by kernel_rfl)) (show ("_law_box" : Str) ∉ (["_law_jar_here","_law_model_here","_law_mine","_law_rows","_law_row","_law_lap","_law_some","_law_notes","_law_got","_law_said","_law_due"] : List Str) from by decide +kernel) rfl (fun _ _ _ _ _ _ => rfl)
        (fun p A outer s H E f2 c2 P3 hpc2 hr tk => by
        have ok_Screen_frames_ : GD_Screen_frames P w K mg base p:=ok_Screen_frames T TB
        obtain ⟨fd_Screen_frames,G_Screen_frames,D_Screen_frames⟩:=ok_Screen_frames_.ex
        exact (s_callB c_len rfl (T.free 0) rfl (sa_cons (s_prop (c:=3) (T.cls 32).cl (T.prop 100) G_Screen_frames (hr.mono (by decide)) (b_Screen_frames D_Screen_frames) (s_var 11)) sa_nil)))) (s_lenX (c:=3) (T.meth 111) G_Screen_len (hr.mono (by decide)) (b_Screen_len D_Screen_len) (s_var 2) (T.free 0))))))))))
theorem sc_law_jar : FnScope ["_law_script","_law_k","_law_mixed","_law_cell","_law_own","_law_digits"] ["_law_script","_law_k"] (defScope s_law_jar):=⟨rfl,rfl,rfl,by decide +kernel,rfl,by decide +kernel,by decide +kernel⟩
abbrev GD_law_jar (P : Program) (w : World) (K : PySem.W.Frag) (mg : Str → Option Value) (base : Heap) (p : PP) : Prop:=GD P w K mg base (cl K p) 1 (ga K "_law_jar") "_law_jar" "_law_jar" s_law_jar [] ["_law_script","_law_k"] F_law_jar
theorem bd_law_jar (kV doc pm : Value) (an : Option Addr) (cdv ct : Value) (us : List Value) (hl : us.length = (["_law_script","_law_k"] : List Str).length) : bindArgs (PySem.W.fnOf "_law_jar" "_law_jar" (defArgs s_law_jar) (defBody s_law_jar) (defScope s_law_jar) .none kV doc pm an cdv ct) ⟨us,[]⟩ = pure ((["_law_script","_law_k"] : List Str).zip us):=match us,hl with | [_,_],_ => rfl
theorem ok_law_jar (T : Tx fx fn K mg) (TB : TBs base mg (csOf K tf)) : GD_law_jar P w K mg base p:=by
  refine gd_of (T.says.def_ 43 (d:=d_law_jar) rfl) sc_law_jar rfl rfl fun cdv A outer s H E hr tk => ?_
  exact (ss_cons (ss_set 2 sc_law_jar.nd (s_op o_add (s_op o_mul (s_op o_mul s_int (s_op o_add (s_var 1) s_int)) (s_op o_add (s_var 1) s_int)) (s_op o_mul s_int (s_callB c_len rfl (T.free 0) rfl (sa_cons (s_var 0) sa_nil)))))
    (ss_cons (ss_for (passes_of rfl) rfl (i_seq (s_sl (s_var 0) so_none (so_some s_int))) (g_name 3 sc_law_jar.nd)
    (ss_one (ss_set 2 sc_law_jar.nd (s_op o_mod (s_callTy c_int rfl (T.free 4) rfl (sa_cons (s_op o_add (s_op o_mul (s_var 2) s_int) (s_var 3)) sa_nil)) s_int))))
    (ss_cons (ss_set 4 sc_law_jar.nd (s_if (t_cmp o_lt (s_var 1) (s_callB c_len rfl (T.free 0) rfl (sa_cons (s_var 0) sa_nil))) (s_ix (x_ix hr.hu) (s_var 0) (s_var 1)) s_int))
    (ss_cons (ss_set 5 sc_law_jar.nd (s_if (t_w (t_or (t_cmp o_lt (s_var 4) s_int) (t_or1 (t_cmp o_ge (s_var 4) (s_op o_pow s_int s_int))))) (s_callB c_abs rfl (T.free 112) rfl (sa_cons (s_var 4) sa_nil)) s_int))
    (ss_one (ss_ret (s_lst (sa_cons (s_var 5) (sa_cons (s_op o_mod (s_callTy c_int rfl (T.free 4) rfl (sa_cons (s_op o_add (s_op o_add (s_op o_mul (s_var 2) s_int) (s_op o_mul (s_var 4) s_int)) (s_op o_mul s_int (s_op o_add (s_var 1) s_int))) sa_nil)) s_int) (sa_cons s_int sa_nil))))))))))
theorem sc_law : FnScope ["_law_script","_law_k"] ["_law_script"] (defScope s_law):=⟨rfl,rfl,rfl,by decide +kernel,rfl,by decide +kernel,by decide +kernel⟩
abbrev GD_law (P : Program) (w : World) (K : PySem.W.Frag) (mg : Str → Option Value) (base : Heap) (p : PP) : Prop:=GD P w K mg base (cl K p) 25 (ga K "law") "law" "law" s_law [] ["_law_script"] F_law
theorem bd_law (kV doc pm : Value) (an : Option Addr) (cdv ct : Value) (us : List Value) (hl : us.length = (["_law_script"] : List Str).length) : bindArgs (PySem.W.fnOf "law" "law" (defArgs s_law) (defBody s_law) (defScope s_law) .none kV doc pm an cdv ct) ⟨us,[]⟩ = pure ((["_law_script"] : List Str).zip us):=match us,hl with | [_],_ => rfl
theorem ok_law (T : Tx fx fn K mg) (TB : TBs base mg (csOf K tf)) : GD_law P w K mg base p:=by
  have ok_law_right_ : GD_law_right P w K mg base p:=ok_law_right T TB
  obtain ⟨fd_law_right,G_law_right,D_law_right⟩:=ok_law_right_.ex
  have ok_law_jar_ : GD_law_jar P w K mg base p:=ok_law_jar T TB
  obtain ⟨fd_law_jar,G_law_jar,D_law_jar⟩:=ok_law_jar_.ex
  refine gd_of (T.says.def_ 44 (d:=d_law) rfl) sc_law rfl rfl fun cdv A outer s H E hr tk => ?_
  exact (ss_one (ss_ret (s_callB (c_all rfl) rfl (T.free 29) rfl (sa_cons (s_lc [("_law_k",1)] rfl sc_law.nd (i_rng1 (T.free 3) (sa_cons (s_callB (c_max2 rfl) rfl (T.free 2) rfl (sa_cons s_int (sa_cons (s_callB (c_min2 rfl) rfl (T.free 1) rfl (sa_cons (s_callB c_len rfl (T.free 0) rfl (sa_cons (s_var 0) sa_nil)) (sa_cons s_int sa_nil))) sa_nil))) sa_nil)) (blkOk_by (N:=["_law_script","_law_k"]) (sc:=defScope s_law) (own:=[("_law_k",1)]) (by decide +kernel)) (fun _ _ _ _ _ => (g_name 1 sc_law.nd)) (fun _ _ _ _ _ => ts_nil) (fun _ _ _ _ _ => (s_cal ok_law_right_ (hr.mono (by decide)) takes0 (T.glo 114) (sa_cons (s_cal ok_law_jar_ (hr.mono (by decide)) takes0 (T.glo 113) (sa_cons (s_var 0) (sa_cons (s_var 1) sa_nil)) bd_law_jar) sa_nil) bd_law_right))) sa_nil))))
end
end L58
namespace G
open DV PySem L2
section
variable {p : Pic} {who way : Str} {turn b : Nat}
end
def Fr.far (f : Fr) (k : Int) : Fr:=⟨f.ink,f.l * k,f.t * k,f.r * k,f.b * k,f.doom⟩
def Pic.far (p : Pic) (k : Int) : Pic:=⟨p.W * k,p.Hh * k,p.fs.map fun f => f.far k,p.firm⟩
end G
namespace G
open DV PySem L2
section
variable {n1 n2 : Nat} {p q : Pic} {w1 w2 : Str} {s : Stand} {st : Store}
def noneU (p q : Pic) (w1 w2 : Str) (s : Stand) : Bool:=decide (∀ b,b < beats2 p q → firstC (diff2 p q w1 w2 s) (cells2 p q) b = none)
end
end G
namespace G
open DV PySem L2
abbrev Spot:=Nat × Int × Int
def bef3 (a b : Spot) : Prop:=a.1 < b.1 ∨ (a.1 = b.1 ∧ bef a.2 b.2)
instance (a b : Spot) : Decidable (bef3 a b):=by unfold bef3 bef; infer_instance
section
variable {p q : Pic} {w1 w2 : Str}
end
end G
namespace G
open DV PySem L2
section
variable {wl : Nat} {p q : Pic} {w1 w2 : Str} {c : Col}
end
end G
namespace G
open DV PySem L2
section
variable {firm I : List Str} {t s : Stand}
end
section
variable {firm : List Str} {w : Str}
end
section
variable {n n1 n2 : Nat} {p q : Pic} {st : Store}
end
end G
namespace G
open DV PySem L2
section
variable {n n1 n2 : Nat} {p q : Pic} {st : Store}
def putF2 (p : Pic) (k : Nat) (g : Fr) : Pic:=p.wf (p.fs.take k ++ g :: p.fs.drop (k + 1))
end
end G
namespace G
open DV PySem L2
def fewL (cs : List Bool) (k : Nat) : List Bool:=(cs.take k ++ [false]) ++ cs.drop (k + 1)
end G
namespace G
open DV PySem L2
def needB (p : Pic) (k : Nat) (cs : List Bool) : Bool:=(cs[k]?.getD false) && !decide (showS p.firm "full" (fewL cs k) p.fs nothing = showS p.firm "full" cs p.fs nothing)
section
variable {n k : Nat} {p : Pic}
end
end G
namespace G
open DV PySem L2
def mn (xs : List Int) : Int:=xs.min?.getD 0
def mx (xs : List Int) : Int:=xs.max?.getD 0
section
variable {n k : Nat} {p : Pic} {st : Store}
end
end G
namespace G
open DV PySem L2
section
variable {p : Pic} {P : List Bool → Bool}
def cellsP (p : Pic) (P : List Bool → Bool) : List Box:=(cellsL p).filter fun c => P (p.cov c.l c.t)
end
end G
namespace G
open DV PySem L2
section
variable {n1 n2 : Nat} {p q : Pic} {st : Store}
def sameAt (p q : Pic) (pt : Int × Int) : Bool:=decide (shown p "full" nothing (p.cov pt.1 pt.2) = shown q "full" nothing (q.cov pt.1 pt.2))
end
theorem show_congr {firm : List Str} {w : Str} : ∀ (cs : List Bool) (fs gs : List Fr) (s : Stand),fs.map (fun f => (f.ink,f.doom)) = gs.map (fun f => (f.ink,f.doom)) → showS firm w cs fs s = showS firm w cs gs s
  | [],_,_,_,_ => by simp [showS]
  | c :: cs,[],gs,s,h => by
    have : gs = []:=List.map_eq_nil_iff.mp h.symm
    rw [this]
  | c :: cs,f :: fs,[],s,h => by simp at h
  | c :: cs,f :: fs,g :: gs,s,h => by
    simp only [List.map_cons,List.cons.injEq,Prod.mk.injEq] at h
    obtain ⟨⟨h1,h2⟩,h3⟩:=h
    have e : stepS firm w s c f = stepS firm w s c g:=by
      unfold stepS
      rw [h1,h2]
    simp only [showS]
    rw [e,h1,show_congr cs fs gs _ h3]
section
variable {p : Pic} {k : Nat} {f g : Fr}
theorem put_split (hk : p.fs[k]? = some f) : p.fs = p.fs.take k ++ f :: p.fs.drop (k + 1):=by
  have hkl:=(List.getElem?_eq_some_iff.mp hk).1
  have e:=(List.getElem?_eq_some_iff.mp hk).2
  rw [← e]
  simp
theorem put_cov {x y : Int} : (putF2 p k g).cov x y = (p.cov x y).take k ++ g.has x y :: (p.cov x y).drop (k + 1):=by
  show (p.fs.take k ++ g :: p.fs.drop (k + 1)).map (fun f => f.has x y) = _
  unfold Pic.cov
  simp
theorem put_same {x y : Int} (hk : p.fs[k]? = some f) (e1 : g.ink = f.ink) (e2 : g.doom = f.doom) (sub : ∀ x y,g.has x y = true → f.has x y = true) : sameAt p (putF2 p k g) (x,y) = (g.has x y || !needB p k (p.cov x y)):=by
  have ck : (p.cov x y)[k]? = some (f.has x y):=by
    unfold Pic.cov
    rw [List.getElem?_map,hk]
    rfl
  have sp : p.cov x y = (p.cov x y).take k ++ f.has x y :: (p.cov x y).drop (k + 1):=by
    have e:=(List.getElem?_eq_some_iff.mp ck).2
    have h:=(List.getElem?_eq_some_iff.mp ck).1
    rw [← e]
    simp
  have sh : shown (putF2 p k g) "full" nothing ((putF2 p k g).cov x y) = showS p.firm "full" ((putF2 p k g).cov x y) p.fs nothing:=by
    unfold shown
    refine show_congr _ _ _ _ ?_
    show (p.fs.take k ++ g :: p.fs.drop (k + 1)).map _ = _
    conv => rhs; rw [put_split hk]
    simp [e1,e2]
  unfold sameAt
  simp only
  rw [sh,put_cov]
  unfold needB shown
  rw [ck,Option.getD_some]
  cases a : g.has x y with
  | true =>
    have b:=sub x y a
    rw [b] at sp
    rw [← sp]
    simp
  | false =>
    have fw : fewL (p.cov x y) k = (p.cov x y).take k ++ false :: (p.cov x y).drop (k + 1):=by unfold fewL; simp
    rw [← fw,Bool.false_or]
    cases b : f.has x y with
    | true =>
      rw [Bool.true_and,Bool.not_not]
      exact decide_eq_decide.mpr ⟨fun h => h.symm,fun h => h.symm⟩
    | false =>
      rw [b] at sp
      rw [fw,← sp]
      simp
end
end G
namespace G
open DV PySem L2
section
variable {p : Pic} {n : Nat} {ink : Str} {st : Store}
def rowsAt (p : Pic) (bs : List Bool) : List (List Str):=(showS p.firm "full" bs p.fs nothing).map Stand.row
def picsL (p : Pic) : List Str:=sddS (p.fs.map Fr.ink)
def paintB (p : Pic) (ink : Str) (bs : List Bool) : Bool:=(p.fs.zip bs).any fun a => decide (a.1.ink = ink) && a.2
def aloneB (p : Pic) (ink : Str) (bs : List Bool) : Bool:=decide ([ink] ∈ rowsAt p bs)
def whollyB (p : Pic) (ink : Str) : Bool:=(cellsP p (paintB p ink)).all fun c => aloneB p ink (p.cov c.l c.t)
end
end G
namespace G
open DV PySem L2
end G
namespace G
open DV PySem L2
end G
namespace G
open DV PySem L2
def isSign (c : Nat) : Bool:=decide (c ∈ SMALLS.cps.toList) || decide (c ∈ DIGS.cps.toList)
theorem sign_small : ∀ c ∈ SMALLS.cps.toList,c < 1114112:=by decide +kernel
theorem sign_dig : ∀ c ∈ DIGS.cps.toList,c < 1114112:=by decide +kernel
structure WordOk (x : Str) (n : Nat) : Prop where
  l1 : 1 ≤ x.length
  ln : x.length ≤ n
  first : (x.cps.toList.head?.any fun c => decide (c ∈ SMALLS.cps.toList)) = true
  signs : ∀ c ∈ x.cps.toList,isSign c = true
theorem WordOk.t {x : Str} {n : Nat} (h : WordOk x n) : TOk x:=by
  show x.cps.all (fun c => decide (c < 0x110000)) = true
  refine Array.all_eq_true'.mpr fun c hc => decide_eq_true ?_
  have z:=h.signs c (by simpa using hc)
  unfold isSign at z
  rcases Bool.or_eq_true_iff.mp z with z | z
  · exact sign_small c (of_decide_eq_true z)
  · exact sign_dig c (of_decide_eq_true z)
theorem cps_app (a b : Str) : (a ++ b).cps.toList = a.cps.toList ++ b.cps.toList:=by
  show (a.cps ++ b.cps).toList = _
  rw [Array.toList_append]
end G
namespace G
open DV PySem L2
abbrev gl (j : Nat) (o1 o2 o3 o4 o5 o6 o7 : Option D) : DV.Loc:=[some (.ref j),o1,o2,o3,o4,o5,o6,o7,none]
end G
namespace G
open DV PySem L2
abbrev sI (i : Int) : Str:=Str.ofString (toString i)
theorem tok_of {x : Str} (h : ∀ c ∈ x.cps.toList,c < 1114112) : TOk x:=by
  show x.cps.all (fun c => decide (c < 0x110000)) = true
  exact Array.all_eq_true'.mpr fun c hc => decide_eq_true (h c (by simpa using hc))
theorem of_tok {x : Str} (h : TOk x) : ∀ c ∈ x.cps.toList,c < 1114112:=fun c hc => by
  have h2 : x.cps.all (fun x => decide (x < 1114112)) = true:=h
  exact of_decide_eq_true (Array.all_eq_true'.mp h2 c (by simpa using hc))
theorem tok_sI (i : Int) : TOk (sI i):=by
  refine tok_of fun c hc => ?_
  unfold sI at hc
  rw [Str.ofString_eq_toList] at hc
  simp only [List.mem_map] at hc
  obtain ⟨d,_,rfl⟩:=hc
  have v:=d.valid
  unfold UInt32.isValidChar Nat.isValidChar at v
  show d.val.toNat < 1114112
  omega
theorem tok_app {a b : Str} (ha : TOk a) (hb : TOk b) : TOk (a ++ b):=tok_of fun c hc => by
  rw [cps_app] at hc
  rcases List.mem_append.mp hc with m | m
  · exact of_tok ha c m
  · exact of_tok hb c m
theorem tok_join0 {a : Str} (ha : TOk a) : ∀ {ys : List Str},(∀ y ∈ ys,TOk y) → TOk (Str.join a ys)
  | [],_ => (by decide +kernel : TOk Str.empty)
  | [x],h => h x (by simp)
  | x :: y :: r,h => tok_app (tok_app (h x (by simp)) ha) (tok_join0 ha fun z hz => h z (List.mem_cons_of_mem _ hz))
theorem doom_len : ∀ y ∈ dooms,y.length ≤ 5:=by decide +kernel
section
variable {p : Pic}
theorem fr_abs (hp : p.Ok) {f : Fr} (hf : f ∈ p.fs) : f.l.natAbs ≤ 1000000000000 ∧ f.t.natAbs ≤ 1000000000000 ∧ f.r.natAbs ≤ 1000000000000 ∧ f.b.natAbs ≤ 1000000000000:=by
  have h:=hp.fr f hf
  have a:=h.l0; have b:=h.lr; have c:=h.rW; have d:=h.t0; have e:=h.tb; have g:=h.bH; have w:=hp.W1; have w2:=hp.H1
  omega
end
end G
namespace G
open DV PySem L2
section
variable {p : Pic} {n : Nat} {st : Store}
end
end G
namespace G
open DV PySem L2
section
variable {p : Pic} {n : Nat} {st : Store}
end
end G
namespace G
open DV PySem L2
section
variable {p : Pic} {n : Nat} {st : Store}
def frP (f : Fr) : PyData:=.tuple [.str f.ink,.tuple [.int f.l,.int f.t,.int f.r,.int f.b],.str f.doom]
theorem frd {k : Nat} {f : Fr} (h1 : TOk f.ink) (h2 : TOk f.doom) : toData st (k + 3) f.d = some (frP f):=by
  unfold Fr.d Fr.part
  refine toData_tup (n:=k + 2) ?_
  have e1:=toData_str (st:=st) (n:=k + 1) h1
  have e2:=toData_str (st:=st) (n:=k + 1) h2
  have e3 : toData st (k + 2) (.tup [.int f.l,.int f.t,.int f.r,.int f.b]) = some (.tuple [.int f.l,.int f.t,.int f.r,.int f.b]):=toData_tup (n:=k + 1) rfl
  simp only [optL,e1,e2,e3]
theorem shw_name {x : Str} (h : TOk x) (h8 : x.length ≤ 8) : Shw (.str x) 82:=(shw_str h).mono (by omega)
theorem shw_frP (hp : p.Ok) {f : Fr} (hf : f ∈ p.fs) : Shw (frP f) 260:=by
  obtain ⟨a1,a2,a3,a4⟩:=fr_abs hp hf
  have i:=fun (i : Int) (h : i.natAbs ≤ 1000000000000) => shw_int (i:=i) (by omega)
  have t : Shw (.tuple [.int f.l,.int f.t,.int f.r,.int f.b]) 82:=(shw_tuple (n:=14) fun d hd => by
    simp only [List.mem_cons,List.not_mem_nil,or_false] at hd
    rcases hd with rfl | rfl | rfl | rfl
    · exact i _ a1
    · exact i _ a2
    · exact i _ a3
    · exact i _ a4).mono (by simp)
  refine (shw_tuple (n:=82) fun d hd => ?_).mono (by simp)
  simp only [List.mem_cons,List.not_mem_nil,or_false] at hd
  rcases hd with rfl | rfl | rfl
  · exact shw_name (hp.fr f hf).ink.t (hp.fr f hf).ink.l8
  · exact t
  · exact shw_name (dooms_ok _ (hp.fr f hf).doom) (by have:=doom_len _ (hp.fr f hf).doom; omega)
end
end G
namespace G
open DV PySem L2
section
variable {p : Pic} {n : Nat} {st : Store}
end
end G
namespace G
open DV PySem L2
def begC (p : Pic) (b : Nat) (cs : List Bool) : Bool:=decide (showS p.firm "full" (cs.drop b) (p.fs.drop b) nothing = (showS p.firm "full" cs p.fs nothing).drop b)
def begP (p : Pic) (b : Nat) : Bool:=(cellsL p).all fun c => begC p b (p.cov c.l c.t)
section
variable {st : Store} {n : Nat} {p : Pic} {b : Nat}
end
section
variable {st : Store} {n : Nat} {p : Pic} {b : Nat}
end
section
variable {st : Store}
end
section
variable {n : Nat} {p : Pic} {st : Store}
end
structure Mates (p q : Pic) : Prop where
  dp : p.Ok
  dq : q.Ok
  W : q.W = p.W
  Hh : q.Hh = p.Hh
  firm : q.firm = p.firm
  l12 : (p.fs ++ q.fs).length ≤ 12
section
variable {p q : Pic} {w1 w2 : Str} {n1 n2 : Nat} {st : Store}
def from0 (start : Str) : Stand:=if start = "empty" then nothing else anything
end
end G
namespace G
open DV PySem L2
def headD (p : Pic) : D:=.tup [.int p.W,.int p.Hh,.tup (p.firm.map D.str)]
def scrFs (p : Pic) (fs : List Fr) : List (Str × D):=[("head",headD p),("state",.tup (fs.map Fr.d))]
def ScrAt (st : Store) (n : Nat) (p : Pic) (fs : List Fr) : Prop:=st.at_ n = some (.ins 3 (scrFs p fs))
theorem sh_ne : (("state" : Str) == ("head" : Str)) = false:=by decide +kernel
theorem sh_ne2 : ¬ (("head" : Str) = ("state" : Str)):=by decide +kernel
theorem look_head {p : Pic} {fs : List Fr} : List.lookup ("head" : Str) (scrFs p fs) = some (headD p):=by simp [scrFs,List.lookup]
theorem look_state {p : Pic} {fs : List Fr} : List.lookup ("state" : Str) (scrFs p fs) = some (.tup (fs.map Fr.d)):=by simp [scrFs,List.lookup,sh_ne]
section
variable {p : Pic} {fs : List Fr} {n : Nat} {st : Store}
theorem fld_head {l : DV.Loc} {i : Nat} (hi : l[i]? = some (some (.ref n))) (h : ScrAt st n p fs) : mFld 3 "head" (mVar i) l st = .ok (headD p) st:=by
  unfold ScrAt at h
  simp [hi,h,look_head]
theorem fld_state {l : DV.Loc} {i : Nat} (hi : l[i]? = some (some (.ref n))) (h : ScrAt st n p fs) : mFld 3 "state" (mVar i) l st = .ok (.tup (fs.map Fr.d)) st:=by
  unfold ScrAt at h
  simp [hi,h,look_state]
theorem put_state {gs : List Fr} : putA ("state" : Str) (.tup (gs.map Fr.d)) (scrFs p fs) = scrFs p gs:=by
  unfold scrFs
  simp [putA,sh_ne2]
theorem scr_init_ok (hn : n < st.nxt) (hc : st.at_ n = some (.ins 3 [])) (hp : p.Ok) : ∃ st',F_Screen_init [.ref n,.int p.W,.int p.Hh,.tup (p.firm.map D.str)] st = .ok .non st' ∧ ScrAt st' n p [] ∧ Kp [n] st st':=by
  have c1:=check_size_ok (v:=p.W) (st:=st) hp.W0 hp.W1
  have c2:=check_size_ok (v:=p.Hh) (st:=st) hp.H0 hp.H1
  obtain ⟨s1,e1,k1⟩:=check_solid_ok (st:=st) hp.firm
  have g1:=k1.get0 hc hn
  have z3 : (3 : Nat) ≤ sizeLine:=small_line (by decide)
  refine ⟨(s1.put n (.ins 3 [("head",headD p)])).put n (.ins 3 (scrFs p [])),?_,Store.put_same,(k1.more (by simp)).trans ((Kp.put (by simp)).trans (Kp.put (by simp)))⟩
  have g2 : (s1.put n (.ins 3 [("head",headD p)])).at_ n = some (.ins 3 [("head",headD p)]):=Store.put_same
  have w1 : msFld 3 "head" (mVar 0) (mTup (maCons (mVar 1) (maCons (mVar 2) (maCons (mVar 3) maNil)))) [some (.ref n),some (.int p.W),some (.int p.Hh),some (.tup (p.firm.map D.str))] s1 = .nx [some (.ref n),some (.int p.W),some (.int p.Hh),some (.tup (p.firm.map D.str))] (s1.put n (.ins 3 [("head",headD p)])):=by
    simp [g1,z3,putA,headD]
  have w2 : msFld 3 "state" (mVar 0) (mTup maNil) [some (.ref n),some (.int p.W),some (.int p.Hh),some (.tup (p.firm.map D.str))] (s1.put n (.ins 3 [("head",headD p)])) = .nx [some (.ref n),some (.int p.W),some (.int p.Hh),some (.tup (p.firm.map D.str))] ((s1.put n (.ins 3 [("head",headD p)])).put n (.ins 3 (scrFs p []))):=by
    simp [g2,putA,sh_ne2,scrFs]
  have x1 : msExpr (mCall F_check_size [] (maCons (mVar 1) maNil)) [some (.ref n),some (.int p.W),some (.int p.Hh),some (.tup (p.firm.map D.str))] st = .nx [some (.ref n),some (.int p.W),some (.int p.Hh),some (.tup (p.firm.map D.str))] st:=by simp [c1]
  have x2 : msExpr (mCall F_check_size [] (maCons (mVar 2) maNil)) [some (.ref n),some (.int p.W),some (.int p.Hh),some (.tup (p.firm.map D.str))] st = .nx [some (.ref n),some (.int p.W),some (.int p.Hh),some (.tup (p.firm.map D.str))] st:=by simp [c2]
  have x3 : msExpr (mCall F_check_solid [] (maCons (mVar 3) maNil)) [some (.ref n),some (.int p.W),some (.int p.Hh),some (.tup (p.firm.map D.str))] st = .nx [some (.ref n),some (.int p.W),some (.int p.Hh),some (.tup (p.firm.map D.str))] s1:=by simp [e1]
  exact def_nx rfl rfl ((seq_nx x1).trans ((seq_nx x2).trans ((seq_nx x3).trans ((seq_nx w1).trans w2))))
theorem board_ok (hp : p.Ok) : ∃ st',F_law_board [p.d] st = .ok (.ref st.nxt) st' ∧ ScrAt st' st.nxt p [] ∧ Kp [] st st' ∧ st.nxt < st'.nxt:=by
  obtain ⟨s1,e1,f1,k1⟩:=scr_init_ok (n:=st.nxt) (st:=st.new (.ins 3 [])) (Nat.lt_succ_self _) Store.new_same hp
  refine ⟨s1,?_,f1,(Kp.new.trans k1).drop (Nat.le_refl _),Nat.lt_of_lt_of_le (Nat.lt_succ_self _) k1.le⟩
  simp [F_law_board,Pic.d,arr,Src.of,e1]
theorem paint_ok {f : Fr} (hs : ScrAt st n p fs) (hn : n < st.nxt) (hf : f.Ok p.W p.Hh) (hl : fs.length < 8) : ∃ st',F_Screen_paint [.ref n,.str f.ink,f.part,.str f.doom] st = .ok .non st' ∧ ScrAt st' n p (fs ++ [f]) ∧ Kp [n] st st':=by
  obtain ⟨s1,e1,k1⟩:=is_name_ok (st:=st) hf.ink
  have h1 : ScrAt s1 n p fs:=k1.get0 hs hn
  have n1:=Nat.lt_of_lt_of_le hn k1.le
  obtain ⟨s2,e2,k2⟩:=is_part_ok (st:=s1) hf.l0 hf.lr hf.rW hf.t0 hf.tb hf.bH
  have h2 : ScrAt s2 n p fs:=k2.get0 h1 n1
  have cp : F_check_part [f.part,.int p.W,.int p.Hh] s1 = .ok .non s2:=by
    have e : F_is_part [f.part,.int p.W,.int p.Hh] s1 = .ok (.bl true) s2:=e2
    simp [F_check_part,e]
  have cf : F_check_fate [.str f.doom] s2 = .ok .non s2:=by
    have:=is_word_ok (st:=s2) (dooms_ok _ hf.doom) dooms_ok hf.doom
    have e : dooms.map D.str = [.str "stays",.str "wiped",.str "back"]:=rfl
    rw [e] at this
    simp [F_check_fate,this]
  have w1 : ∀ rz : MS,msIf (tNot_ (tB_ (mCall F_is_name [] (maCons (mVar 1) maNil)))) rz msNil [some (.ref n),some (.str f.ink),some f.part,some (.str f.doom)] st = .nx [some (.ref n),some (.str f.ink),some f.part,some (.str f.doom)] s1:=fun rz => by simp [e1]
  have w2 : msExpr (mCall F_check_part [] (maCons (mVar 2) (maCons (m2 fIx (mFld 3 "head" (mVar 0)) (mC (.int 0))) (maCons (m2 fIx (mFld 3 "head" (mVar 0)) (mC (.int 1))) maNil)))) [some (.ref n),some (.str f.ink),some f.part,some (.str f.doom)] s1 = .nx [some (.ref n),some (.str f.ink),some f.part,some (.str f.doom)] s2:=by
    have a:=fld_head (l:=[some (.ref n),some (.str f.ink),some f.part,some (.str f.doom)]) (i:=0) rfl h1
    simp [-ev_mFld,a,headD,cp]
  have w3 : msExpr (mCall F_check_fate [] (maCons (mVar 3) maNil)) [some (.ref n),some (.str f.ink),some f.part,some (.str f.doom)] s2 = .nx [some (.ref n),some (.str f.ink),some f.part,some (.str f.doom)] s2:=by simp [cf]
  have w4 : ∀ rz : MS,msIf (tB_ (m2 fEq (mL (f1 lenD) (maCons (mFld 3 "state" (mVar 0)) maNil)) (mC (.int 8)))) rz msNil [some (.ref n),some (.str f.ink),some f.part,some (.str f.doom)] s2 = .nx [some (.ref n),some (.str f.ink),some f.part,some (.str f.doom)] s2:=fun rz => by
    have a:=fld_state (l:=[some (.ref n),some (.str f.ink),some f.part,some (.str f.doom)]) (i:=0) rfl h2
    have ne : ¬ ((fs.length : Int) = 8):=by omega
    simp [-ev_mFld,a,ne]
  have z3 : (3 : Nat) ≤ sizeLine:=small_line (by decide)
  have zz : fs.length + 1 ≤ sizeLine:=small_line (by omega)
  have w5 : msFld 3 "state" (mVar 0) (mTup (maStar (mFld 3 "state" (mVar 0)) (maCons (mTup (maCons (mVar 1) (maCons (mVar 2) (maCons (mVar 3) maNil)))) maNil))) [some (.ref n),some (.str f.ink),some f.part,some (.str f.doom)] s2 = .nx [some (.ref n),some (.str f.ink),some f.part,some (.str f.doom)] (s2.put n (.ins 3 (scrFs p (fs ++ [f])))):=by
    have a:=fld_state (l:=[some (.ref n),some (.str f.ink),some f.part,some (.str f.doom)]) (i:=0) rfl h2
    have v : mTup (maStar (mFld 3 "state" (mVar 0)) (maCons (mTup (maCons (mVar 1) (maCons (mVar 2) (maCons (mVar 3) maNil)))) maNil)) [some (.ref n),some (.str f.ink),some f.part,some (.str f.doom)] s2 = .ok (.tup ((fs ++ [f]).map Fr.d)) s2:=by
      simp [-ev_mFld,a,z3,zz,Fr.d]
    have h:=h2
    unfold ScrAt at h
    have ps:=put_state (p:=p) (fs:=fs) (gs:=fs ++ [f])
    rw [ev_msFld,v]
    simp only [ev_toS_ok,ev_mVar,List.getElem?_cons_zero,h,if_true]
    show (if 3 = 3 ∧ (scrFs p fs).length < 1000 then RS.nx _ (s2.put n (.ins 3 (putA ("state" : Str) (.tup ((fs ++ [f]).map Fr.d)) (scrFs p fs)))) else RS.bad) = _
    rw [if_pos ⟨rfl,by simp [scrFs]⟩,ps]
  exact ⟨_,def_nx rfl rfl ((seq_nx (w1 _)).trans ((seq_nx w2).trans ((seq_nx w3).trans ((seq_nx (w4 _)).trans w5)))),Store.put_same,((k1.trans k2).more (by simp)).trans (Kp.put (by simp))⟩
end
end G
namespace G
open DV PySem L2
theorem cut_lastF (fs : List Fr) : cutD (fs.map Fr.d) none (some (-1)) = fs.dropLast.map Fr.d:=by
  unfold cutD
  rcases List.eq_nil_or_concat fs with z | ⟨ys,y,z⟩
  · subst z; rfl
  · have z : fs = ys ++ [y]:=by simpa using z
    subst z
    have e1 : HT.sIx ((ys ++ [y]).map Fr.d).length 0 none = 0:=rfl
    have e2 : HT.sIx ((ys ++ [y]).map Fr.d).length ((ys ++ [y]).map Fr.d).length (some (-1)) = ys.length:=by
      show (if (-1 : Int) < 0 then (-1 + (((ys ++ [y]).map Fr.d).length : Int)).toNat else min (-1 : Int).toNat ((ys ++ [y]).map Fr.d).length) = _
      rw [if_pos (by omega)]
      simp
      omega
    rw [e1,e2]
    simp
section
variable {p : Pic} {fs : List Fr} {n : Nat} {st : Store}
theorem state_eq (hf : ∀ f ∈ fs,f.Ok p.W p.Hh) (h0 : fs ≠ []) : fEq (.tup (fs.map Fr.d)) (.tup []) st = some (.bl false,st):=by
  have d:=frames_ne (st:=st) h0 hf
  unfold fEq
  rw [d]
  rfl
theorem state_tst {l : DV.Loc} {i : Nat} (hi : l[i]? = some (some (.ref n))) (h : ScrAt st n p fs) (hf : ∀ f ∈ fs,f.Ok p.W p.Hh) (h0 : fs ≠ []) : tB_ (m2 fEq (mFld 3 "state" (mVar i)) (mTup maNil)) l st = .ok false st:=by
  have e : mTup maNil l st = .ok (.tup []) st:=by simp
  rw [ev_tB_,ev_m2,fld_state hi h,ev_bind_ok,e,ev_bind_ok,state_eq hf h0]
  rfl
theorem scr_undo_ok (hs : ScrAt st n p fs) (hf : ∀ f ∈ fs,f.Ok p.W p.Hh) (h0 : fs ≠ []) : ∃ st',F_Screen_undo [.ref n] st = .ok .non st' ∧ ScrAt st' n p fs.dropLast ∧ Kp [n] st st':=by
  have w1 : ∀ rz : MS,msIf (tB_ (m2 fEq (mFld 3 "state" (mVar 0)) (mTup maNil))) rz msNil [some (.ref n)] st = .nx [some (.ref n)] st:=fun rz => by
    rw [ev_msIf,state_tst rfl hs hf h0]
    rfl
  have w2 : msFld 3 "state" (mVar 0) (mSl (mFld 3 "state" (mVar 0)) moNone (moSome (m1 fNeg (mC (.int 1))))) [some (.ref n)] st = .nx [some (.ref n)] (st.put n (.ins 3 (scrFs p fs.dropLast))):=by
    have a:=fld_state (l:=[some (.ref n)]) (i:=0) rfl hs
    have cu:=cut_lastF fs
    have v : mSl (mFld 3 "state" (mVar 0)) moNone (moSome (m1 fNeg (mC (.int 1)))) [some (.ref n)] st = .ok (.tup (fs.dropLast.map Fr.d)) st:=by
      simp [-ev_mFld,-List.map_dropLast,a,cu]
    have h:=hs
    unfold ScrAt at h
    have ps:=put_state (p:=p) (fs:=fs) (gs:=fs.dropLast)
    rw [ev_msFld,v]
    simp only [ev_toS_ok,ev_mVar,List.getElem?_cons_zero,h,if_true]
    show (if 3 = 3 ∧ (scrFs p fs).length < 1000 then RS.nx _ (st.put n (.ins 3 (putA ("state" : Str) (.tup (fs.dropLast.map Fr.d)) (scrFs p fs)))) else RS.bad) = _
    rw [if_pos ⟨rfl,by simp [scrFs]⟩,ps]
  exact ⟨_,def_nx rfl rfl ((seq_nx (w1 _)).trans w2),Store.put_same,Kp.put (by simp)⟩
theorem no_methS {m : Str} (n1 : (m == ("head" : Str)) = false) (n2 : (m == ("state" : Str)) = false) : List.lookup m (scrFs p fs) = none:=by
  simp [scrFs,List.lookup,n1,n2]
theorem methS {name : Str} {F : FD} {nn mm : Nat} {ix : List Src} {mo : ME} {a b : MA} {l : DV.Loc} {st1 st2 st3 : Store} {r : Nat} {ds es : List D} {R : Res D} (e0 : mo l st = .ok (.ref r) st1) (hS : ScrAt st1 r p fs) (na : (name == ("head" : Str)) = false) (nb : (name == ("state" : Str)) = false) (ea : a l st1 = .ok ds st2) (eb : b l st2 = .ok es st3) (e : F (arr ix (.ref r :: ds) es []) st3 = R) (h1 : ds.length = nn) (h2 : es.length = mm) :
    mMeth 3 name F nn mm ix [] mo a b l st = R:=by
  have lk:=no_methS (p:=p) (fs:=fs) na nb
  have h:=hS
  unfold ScrAt at h
  rw [ev_mMeth,e0]
  simp only [ev_bind_ok,h,lk,and_self,if_true,ea,eb,h1,h2,e]
end
end G
namespace G
open DV PySem L2
def wordsOf (c : Nat) : List (Str × Str × Nat) → List Str
  | [] => []
  | y :: r => if c = y.2.2 then y.1 :: wordsOf c r else wordsOf c r
theorem tagsB_ok (c : Nat) : ∀ (ys : List (Str × Str × Nat)) (xs : List Str) (st : Store) (n : Nat),st.at_ n = some (.lst (xs.map D.str)) → n < st.nxt → xs.length + ys.length ≤ 100 →
    ∃ m st',(∀ a,tagsB c a ys [some (.cst (.ref a)),some (.ref n)] st = .rt (.ref m) st') ∧ st'.at_ m = some (.lst ((xs ++ wordsOf c ys).map D.str)) ∧ m < st'.nxt ∧ Kp [] st st'
  | [],xs,st,n,e,hn,hl => ⟨n,st,fun a => rfl,by simpa [wordsOf] using e,hn,Kp.refl⟩
  | y :: r,xs,st,n,e,hn,hl => by
    have z0 : (0 : Nat) ≤ sizeLine:=Nat.zero_le _
    have z1 : (1 : Nat) ≤ sizeLine:=small_line (by decide)
    have hl' : xs.length + (r.length + 1) ≤ 100:=hl
    let ws : List Str:=if c = y.2.2 then [y.1] else []
    have lw : ws.length ≤ 1:=by show (if c = y.2.2 then [y.1] else []).length ≤ 1; split <;> simp
    let s1:=st.new (.lst (ws.map D.str))
    let s2:=s1.new (.lst ((xs ++ ws).map D.str))
    have g1 : s1.at_ n = some (.lst (xs.map D.str)):=(Kp.new (js:=[])).get0 e hn
    have g1' : s1.at_ st.nxt = some (.lst (ws.map D.str)):=Store.new_same
    have step : ∀ a,msAsg (m2 fAdd (mVar 1) (mIf (tB_ (mIsE 0 a (decide (c = y.2.2)))) (mLst (maCons (mC (.str y.1)) maNil)) (mLst maNil))) (tgName 1) [some (.cst (.ref a)),some (.ref n)] st = .nx [some (.cst (.ref a)),some (.ref s1.nxt)] s2:=by
      intro a
      have t : tB_ (mIsE 0 a (decide (c = y.2.2))) [some (.cst (.ref a)),some (.ref n)] st = .ok (decide (c = y.2.2)) st:=by
        rw [ev_tB_]
        unfold mIsE
        simp only [List.getElem?_cons_zero,if_true]
        rfl
      have b : mIf (tB_ (mIsE 0 a (decide (c = y.2.2)))) (mLst (maCons (mC (.str y.1)) maNil)) (mLst maNil) [some (.cst (.ref a)),some (.ref n)] st = .ok (.ref st.nxt) s1:=by
        rw [ev_mIf,t,ev_bind_ok]
        by_cases h : c = y.2.2
        · have ew : ws = [y.1]:=if_pos h
          simp only [decide_eq_true h,if_true]
          simp [s1,ew,z1]
        · have ew : ws = []:=if_neg h
          simp only [decide_eq_false h,Bool.false_eq_true,if_false]
          simp [s1,ew]
      have v1 : mVar 1 [some (.cst (.ref a)),some (.ref n)] st = .ok (.ref n) st:=rfl
      have f : fAdd (.ref n) (.ref st.nxt) s1 = some (.ref s1.nxt,s2):=by
        unfold fAdd
        simp only [g1,g1',List.length_map]
        rw [if_pos (small_line (by omega))]
        simp [s2]
      rw [ev_msAsg,ev_m2,v1,ev_bind_ok,b,ev_bind_ok,f]
      rfl
    have h2 : s2.at_ s1.nxt = some (.lst ((xs ++ ws).map D.str)):=Store.new_same
    obtain ⟨m,st',q1,q2,q3,q4⟩:=tagsB_ok c r (xs ++ ws) s2 s1.nxt h2 (Nat.lt_succ_self _) (by rw [List.length_append]; omega)
    refine ⟨m,st',fun a => ?_,?_,q3,(Kp.new.trans Kp.new).trans q4⟩
    · exact (seq_nx (step a)).trans (q1 a)
    · rw [q2]
      have ew : xs ++ ws ++ wordsOf c r = xs ++ wordsOf c (y :: r):=by
        show xs ++ (if c = y.2.2 then [y.1] else []) ++ wordsOf c r = xs ++ (if c = y.2.2 then y.1 :: wordsOf c r else wordsOf c r)
        split <;> simp
      rw [ew]
theorem tags_ok {c : Nat} {w : Str} (hw : wordsOf c tagW = [w]) (st : Store) : ∃ m st',(∀ a,F_law_tags c a [.cst (.ref a)] st = .ok (.ref m) st') ∧ st'.at_ m = some (.lst [.str w]) ∧ m < st'.nxt ∧ Kp [] st st':=by
  obtain ⟨m,st',q1,q2,q3,q4⟩:=tagsB_ok c tagW [] (st.new (.lst [])) st.nxt (Store.new_same (st:=st) (c:=.lst [])) (Nat.lt_succ_self _) (by decide)
  rw [hw] at q2
  refine ⟨m,st',fun a => def_rt rfl rfl ?_,q2,q3,Kp.new.trans q4⟩
  have s : msAsg (mLst maNil) (tgName 1) [some (.cst (.ref a)),none] st = .nx [some (.cst (.ref a)),some (.ref st.nxt)] (st.new (.lst [])):=by simp
  exact (seq_nx s).trans (q1 a)
structure Keeps (c : Nat) (w f : Str) : Prop where
  word : wordsOf c tagW = [w]
  attr : f = "index" ∧ w ∈ (["frames","solid","sheets","plan","row","use","broken"] : List Str) ∨ f = "given" ∧ w ∉ (["frames","solid","sheets","plan","row","use","broken"] : List Str) ∧ w ∉ (["fit","undo","painted"] : List Str) ∧ w ≠ "many"
  t : TOk w
theorem str_eqE {a b : Str} {st : Store} : fEq (.str a) (.str b) st = some (.bl (decide (a = b)),st):=rfl
def Shows (st : Store) (d : D) (x : Str) : Prop:=∀ st',Kp [] st st' → reprA d st' = some (.str x,st')
theorem Shows.mv {st st' : Store} {d : D} {x : Str} (h : Shows st d x) (k : Kp [] st st') : Shows st' d x:=fun s q => h s (k.trans q)
abbrev iWords : List Str:=["frames","solid","sheets","plan","row","use","broken"]
abbrev fWords : List Str:=["fit","undo","painted"]
theorem iWords_t : ∀ y ∈ iWords,TOk y:=by decide +kernel
theorem fWords_t : ∀ y ∈ fWords,TOk y:=by decide +kernel
theorem caught_exc {c : Nat} {w f : Str} {d : D} {x : Str} {cs : List Nat} (hK : Keeps c w f) (hc : c ∈ cs) {Fd : Store → Res D} {st st1 : Store} (e : Fd st = .exc c [(f,d)] st1) (hx : Shows st1 d x) :
    ∃ n st',(∀ g,F_law_caught cs g Fd [.cst (.ref g)] st = .ok (.ref n) st') ∧ st'.at_ n = some (.lst [.str w,.str x]) ∧ n < st'.nxt ∧ Kp [] st1 st':=by
  obtain ⟨m,s2,q1,q2,q3,q4⟩:=tags_ok hK.word st1
  have z1 : (1 : Nat) ≤ sizeLine:=small_line (by decide)
  have z2 : (2 : Nat) ≤ sizeLine:=small_line (by decide)
  have z3 : (3 : Nat) ≤ sizeLine:=small_line (by decide)
  have z7 : (7 : Nat) ≤ sizeLine:=small_line (by decide)
  have ix : ∀ (l : DV.Loc) (s : Store),l[3]? = some (some (.ref m)) → s.at_ m = some (.lst [.str w]) → m2 fIx (mVar 3) (mC (.int 0)) l s = .ok (.str w) s:=fun l s h1 h2 => by
    rw [ev_m2,ev_mVar,h1]
    simp [h2]
  let s3:=s2.new (.lst (iWords.map D.str))
  let s4:=s3.new (.lst (fWords.map D.str))
  have h3 : s3.at_ m = some (.lst [.str w]):=(Kp.new (js:=[])).get0 q2 q3
  have h3' : m < s3.nxt:=Nat.lt_succ_of_lt q3
  have h4 : s4.at_ m = some (.lst [.str w]):=(Kp.new (js:=[])).get0 h3 h3'
  have i3:=in_lst (st:=s3) (x:=w) (ys:=iWords) (m:=s2.nxt) Store.new_same hK.t iWords_t
  have i4:=in_lst (st:=s4) (x:=w) (ys:=fWords) (m:=s3.nxt) Store.new_same hK.t fWords_t
  have r3:=hx s3 (q4.trans Kp.new)
  have r4:=hx s4 ((q4.trans Kp.new).trans Kp.new)
  let sE:=if f = "index" then s3.new (.lst [.str w,.str x]) else s4.new (.lst [.str w,.str x])
  let nE:=if f = "index" then s3.nxt else s4.nxt
  have body : ∀ g a,caughtH c [(f,d)] a [some (.cst (.ref g)),none,some (.cst (.ref a)),none] st1 = .rt (.ref nE) sE:=by
    intro g a
    let l : DV.Loc:=[some (.cst (.ref g)),none,some (.cst (.ref a)),some (.ref m)]
    have w1 : msAsg (mTags 2 a (F_law_tags c a)) (tgName 3) [some (.cst (.ref g)),none,some (.cst (.ref a)),none] st1 = .nx l s2:=by
      have t : mTags 2 a (F_law_tags c a) [some (.cst (.ref g)),none,some (.cst (.ref a)),none] st1 = .ok (.ref m) s2:=by
        unfold mTags
        simp only [List.getElem?_cons_succ,List.getElem?_cons_zero,if_true]
        exact q1 a
      rw [ev_msAsg,t]
      rfl
    have w2 : msIf (tB_ (m2 fNe (mL (f1 lenD) (maCons (mVar 3) maNil)) (mC (.int 1)))) (msRet (mLst (maCons (mC (.str "odd")) (maCons (mC (.str "")) maNil)))) msNil l s2 = .nx l s2:=by
      simp [l,q2]
    have t3 : tB_ (m2 fIn (m2 fIx (mVar 3) (mC (.int 0))) (mLst (maCons (mC (.str "frames")) (maCons (mC (.str "solid")) (maCons (mC (.str "sheets")) (maCons (mC (.str "plan")) (maCons (mC (.str "row")) (maCons (mC (.str "use")) (maCons (mC (.str "broken")) maNil))))))))) l s2 = .ok (decide (w ∈ iWords)) s3:=by
      have lw : mLst (maCons (mC (.str "frames")) (maCons (mC (.str "solid")) (maCons (mC (.str "sheets")) (maCons (mC (.str "plan")) (maCons (mC (.str "row")) (maCons (mC (.str "use")) (maCons (mC (.str "broken")) maNil))))))) l s2 = .ok (.ref s2.nxt) s3:=by
        simp [z7,s3]
      rw [ev_tB_,ev_m2,ix l s2 rfl q2,ev_bind_ok,lw,ev_bind_ok,ev_fIn,i3]
      rfl
    have t4 : tB_ (m2 fIn (m2 fIx (mVar 3) (mC (.int 0))) (mLst (maCons (mC (.str "fit")) (maCons (mC (.str "undo")) (maCons (mC (.str "painted")) maNil))))) l s3 = .ok (decide (w ∈ fWords)) s4:=by
      have lw : mLst (maCons (mC (.str "fit")) (maCons (mC (.str "undo")) (maCons (mC (.str "painted")) maNil))) l s3 = .ok (.ref s3.nxt) s4:=by
        simp [z3,s4]
      rw [ev_tB_,ev_m2,ix l s3 rfl h3,ev_bind_ok,lw,ev_bind_ok,ev_fIn,i4]
      rfl
    refine (seq_nx w1).trans ((seq_nx w2).trans ?_)
    rcases hK.attr with ⟨ef,hw⟩ | ⟨ef,hw,hw2,hw3⟩
    · have eS : sE = s3.new (.lst [.str w,.str x]):=if_pos ef
      have eN : nE = s3.nxt:=if_pos ef
      rw [ev_msSeq,ev_msIf,t3,decide_eq_true hw]
      simp only [ev_toS_ok,if_true]
      have xf : mXf 2 a [(f,d)] "index" l s3 = .ok d s3:=by
        unfold mXf
        simp only [l,List.getElem?_cons_succ,List.getElem?_cons_zero,if_true,ef]
        simp [List.lookup]
      have rp : mL (f1 reprA) (maCons (mXf 2 a [(f,d)] "index") maNil) l s3 = .ok (.str x) s3:=by
        rw [ev_mL,ev_maCons,xf,ev_bind_ok,ev_maNil]
        simp only [ev_bind_ok,ev_f1]
        rw [r3]
        rfl
      rw [ev_msRet,ev_mLst,ev_mL,ev_maCons,ix l s3 rfl h3,ev_bind_ok,ev_maCons,rp,ev_bind_ok,ev_maNil]
      simp only [ev_bind_ok,eS,eN]
      show (Res.ofO (if 2 ≤ sizeLine then some (D.ref s3.nxt,s3.new (.lst [.str w,.str x])) else none)).toS _ _ = _
      rw [if_pos z2]
      rfl
    · have ne : ¬ (f = ("index" : Str)):=by rw [ef]; decide +kernel
      have eS : sE = s4.new (.lst [.str w,.str x]):=if_neg ne
      have eN : nE = s4.nxt:=if_neg ne
      have c3 : msIf (tB_ (m2 fIn (m2 fIx (mVar 3) (mC (.int 0))) (mLst (maCons (mC (.str "frames")) (maCons (mC (.str "solid")) (maCons (mC (.str "sheets")) (maCons (mC (.str "plan")) (maCons (mC (.str "row")) (maCons (mC (.str "use")) (maCons (mC (.str "broken")) maNil)))))))))) (msRet (mLst (maCons (m2 fIx (mVar 3) (mC (.int 0))) (maCons (mL (f1 reprA) (maCons (mXf 2 a [(f,d)] "index") maNil)) maNil)))) msNil l s2 = .nx l s3:=by
        rw [ev_msIf,t3,decide_eq_false hw]
        rfl
      have c4 : msIf (tB_ (m2 fIn (m2 fIx (mVar 3) (mC (.int 0))) (mLst (maCons (mC (.str "fit")) (maCons (mC (.str "undo")) (maCons (mC (.str "painted")) maNil)))))) (msRet (mLst (maCons (m2 fIx (mVar 3) (mC (.int 0))) (maCons (mC (.str "")) maNil)))) msNil l s3 = .nx l s4:=by
        rw [ev_msIf,t4,decide_eq_false hw2]
        rfl
      refine (seq_nx c3).trans ((seq_nx c4).trans ?_)
      have tm : tB_ (m2 fEq (m2 fIx (mVar 3) (mC (.int 0))) (mC (.str "many"))) l s4 = .ok false s4:=by
        have cm : mC (.str "many") l s4 = .ok (.str "many") s4:=rfl
        rw [ev_tB_,ev_m2,ix l s4 rfl h4,ev_bind_ok,cm,ev_bind_ok,str_eqE,decide_eq_false hw3]
        rfl
      have xf : mXf 2 a [(f,d)] "given" l s4 = .ok d s4:=by
        unfold mXf
        simp only [l,List.getElem?_cons_succ,List.getElem?_cons_zero,if_true,ef]
        simp [List.lookup]
      have rp : mL (f1 reprA) (maCons (mIf (tB_ (m2 fEq (m2 fIx (mVar 3) (mC (.int 0))) (mC (.str "many")))) (mXf 2 a [(f,d)] "limit") (mXf 2 a [(f,d)] "given")) maNil) l s4 = .ok (.str x) s4:=by
        rw [ev_mL,ev_maCons,ev_mIf,tm,ev_bind_ok]
        simp only [Bool.false_eq_true,if_false]
        rw [xf,ev_bind_ok,ev_maNil]
        simp only [ev_bind_ok,ev_f1]
        rw [r4]
        rfl
      rw [ev_msRet,ev_mLst,ev_mL,ev_maCons,ix l s4 rfl h4,ev_bind_ok,ev_maCons,rp,ev_bind_ok,ev_maNil]
      simp only [ev_bind_ok,eS,eN]
      show (Res.ofO (if 2 ≤ sizeLine then some (D.ref s4.nxt,s4.new (.lst [.str w,.str x])) else none)).toS _ _ = _
      rw [if_pos z2]
      rfl
  refine ⟨nE,sE,fun g => def_rt rfl rfl ?_,?_,?_,?_⟩
  · have a0 : msAsg (mAct 0 g Fd) (tgName 1) [some (.cst (.ref g)),none,none,none] st = .exc c [(f,d)] [some (.cst (.ref g)),none,none,none] st1:=by
      have t : mAct 0 g Fd [some (.cst (.ref g)),none,none,none] st = .exc c [(f,d)] st1:=by
        unfold mAct
        simp only [List.getElem?_cons_zero,if_true]
        exact e
      rw [ev_msAsg,t]
      rfl
    have tr : mTry 2 cs (msAsg (mAct 0 g Fd) (tgName 1)) caughtH [some (.cst (.ref g)),none,none,none] st = .rt (.ref nE) sE:=by
      unfold mTry
      rw [a0]
      simp only
      rw [if_pos hc,msDefR_eq (r:=.rt (.ref nE) sE) (fun a => body g a)]
      rfl
    show caughtB cs g Fd [some (.cst (.ref g)),none,none,none] st = _
    unfold caughtB
    rw [ev_msSeq,tr]
  · show (if f = "index" then s3.new (.lst [.str w,.str x]) else s4.new (.lst [.str w,.str x])).at_ (if f = "index" then s3.nxt else s4.nxt) = _
    split
    · exact Store.new_same
    · exact Store.new_same
  · show (if f = "index" then s3.nxt else s4.nxt) < (if f = "index" then s3.new (.lst [.str w,.str x]) else s4.new (.lst [.str w,.str x])).nxt
    split
    · exact Nat.lt_succ_self _
    · exact Nat.lt_succ_self _
  · show Kp [] st1 (if f = "index" then s3.new (.lst [.str w,.str x]) else s4.new (.lst [.str w,.str x]))
    split
    · exact (q4.trans Kp.new).trans Kp.new
    · exact ((q4.trans Kp.new).trans Kp.new).trans Kp.new
theorem caught_ok {cs : List Nat} {Fd : Store → Res D} {st st1 : Store} {d : D} {x : Str} (e : Fd st = .ok d st1) (hx : reprA d st1 = some (.str x,st1)) :
    ∃ n st',(∀ g,F_law_caught cs g Fd [.cst (.ref g)] st = .ok (.ref n) st') ∧ st'.at_ n = some (.lst [.str "back",.str x]) ∧ n < st'.nxt ∧ Kp [] st1 st':=by
  have z2 : (2 : Nat) ≤ sizeLine:=small_line (by decide)
  refine ⟨st1.nxt,st1.new (.lst [.str "back",.str x]),fun g => def_rt rfl rfl ?_,Store.new_same,Nat.lt_succ_self _,Kp.new⟩
  have a0 : msAsg (mAct 0 g Fd) (tgName 1) [some (.cst (.ref g)),none,none,none] st = .nx [some (.cst (.ref g)),some d,none,none] st1:=by
    have t : mAct 0 g Fd [some (.cst (.ref g)),none,none,none] st = .ok d st1:=by
      unfold mAct
      simp only [List.getElem?_cons_zero,if_true]
      exact e
    rw [ev_msAsg,t]
    rfl
  have tr : mTry 2 cs (msAsg (mAct 0 g Fd) (tgName 1)) caughtH [some (.cst (.ref g)),none,none,none] st = .nx [some (.cst (.ref g)),some d,none,none] st1:=by
    unfold mTry
    rw [a0]
  show caughtB cs g Fd _ _ = _
  unfold caughtB
  refine (seq_nx tr).trans ?_
  have v : mVar 1 [some (.cst (.ref g)),some d,none,none] st1 = .ok d st1:=rfl
  have rp : mL (f1 reprA) (maCons (mVar 1) maNil) [some (.cst (.ref g)),some d,none,none] st1 = .ok (.str x) st1:=by
    rw [ev_mL,ev_maCons,v,ev_bind_ok,ev_maNil]
    simp only [ev_bind_ok,ev_f1]
    rw [hx]
    rfl
  have c : mC (.str "back") [some (.cst (.ref g)),some d,none,none] st1 = .ok (.str "back") st1:=rfl
  rw [ev_msRet,ev_mLst,ev_mL,ev_maCons,c,ev_bind_ok,ev_maCons,rp,ev_bind_ok,ev_maNil]
  simp only [ev_bind_ok]
  show (Res.ofO (if 2 ≤ sizeLine then some (D.ref st1.nxt,st1.new (.lst [.str "back",.str x])) else none)).toS _ _ = _
  rw [if_pos z2]
  rfl
end G
namespace G
open DV PySem L2
abbrev KINDS : List String:=["NoneType","bool","int","str","tuple","list","dict"]
structure Val (st : Store) (d : D) (x : Str) : Prop where
  kind : ∃ k ∈ KINDS,∀ st',Kp [] st st' → tyN st' d = some (.b k)
  sh : Shows st d x
  t : TOk x
  txt : ∀ y,d = .str y → TOk y
theorem Val.mv {st st' : Store} {d : D} {x : Str} (h : Val st d x) (k : Kp [] st st') : Val st' d x:=by
  obtain ⟨⟨b,hb,hk⟩,hs,ht,hx⟩:=h
  exact ⟨⟨b,hb,fun s q => hk s (k.trans q)⟩,hs.mv k,ht,hx⟩
def Does (cs : List Nat) (Fd : Store → Res D) (st : Store) : Option (Str × Str) → Prop
  | some (w,x) => ∃ c f d st1,Fd st = .exc c [(f,d)] st1 ∧ Keeps c w f ∧ c ∈ cs ∧ Shows st1 d x ∧ TOk x ∧ Kp [] st st1
  | none => ∃ d x st1,Fd st = .ok d st1 ∧ reprA d st1 = some (.str x,st1) ∧ TOk x ∧ Kp [] st st1
def Noted (o : Option (Str × Str)) (y : Str × Str) : Prop:=TOk y.1 ∧ TOk y.2 ∧ match o with
  | some z => y = z
  | none => y.1 = "back"
inductive NotedL (st : Store) : List Nat → List (Str × Str) → Prop
  | nil : NotedL st [] []
  | cons {n : Nat} {y : Str × Str} {ns : List Nat} {ys : List (Str × Str)} (e : st.at_ n = some (.lst [.str y.1,.str y.2])) (hn : n < st.nxt) (r : NotedL st ns ys) : NotedL st (n :: ns) (y :: ys)
theorem NotedL.mv {st st' : Store} {ns : List Nat} {ys : List (Str × Str)} (h : NotedL st ns ys) (k : Kp [] st st') : NotedL st' ns ys:=by
  induction h with
  | nil => exact .nil
  | cons e hn r ih => exact .cons (k.get0 e hn) (Nat.lt_of_lt_of_le hn k.le) ih
theorem NotedL.put {st : Store} {m : Nat} {c : Cell} {ns : List Nat} {ys : List (Str × Str)} (h : NotedL st ns ys) (hm : m ∉ ns) : NotedL (st.put m c) ns ys:=by
  induction h with
  | nil => exact .nil
  | @cons n y ns ys e hn r ih =>
    have h1 : n ≠ m:=fun z => hm (by rw [z]; exact List.mem_cons_self)
    exact .cons ((Store.put_ne h1).trans e) hn (ih fun z => hm (List.mem_cons_of_mem _ z))
theorem NotedL.snoc {st : Store} {n : Nat} {y : Str × Str} {ns : List Nat} {ys : List (Str × Str)} (h : NotedL st ns ys) (e : st.at_ n = some (.lst [.str y.1,.str y.2])) (hn : n < st.nxt) : NotedL st (ns ++ [n]) (ys ++ [y]):=by
  induction h with
  | nil => exact .cons e hn .nil
  | cons e1 hn1 r ih => exact .cons e1 hn1 ih
theorem NotedL.len {st : Store} {ns : List Nat} {ys : List (Str × Str)} (h : NotedL st ns ys) : ns.length = ys.length:=by
  induction h with
  | nil => rfl
  | cons e hn r ih => simp [ih]
end G
namespace G
open DV PySem L2
theorem tok_textFrom : ∀ (ts : List Str) (k : Nat) (acc : Str),TOk acc → (∀ t ∈ ts,TOk t) → TOk (textFrom k acc ts)
  | [],k,acc,h,_ => h
  | t :: r,k,acc,h,ht => by
    unfold textFrom
    refine tok_textFrom r _ _ (tok_app (tok_app h ?_) (ht t List.mem_cons_self)) fun x hx => ht x (List.mem_cons_of_mem _ hx)
    split <;> decide +kernel
theorem tok_shown_all {xs : List PyData} (h : ∀ d ∈ xs,TOk d.shown) : ∀ t ∈ PyData.shownAll xs,TOk t:=by
  induction xs with
  | nil => intro t ht; cases ht
  | cons d r ih =>
    intro t ht
    simp only [PyData.shownAll] at ht
    rcases List.mem_cons.mp ht with rfl | ht
    · exact h d List.mem_cons_self
    · exact ih (fun e he => h e (List.mem_cons_of_mem _ he)) t ht
theorem tok_list {xs : List PyData} (h : ∀ d ∈ xs,TOk d.shown) : TOk (PyData.list xs).shown:=by
  simp only [PyData.shown]
  unfold listText
  exact tok_app (tok_textFrom _ _ _ (by decide +kernel) (tok_shown_all h)) (by decide +kernel)
theorem tok_tuple {xs : List PyData} (h : ∀ d ∈ xs,TOk d.shown) : TOk (PyData.tuple xs).shown:=by
  simp only [PyData.shown]
  unfold tupleText
  refine tok_app (tok_app (by decide +kernel) (tok_join0 (by decide +kernel) (tok_shown_all h))) ?_
  split <;> decide +kernel
theorem tok_int (i : Int) : TOk (PyData.int i).shown:=by
  simp only [PyData.shown]
  exact tok_sI i
variable {st : Store}
theorem val_non : Val st .non "None":=⟨⟨"NoneType",by simp,fun _ _ => rfl⟩,fun _ _ => rfl,by decide +kernel,fun _ e => by cases e⟩
theorem val_bl {b : Bool} : Val st (.bl b) (if b then "True" else "False"):=⟨⟨"bool",by simp,fun _ _ => rfl⟩,fun _ _ => rfl,by cases b <;> decide +kernel,fun _ e => by cases e⟩
theorem val_int {i : Int} (h : i.natAbs.log2 < 1920) : Val st (.int i) (sI i):=⟨⟨"int",by simp,fun _ _ => rfl⟩,fun _ _ => by
  show (if i.natAbs.log2 < 1920 then some (D.str (toString i),_) else none) = _
  rw [if_pos h],tok_sI i,fun _ e => by cases e⟩
theorem log_small {i : Int} (h : i.natAbs < 10 ^ 13) : i.natAbs.log2 < 1920:=by
  by_cases z : i.natAbs = 0
  · rw [z]; decide
  · have : i.natAbs.log2 < 44:=(Nat.log2_lt z).mpr (Nat.lt_trans h (by decide))
    omega
theorem val_str {x : Str} (h : (reprText x).length ≤ 1000) (t : TOk (reprText x)) (tx : TOk x) : Val st (.str x) (reprText x):=⟨⟨"str",by simp,fun _ _ => rfl⟩,fun _ _ => by
  show (if (reprText x).length ≤ sizeLine then some (D.str (reprText x),_) else none) = _
  rw [if_pos (small_line h)],t,fun _ e => by cases e; exact tx⟩
theorem val_tup {ds : List D} {d : PyData} {n : Nat} (h : ∀ st',Kp [] st st' → toData st' 20 (.tup ds) = some d) (s : Shw d n) (hn : n ≤ 16000000) (t : TOk d.shown) : Val st (.tup ds) d.shown:=
  ⟨⟨"tuple",by simp,fun _ _ => rfl⟩,fun st' k => reprA_tup (repr_tup (h st' k) s hn),t,fun _ e => by cases e⟩
theorem val_lst {m : Nat} {ds : List D} {ps : List PyData} {n : Nat} (e : st.at_ m = some (.lst ds)) (hm : m < st.nxt) (h : ∀ st',Kp [] st st' → optL (toData st' 19) ds = some ps) (s : Shw (.list ps) n) (hn : n ≤ 16000000) (t : TOk (PyData.list ps).shown) : Val st (.ref m) (PyData.list ps).shown:=
  ⟨⟨"list",by simp,fun st' k => by simp only [tyN,k.get0 e hm]⟩,fun st' k => by
    have e':=k.get0 e hm
    show (match st'.at_ m with
      | some (.dic []) => some (D.str "{}",st')
      | some (.dic [(.inr k,.int i)]) => if (PyData.dict [(.str k,.int i)]).showable = true ∧ (PyData.dict [(.str k,.int i)]).shown.length ≤ sizeLine then some (D.str (PyData.dict [(.str k,.int i)]).shown,st') else none
      | some (.dic _) => none
      | _ => reprD (.ref m) st') = _
    rw [e']
    exact repr_ref (toData_lst (n:=19) e' (h st' k)) s hn,t,fun _ e => by cases e⟩
theorem val_dic {m : Nat} (e : st.at_ m = some (.dic [])) (hm : m < st.nxt) : Val st (.ref m) "{}":=
  ⟨⟨"dict",by simp,fun st' k => by simp only [tyN,k.get0 e hm]⟩,fun st' k => by
    have e':=k.get0 e hm
    unfold reprA
    simp only [e'],by decide +kernel,fun _ e => by cases e⟩
theorem val_dic1 {m : Nat} (e : st.at_ m = some (.dic [(.inr "a",.int 1)])) (hm : m < st.nxt) : Val st (.ref m) (PyData.dict [(.str "a",.int 1)]).shown:=
  ⟨⟨"dict",by simp,fun st' k => by simp only [tyN,k.get0 e hm]⟩,fun st' k => by
    have e':=k.get0 e hm
    have c : (PyData.dict [(.str "a",.int 1)]).showable = true ∧ (PyData.dict [(.str "a",.int 1)]).shown.length ≤ sizeLine:=⟨by decide +kernel,small_line (by decide +kernel)⟩
    unfold reprA
    simp only [e',if_pos c],by decide +kernel,fun _ e => by cases e⟩
structure Plain (st : Store) (d : D) : Prop where
  ty : ∃ k ∈ KINDS,tyN st d = some (.b k)
  t : ∀ x,d = .str x → TOk x
theorem Val.plain {d : D} {x : Str} (h : Val st d x) : Plain st d:=⟨let ⟨k,hk,e⟩:=h.kind; ⟨k,hk,e st Kp.refl⟩,h.txt⟩
theorem isi_ty {st : Store} {d : D} {k n : String} (h : tyN st d = some (.b k)) : isiD (fTy n) d st = (fTy n (.b k)).map fun b => (.bl b,st):=by
  unfold isiD
  rw [h]
  rfl
end G
namespace G
open DV PySem L2
variable {st : Store} {n : Nat} {p : Pic}
theorem def_exc {k len : Nat} {m : MS} {ds : List D} {st st' : Store} {l l' : DV.Loc} {c : Nat} {fs : List (Str × D)} (hl : ds.length = k) (he : ds.map some ++ List.replicate (len - k) none = l) (h : m l st = .exc c fs l' st') : mDef k len m ds st = .exc c fs st':=by
  unfold mDef
  rw [if_pos hl,he,h]
def PlainR (st : Store) (d : D) : Prop:=Plain st d ∧ ∀ ds,d = .tup ds → ∀ e ∈ ds,Plain st e
end G
namespace G
open DV PySem L2
variable {st : Store} {n : Nat} {p : Pic}
end G
namespace G
open DV PySem L2
inductive ReelAt (st : Store) (p : Pic) : D → Option (Str × Str) → Prop
  | film {n : Nat} (hF : FilmAt st n p) (hn : n < st.nxt) : ReelAt st p (.ref n) none
  | odd {d : D} {x : Str} (h : Val st d x) : ReelAt st p d (some ("film",x))
theorem ReelAt.mv {st st' : Store} {p : Pic} {d : D} {o : Option (Str × Str)} (h : ReelAt st p d o) (k : Kp [] st st') : ReelAt st' p d o:=by
  cases h with
  | film hF hn => exact .film (k.get0 hF hn) (Nat.lt_of_lt_of_le hn k.le)
  | odd h => exact .odd (h.mv k)
theorem seq_exc {a b : MS} {l l' : DV.Loc} {st st' : Store} {c : Nat} {fs : List (Str × D)} (h : a l st = .exc c fs l' st') : msSeq a b l st = .exc c fs l' st':=by
  rw [ev_msSeq,h]
section
variable {st : Store} {p : Pic} {d : D} {o : Option (Str × Str)} {cs : List Nat}
theorem Does.good {Fd : Store → Res D} {r : D} {x : Str} {s1 : Store} (e : Fd st = .ok r s1) (hx : reprA r s1 = some (.str x,s1)) (t : TOk x) (k : Kp [] st s1) : Does cs Fd st none:=⟨r,x,s1,e,hx,t,k⟩
theorem Does.bl {Fd : Store → Res D} {b : Bool} {s1 : Store} (e : Fd st = .ok (.bl b) s1) (k : Kp [] st s1) : Does cs Fd st none:=.good e ((val_bl (st:=s1) (b:=b)).sh s1 Kp.refl) (val_bl (st:=s1) (b:=b)).t k
end
end G
namespace G
open DV PySem L2
variable {st : Store} {p : Pic} {d : D} {o : Option (Str × Str)} {cs : List Nat}
end G
namespace G
open DV PySem L2
abbrev big40 : Int:=10000000000000000000000000000000000000000
theorem big_log : (big40).natAbs.log2 < 1920:=by decide +kernel
def oddL (n : Nat) : List D:=[.non,.bl true,.bl false,.int 0,.int (-1),.int big40,.str "",.str "sky",.str "stays",.tup [],.tup [.int 1],.ref n,.ref (n + 1),.ref (n + 2),.ref (n + 3),.tup [.str "a",.tup [.int 1,.ref (n + 4)]]]
theorem odd_val {st s : Store} {n : Nat} (e0 : s.at_ n = some (.lst [])) (e1 : s.at_ (n + 1) = some (.lst [.int 1])) (e2 : s.at_ (n + 2) = some (.dic [])) (e3 : s.at_ (n + 3) = some (.dic [(.inr "a",.int 1)])) (e4 : s.at_ (n + 4) = some (.lst [.int 2])) (hn : n + 4 < s.nxt) {d : D} (hd : d ∈ oddL n) : ∃ x,Val s d x:=by
  have tr : ∀ x : Str,x ∈ (["","sky","stays"] : List Str) → (reprText x).length ≤ 1000 ∧ TOk (reprText x) ∧ TOk x:=by decide +kernel
  simp only [oddL,List.mem_cons,List.not_mem_nil,or_false] at hd
  rcases hd with rfl | rfl | rfl | rfl | rfl | rfl | rfl | rfl | rfl | rfl | rfl | rfl | rfl | rfl | rfl | rfl
  · exact ⟨_,val_non⟩
  · exact ⟨_,val_bl⟩
  · exact ⟨_,val_bl⟩
  · exact ⟨_,val_int (by decide)⟩
  · exact ⟨_,val_int (by decide)⟩
  · exact ⟨_,val_int big_log⟩
  · exact ⟨_,val_str (tr "" (by simp)).1 (tr "" (by simp)).2.1 (tr "" (by simp)).2.2⟩
  · exact ⟨_,val_str (tr "sky" (by simp)).1 (tr "sky" (by simp)).2.1 (tr "sky" (by simp)).2.2⟩
  · exact ⟨_,val_str (tr "stays" (by simp)).1 (tr "stays" (by simp)).2.1 (tr "stays" (by simp)).2.2⟩
  · exact ⟨_,val_tup (d:=.tuple []) (n:=100) (fun _ _ => rfl) (shw_tuple (n:=0) (by simp) |>.mono (by simp)) (by decide) (tok_tuple (by simp))⟩
  · exact ⟨_,val_tup (d:=.tuple [.int 1]) (n:=100) (fun _ _ => rfl) ((shw_tuple (n:=14) fun d hd => by
      simp only [List.mem_cons,List.not_mem_nil,or_false] at hd
      subst hd
      exact shw_int (by decide)).mono (by simp)) (by decide) (tok_tuple fun d hd => by
      simp only [List.mem_cons,List.not_mem_nil,or_false] at hd
      subst hd
      exact tok_int _)⟩
  · exact ⟨_,val_lst (ps:=[]) (n:=100) e0 (by omega) (fun _ _ => rfl) (shw_list (n:=0) (by simp) |>.mono (by simp)) (by decide) (tok_list (by simp))⟩
  · exact ⟨_,val_lst (ps:=[.int 1]) (n:=100) e1 (by omega) (fun _ _ => rfl) ((shw_list (n:=14) fun d hd => by
      simp only [List.mem_cons,List.not_mem_nil,or_false] at hd
      subst hd
      exact shw_int (by decide)).mono (by simp)) (by decide) (tok_list fun d hd => by
      simp only [List.mem_cons,List.not_mem_nil,or_false] at hd
      subst hd
      exact tok_int _)⟩
  · exact ⟨_,val_dic e2 (by omega)⟩
  · exact ⟨_,val_dic1 e3 (by omega)⟩
  · have ta : TOk "a":=by decide +kernel
    have s2 : Shw (.list [.int 2]) 18:=(shw_list (n:=14) fun d hd => by
      simp only [List.mem_cons,List.not_mem_nil,or_false] at hd
      subst hd
      exact shw_int (by decide)).mono (by simp)
    have s3 : Shw (.tuple [.int 1,.list [.int 2]]) 50:=(shw_tuple (n:=18) fun d hd => by
      simp only [List.mem_cons,List.not_mem_nil,or_false] at hd
      rcases hd with rfl | rfl
      · exact (shw_int (by decide)).mono (by decide)
      · exact s2).mono (by simp)
    have s4 : Shw (.tuple [.str "a",.tuple [.int 1,.list [.int 2]]]) 200:=(shw_tuple (n:=50) fun d hd => by
      simp only [List.mem_cons,List.not_mem_nil,or_false] at hd
      rcases hd with rfl | rfl
      · exact (shw_str ta).mono (by decide)
      · exact s3).mono (by simp)
    have t4 : TOk (PyData.tuple [.str "a",.tuple [.int 1,.list [.int 2]]]).shown:=tok_tuple fun d hd => by
      simp only [List.mem_cons,List.not_mem_nil,or_false] at hd
      rcases hd with rfl | rfl
      · simp only [PyData.shown]
        decide +kernel
      · exact tok_tuple fun d hd => by
          simp only [List.mem_cons,List.not_mem_nil,or_false] at hd
          rcases hd with rfl | rfl
          · exact tok_int _
          · exact tok_list fun d hd => by
              simp only [List.mem_cons,List.not_mem_nil,or_false] at hd
              subst hd
              exact tok_int _
    refine ⟨_,val_tup (fun st' k => ?_) s4 (by decide) t4⟩
    have e4':=k.get0 e4 (by omega)
    have a : PyData.strOk "a" = true:=ta
    simp [toData,optL,e4',a]
structure OddAt (s : Store) (n : Nat) : Prop where
  e0 : s.at_ n = some (.lst [])
  e1 : s.at_ (n + 1) = some (.lst [.int 1])
  e2 : s.at_ (n + 2) = some (.dic [])
  e3 : s.at_ (n + 3) = some (.dic [(.inr "a",.int 1)])
  e4 : s.at_ (n + 4) = some (.lst [.int 2])
  lt : n + 4 < s.nxt
theorem OddAt.mv {s s' : Store} {n j : Nat} (h : OddAt s n) (k : Kp [j] s s') (hj : j < n) : OddAt s' n:=by
  have:=h.lt
  exact ⟨k.get h.e0 (by omega) (by simp; omega),k.get h.e1 (by omega) (by simp; omega),k.get h.e2 (by omega) (by simp; omega),k.get h.e3 (by omega) (by simp; omega),k.get h.e4 (by omega) (by simp; omega),Nat.lt_of_lt_of_le h.lt k.le⟩
theorem OddAt.val {s : Store} {n : Nat} (h : OddAt s n) {d : D} (hd : d ∈ oddL n) : ∃ x,Val s d x:=odd_val (st:=s) h.e0 h.e1 h.e2 h.e3 h.e4 h.lt hd
end G
namespace G
open DV PySem L2
section
variable {st : Store}
end
theorem app_evE {st : Store} {r : Nat} {mo me : ME} {l : DV.Loc} {s1 : Store} {zs xs : List D} {d : D} (eo : mo l st = .ok (.ref r) st) (g0 : st.at_ r = some (.lst zs)) (e : me l st = .ok d s1) (g : s1.at_ r = some (.lst xs)) (hl : xs.length < 1000) : mM "list" fAppend mo (maCons me maNil) l st = .ok .non (s1.put r (.lst (xs ++ [d]))):=by
  have ty : tyD "list" (.ref r) st = true:=by simp [tyD,g0]
  have ap : fAppend (.ref r) [d] s1 = some (.non,s1.put r (.lst (xs ++ [d]))):=by
    unfold fAppend
    simp only [g]
    rw [if_pos (Nat.lt_of_lt_of_le hl (by decide))]
  rw [ev_mM,eo,ev_bind_ok,if_pos ty,ev_maCons,e,ev_bind_ok]
  show Res.ofO (fAppend (.ref r) [d] s1) = _
  rw [ap]
  rfl
section
variable {st st0 : Store} {l : DV.Loc} {cs : List Nat}
def DoesY (cs : List Nat) (Fd : Store → Res D) (st : Store) (y : Str × Str) : Prop:=
  (∃ c f d st1,Fd st = .exc c [(f,d)] st1 ∧ Keeps c y.1 f ∧ c ∈ cs ∧ Shows st1 d y.2 ∧ TOk y.2 ∧ Kp [] st st1) ∨ (y.1 = "back" ∧ ∃ d st1,Fd st = .ok d st1 ∧ reprA d st1 = some (.str y.2,st1) ∧ TOk y.2 ∧ Kp [] st st1)
def DoesQ (cs : List Nat) (Fd : Store → Res D) (st : Store) (Q : Str × Str → Prop) : Prop:=∃ y,Q y ∧ DoesY cs Fd st y
theorem Does.q {Fd : Store → Res D} {o : Option (Str × Str)} (h : Does cs Fd st o) : DoesQ cs Fd st (Noted o):=by
  cases o with
  | some z =>
    obtain ⟨c,f,d,s1,e,hK,hc,hs,ht,k⟩:=h
    exact ⟨z,⟨hK.t,ht,rfl⟩,.inl ⟨c,f,d,s1,e,hK,hc,hs,ht,k⟩⟩
  | none =>
    obtain ⟨d,x,s1,e,hs,ht,k⟩:=h
    exact ⟨("back",x),⟨by show TOk "back"; decide +kernel,ht,rfl⟩,.inr ⟨rfl,d,s1,e,hs,ht,k⟩⟩
theorem DoesQ.to {Fd Fd' : Store → Res D} {Q : Str × Str → Prop} (h : DoesQ cs Fd st Q) (e : Fd' st = Fd st) : DoesQ cs Fd' st Q:=by
  obtain ⟨y,hy,h⟩:=h
  refine ⟨y,hy,?_⟩
  unfold DoesY
  rw [e]
  exact h
theorem DoesQ.mono {Fd : Store → Res D} {Q R : Str × Str → Prop} (h : DoesQ cs Fd st Q) (hQ : ∀ y,Q y → R y) : DoesQ cs Fd st R:=by
  obtain ⟨y,hy,h⟩:=h
  exact ⟨y,hQ y hy,h⟩
def GotS (st0 st : Store) (g : Nat) (Q : Str × Str → Prop) (k : Nat) : Prop:=∃ (ns : List Nat) (ys : List (Str × Str)),st.at_ g = some (.lst (ns.map D.ref)) ∧ NotedL st ns ys ∧ (∀ y ∈ ys,Q y ∧ TOk y.1 ∧ TOk y.2) ∧ ys.length = k ∧ g ∉ ns ∧ g < st.nxt ∧ st0.nxt ≤ g ∧ Kp [] st0 st
theorem GotS.two {g : Nat} {Q : Str × Str → Prop} (h : GotS st0 st g Q 2) : ∃ a b x y,st.at_ g = some (.lst [.ref a,.ref b]) ∧ st.at_ a = some (.lst [.str x.1,.str x.2]) ∧ st.at_ b = some (.lst [.str y.1,.str y.2]) ∧ a < st.nxt ∧ b < st.nxt ∧ g < st.nxt ∧ (Q x ∧ TOk x.1 ∧ TOk x.2) ∧ (Q y ∧ TOk y.1 ∧ TOk y.2) ∧ Kp [] st0 st:=by
  obtain ⟨ns,ys,hg,hN,hn,hl,_,gn,_,k0⟩:=h
  cases hN with
  | nil => cases hl
  | @cons a x ns ys ea ha r =>
    cases r with
    | nil => cases hl
    | @cons b y ns ys eb hb r =>
      cases r with
      | cons _ _ _ => simp at hl
      | nil => exact ⟨a,b,x,y,hg,ea,eb,ha,hb,gn,hn x (by simp),hn y (by simp),k0⟩
end
theorem Does.to {cs : List Nat} {Fd Fd' : Store → Res D} {st : Store} {o : Option (Str × Str)} (h : Does cs Fd st o) (e : Fd' st = Fd st) : Does cs Fd' st o:=by
  cases o with
  | some z =>
    obtain ⟨c,f,d,s1,q,r⟩:=h
    exact ⟨c,f,d,s1,e.trans q,r⟩
  | none =>
    obtain ⟨d,x,s1,q,r⟩:=h
    exact ⟨d,x,s1,e.trans q,r⟩
section
variable {st st0 s1 : Store} {p : Pic} {d : D} {o : Option (Str × Str)} {l : DV.Loc}
theorem GotS.kp {g k : Nat} {Q : Str × Str → Prop} (h : GotS st0 st g Q k) : Kp [] st0 st:=by
  obtain ⟨ns,ys,_,_,_,_,_,_,_,k0⟩:=h
  exact k0
end
end G
namespace G
open DV PySem L2
section
variable {st : Store}
def signB (c : Nat) : Bool:=decide (c ∈ SMALLS.cps.toList) || decide (c ∈ DIGS.cps.toList)
def nmB (x : Str) : Bool:=decide (1 ≤ x.length) && decide (x.length ≤ 8) && (match x.cps.toList with
  | [] => false
  | c :: _ => decide (c ∈ SMALLS.cps.toList)) && !decide (x ∈ (["screen","solid","beat"] : List Str)) && x.cps.toList.all fun c => signB c
end
end G
namespace G
open DV PySem L2
structure Keeps0 (c : Nat) (w : Str) : Prop where
  word : wordsOf c tagW = [w]
  no : w ∉ iWords
  yes : w ∈ fWords
  t : TOk w
theorem caught_exc0 {c : Nat} {w : Str} {cs : List Nat} (hK : Keeps0 c w) (hc : c ∈ cs) {Fd : Store → Res D} {st st1 : Store} (e : Fd st = .exc c [] st1) :
    ∃ n st',(∀ g,F_law_caught cs g Fd [.cst (.ref g)] st = .ok (.ref n) st') ∧ st'.at_ n = some (.lst [.str w,.str ""]) ∧ n < st'.nxt ∧ Kp [] st1 st':=by
  obtain ⟨m,s2,q1,q2,q3,q4⟩:=tags_ok hK.word st1
  have z1 : (1 : Nat) ≤ sizeLine:=small_line (by decide)
  have z2 : (2 : Nat) ≤ sizeLine:=small_line (by decide)
  have z3 : (3 : Nat) ≤ sizeLine:=small_line (by decide)
  have z7 : (7 : Nat) ≤ sizeLine:=small_line (by decide)
  have ix : ∀ (l : DV.Loc) (s : Store),l[3]? = some (some (.ref m)) → s.at_ m = some (.lst [.str w]) → m2 fIx (mVar 3) (mC (.int 0)) l s = .ok (.str w) s:=fun l s h1 h2 => by
    rw [ev_m2,ev_mVar,h1]
    simp [h2]
  let s3:=s2.new (.lst (iWords.map D.str))
  let s4:=s3.new (.lst (fWords.map D.str))
  have h3 : s3.at_ m = some (.lst [.str w]):=(Kp.new (js:=[])).get0 q2 q3
  have h3' : m < s3.nxt:=Nat.lt_succ_of_lt q3
  have h4 : s4.at_ m = some (.lst [.str w]):=(Kp.new (js:=[])).get0 h3 h3'
  have i3:=in_lst (st:=s3) (x:=w) (ys:=iWords) (m:=s2.nxt) Store.new_same hK.t iWords_t
  have i4:=in_lst (st:=s4) (x:=w) (ys:=fWords) (m:=s3.nxt) Store.new_same hK.t fWords_t
  let sE:=s4.new (.lst [.str w,.str ""])
  have body : ∀ g a,caughtH c [] a [some (.cst (.ref g)),none,some (.cst (.ref a)),none] st1 = .rt (.ref s4.nxt) sE:=by
    intro g a
    let l : DV.Loc:=[some (.cst (.ref g)),none,some (.cst (.ref a)),some (.ref m)]
    have w1 : msAsg (mTags 2 a (F_law_tags c a)) (tgName 3) [some (.cst (.ref g)),none,some (.cst (.ref a)),none] st1 = .nx l s2:=by
      have t : mTags 2 a (F_law_tags c a) [some (.cst (.ref g)),none,some (.cst (.ref a)),none] st1 = .ok (.ref m) s2:=by
        unfold mTags
        simp only [List.getElem?_cons_succ,List.getElem?_cons_zero,if_true]
        exact q1 a
      rw [ev_msAsg,t]
      rfl
    have w2 : msIf (tB_ (m2 fNe (mL (f1 lenD) (maCons (mVar 3) maNil)) (mC (.int 1)))) (msRet (mLst (maCons (mC (.str "odd")) (maCons (mC (.str "")) maNil)))) msNil l s2 = .nx l s2:=by
      simp [l,q2]
    have t3 : tB_ (m2 fIn (m2 fIx (mVar 3) (mC (.int 0))) (mLst (maCons (mC (.str "frames")) (maCons (mC (.str "solid")) (maCons (mC (.str "sheets")) (maCons (mC (.str "plan")) (maCons (mC (.str "row")) (maCons (mC (.str "use")) (maCons (mC (.str "broken")) maNil))))))))) l s2 = .ok (decide (w ∈ iWords)) s3:=by
      have lw : mLst (maCons (mC (.str "frames")) (maCons (mC (.str "solid")) (maCons (mC (.str "sheets")) (maCons (mC (.str "plan")) (maCons (mC (.str "row")) (maCons (mC (.str "use")) (maCons (mC (.str "broken")) maNil))))))) l s2 = .ok (.ref s2.nxt) s3:=by
        simp [z7,s3]
      rw [ev_tB_,ev_m2,ix l s2 rfl q2,ev_bind_ok,lw,ev_bind_ok,ev_fIn,i3]
      rfl
    have t4 : tB_ (m2 fIn (m2 fIx (mVar 3) (mC (.int 0))) (mLst (maCons (mC (.str "fit")) (maCons (mC (.str "undo")) (maCons (mC (.str "painted")) maNil))))) l s3 = .ok (decide (w ∈ fWords)) s4:=by
      have lw : mLst (maCons (mC (.str "fit")) (maCons (mC (.str "undo")) (maCons (mC (.str "painted")) maNil))) l s3 = .ok (.ref s3.nxt) s4:=by
        simp [z3,s4]
      rw [ev_tB_,ev_m2,ix l s3 rfl h3,ev_bind_ok,lw,ev_bind_ok,ev_fIn,i4]
      rfl
    have c3 : msIf (tB_ (m2 fIn (m2 fIx (mVar 3) (mC (.int 0))) (mLst (maCons (mC (.str "frames")) (maCons (mC (.str "solid")) (maCons (mC (.str "sheets")) (maCons (mC (.str "plan")) (maCons (mC (.str "row")) (maCons (mC (.str "use")) (maCons (mC (.str "broken")) maNil)))))))))) (msRet (mLst (maCons (m2 fIx (mVar 3) (mC (.int 0))) (maCons (mL (f1 reprA) (maCons (mXf 2 a [] "index") maNil)) maNil)))) msNil l s2 = .nx l s3:=by
      rw [ev_msIf,t3,decide_eq_false hK.no]
      rfl
    refine (seq_nx w1).trans ((seq_nx w2).trans ((seq_nx c3).trans ?_))
    rw [ev_msSeq,ev_msIf,t4,decide_eq_true hK.yes]
    simp only [ev_toS_ok,if_true]
    have ce : mC (.str "") l s4 = .ok (.str "") s4:=rfl
    rw [ev_msRet,ev_mLst,ev_mL,ev_maCons,ix l s4 rfl h4,ev_bind_ok,ev_maCons,ce,ev_bind_ok,ev_maNil]
    simp only [ev_bind_ok]
    show (Res.ofO (if 2 ≤ sizeLine then some (D.ref s4.nxt,s4.new (.lst [.str w,.str ""])) else none)).toS _ _ = _
    rw [if_pos z2]
    rfl
  refine ⟨s4.nxt,sE,fun g => def_rt rfl rfl ?_,Store.new_same,Nat.lt_succ_self _,((q4.trans Kp.new).trans Kp.new).trans Kp.new⟩
  have a0 : msAsg (mAct 0 g Fd) (tgName 1) [some (.cst (.ref g)),none,none,none] st = .exc c [] [some (.cst (.ref g)),none,none,none] st1:=by
    have t : mAct 0 g Fd [some (.cst (.ref g)),none,none,none] st = .exc c [] st1:=by
      unfold mAct
      simp only [List.getElem?_cons_zero,if_true]
      exact e
    rw [ev_msAsg,t]
    rfl
  have tr : mTry 2 cs (msAsg (mAct 0 g Fd) (tgName 1)) caughtH [some (.cst (.ref g)),none,none,none] st = .rt (.ref s4.nxt) sE:=by
    unfold mTry
    rw [a0]
    simp only
    rw [if_pos hc,msDefR_eq (r:=.rt (.ref s4.nxt) sE) (fun a => body g a)]
    rfl
  show caughtB cs g Fd [some (.cst (.ref g)),none,none,none] st = _
  unfold caughtB
  rw [ev_msSeq,tr]
section
variable {st st0 : Store} {l : DV.Loc} {cs : List Nat}
def DoesZ (cs : List Nat) (Fd : Store → Res D) (st : Store) (y : Str × Str) : Prop:=DoesY cs Fd st y ∨ (y.2 = "" ∧ ∃ c st1,Fd st = .exc c [] st1 ∧ Keeps0 c y.1 ∧ c ∈ cs ∧ Kp [] st st1)
def DoesZQ (cs : List Nat) (Fd : Store → Res D) (st : Store) (Q : Str × Str → Prop) : Prop:=∃ y,Q y ∧ DoesZ cs Fd st y
theorem DoesQ.z {Fd : Store → Res D} {Q : Str × Str → Prop} (h : DoesQ cs Fd st Q) : DoesZQ cs Fd st Q:=by
  obtain ⟨y,hy,h⟩:=h
  exact ⟨y,hy,.inl h⟩
theorem DoesZQ.to {Fd Fd' : Store → Res D} {Q : Str × Str → Prop} (h : DoesZQ cs Fd st Q) (e : Fd' st = Fd st) : DoesZQ cs Fd' st Q:=by
  obtain ⟨y,hy,h⟩:=h
  refine ⟨y,hy,?_⟩
  unfold DoesZ DoesY
  rw [e]
  exact h
theorem DoesZQ.mono {Fd : Store → Res D} {Q R : Str × Str → Prop} (h : DoesZQ cs Fd st Q) (hQ : ∀ y,Q y → R y) : DoesZQ cs Fd st R:=by
  obtain ⟨y,hy,h⟩:=h
  exact ⟨y,hQ y hy,h⟩
end
theorem GotS.mv {st0 st st' : Store} {g k : Nat} {Q : Str × Str → Prop} (h : GotS st0 st g Q k) (q : Kp [] st st') : GotS st0 st' g Q k:=by
  obtain ⟨ns,ys,hg,hN,hn,hl,hm,gn,g0,k0⟩:=h
  exact ⟨ns,ys,q.get0 hg gn,hN.mv q,hn,hl,hm,Nat.lt_of_lt_of_le gn q.le,g0,k0.trans q⟩
section
variable {st st0 : Store} {o : Option (Str × Str)} {l : DV.Loc}
end
end G
namespace G
open DV PySem L2
theorem caught_many {d : D} {x : Str} {cs : List Nat} (hc : 33 ∈ cs) {Fd : Store → Res D} {st st1 : Store} (e : Fd st = .exc 33 [("limit",d)] st1) (hx : Shows st1 d x) :
    ∃ n st',(∀ g,F_law_caught cs g Fd [.cst (.ref g)] st = .ok (.ref n) st') ∧ st'.at_ n = some (.lst [.str "many",.str x]) ∧ n < st'.nxt ∧ Kp [] st1 st':=by
  have wk : wordsOf 33 tagW = [("many" : Str)]:=rfl
  have wt : TOk "many":=by decide +kernel
  have hw : ¬ ("many" : Str) ∈ iWords:=by decide +kernel
  have hw2 : ¬ ("many" : Str) ∈ fWords:=by decide +kernel
  obtain ⟨m,s2,q1,q2,q3,q4⟩:=tags_ok wk st1
  have z1 : (1 : Nat) ≤ sizeLine:=small_line (by decide)
  have z2 : (2 : Nat) ≤ sizeLine:=small_line (by decide)
  have z3 : (3 : Nat) ≤ sizeLine:=small_line (by decide)
  have z7 : (7 : Nat) ≤ sizeLine:=small_line (by decide)
  have ix : ∀ (l : DV.Loc) (s : Store),l[3]? = some (some (.ref m)) → s.at_ m = some (.lst [.str "many"]) → m2 fIx (mVar 3) (mC (.int 0)) l s = .ok (.str "many") s:=fun l s h1 h2 => by
    rw [ev_m2,ev_mVar,h1]
    simp [h2]
  let s3:=s2.new (.lst (iWords.map D.str))
  let s4:=s3.new (.lst (fWords.map D.str))
  have h3 : s3.at_ m = some (.lst [.str "many"]):=(Kp.new (js:=[])).get0 q2 q3
  have h3' : m < s3.nxt:=Nat.lt_succ_of_lt q3
  have h4 : s4.at_ m = some (.lst [.str "many"]):=(Kp.new (js:=[])).get0 h3 h3'
  have i3:=in_lst (st:=s3) (x:="many") (ys:=iWords) (m:=s2.nxt) Store.new_same wt iWords_t
  have i4:=in_lst (st:=s4) (x:="many") (ys:=fWords) (m:=s3.nxt) Store.new_same wt fWords_t
  have r3:=hx s3 (q4.trans Kp.new)
  have r4:=hx s4 ((q4.trans Kp.new).trans Kp.new)
  let sE:=s4.new (.lst [.str "many",.str x])
  let nE:=s4.nxt
  have body : ∀ g a,caughtH 33 [("limit",d)] a [some (.cst (.ref g)),none,some (.cst (.ref a)),none] st1 = .rt (.ref nE) sE:=by
    intro g a
    let l : DV.Loc:=[some (.cst (.ref g)),none,some (.cst (.ref a)),some (.ref m)]
    have w1 : msAsg (mTags 2 a (F_law_tags 33 a)) (tgName 3) [some (.cst (.ref g)),none,some (.cst (.ref a)),none] st1 = .nx l s2:=by
      have t : mTags 2 a (F_law_tags 33 a) [some (.cst (.ref g)),none,some (.cst (.ref a)),none] st1 = .ok (.ref m) s2:=by
        unfold mTags
        simp only [List.getElem?_cons_succ,List.getElem?_cons_zero,if_true]
        exact q1 a
      rw [ev_msAsg,t]
      rfl
    have w2 : msIf (tB_ (m2 fNe (mL (f1 lenD) (maCons (mVar 3) maNil)) (mC (.int 1)))) (msRet (mLst (maCons (mC (.str "odd")) (maCons (mC (.str "")) maNil)))) msNil l s2 = .nx l s2:=by
      simp [l,q2]
    have t3 : tB_ (m2 fIn (m2 fIx (mVar 3) (mC (.int 0))) (mLst (maCons (mC (.str "frames")) (maCons (mC (.str "solid")) (maCons (mC (.str "sheets")) (maCons (mC (.str "plan")) (maCons (mC (.str "row")) (maCons (mC (.str "use")) (maCons (mC (.str "broken")) maNil))))))))) l s2 = .ok (decide (("many" : Str) ∈ iWords)) s3:=by
      have lw : mLst (maCons (mC (.str "frames")) (maCons (mC (.str "solid")) (maCons (mC (.str "sheets")) (maCons (mC (.str "plan")) (maCons (mC (.str "row")) (maCons (mC (.str "use")) (maCons (mC (.str "broken")) maNil))))))) l s2 = .ok (.ref s2.nxt) s3:=by
        simp [z7,s3]
      rw [ev_tB_,ev_m2,ix l s2 rfl q2,ev_bind_ok,lw,ev_bind_ok,ev_fIn,i3]
      rfl
    have t4 : tB_ (m2 fIn (m2 fIx (mVar 3) (mC (.int 0))) (mLst (maCons (mC (.str "fit")) (maCons (mC (.str "undo")) (maCons (mC (.str "painted")) maNil))))) l s3 = .ok (decide (("many" : Str) ∈ fWords)) s4:=by
      have lw : mLst (maCons (mC (.str "fit")) (maCons (mC (.str "undo")) (maCons (mC (.str "painted")) maNil))) l s3 = .ok (.ref s3.nxt) s4:=by
        simp [z3,s4]
      rw [ev_tB_,ev_m2,ix l s3 rfl h3,ev_bind_ok,lw,ev_bind_ok,ev_fIn,i4]
      rfl
    refine (seq_nx w1).trans ((seq_nx w2).trans ?_)
    have c3 : msIf (tB_ (m2 fIn (m2 fIx (mVar 3) (mC (.int 0))) (mLst (maCons (mC (.str "frames")) (maCons (mC (.str "solid")) (maCons (mC (.str "sheets")) (maCons (mC (.str "plan")) (maCons (mC (.str "row")) (maCons (mC (.str "use")) (maCons (mC (.str "broken")) maNil)))))))))) (msRet (mLst (maCons (m2 fIx (mVar 3) (mC (.int 0))) (maCons (mL (f1 reprA) (maCons (mXf 2 a [("limit",d)] "index") maNil)) maNil)))) msNil l s2 = .nx l s3:=by
      rw [ev_msIf,t3,decide_eq_false hw]
      rfl
    have c4 : msIf (tB_ (m2 fIn (m2 fIx (mVar 3) (mC (.int 0))) (mLst (maCons (mC (.str "fit")) (maCons (mC (.str "undo")) (maCons (mC (.str "painted")) maNil)))))) (msRet (mLst (maCons (m2 fIx (mVar 3) (mC (.int 0))) (maCons (mC (.str "")) maNil)))) msNil l s3 = .nx l s4:=by
      rw [ev_msIf,t4,decide_eq_false hw2]
      rfl
    refine (seq_nx c3).trans ((seq_nx c4).trans ?_)
    have tm : tB_ (m2 fEq (m2 fIx (mVar 3) (mC (.int 0))) (mC (.str "many"))) l s4 = .ok true s4:=by
      have cm : mC (.str "many") l s4 = .ok (.str "many") s4:=rfl
      rw [ev_tB_,ev_m2,ix l s4 rfl h4,ev_bind_ok,cm,ev_bind_ok,str_eqE,decide_eq_true rfl]
      rfl
    have xf : mXf 2 a [("limit",d)] "limit" l s4 = .ok d s4:=by
      unfold mXf
      simp only [l,List.getElem?_cons_succ,List.getElem?_cons_zero,if_true]
      simp [List.lookup]
    have rp : mL (f1 reprA) (maCons (mIf (tB_ (m2 fEq (m2 fIx (mVar 3) (mC (.int 0))) (mC (.str "many")))) (mXf 2 a [("limit",d)] "limit") (mXf 2 a [("limit",d)] "given")) maNil) l s4 = .ok (.str x) s4:=by
      rw [ev_mL,ev_maCons,ev_mIf,tm,ev_bind_ok]
      simp only [if_true]
      rw [xf,ev_bind_ok,ev_maNil]
      simp only [ev_bind_ok,ev_f1]
      rw [r4]
      rfl
    rw [ev_msRet,ev_mLst,ev_mL,ev_maCons,ix l s4 rfl h4,ev_bind_ok,ev_maCons,rp,ev_bind_ok,ev_maNil]
    simp only [ev_bind_ok]
    show (Res.ofO (if 2 ≤ sizeLine then some (D.ref s4.nxt,s4.new (.lst [.str "many",.str x])) else none)).toS _ _ = _
    rw [if_pos z2]
    rfl
  refine ⟨nE,sE,fun g => def_rt rfl rfl ?_,?_,?_,?_⟩
  · have a0 : msAsg (mAct 0 g Fd) (tgName 1) [some (.cst (.ref g)),none,none,none] st = .exc 33 [("limit",d)] [some (.cst (.ref g)),none,none,none] st1:=by
      have t : mAct 0 g Fd [some (.cst (.ref g)),none,none,none] st = .exc 33 [("limit",d)] st1:=by
        unfold mAct
        simp only [List.getElem?_cons_zero,if_true]
        exact e
      rw [ev_msAsg,t]
      rfl
    have tr : mTry 2 cs (msAsg (mAct 0 g Fd) (tgName 1)) caughtH [some (.cst (.ref g)),none,none,none] st = .rt (.ref nE) sE:=by
      unfold mTry
      rw [a0]
      simp only
      rw [if_pos hc,msDefR_eq (r:=.rt (.ref nE) sE) (fun a => body g a)]
      rfl
    show caughtB cs g Fd [some (.cst (.ref g)),none,none,none] st = _
    unfold caughtB
    rw [ev_msSeq,tr]
  · exact Store.new_same
  · exact Nat.lt_succ_self _
  · exact ((q4.trans Kp.new).trans Kp.new).trans Kp.new
end G
namespace G
open DV PySem L2
section
variable {l l' : DV.Loc} {s s1 s2 s3 s4 : Store}
theorem seq_go {a b : MS} {r : RS} (h : a l s = .nx l' s1) (h2 : b l' s1 = r) : msSeq a b l s = r:=by rw [ev_msSeq,h]; exact h2
theorem nil_is : maNil l s = .ok [] s:=rfl
theorem cons_is {a : ME} {b : MA} {x : D} {xs : List D} (h : a l s = .ok x s1) (h2 : b l s1 = .ok xs s2) : maCons a b l s = .ok (x :: xs) s2:=by
  rw [ev_maCons,h,ev_bind_ok,h2]
  rfl
theorem call_is {F : FD} {dd : List D} {a : MA} {ds : List D} {r : Res D} (h : a l s = .ok ds s1) (e : F (ds ++ dd) s1 = r) : mCall F dd a l s = r:=by
  rw [ev_mCall,h]
  exact e
theorem m2_is {f : F2} {a b : ME} {x y d : D} (h : a l s = .ok x s1) (h2 : b l s1 = .ok y s2) (e : f x y s2 = some (d,s3)) : m2 f a b l s = .ok d s3:=by
  rw [ev_m2,h,ev_bind_ok,h2,ev_bind_ok,e]
  rfl
theorem mL_is {f : DV.FL} {a : MA} {ds : List D} {d : D} (h : a l s = .ok ds s1) (e : f ds s1 = some (d,s2)) : mL f a l s = .ok d s2:=by
  rw [ev_mL,h,ev_bind_ok,e]
  rfl
theorem lst_is {a : MA} {ds : List D} (h : a l s = .ok ds s1) (hl : ds.length ≤ 1000) : mLst a l s = .ok (.ref s1.nxt) (s1.new (.lst ds)):=by
  rw [ev_mLst]
  exact mL_is h (by rw [ev_fLst,if_pos (small_line hl)])
theorem tup_is {a : MA} {ds : List D} (h : a l s = .ok ds s1) (hl : ds.length ≤ 1000) : mTup a l s = .ok (.tup ds) s1:=by
  rw [ev_mTup]
  exact mL_is h (by rw [ev_fTup,if_pos (small_line hl)])
theorem tb_is {m : ME} {b : Bool} (h : m l s = .ok (.bl b) s1) : tB_ m l s = .ok b s1:=by
  rw [ev_tB_,h]
  rfl
theorem and_f {a b : MT} (h : a l s = .ok false s1) : tAnd_ a b l s = .ok false s1:=by
  rw [ev_tAnd_,h]
  rfl
theorem and_t {a b : MT} {r : Res Bool} (h : a l s = .ok true s1) (h2 : b l s1 = r) : tAnd_ a b l s = r:=by
  rw [ev_tAnd_,h]
  exact h2
theorem or_f {a b : MT} {r : Res Bool} (h : a l s = .ok false s1) (h2 : b l s1 = r) : tOr_ a b l s = r:=by
  rw [ev_tOr_,h]
  exact h2
theorem mif_t {c : MT} {a b : ME} {r : Res D} (h : c l s = .ok true s1) (e : a l s1 = r) : mIf c a b l s = r:=by
  rw [ev_mIf,h,ev_bind_ok,if_pos rfl]
  exact e
theorem mif_f {c : MT} {a b : ME} {r : Res D} (h : c l s = .ok false s1) (e : b l s1 = r) : mIf c a b l s = r:=by
  rw [ev_mIf,h,ev_bind_ok,if_neg (by simp)]
  exact e
theorem if_t {c : MT} {a b : MS} {r : RS} (h : c l s = .ok true s1) (e : a l s1 = r) : msIf c a b l s = r:=by
  rw [ev_msIf,h]
  exact e
theorem if_f {c : MT} {a b : MS} {r : RS} (h : c l s = .ok false s1) (e : b l s1 = r) : msIf c a b l s = r:=by
  rw [ev_msIf,h]
  exact e
theorem if_fn {c : MT} {a : MS} (h : c l s = .ok false s1) : msIf c a msNil l s = .nx l s1:=if_f h rfl
theorem asg_is {m : ME} {t : TGT} {d : D} (h : m l s = .ok d s1) (e : t d l s1 = some l') : msAsg m t l s = .nx l' s1:=by
  rw [ev_msAsg,h,ev_toS_ok]
  simp only [e]
theorem asg_n {m : ME} {i : Nat} {d : D} (h : m l s = .ok d s1) (e : l.set i (some d) = l') : msAsg m (tgName i) l s = .nx l' s1:=asg_is h (by rw [ev_tgName,e])
theorem expr_is {m : ME} {d : D} (h : m l s = .ok d s1) : msExpr m l s = .nx l s1:=by
  rw [ev_msExpr,h]
  rfl
theorem ret_is {m : ME} {d : D} (h : m l s = .ok d s1) : msRet m l s = .rt d s1:=by
  rw [ev_msRet,h]
  rfl
theorem seq_is {m : ME} {d : D} {it : Iter} (h : m l s = .ok d s1) (e : seqOf d s1 = some it) : miSeq m l s = .ok it s1:=by
  rw [ev_miSeq,h,ev_bind_ok]
  simp only [e]
theorem tup_add {xs ys : List D} (h : xs.length + ys.length ≤ 1000) : fAdd (.tup xs) (.tup ys) s = some (.tup (xs ++ ys),s):=by
  rw [ev_fAdd]
  simp only [if_pos (small_line h)]
theorem len_tup {xs : List D} : f1 lenD [.tup xs] s = some (.int (xs.length : Int),s):=rfl
theorem ix_lst {m : Nat} {xs : List D} {i : Int} {d : D} (h : s.at_ m = some (.lst xs)) (e : atI xs i = some d) : fIx (.ref m) (.int i) s = some (d,s):=by
  rw [ev_fIx]
  simp only [h,e]
  rfl
end
end G
namespace G
open DV PySem L2
section
variable {k : Int}
def Box.far (c : Box) (k : Int) : Box:=⟨c.l * k,c.t * k,c.r * k,c.b * k⟩
variable {p : Pic}
variable {q : Pic}
end
end G
namespace G
open DV PySem L2
section
variable {n1 n2 : Nat} {p q : Pic} {w1 w2 : Str} {s : Stand} {st : Store}
end
structure MatesW (p q : Pic) : Prop where
  dp : p.Ok
  dq : q.Ok
  W : q.W = p.W
  Hh : q.Hh = p.Hh
  firm : q.firm = p.firm
  l16 : (p.fs ++ q.fs).length ≤ 16
section
variable {p q : Pic} {w1 w2 : Str} {n1 n2 : Nat} {st : Store}
def alikeB (p q : Pic) (w1 w2 : Str) (s : Stand) : Bool:=decide (p.fs.length = q.fs.length) && noneU p q w1 w2 s
end
end G
namespace G
open DV PySem L2
inductive Pl (st : Store) : D → Prop
  | mk {d : D} (h : ∀ s,Kp [] st s → Plain s d) (hz : ∀ x,d = .str x → x.length ≤ 1000) (r : ∀ ds,d = .tup ds → ∀ e ∈ ds,Pl st e) : Pl st d
section
variable {st : Store} {d : D}
theorem Pl.plain (h : Pl st d) : Plain st d:=by cases h with | mk h _ _ => exact h st Kp.refl
theorem Pl.len (h : Pl st d) {x : Str} (e : d = .str x) : x.length ≤ sizeLine:=by cases h with | mk _ hz _ => exact small_line (hz x e)
theorem Pl.el {ds : List D} (h : Pl st (.tup ds)) {e : D} (he : e ∈ ds) : Pl st e:=by cases h with | mk _ _ r => exact r ds rfl e he
theorem Pl.r (h : Pl st d) : PlainR st d:=⟨h.plain,fun ds e x hx => by subst e; exact (h.el hx).plain⟩
theorem Pl.mv {st' : Store} (h : Pl st d) (k : Kp [] st st') : Pl st' d:=by
  induction h with
  | mk h hz r ih => exact .mk (fun s q => h s (k.trans q)) hz fun ds e x hx => ih ds e x hx
end
theorem loopS_exc {t : TGT} {body : MS} {srcs : List (Nat × Cell)} {l l1 l2 : DV.Loc} {d : D} {ds : List D} {st st2 : Store} {c : Nat} {fs : List (Str × D)} (so : SrcOk srcs st) (ht : t d l st = some l1) (hb : body l1 st = .exc c fs l2 st2) : loopS t body srcs (d :: ds) l st = .exc c fs l2 st2:=by
  rw [loopS.eq_def]
  simp only [if_pos so,ht,hb]
section
variable {st : Store}
end
end G
namespace G
open DV PySem L2
section
variable {st : Store}
end
end G
namespace G
open DV PySem L2
section
variable {st : Store}
end
end G
namespace G
open DV PySem L2
theorem char_lt (c : Char) : c.toNat < 1114112:=by
  rcases c.valid with h | ⟨_,h⟩
  · exact Nat.lt_trans h (by decide)
  · exact h
theorem reprChar_lt {q c : Nat} (hq : q < 1114112) (hc : c < 1114112) : ∀ d ∈ Builtin.Str.reprChar q c,d < 1114112:=by
  have hx : ∀ w d,d ∈ (List.replicate (w - ((Nat.toDigits 16 c).map Char.toNat).length) 48 ++ (Nat.toDigits 16 c).map Char.toNat) → d < 1114112:=fun w d hd => by
    rcases List.mem_append.mp hd with h | h
    · rw [List.eq_of_mem_replicate h]; decide
    · obtain ⟨k,_,rfl⟩:=List.mem_map.mp h
      exact char_lt k
  intro d hd
  unfold Builtin.Str.reprChar at hd
  dsimp only at hd
  repeat' split at hd
  all_goals first
    | (simp only [List.mem_cons,List.not_mem_nil,or_false] at hd; rcases hd with rfl | rfl <;> omega)
    | (simp only [List.mem_cons,List.not_mem_nil,or_false] at hd; omega)
    | (rcases List.mem_append.mp hd with h | h
       · simp only [List.mem_cons,List.not_mem_nil,or_false] at h
         rcases h with rfl | rfl <;> omega
       · exact hx _ d h)
theorem foldl_lt {q : Nat} (hq : q < 1114112) : ∀ (l : List Nat) (acc : Array Nat),(∀ c ∈ l,c < 1114112) → (∀ c ∈ acc.toList,c < 1114112) → ∀ c ∈ (l.foldl (fun out c => out ++ (Builtin.Str.reprChar q c).toArray) acc).toList,c < 1114112
  | [],acc,_,h => h
  | c :: r,acc,hl,h => by
    rw [List.foldl_cons]
    refine foldl_lt hq r _ (fun d hd => hl d (List.mem_cons_of_mem _ hd)) fun d hd => ?_
    rw [Array.toList_append] at hd
    rcases List.mem_append.mp hd with hd | hd
    · exact h d hd
    · exact reprChar_lt hq (hl c List.mem_cons_self) d hd
theorem tok_iff {x : Str} : TOk x ↔ ∀ c ∈ x.cps.toList,c < 1114112:=by
  have e : PyData.strOk x = x.cps.toList.all fun c => decide (c < 1114112):=by
    show x.cps.all _ = _
    rw [← Array.all_toList]
  show PyData.strOk x = true ↔ _
  rw [e,List.all_eq_true]
  exact ⟨fun h c hc => of_decide_eq_true (h c hc),fun h c hc => decide_eq_true (h c hc)⟩
theorem tok_repr {x : Str} (h : TOk x) : TOk (reprText x):=by
  have hx:=tok_iff.mp h
  have hq : reprQuote x < 1114112:=by
    unfold reprQuote
    split <;> decide
  refine tok_iff.mpr fun c hc => ?_
  unfold reprText at hc
  rw [Array.toList_push,← Array.foldl_toList] at hc
  rcases List.mem_append.mp hc with hc | hc
  · refine foldl_lt hq _ _ hx (fun d hd => ?_) c hc
    have : d = reprQuote x:=List.mem_singleton.mp hd
    rw [this]
    exact hq
  · rw [List.mem_singleton.mp hc]
    exact hq
structure Dv (st : Store) (d : D) (z : PyData) (m lv : Nat) : Prop where
  v : Val st d z.shown
  dat : ∀ s,Kp [] st s → ∀ k,toData s (k + lv) d = some z
  sh : Shw z m
  pl : Pl st d
def DvJ (j : Nat) (st : Store) (d : D) (m lv : Nat) : Prop:=∀ s,Kp [j] st s → ∃ z,Dv s d z m lv
theorem DvJ.mv {j : Nat} {st st' : Store} {d : D} {m lv : Nat} (h : DvJ j st d m lv) (k : Kp [j] st st') : DvJ j st' d m lv:=fun s q => h s (k.trans q)
theorem Dv.mono {st : Store} {d : D} {z : PyData} {m lv m' lv' : Nat} (h : Dv st d z m lv) (hm : m ≤ m') (hl : lv ≤ lv') : Dv st d z m' lv':=⟨h.v,fun s q k => by
  have:=h.dat s q (k + (lv' - lv))
  rw [show k + (lv' - lv) + lv = k + lv' by omega] at this
  exact this,h.sh.mono hm,h.pl⟩
theorem DvJ.mono {j : Nat} {st : Store} {d : D} {m lv m' lv' : Nat} (h : DvJ j st d m lv) (hm : m ≤ m') (hl : lv ≤ lv') : DvJ j st d m' lv':=fun s q => let ⟨z,hz⟩:=h s q; ⟨z,hz.mono hm hl⟩
section
variable {j : Nat} {st : Store}
end
end G
namespace G
open DV PySem L2
section
variable {st : Store} {p q : Pic} {n : Nat}
end
section
variable {p : Pic} {n : Nat} {st : Store}
end
section
variable {st : Store} {p q : Pic}
def fitB (p q : Pic) : Bool:=decide (p.W = q.W ∧ p.Hh = q.Hh ∧ p.firm = q.firm)
end
end G
namespace G
open DV PySem L2
abbrev FL:=List (Str × Nat × Pic)
def dicF (fl : FL) : List (Key × D):=fl.map fun f => (Sum.inr f.1,D.ref f.2.1)
structure FilmsAt (st : Store) (m : Nat) (fl : FL) : Prop where
  dic : st.at_ m = some (.dic (dicF fl))
  lt : m < st.nxt
  film : ∀ f ∈ fl,FilmAt st f.2.1 f.2.2 ∧ f.2.1 < st.nxt ∧ f.2.2.Ok
def lookF : FL → Str → Option (Nat × Pic)
  | [],_ => none
  | f :: r,x => if f.1 = x then some f.2 else lookF r x
section
variable {st : Store} {m : Nat} {fl : FL}
theorem FilmsAt.mv {st' : Store} {js : List Nat} (h : FilmsAt st m fl) (k : Kp js st st') (hm : m ∉ js) (hf : ∀ f ∈ fl,f.2.1 ∉ js) : FilmsAt st' m fl:=
  ⟨k.get h.dic h.lt hm,Nat.lt_of_lt_of_le h.lt k.le,fun f hx => let ⟨a,b,c⟩:=h.film f hx; ⟨k.get a b (hf f hx),Nat.lt_of_lt_of_le b k.le,c⟩⟩
theorem FilmsAt.mv0 {st' : Store} (h : FilmsAt st m fl) (k : Kp [] st st') : FilmsAt st' m fl:=h.mv k (by simp) (by simp)
theorem look_films : ∀ (fl : FL) (x : Str),dLook (dicF fl) (Sum.inr x) = (lookF fl x).map fun y => D.ref y.1
  | [],x => rfl
  | f :: r,x => by
    have ih:=look_films r x
    unfold dLook dicF at ih ⊢
    unfold lookF
    by_cases e : f.1 = x
    · simp [e]
    · rw [List.map_cons,List.find?_cons_of_neg (by simp [e]),if_neg e]
      exact ih
theorem look_mem : ∀ {fl : FL} {x : Str} {y : Nat × Pic},lookF fl x = some y → (x,y) ∈ fl
  | [],x,y,h => by cases h
  | f :: r,x,y,h => by
    unfold lookF at h
    by_cases e : f.1 = x
    · rw [if_pos e] at h
      cases h
      rw [← e]
      exact List.mem_cons_self
    · rw [if_neg e] at h
      exact List.mem_cons_of_mem _ (look_mem h)
theorem FilmsAt.get (h : FilmsAt st m fl) {x : Str} {y : Nat × Pic} (e : lookF fl x = some y) : FilmAt st y.1 y.2 ∧ y.1 < st.nxt ∧ y.2.Ok:=h.film _ (look_mem e)
theorem FilmsAt.ix (h : FilmsAt st m fl) {x : Str} {y : Nat × Pic} (e : lookF fl x = some y) : fIx (.ref m) (.str x) st = some (.ref y.1,st):=by
  rw [ev_fIx]
  simp only [h.dic]
  show (dLook (dicF fl) (Sum.inr x)).map _ = _
  rw [look_films,e]
  rfl
end
inductive Hp
  | alike (a b w : Str)
  | again (a w : Str)
  | amid (a : Str) (i : Nat)
  | told (a x : Str)
def Hp.d : Hp → D
  | .alike a b w => .tup [.str "alike",.str a,.str b,.str w]
  | .again a w => .tup [.str "again",.str a,.str w]
  | .amid a i => .tup [.str "amid",.str a,.int (i : Int)]
  | .told a x => .tup [.str "told",.str a,.str x]
def Hp.names : Hp → List Str
  | .alike a b _ => [a,b]
  | .again a _ => [a]
  | .amid a _ => [a]
  | .told a _ => [a]
def Hp.Good : Hp → Prop
  | .alike a b w => nmB a = true ∧ nmB b = true ∧ w ∈ players
  | .again a w => nmB a = true ∧ w ∈ players
  | .amid a i => nmB a = true ∧ i ≤ 7
  | .told a x => nmB a = true ∧ nmB x = true
def againB (p : Pic) (w : Str) : Bool:=decide (∀ b,b < p.fs.length → firstC (diffA p w "on") (cellsL p) b = none)
def amidB (p : Pic) (i : Nat) : Bool:=decide (i ∈ (List.range p.fs.length).filter (begP p))
def toldB (p : Pic) (x : Str) : Bool:=decide (x ∈ (picsL p).filter (whollyB p))
def Hp.holds (fl : FL) : Hp → Bool
  | .alike a b w => (match lookF fl a,lookF fl b with
    | some p,some q => fitB p.2 q.2 && alikeB p.2 q.2 "full" w (from0 "empty")
    | _,_ => false)
  | .again a w => (match lookF fl a with
    | some p => againB p.2 w
    | none => false)
  | .amid a i => (match lookF fl a with
    | some p => amidB p.2 i
    | none => false)
  | .told a x => (match lookF fl a with
    | some p => toldB p.2 x
    | none => false)
section
variable {st : Store} {m n1 n2 n : Nat} {fl : FL} {p q : Pic}
theorem ix_tup {st : Store} {l : DV.Loc} {i j : Nat} {ds : List D} {d : D} (hi : l[i]? = some (some (.tup ds))) (hj : ds[j]? = some d) : m2 fIx (mVar i) (mC (.int (j : Int))) l st = .ok d st:=by
  have lt : j < ds.length:=(List.getElem?_eq_some_iff.mp hj).1
  have at0 : atI ds (j : Int) = some d:=by
    unfold atI ixN
    rw [if_pos (by omega),if_pos (by omega)]
    simp [hj]
  rw [ev_m2,ev_mVar,hi]
  show ((Res.ok (D.tup ds) st).bind _) = _
  rw [ev_bind_ok,ev_mC,ev_bind_ok]
  show Res.ofO ((atI ds (j : Int)).map fun d => (d,st)) = _
  rw [at0]
  rfl
end
end G
namespace G
open DV PySem L2
def Fix (fs : List (Nat × D)) (n : Nat) (l : DV.Loc) : Prop:=l.length = n ∧ ∀ q ∈ fs,l[q.1]? = some (some q.2)
theorem Fix.set {fs : List (Nat × D)} {n i : Nat} {l : DV.Loc} {d : D} (h : Fix fs n l) (hi : ∀ q ∈ fs,q.1 ≠ i) : Fix fs n (l.set i (some d)):=
  ⟨by rw [List.length_set]; exact h.1,fun q hq => by rw [List.getElem?_set_ne (fun e => hi q hq e.symm)]; exact h.2 q hq⟩
theorem Fix.at_ {fs : List (Nat × D)} {n i : Nat} {l : DV.Loc} {d : D} (h : Fix fs n l) (hi : (i,d) ∈ fs) : l[i]? = some (some d):=h.2 _ hi
theorem var_is {l : DV.Loc} {i : Nat} {d : D} {s : Store} (h : l[i]? = some (some d)) : mVar i l s = .ok d s:=by rw [ev_mVar,h]
section
variable {p q : Pic} {w : Str} {st : Store}
theorem pic_ix {l : DV.Loc} {i k : Nat} {d : D} {s : Store} (h : l[i]? = some (some p.d)) (e : atI [.int p.W,.int p.Hh,.tup (p.fs.map Fr.d),.tup (p.firm.map D.str)] (k : Int) = some d) : m2 fIx (mVar i) (mC (.int (k : Int))) l s = .ok d s:=by
  refine m2_is (var_is h) rfl ?_
  unfold Pic.d
  rw [ev_fIx]
  simp only [e]
  rfl
theorem trial {fs : List (Nat × D)} {n a b : Nat} {L1 L2 : MS} {P : Int × Int → Pat → Bool} {l : DV.Loc} (hF : Fix fs n l) (p0 : (0,p.d) ∈ fs) (ha : ∀ q ∈ fs,q.1 ≠ a) (hb : ∀ q ∈ fs,q.1 ≠ b) (ab : a ≠ b) (an : a < n) (bn : b < n)
    (hL : L2 = msFor (miSeq (mCall F_law_patterns [] (maCons (m2 fIx (mVar 0) (mC (.int 3))) maNil))) (tgName b) L1)
    (hW : 0 < p.W) (hW2 : p.W ≤ 30) (hH : 0 < p.Hh) (hH2 : p.Hh ≤ 30) (hfirm : ∀ z ∈ p.firm,TOk z)
    (step : ∀ pt ∈ dotsL p.W p.Hh,∀ pat ∈ patsL p.firm,∀ r l st2,Fix fs n l → l[a]? = some (some (dotD pt)) → l[b]? = some (some (.ref r)) → Kp [] st st2 → PatOk st2 inks (r,pat) →
      (if P pt pat = true then ∃ l2 st3,L1 l st2 = .nx l2 st3 ∧ Fix fs n l2 ∧ l2[a]? = some (some (dotD pt)) ∧ Kp [] st2 st3 else ∃ st3,L1 l st2 = .rt (.bl false) st3 ∧ Kp [] st2 st3)) :
    (if ((dotsL p.W p.Hh).all fun pt => (patsL p.firm).all (P pt)) = true then ∃ l2 st3,msFor (miSeq (mCall F_law_dots [] (maCons (mVar 0) maNil))) (tgName a) L2 l st = .nx l2 st3 ∧ Fix fs n l2 ∧ Kp [] st st3 else ∃ st3,msFor (miSeq (mCall F_law_dots [] (maCons (mVar 0) maNil))) (tgName a) L2 l st = .rt (.bl false) st3 ∧ Kp [] st st3):=by
  refine dots_all (p:=p) (J:=Fix fs n) (Q:=fun pt => (patsL p.firm).all (P pt)) (d3:=.tup (p.fs.map Fr.d)) (d4:=.tup (p.firm.map D.str)) hW hW2 hH hH2 (fun m s1 e xs h => seq_is (call_is (ds:=[p.d]) (s1:=st) (cons_is (var_is (hF.at_ p0)) rfl) e) (by rw [ev_seqOf]; simp only [h])) hF fun pt hpt l1 s1 hF1 k1 => ?_
  have hF2:=hF1.set (d:=dotD pt) ha
  have at_ : (l1.set a (some (dotD pt)))[a]? = some (some (dotD pt)):=List.getElem?_set_self (by rw [hF1.1]; exact an)
  have q:=pats_loop (J:=fun l => Fix fs n l ∧ l[a]? = some (some (dotD pt))) (body:=L1) (i:=b) (Q:=P pt) (bad:=.bl false) (firm:=p.firm) (l:=l1.set a (some (dotD pt))) (st:=s1) (mi:=miSeq (mCall F_law_patterns [] (maCons (m2 fIx (mVar 0) (mC (.int 3))) maNil))) hfirm
    (fun m s2 e xs h => seq_is (call_is (ds:=[.tup (p.firm.map D.str)]) (s1:=s1) (cons_is (pic_ix (k:=3) (hF2.at_ p0) (atI3 ..)) rfl) e) (by rw [ev_seqOf]; simp only [h])) ⟨hF2,at_⟩ (fun pat hpat r l st2 hl hk ha' => by
      have z:=step pt hpt pat hpat r (l.set b (some (.ref r))) st2 (hl.1.set hb) (by rw [List.getElem?_set_ne (fun e => ab e.symm)]; exact hl.2) (List.getElem?_set_self (by rw [hl.1.1]; exact bn)) (k1.trans hk) ha'
      split
      · rename_i w
        rw [if_pos w] at z
        obtain ⟨l2,s3,e,f,g,k⟩:=z
        exact ⟨l2,s3,e,⟨f,g⟩,k⟩
      · rename_i w
        rw [if_neg w] at z
        exact z)
  rw [hL]
  split
  · rename_i w
    rw [if_pos w] at q
    obtain ⟨l2,s3,e,f,k⟩:=q
    exact ⟨l2,s3,e,f.1,k⟩
  · rename_i w
    rw [if_neg w] at q
    exact q
structure Sm (p : Pic) : Prop extends Pic.Ok p where
  inks : ∀ f ∈ p.fs,f.ink ∈ G.inks
  Ww : p.W ≤ 30
  Hw : p.Hh ≤ 30
end
end G
namespace L58
open DV G PySem L2
inductive En where
  | back (k : Nat)
  | non
  | key
  | zero
  | many (k : Nat)
  | unk
  | undo
def doneP (k : Nat) : PyData:=.tuple [.str "done",.int (k : Int)]
def doneD (k : Nat) : D:=.tup [.str "done",.int (k : Int)]
def En.res : En → Store → Res D
  | .back k,st => .ok (doneD k) st
  | .non,st => .ok .non st
  | .key,st => .exc 1000 [] st
  | .zero,st => .exc 1001 [] st
  | .many k,st => .exc 33 [("limit",.int (k : Int))] st
  | .unk,st => .exc 27 [("given",.str "nobody")] st
  | .undo,st => .exc 30 [] st
def En.txt : En → Str × Str
  | .back k => ("back",(doneP k).shown)
  | .non => ("back","None")
  | .key => ("key","")
  | .zero => ("zero","")
  | .many k => ("many",sI (k : Int))
  | .unk => ("unknown","'nobody'")
  | .undo => ("undo","")
def En.good : En → Bool
  | .back _ => true
  | .non => true
  | _ => false
def En.Ok : En → Prop
  | .back k => k < 100
  | .many k => k < 100
  | _ => True
theorem done_t (k : Nat) : TOk (doneP k).shown:=by
  refine tok_tuple fun d hd => ?_
  simp only [List.mem_cons,List.not_mem_nil,or_false] at hd
  rcases hd with rfl | rfl
  · decide +kernel
  · exact tok_int _
theorem done_data {st : Store} {n k : Nat} : toData st (n + 2) (doneD k) = some (doneP k):=toData_tup (n:=n + 1) (by
  have h : toData st (n + 1) (.str "done") = some (.str "done"):=toData_str (by decide +kernel)
  have h2 : toData st (n + 1) (.int (k : Int)) = some (.int (k : Int)):=rfl
  simp only [optL,h,h2])
theorem done_shw {k : Nat} (h : k < 100) : Shw (doneP k) 1000:=by
  refine (shw_tuple (n:=300) fun d hd => ?_).mono (by simp)
  simp only [List.mem_cons,List.not_mem_nil,or_false] at hd
  rcases hd with rfl | rfl
  · exact (shw_str (by decide +kernel)).mono (by decide)
  · exact (shw_int (by omega)).mono (by decide)
theorem done_repr {k : Nat} (h : k < 100) {st : Store} : reprA (doneD k) st = some (.str (doneP k).shown,st):=reprA_tup (repr_tup (n:=1000) (done_data (n:=18)) (done_shw h) (by decide))
section
variable {st st1 : Store} {Fd : Store → Res D}
theorem caught_py {c : Nat} (hc : c ∉ csL) (big : 1000 ≤ c) (e : Fd st = .exc c [] st1) (g : Addr) : F_law_caught csL g Fd [.cst (.ref g)] st = .exc c [] st1:=by
  let l0 : DV.Loc:=[some (.cst (.ref g)),none,none,none]
  have a0 : msAsg (mAct 0 g Fd) (tgName 1) l0 st = .exc c [] l0 st1:=by
    have t : mAct 0 g Fd l0 st = .exc c [] st1:=by
      unfold mAct
      simp only [l0,List.getElem?_cons_zero,if_true]
      exact e
    rw [ev_msAsg,t]
    rfl
  have tr : mTry 2 csL (msAsg (mAct 0 g Fd) (tgName 1)) caughtH l0 st = .exc c [] l0 st1:=by
    unfold mTry
    rw [a0]
    simp only
    rw [if_neg hc,if_pos big]
  exact def_exc (l:=l0) (l':=l0) rfl rfl (seq_exc tr)
theorem went_of {n : Nat} {s2 : Store} (e : ∀ g,F_law_caught csL g Fd [.cst (.ref g)] st = .ok (.ref n) s2) (g : Addr) : F_law_went g Fd [.cst (.ref g)] st = .ok (.ref n) s2:=by
  let l0 : DV.Loc:=[some (.cst (.ref g)),none]
  let l1 : DV.Loc:=[some (.cst (.ref g)),some (.ref n)]
  have w : msAsg (mFwd 0 (F_law_caught csL) g Fd) (tgName 1) l0 st = .nx l1 s2:=asg_n (d:=.ref n) (by
    unfold mFwd
    simp only [l0,List.getElem?_cons_zero,if_true]
    exact e g) rfl
  refine def_rt (l:=l0) rfl rfl (seq_go (l':=l1) (s1:=s2) ?_ (ret_is rfl))
  unfold mTryPy
  rw [w]
theorem went_py {c : Nat} {w : Str} (hc : c ∉ csL) (hw : c = 1000 ∧ w = "key" ∨ c = 1001 ∧ w = "zero") (e : Fd st = .exc c [] st1) (g : Addr) : F_law_went g Fd [.cst (.ref g)] st = .ok (.ref st1.nxt) (st1.new (.lst [.str w,.str ""])):=by
  let l0 : DV.Loc:=[some (.cst (.ref g)),none]
  have big : 1000 ≤ c:=by rcases hw with h | h <;> omega
  have w0 : msAsg (mFwd 0 (F_law_caught csL) g Fd) (tgName 1) l0 st = .exc c [] l0 st1:=by
    have t : mFwd 0 (F_law_caught csL) g Fd l0 st = .exc c [] st1:=by
      unfold mFwd
      simp only [l0,List.getElem?_cons_zero,if_true]
      exact caught_py hc big e g
    rw [ev_msAsg,t]
    rfl
  have r : ∀ y : Str,msRet (mLst (maCons (mC (.str y)) (maCons (mC (.str "")) maNil))) l0 st1 = .rt (.ref st1.nxt) (st1.new (.lst [.str y,.str ""])):=fun y =>
    ret_is (lst_is (cons_is (x:=.str y) (s1:=st1) rfl (cons_is (x:=.str "") (s1:=st1) rfl nil_is)) (by simp))
  refine def_rt (l:=l0) rfl rfl ?_
  have t : mTryPy (msAsg (mFwd 0 (F_law_caught csL) g Fd) (tgName 1)) (msRet (mLst (maCons (mC (.str "key")) (maCons (mC (.str "")) maNil)))) (msRet (mLst (maCons (mC (.str "zero")) (maCons (mC (.str "")) maNil)))) l0 st = .rt (.ref st1.nxt) (st1.new (.lst [.str w,.str ""])):=by
    unfold mTryPy
    rw [w0]
    simp only
    rcases hw with ⟨rfl,rfl⟩ | ⟨rfl,rfl⟩
    · rw [if_pos rfl,r]; rfl
    · rw [if_neg (by decide),if_pos rfl,r]; rfl
  rw [ev_msSeq,t]
theorem shows_int {k : Nat} (h : k < 100) : Shows st (.int (k : Int)) (sI (k : Int)):=fun s q => (val_int (st:=st) (log_small (i:=(k : Int)) (by omega))).sh s q
theorem keeps_unk : Keeps 27 "unknown" "given":=⟨by decide +kernel,.inr ⟨rfl,by decide +kernel,by decide +kernel,by decide +kernel⟩,by decide +kernel⟩
theorem keeps_undo : Keeps0 30 "undo":=⟨rfl,by decide +kernel,by decide +kernel,by decide +kernel⟩
theorem went_ok {x : En} (hx : x.Ok) (e : Fd st = x.res st1) : ∃ n s2,(∀ g,F_law_went g Fd [.cst (.ref g)] st = .ok (.ref n) s2) ∧ s2.at_ n = some (.lst [.str x.txt.1,.str x.txt.2]) ∧ n < s2.nxt ∧ Kp [] st1 s2:=by
  cases x with
  | back k =>
    obtain ⟨n,s2,q1,q2,q3,q4⟩:=caught_ok (cs:=csL) e (done_repr hx)
    exact ⟨n,s2,went_of q1,q2,q3,q4⟩
  | non =>
    obtain ⟨n,s2,q1,q2,q3,q4⟩:=caught_ok (cs:=csL) (x:="None") e rfl
    exact ⟨n,s2,went_of q1,q2,q3,q4⟩
  | key => exact ⟨_,_,went_py (by decide) (.inl ⟨rfl,rfl⟩) e,Store.new_same,Nat.lt_succ_self _,Kp.new⟩
  | zero => exact ⟨_,_,went_py (by decide) (.inr ⟨rfl,rfl⟩) e,Store.new_same,Nat.lt_succ_self _,Kp.new⟩
  | many k =>
    obtain ⟨n,s2,q1,q2,q3,q4⟩:=caught_many (cs:=csL) (by decide) e (shows_int hx)
    exact ⟨n,s2,went_of q1,q2,q3,q4⟩
  | unk =>
    obtain ⟨n,s2,q1,q2,q3,q4⟩:=caught_exc (cs:=csL) keeps_unk (by decide) e (x:="'nobody'") (fun s _ => by
      have a:=(val_str (st:=s) (x:="nobody") (by decide +kernel) (by decide +kernel) (by decide +kernel)).sh s Kp.refl
      have b : reprText "nobody" = "'nobody'":=by decide +kernel
      rw [b] at a
      exact a)
    exact ⟨n,s2,went_of q1,q2,q3,q4⟩
  | undo =>
    obtain ⟨n,s2,q1,q2,q3,q4⟩:=caught_exc0 (cs:=csL) keeps_undo (by decide) e
    exact ⟨n,s2,went_of q1,q2,q3,q4⟩
end
def endE (k : Nat) : En:=if k = 0 then .key else if k = 1 then .zero else if k = 2 then .many 5 else if k = 3 then .unk else .back k
theorem endE_ok {k : Nat} (h : k < 100) : (endE k).Ok:=by
  unfold endE
  split
  · trivial
  · split
    · trivial
    · split
      · show 5 < 100; decide
      · split
        · trivial
        · exact h
theorem ending_ok (st : Store) (k : Nat) : F_law_ending [.int (k : Int)] st = (endE k).res st:=by
  let l0 : DV.Loc:=[some (.int (k : Int))]
  have c : ∀ j : Nat,tB_ (m2 fEq (mVar 0) (mC (.int (j : Int)))) l0 st = .ok (decide (k = j)) st:=fun j => by
    have e : decide ((k : Int) = (j : Int)) = decide (k = j):=decide_eq_decide.mpr Int.ofNat_inj
    refine tb_is (m2_is (x:=.int (k : Int)) (y:=.int (j : Int)) (s1:=st) (s2:=st) rfl rfl ?_)
    show some (D.bl (decide ((k : Int) = (j : Int))),st) = _
    rw [e]
  have no : ∀ {j : Nat} (m : MS),k ≠ j → msIf (tB_ (m2 fEq (mVar 0) (mC (.int (j : Int))))) m msNil l0 st = .nx l0 st:=fun {j} m h => if_fn (by rw [c j,decide_eq_false h])
  have yes : ∀ {j : Nat} {m : MS} {r : RS},k = j → m l0 st = r → msIf (tB_ (m2 fEq (mVar 0) (mC (.int (j : Int))))) m msNil l0 st = r:=fun {j m r} h e => if_t (by rw [c j,decide_eq_true h]) e
  unfold endE
  by_cases h0 : k = 0
  · rw [if_pos h0]
    exact def_exc (l:=l0) (l':=l0) rfl rfl (seq_exc (yes (j:=0) h0 rfl))
  · rw [if_neg h0]
    by_cases h1 : k = 1
    · rw [if_pos h1]
      exact def_exc (l:=l0) (l':=l0) rfl rfl ((seq_nx (no (j:=0) _ h0)).trans (seq_exc (yes (j:=1) h1 rfl)))
    · rw [if_neg h1]
      by_cases h2 : k = 2
      · rw [if_pos h2]
        exact def_exc (l:=l0) (l':=l0) rfl rfl ((seq_nx (no (j:=0) _ h0)).trans ((seq_nx (no (j:=1) _ h1)).trans (seq_exc (yes (j:=2) h2 rfl))))
      · rw [if_neg h2]
        by_cases h3 : k = 3
        · rw [if_pos h3]
          exact def_exc (l:=l0) (l':=l0) rfl rfl ((seq_nx (no (j:=0) _ h0)).trans ((seq_nx (no (j:=1) _ h1)).trans ((seq_nx (no (j:=2) _ h2)).trans (seq_exc (yes (j:=3) h3 rfl)))))
        · rw [if_neg h3]
          exact def_rt (l:=l0) rfl rfl ((seq_nx (no (j:=0) _ h0)).trans ((seq_nx (no (j:=1) _ h1)).trans ((seq_nx (no (j:=2) _ h2)).trans ((seq_nx (no (j:=3) _ h3)).trans (ret_is (tup_is (cons_is (x:=.str "done") (s1:=st) rfl (cons_is (x:=.int (k : Int)) (s1:=st) rfl nil_is)) (by simp)))))))
theorem end_due_ok (st : Store) {k : Nat} (hk : k < 100) : ∃ n s2,F_law_end_due [.int (k : Int)] st = .ok (.ref n) s2 ∧ s2.at_ n = some (.lst [.str (endE k).txt.1,.str (endE k).txt.2]) ∧ n < s2.nxt ∧ Kp [] st s2:=by
  let l0 : DV.Loc:=[some (.int (k : Int)),none]
  let s1:=st.new (.lst [.str "key",.str ""])
  let s2:=s1.new (.lst [.str "zero",.str ""])
  let s3:=s2.new (.lst [.str "many",.str "5"])
  let s4:=s3.new (.lst [.str "unknown",.str "'nobody'"])
  let s5:=s4.new (.lst [.ref st.nxt,.ref s1.nxt,.ref s2.nxt,.ref s3.nxt])
  let l1 : DV.Loc:=[some (.int (k : Int)),some (.ref s4.nxt)]
  have two : ∀ (s : Store) (x y : Str),mLst (maCons (mC (.str x)) (maCons (mC (.str y)) maNil)) l0 s = .ok (.ref s.nxt) (s.new (.lst [.str x,.str y])):=fun s x y => lst_is (cons_is (x:=.str x) (s1:=s) rfl (cons_is (x:=.str y) (s1:=s) rfl nil_is)) (by simp)
  have w1:=asg_n (l:=l0) (s:=st) (i:=1) (l':=l1) (lst_is (cons_is (two st "key" "") (cons_is (two s1 "zero" "") (cons_is (two s2 "many" "5") (cons_is (two s3 "unknown" "'nobody'") nil_is)))) (by simp)) rfl
  have k5 : Kp [] st s5:=(((Kp.new.trans Kp.new).trans Kp.new).trans Kp.new).trans Kp.new
  have g5 : s5.at_ s4.nxt = some (.lst [.ref st.nxt,.ref s1.nxt,.ref s2.nxt,.ref s3.nxt]):=Store.new_same
  have e1 : s1.at_ st.nxt = some (.lst [.str "key",.str ""]):=Store.new_same
  have e2 : s2.at_ s1.nxt = some (.lst [.str "zero",.str ""]):=Store.new_same
  have e3 : s3.at_ s2.nxt = some (.lst [.str "many",.str "5"]):=Store.new_same
  have e4 : s4.at_ s3.nxt = some (.lst [.str "unknown",.str "'nobody'"]):=Store.new_same
  have n1 : st.nxt < s1.nxt:=Nat.lt_succ_self _
  have n2 : s1.nxt < s2.nxt:=Nat.lt_succ_self _
  have n3 : s2.nxt < s3.nxt:=Nat.lt_succ_self _
  have n4 : s3.nxt < s4.nxt:=Nat.lt_succ_self _
  have k45 : Kp [] s4 s5:=Kp.new
  have k35 : Kp [] s3 s5:=Kp.new.trans k45
  have k25 : Kp [] s2 s5:=Kp.new.trans k35
  have k15 : Kp [] s1 s5:=Kp.new.trans k25
  have c : tB_ (m2 fLt (mVar 0) (mC (.int 4))) l1 s5 = .ok (decide ((k : Int) < 4)) s5:=tb_is (m2_is (x:=.int (k : Int)) (y:=.int 4) (s1:=s5) (s2:=s5) rfl rfl rfl)
  have ix : ∀ (j n : Nat),k = j → atI [D.ref st.nxt,.ref s1.nxt,.ref s2.nxt,.ref s3.nxt] (j : Int) = some (.ref n) → m2 fIx (mVar 1) (mVar 0) l1 s5 = .ok (.ref n) s5:=fun j n hj ha => m2_is (x:=.ref s4.nxt) (y:=.int (k : Int)) (s1:=s5) (s2:=s5) rfl rfl (ix_lst g5 (by rw [hj]; exact ha))
  by_cases h4 : k < 4
  · have yes : ∀ (j n : Nat),k = j → atI [D.ref st.nxt,.ref s1.nxt,.ref s2.nxt,.ref s3.nxt] (j : Int) = some (.ref n) → F_law_end_due [.int (k : Int)] st = .ok (.ref n) s5:=fun j n hj ha =>
      def_rt (l:=l0) rfl rfl (seq_go w1 (ret_is (mif_t (by rw [c,decide_eq_true (by omega)]) (ix j n hj ha))))
    match k,h4 with
    | 0,_ => exact ⟨_,s5,yes 0 st.nxt rfl rfl,k15.get0 e1 n1,Nat.lt_of_lt_of_le n1 k15.le,k5⟩
    | 1,_ => exact ⟨_,s5,yes 1 s1.nxt rfl rfl,k25.get0 e2 n2,Nat.lt_of_lt_of_le n2 k25.le,k5⟩
    | 2,_ => exact ⟨_,s5,yes 2 s2.nxt rfl rfl,k35.get0 e3 n3,Nat.lt_of_lt_of_le n3 k35.le,k5⟩
    | 3,_ => exact ⟨_,s5,yes 3 s3.nxt rfl rfl,k45.get0 e4 n4,Nat.lt_of_lt_of_le n4 k45.le,k5⟩
  · have ee : endE k = .back k:=by
      unfold endE
      rw [if_neg (by omega),if_neg (by omega),if_neg (by omega),if_neg (by omega)]
    rw [ee]
    refine ⟨s5.nxt,s5.new (.lst [.str "back",.str (doneP k).shown]),def_rt (l:=l0) rfl rfl (seq_go w1 (ret_is (mif_f (by rw [c,decide_eq_false (by omega)]) (lst_is (cons_is (x:=.str "back") (s1:=s5) rfl (cons_is (x:=.str (doneP k).shown) (s1:=s5) ?_ nil_is)) (by simp))))),Store.new_same,Nat.lt_succ_self _,k5.trans Kp.new⟩
    exact mL_is (ds:=[doneD k]) (s1:=s5) (cons_is (tup_is (cons_is (x:=.str "done") (s1:=s5) rfl (cons_is (x:=.int (k : Int)) (s1:=s5) rfl nil_is)) (by simp)) nil_is) (done_repr hk)
end L58
namespace L58
open DV G PySem L2
section
variable {st : Store} {j b sc m n t km : Nat} {p : Pic} {fs gs : List Fr} {f : Fr} {d : D}
def trFs (sc : Nat) (d : D) : List (Str × D):=[("box",.ref sc),("begun",d)]
def TrAt (st : Store) (t sc : Nat) (d : D) : Prop:=st.at_ t = some (.ins 2 (trFs sc d))
theorem bb_ne : (("begun" : Str) == ("box" : Str)) = false:=by decide +kernel
theorem bb_ne2 : ¬ (("box" : Str) = ("begun" : Str)):=by decide +kernel
theorem look_box : List.lookup ("box" : Str) (trFs sc d) = some (.ref sc):=by simp [trFs,List.lookup]
theorem look_begun : List.lookup ("begun" : Str) (trFs sc d) = some d:=by simp [trFs,List.lookup,bb_ne]
theorem fld_box {l : DV.Loc} {i : Nat} (hi : l[i]? = some (some (.ref t))) (h : TrAt st t sc d) : mFld 2 "box" (mVar i) l st = .ok (.ref sc) st:=by
  unfold TrAt at h
  simp [hi,h,look_box]
theorem fld_begun {l : DV.Loc} {i : Nat} (hi : l[i]? = some (some (.ref t))) (h : TrAt st t sc d) : mFld 2 "begun" (mVar i) l st = .ok d st:=by
  unfold TrAt at h
  simp [hi,h,look_begun]
theorem put_begun {e : D} : putA ("begun" : Str) e (trFs sc d) = trFs sc e:=by
  unfold trFs
  simp [putA,bb_ne2]
theorem trial_init_ok (hn : n < st.nxt) (hc : st.at_ n = some (.ins 2 [])) : ∃ st',F_Trial_init [.ref n,.ref sc] st = .ok .non st' ∧ TrAt st' n sc .non ∧ Kp [n] st st':=by
  let l0 : DV.Loc:=[some (.ref n),some (.ref sc)]
  let s1:=st.put n (.ins 2 [("box",.ref sc)])
  let s2:=s1.put n (.ins 2 (trFs sc .non))
  have g1 : s1.at_ n = some (.ins 2 [("box",.ref sc)]):=Store.put_same
  have w1 : msFld 2 "box" (mVar 0) (mVar 1) l0 st = .nx l0 s1:=by
    simp [l0,s1,hc,putA]
  have w2 : msFld 2 "begun" (mVar 0) (mC .non) l0 s1 = .nx l0 s2:=by
    simp [l0,s2,g1,putA,bb_ne2,trFs]
  exact ⟨s2,def_nx (l:=l0) (l':=l0) rfl rfl (seq_go w1 w2),Store.put_same,(Kp.put (by simp)).trans (Kp.put (by simp))⟩
theorem trial_ok (h : ScrAt st sc p fs) : ∃ s1,(∀ (l : DV.Loc) (i : Nat),l[i]? = some (some (.ref sc)) → mMeth 3 "trial" F_Screen_trial 0 0 [.p 0] [] (mVar i) maNil maNil l st = .ok (.ref st.nxt) s1) ∧ TrAt s1 st.nxt sc .non ∧ Kp [] st s1 ∧ st.nxt < s1.nxt:=by
  obtain ⟨s1,e1,t1,k1⟩:=trial_init_ok (n:=st.nxt) (sc:=sc) (st:=st.new (.ins 2 [])) (Nat.lt_succ_self _) Store.new_same
  have e : F_Screen_trial [.ref sc] st = .ok (.ref st.nxt) s1:=by
    simp [F_Screen_trial,arr,Src.of,e1]
  exact ⟨s1,fun l i hi => methS (ds:=[]) (es:=[]) (st2:=st) (st3:=st) (by simp [hi]) h rfl rfl rfl rfl e rfl rfl,t1,(Kp.new.trans k1).drop (Nat.le_refl _),Nat.lt_of_lt_of_le (Nat.lt_succ_self _) k1.le⟩
theorem enter_ok (h : TrAt st t sc d) (hs1 : ScrAt st sc p fs) : F_Trial_enter [.ref t] st = .ok (.ref sc) (st.put t (.ins 2 (trFs sc (.tup (fs.map Fr.d))))):=by
  let l0 : DV.Loc:=[some (.ref t)]
  let s1:=st.put t (.ins 2 (trFs sc (.tup (fs.map Fr.d))))
  have hb : mFld 2 "box" (mVar 0) l0 st = .ok (.ref sc) st:=fld_box rfl h
  have hv : mFld 3 "state" (mFld 2 "box" (mVar 0)) l0 st = .ok (.tup (fs.map Fr.d)) st:=by
    unfold ScrAt at hs1
    rw [ev_mFld,ev_m1,hb]
    simp [hs1,look_state]
  have w1 : msFld 2 "begun" (mVar 0) (mFld 3 "state" (mFld 2 "box" (mVar 0))) l0 st = .nx l0 s1:=by
    unfold TrAt at h
    rw [ev_msFld,hv]
    simp only [ev_toS_ok,ev_mVar,l0,List.getElem?_cons_zero,h]
    show (if 2 = 2 ∧ (trFs sc d).length < 1000 then RS.nx _ (st.put t (.ins 2 (putA ("begun" : Str) (.tup (fs.map Fr.d)) (trFs sc d)))) else RS.bad) = _
    rw [if_pos ⟨rfl,by simp [trFs]⟩,put_begun]
  have t1 : TrAt s1 t sc (.tup (fs.map Fr.d)):=Store.put_same
  exact def_rt (l:=l0) rfl rfl (seq_go w1 (ret_is (fld_box (l:=l0) (i:=0) rfl t1)))
theorem exit_no (st : Store) : F_Trial_exit [.ref t,.non,.non,.non] st = .ok .non st:=by
  let l0 : DV.Loc:=[some (.ref t),some .non,some .non,some .non]
  exact def_nx (l:=l0) (l':=l0) rfl rfl (if_fn (tb_is (m2_is (x:=.non) (y:=.non) (s1:=st) (s2:=st) rfl rfl rfl)))
theorem exit_exc (h : TrAt st t sc (.tup (gs.map Fr.d))) (hs1 : ScrAt st sc p fs) (k : V) (a : Addr) (tv : V) (hk : k ≠ .non) : F_Trial_exit [.ref t,.cst k,.cst (.ref a),.cst tv] st = .ok .non (st.put sc (.ins 3 (scrFs p gs))):=by
  let l0 : DV.Loc:=[some (.ref t),some (.cst k),some (.cst (.ref a)),some (.cst tv)]
  have hb : mFld 2 "box" (mVar 0) l0 st = .ok (.ref sc) st:=fld_box rfl h
  have hv : mFld 2 "begun" (mVar 0) l0 st = .ok (.tup (gs.map Fr.d)) st:=fld_begun rfl h
  have w1 : msFld 3 "state" (mFld 2 "box" (mVar 0)) (mFld 2 "begun" (mVar 0)) l0 st = .nx l0 (st.put sc (.ins 3 (scrFs p gs))):=by
    unfold ScrAt at hs1
    rw [ev_msFld,hv]
    simp only [ev_toS_ok]
    rw [hb]
    simp only [ev_toS_ok,hs1]
    show (if 3 = 3 ∧ (scrFs p fs).length < 1000 then RS.nx _ (st.put sc (.ins 3 (putA ("state" : Str) (.tup (gs.map Fr.d)) (scrFs p fs)))) else RS.bad) = _
    rw [if_pos ⟨rfl,by simp [scrFs]⟩,put_state]
  refine def_nx (l:=l0) (l':=l0) rfl rfl (if_t (tb_is (m2_is (x:=.cst k) (y:=.non) (s1:=st) (s2:=st) rfl rfl ?_)) w1)
  show some (D.bl (!decide (k = .non)),st) = some (.bl true,st)
  rw [decide_eq_false hk]
  rfl
theorem tried_ret {Fd : D → Store → Res D} {g : Addr} {r : D} {s3 : Store} (h : ScrAt st sc p fs) (hn : sc < st.nxt) (s2 : Store) (h2 : ∃ s1,mMeth 3 "trial" F_Screen_trial 0 0 [.p 0] [] (mVar 0) maNil maNil [some (.ref sc),some (.cst (.ref g)),none] st = .ok (.ref st.nxt) s1 ∧ TrAt s1 st.nxt sc .non ∧ ScrAt s1 sc p fs ∧ s2 = s1.put st.nxt (.ins 2 (trFs sc (.tup (fs.map Fr.d)))))
    (e : Fd (.ref sc) s2 = .ok r s3) : F_Screen_tried g Fd [.ref sc,.cst (.ref g)] st = .ok r s3:=by
  obtain ⟨s1,e1,t1,c1,rfl⟩:=h2
  let l0 : DV.Loc:=[some (.ref sc),some (.cst (.ref g)),none]
  let l1 : DV.Loc:=[some (.ref sc),some (.cst (.ref g)),some (.ref sc)]
  have w : msWith 2 2 (mMeth 3 "trial" F_Screen_trial 0 0 [.p 0] [] (mVar 0) maNil maNil) F_Trial_enter F_Trial_exit (msRet (mAct1 1 g Fd (maCons (mVar 2) maNil))) l0 st = .rt r s3:=by
    unfold msWith
    rw [e1,ev_toS_ok]
    simp only
    have t1':=t1
    unfold TrAt at t1'
    rw [t1']
    simp only [if_true]
    rw [enter_ok t1 c1,ev_toS_ok]
    have b : msRet (mAct1 1 g Fd (maCons (mVar 2) maNil)) l1 (s1.put st.nxt (.ins 2 (trFs sc (.tup (fs.map Fr.d))))) = .rt r s3:=by
      refine ret_is ?_
      unfold mAct1
      simp only [l1,List.getElem?_cons_succ,List.getElem?_cons_zero,if_true]
      rw [show (maCons (mVar 2) maNil) [some (D.ref sc),some (D.cst (V.ref g)),some (D.ref sc)] (s1.put st.nxt (.ins 2 (trFs sc (.tup (fs.map Fr.d))))) = .ok [.ref sc] (s1.put st.nxt (.ins 2 (trFs sc (.tup (fs.map Fr.d))))) from rfl,ev_bind_ok]
      exact e
    show withEnd st.nxt F_Trial_exit (msRet (mAct1 1 g Fd (maCons (mVar 2) maNil)) l1 (s1.put st.nxt (.ins 2 (trFs sc (.tup (fs.map Fr.d)))))) = _
    rw [b]
    unfold withEnd
    simp only [exit_no]
  exact def_rt (l:=l0) rfl rfl w
theorem tried_exc {Fd : D → Store → Res D} {g : Addr} {c : Nat} {xs : List (Str × D)} {s3 : Store} {hs3 : List Fr} (s2 : Store) (h2 : ∃ s1,mMeth 3 "trial" F_Screen_trial 0 0 [.p 0] [] (mVar 0) maNil maNil [some (.ref sc),some (.cst (.ref g)),none] st = .ok (.ref st.nxt) s1 ∧ TrAt s1 st.nxt sc .non ∧ ScrAt s1 sc p fs ∧ s2 = s1.put st.nxt (.ins 2 (trFs sc (.tup (fs.map Fr.d)))))
    (e : Fd (.ref sc) s2 = .exc c xs s3) (t3 : TrAt s3 st.nxt sc (.tup (fs.map Fr.d))) (c3 : ScrAt s3 sc p hs3) : F_Screen_tried g Fd [.ref sc,.cst (.ref g)] st = .exc c xs (s3.put sc (.ins 3 (scrFs p fs))):=by
  obtain ⟨s1,e1,t1,c1,rfl⟩:=h2
  let l0 : DV.Loc:=[some (.ref sc),some (.cst (.ref g)),none]
  let l1 : DV.Loc:=[some (.ref sc),some (.cst (.ref g)),some (.ref sc)]
  have w : msWith 2 2 (mMeth 3 "trial" F_Screen_trial 0 0 [.p 0] [] (mVar 0) maNil maNil) F_Trial_enter F_Trial_exit (msRet (mAct1 1 g Fd (maCons (mVar 2) maNil))) l0 st = .exc c xs l1 (s3.put sc (.ins 3 (scrFs p fs))):=by
    unfold msWith
    rw [e1,ev_toS_ok]
    simp only
    have t1':=t1
    unfold TrAt at t1'
    rw [t1']
    simp only [if_true]
    rw [enter_ok t1 c1,ev_toS_ok]
    have b : msRet (mAct1 1 g Fd (maCons (mVar 2) maNil)) l1 (s1.put st.nxt (.ins 2 (trFs sc (.tup (fs.map Fr.d))))) = .exc c xs l1 s3:=by
      have a : mAct1 1 g Fd (maCons (mVar 2) maNil) l1 (s1.put st.nxt (.ins 2 (trFs sc (.tup (fs.map Fr.d))))) = .exc c xs s3:=by
        unfold mAct1
        simp only [l1,List.getElem?_cons_succ,List.getElem?_cons_zero,if_true]
        rw [show (maCons (mVar 2) maNil) [some (D.ref sc),some (D.cst (V.ref g)),some (D.ref sc)] (s1.put st.nxt (.ins 2 (trFs sc (.tup (fs.map Fr.d))))) = .ok [.ref sc] (s1.put st.nxt (.ins 2 (trFs sc (.tup (fs.map Fr.d))))) from rfl,ev_bind_ok]
        exact e
      rw [ev_msRet,a]
      rfl
    show withEnd st.nxt F_Trial_exit (msRet (mAct1 1 g Fd (maCons (mVar 2) maNil)) l1 (s1.put st.nxt (.ins 2 (trFs sc (.tup (fs.map Fr.d)))))) = _
    rw [b]
    exact withEnd_exc fun k a tv hk => exit_exc t3 c3 k a tv hk
  exact def_exc (l:=l0) (l':=l1) rfl rfl w
end
end L58
namespace L58
open DV G PySem L2
structure Act where
  way : Nat
  out : Bool
  row : Fr
def Act.d (a : Act) : D:=.tup [.int (a.way : Int),.bl a.out,a.row.d]
structure Act.Ok (p : Pic) (a : Act) : Prop where
  way : a.way < 3
  row : a.row.Ok p.W p.Hh
def after : List Fr → List Act → List Fr × En
  | fs,[] => (fs,.non)
  | fs,a :: r => if a.way = 0 then (if fs.length = 0 then (fs,.undo) else after fs.dropLast r) else if fs.length = 8 then (fs,.many 8) else after (fs ++ [a.row]) r
def FsOk (p : Pic) (fs : List Fr) : Prop:=fs.length ≤ 8 ∧ ∀ f ∈ fs,f.Ok p.W p.Hh
section
variable {p : Pic} {fs : List Fr} {n la : Nat} {st : Store}
theorem FsOk.drop (h : FsOk p fs) : FsOk p fs.dropLast:=⟨by have:=h.1; simp; omega,fun f hf => h.2 f (List.dropLast_subset fs hf)⟩
theorem FsOk.add {f : Fr} (h : FsOk p fs) (hl : fs.length ≠ 8) (hf : f.Ok p.W p.Hh) : FsOk p (fs ++ [f]):=⟨by have:=h.1; simp; omega,fun g hg => by
  rcases List.mem_append.mp hg with z | z
  · exact h.2 g z
  · rw [List.mem_singleton.mp z]; exact hf⟩
theorem after_ok : ∀ (as : List Act) (fs : List Fr),(∀ a ∈ as,a.Ok p) → FsOk p fs → FsOk p (after fs as).1
  | [],fs,_,h => h
  | a :: r,fs,ha,h => by
    unfold after
    have ih:=after_ok r
    have hr : ∀ b ∈ r,b.Ok p:=fun b hb => ha b (List.mem_cons_of_mem _ hb)
    split
    · split
      · exact h
      · exact ih _ hr h.drop
    · split
      · exact h
      · rename_i z
        exact ih _ hr (h.add z (ha a List.mem_cons_self).row)
theorem after_end : ∀ (as : List Act) (fs : List Fr),(after fs as).2 = .non ∨ (after fs as).2 = .undo ∨ (after fs as).2 = .many 8
  | [],fs => .inl rfl
  | a :: r,fs => by
    unfold after
    have ih:=after_end r
    split
    · split
      · exact .inr (.inl rfl)
      · exact ih _
    · split
      · exact .inr (.inr rfl)
      · exact ih _
theorem after_endOk {as : List Act} {fs : List Fr} : (after fs as).2.Ok:=by
  rcases after_end as fs with h | h | h <;> rw [h]
  · trivial
  · trivial
  · show 8 < 100; decide
theorem state_eq0 {st : Store} : fEq (.tup (([] : List Fr).map Fr.d)) (.tup []) st = some (.bl true,st):=by
  have h : toData st 20 (.tup []) = some (.tuple []):=toData_tup (n:=19) (ds:=[]) (ps:=[]) rfl
  simp only [List.map_nil]
  unfold fEq dataEq
  simp only [scalEq,h]
  simp [PyData.eqv,PyData.eqvAll]
theorem scr_undo_no (hs : ScrAt st n p []) : F_Screen_undo [.ref n] st = .exc 30 [] st:=by
  let l0 : DV.Loc:=[some (.ref n)]
  exact def_exc (l:=l0) (l':=l0) rfl rfl (seq_exc (if_t (tb_is (m2_is (x:=.tup (([] : List Fr).map Fr.d)) (y:=.tup []) (s1:=st) (s2:=st) (fld_state rfl hs) (tup_is nil_is (by simp)) state_eq0)) rfl))
theorem paint_no {f : Fr} (hs : ScrAt st n p fs) (hn : n < st.nxt) (hf : f.Ok p.W p.Hh) (hl : fs.length = 8) : ∃ st',F_Screen_paint [.ref n,.str f.ink,f.part,.str f.doom] st = .exc 33 [("limit",.int ((8 : Nat) : Int))] st' ∧ Kp [] st st':=by
  obtain ⟨s1,e1,k1⟩:=is_name_ok (st:=st) hf.ink
  have h1 : ScrAt s1 n p fs:=k1.get0 hs hn
  have n1:=Nat.lt_of_lt_of_le hn k1.le
  obtain ⟨s2,e2,k2⟩:=is_part_ok (st:=s1) hf.l0 hf.lr hf.rW hf.t0 hf.tb hf.bH
  have h2 : ScrAt s2 n p fs:=k2.get0 h1 n1
  have cp : F_check_part [f.part,.int p.W,.int p.Hh] s1 = .ok .non s2:=by
    have e : F_is_part [f.part,.int p.W,.int p.Hh] s1 = .ok (.bl true) s2:=e2
    simp [F_check_part,e]
  have cf : F_check_fate [.str f.doom] s2 = .ok .non s2:=by
    have:=is_word_ok (st:=s2) (dooms_ok _ hf.doom) dooms_ok hf.doom
    have e : dooms.map D.str = [.str "stays",.str "wiped",.str "back"]:=rfl
    rw [e] at this
    simp [F_check_fate,this]
  let l0 : DV.Loc:=[some (.ref n),some (.str f.ink),some f.part,some (.str f.doom)]
  have w1 : ∀ rz : MS,msIf (tNot_ (tB_ (mCall F_is_name [] (maCons (mVar 1) maNil)))) rz msNil [some (.ref n),some (.str f.ink),some f.part,some (.str f.doom)] st = .nx [some (.ref n),some (.str f.ink),some f.part,some (.str f.doom)] s1:=fun rz => by simp [e1]
  have w2 : msExpr (mCall F_check_part [] (maCons (mVar 2) (maCons (m2 fIx (mFld 3 "head" (mVar 0)) (mC (.int 0))) (maCons (m2 fIx (mFld 3 "head" (mVar 0)) (mC (.int 1))) maNil)))) [some (.ref n),some (.str f.ink),some f.part,some (.str f.doom)] s1 = .nx [some (.ref n),some (.str f.ink),some f.part,some (.str f.doom)] s2:=by
    have a:=fld_head (l:=[some (.ref n),some (.str f.ink),some f.part,some (.str f.doom)]) (i:=0) rfl h1
    simp [-ev_mFld,a,headD,cp]
  have w3 : msExpr (mCall F_check_fate [] (maCons (mVar 3) maNil)) [some (.ref n),some (.str f.ink),some f.part,some (.str f.doom)] s2 = .nx [some (.ref n),some (.str f.ink),some f.part,some (.str f.doom)] s2:=by simp [cf]
  have w4 : msIf (tB_ (m2 fEq (mL (f1 lenD) (maCons (mFld 3 "state" (mVar 0)) maNil)) (mC (.int 8)))) (msRaise 33 "limit" (maCons (mC (.int 8)) maNil)) msNil l0 s2 = .exc 33 [("limit",.int ((8 : Nat) : Int))] l0 s2:=by
    have a:=fld_state (l:=l0) (i:=0) rfl h2
    have e : ((fs.map Fr.d).length : Int) = 8:=by simp; omega
    refine if_t (tb_is (m2_is (x:=.int ((fs.map Fr.d).length : Int)) (y:=.int 8) (s1:=s2) (s2:=s2) (mL_is (cons_is a nil_is) len_tup) rfl ?_)) rfl
    show some (D.bl (decide (((fs.map Fr.d).length : Int) = 8)),s2) = _
    rw [decide_eq_true e]
  exact ⟨s2,def_exc (l:=l0) (l':=l0) rfl rfl ((seq_nx (w1 _)).trans ((seq_nx w2).trans ((seq_nx w3).trans (seq_exc w4)))),k1.trans k2⟩
def resS : En → DV.Loc → Store → RS
  | .non,l,st => .nx l st
  | .undo,l,st => .exc 30 [] l st
  | .many k,l,st => .exc 33 [("limit",.int (k : Int))] l st
  | _,_,_ => .bad
theorem expr_exc {m : ME} {l : DV.Loc} {st st1 : Store} {c : Nat} {xs : List (Str × D)} (h : m l st = .exc c xs st1) : msExpr m l st = .exc c xs l st1:=by
  rw [ev_msExpr,h]
  rfl
theorem int_is {l : DV.Loc} {i k j : Nat} {s : Store} (h : l[i]? = some (some (.int (k : Int)))) : tB_ (m2 fEq (mVar i) (mC (.int (j : Int)))) l s = .ok (decide (k = j)) s:=by
  have e : decide ((k : Int) = (j : Int)) = decide (k = j):=decide_eq_decide.mpr Int.ofNat_inj
  refine tb_is (m2_is (x:=.int (k : Int)) (y:=.int (j : Int)) (s1:=s) (s2:=s) (var_is h) rfl ?_)
  show some (D.bl (decide ((k : Int) = (j : Int))),s) = _
  rw [e]
theorem row_ix {l : DV.Loc} {i : Nat} {f : Fr} (h : l[i]? = some (some f.d)) (k : Nat) (hk : k < 3) : m2 fIx (mVar i) (mC (.int (k : Int))) l st = .ok ([D.str f.ink,f.part,.str f.doom][k]'hk) st:=by
  match k,hk with
  | 0,_ => exact m2_is (var_is h) rfl rfl
  | 1,_ => exact m2_is (var_is h) rfl rfl
  | 2,_ => exact m2_is (var_is h) rfl rfl
theorem done_loop {ds : List D} (ne : la ≠ n) : ∀ (as : List Act) (fs : List Fr) (o3 o4 o5 o6 : Option D) (st : Store),(∀ a ∈ as,a.Ok p) → FsOk p fs → ScrAt st n p fs → n < st.nxt → st.at_ la = some (.lst ds) → la < st.nxt →
    ∃ l' st',loopS (tgTup 3 (tgCons (tgName 3) (tgCons (tgName 4) (tgCons (tgName 5) tgNil)))) law_done_L1 [(la,.lst ds)] (as.map Act.d) [some (.ref n),some (.ref n),some (.ref la),o3,o4,o5,o6] st = resS (after fs as).2 l' st' ∧ ScrAt st' n p (after fs as).1 ∧ Kp [n] st st'
  | [],fs,o3,o4,o5,o6,st,_,_,hS,hn,hla,_ => ⟨_,st,loopS_nil (srcOk_one hla),hS,Kp.refl⟩
  | a :: r,fs,o3,o4,o5,o6,st,ha,hf,hS,hn,hla,ll => by
    have A:=ha a List.mem_cons_self
    have hr : ∀ b ∈ r,b.Ok p:=fun b hb => ha b (List.mem_cons_of_mem _ hb)
    have so : SrcOk [(la,Cell.lst ds)] st:=srcOk_one hla
    let l1 : DV.Loc:=[some (.ref n),some (.ref n),some (.ref la),some (.int (a.way : Int)),some (.bl a.out),some a.row.d,o6]
    let l2 : DV.Loc:=[some (.ref n),some (.ref n),some (.ref la),some (.int (a.way : Int)),some (.bl a.out),some a.row.d,some (.ref n)]
    have ht : tgTup 3 (tgCons (tgName 3) (tgCons (tgName 4) (tgCons (tgName 5) tgNil))) a.d [some (.ref n),some (.ref n),some (.ref la),o3,o4,o5,o6] st = some l1:=rfl
    have w1 : msAsg (mIf (tB_ (mVar 4)) (mVar 1) (mVar 0)) (tgName 6) l1 st = .nx l2 st:=asg_n (d:=.ref n) (by
      cases h : a.out with
      | true => exact mif_t (tb_is (var_is (d:=.bl true) (by show some (some (D.bl a.out)) = _; rw [h]))) rfl
      | false => exact mif_f (tb_is (var_is (d:=.bl false) (by show some (some (D.bl a.out)) = _; rw [h]))) rfl) rfl
    have c : tB_ (m2 fEq (mVar 3) (mC (.int 0))) l2 st = .ok (decide (a.way = 0)) st:=int_is (l:=l2) (j:=0) rfl
    have go : ∀ {gs : List Fr} {s1 : Store},msIf (tB_ (m2 fEq (mVar 3) (mC (.int 0)))) (msExpr (mMeth 3 "undo" F_Screen_undo 0 0 [.p 0] [] (mVar 6) maNil maNil)) (msExpr (mMeth 3 "paint" F_Screen_paint 3 0 [.p 0,.p 1,.p 2,.p 3] [] (mVar 6) (maCons (m2 fIx (mVar 5) (mC (.int 0))) (maCons (m2 fIx (mVar 5) (mC (.int 1))) (maCons (m2 fIx (mVar 5) (mC (.int 2))) maNil))) maNil)) l2 st = .nx l2 s1 →
        ScrAt s1 n p gs → Kp [n] st s1 → FsOk p gs → ∃ l' st',loopS (tgTup 3 (tgCons (tgName 3) (tgCons (tgName 4) (tgCons (tgName 5) tgNil)))) law_done_L1 [(la,.lst ds)] ((a :: r).map Act.d) [some (.ref n),some (.ref n),some (.ref la),o3,o4,o5,o6] st = resS (after gs r).2 l' st' ∧ ScrAt st' n p (after gs r).1 ∧ Kp [n] st st':=fun {gs s1} e hS1 k1 hg => by
      obtain ⟨l',st',q1,q2,q3⟩:=done_loop ne r gs _ _ _ _ s1 hr hg hS1 (Nat.lt_of_lt_of_le hn k1.le) (k1.get hla ll (by simpa using ne)) (Nat.lt_of_lt_of_le ll k1.le)
      exact ⟨l',st',(loopS_nx so ht (seq_go w1 e)).trans q1,q2,k1.trans q3⟩
    have stop : ∀ {c : Nat} {xs : List (Str × D)} {s1 : Store},msIf (tB_ (m2 fEq (mVar 3) (mC (.int 0)))) (msExpr (mMeth 3 "undo" F_Screen_undo 0 0 [.p 0] [] (mVar 6) maNil maNil)) (msExpr (mMeth 3 "paint" F_Screen_paint 3 0 [.p 0,.p 1,.p 2,.p 3] [] (mVar 6) (maCons (m2 fIx (mVar 5) (mC (.int 0))) (maCons (m2 fIx (mVar 5) (mC (.int 1))) (maCons (m2 fIx (mVar 5) (mC (.int 2))) maNil))) maNil)) l2 st = .exc c xs l2 s1 →
        loopS (tgTup 3 (tgCons (tgName 3) (tgCons (tgName 4) (tgCons (tgName 5) tgNil)))) law_done_L1 [(la,.lst ds)] ((a :: r).map Act.d) [some (.ref n),some (.ref n),some (.ref la),o3,o4,o5,o6] st = .exc c xs l2 s1:=fun {c xs s1} e => loopS_exc so ht (seq_go w1 e)
    unfold after
    by_cases hw : a.way = 0
    · rw [if_pos hw]
      rw [decide_eq_true hw] at c
      by_cases h0 : fs.length = 0
      · rw [if_pos h0]
        have h0:=List.eq_nil_of_length_eq_zero h0
        subst h0
        exact ⟨l2,st,stop (if_t c (expr_exc (methS (ds:=[]) (es:=[]) (st2:=st) (st3:=st) rfl hS rfl rfl rfl rfl (scr_undo_no hS) rfl rfl))),hS,Kp.refl⟩
      · rw [if_neg h0]
        obtain ⟨s1,e1,h1,k1⟩:=scr_undo_ok hS hf.2 (fun z => h0 (by rw [z]; rfl))
        exact go (if_t c (expr_is (methS (ds:=[]) (es:=[]) (st2:=st) (st3:=st) rfl hS rfl rfl rfl rfl e1 rfl rfl))) h1 k1 hf.drop
    · rw [if_neg hw]
      rw [decide_eq_false hw] at c
      have args : (maCons (m2 fIx (mVar 5) (mC (.int 0))) (maCons (m2 fIx (mVar 5) (mC (.int 1))) (maCons (m2 fIx (mVar 5) (mC (.int 2))) maNil))) l2 st = .ok [.str a.row.ink,a.row.part,.str a.row.doom] st:=cons_is (row_ix (l:=l2) rfl 0 (by decide)) (cons_is (row_ix (l:=l2) rfl 1 (by decide)) (cons_is (row_ix (l:=l2) rfl 2 (by decide)) nil_is))
      by_cases h8 : fs.length = 8
      · rw [if_pos h8]
        obtain ⟨s1,e1,k1⟩:=paint_no hS hn A.row h8
        exact ⟨l2,s1,stop (if_f c (expr_exc (methS (ds:=[.str a.row.ink,a.row.part,.str a.row.doom]) (es:=[]) (st2:=st) (st3:=st) rfl hS rfl rfl args rfl e1 rfl rfl))),k1.get0 hS hn,k1.nil⟩
      · rw [if_neg h8]
        obtain ⟨s1,e1,h1,k1⟩:=paint_ok hS hn A.row (by have:=hf.1; omega)
        exact go (if_f c (expr_is (methS (ds:=[.str a.row.ink,a.row.part,.str a.row.doom]) (es:=[]) (st2:=st) (st3:=st) rfl hS rfl rfl args rfl e1 rfl rfl))) h1 k1 (hf.add h8 A.row)
theorem done_ok {as : List Act} (ne : la ≠ n) (ha : ∀ a ∈ as,a.Ok p) (hf : FsOk p fs) (hS : ScrAt st n p fs) (hn : n < st.nxt) (hla : st.at_ la = some (.lst (as.map Act.d))) (ll : la < st.nxt) :
    ∃ st',F_law_done [.ref n,.ref n,.ref la] st = (after fs as).2.res st' ∧ ScrAt st' n p (after fs as).1 ∧ Kp [n] st st':=by
  obtain ⟨l',st',q1,q2,q3⟩:=done_loop ne as fs none none none none st ha hf hS hn hla ll
  refine ⟨st',?_,q2,q3⟩
  let l0 : DV.Loc:=[some (.ref n),some (.ref n),some (.ref la),none,none,none,none]
  have it : miSeq (mVar 2) l0 st = .ok ⟨[(la,.lst (as.map Act.d))],as.map Act.d⟩ st:=seq_is (d:=.ref la) rfl (by rw [ev_seqOf]; simp only [hla])
  have w : msFor (miSeq (mVar 2)) (tgTup 3 (tgCons (tgName 3) (tgCons (tgName 4) (tgCons (tgName 5) tgNil)))) law_done_L1 l0 st = resS (after fs as).2 l' st':=for_is it q1
  rcases after_end as fs with h | h | h
  · rw [h] at w ⊢
    exact def_nx (l:=l0) rfl rfl w
  · rw [h] at w ⊢
    exact def_exc (l:=l0) rfl rfl w
  · rw [h] at w ⊢
    exact def_exc (l:=l0) rfl rfl w
def EdAt (st : Store) (x : En) (d : D) : Prop:=(x = .non ∧ d = .non) ∨ (x ≠ .non ∧ ∃ m,d = .ref m ∧ m < st.nxt ∧ st.at_ m = some (.lst [.str x.txt.1,.str x.txt.2]))
theorem after_loop {ds : List D} : ∀ (as : List Act) (fs : List Fr) (o2 o3 o4 : Option D) (st : Store),(∀ a ∈ as,a.Ok p) → FsOk p fs → st.at_ la = some (.lst ds) → la < st.nxt →
    ∃ r2 r3 r4 st',Kp [] st st' ∧ (((after fs as).2 = .non ∧ loopS (tgTup 3 (tgCons (tgName 2) (tgCons (tgName 3) (tgCons (tgName 4) tgNil)))) law_after_L1 [(la,.lst ds)] (as.map Act.d) [some (.tup (fs.map Fr.d)),some (.ref la),o2,o3,o4] st = .nx [some (.tup ((after fs as).1.map Fr.d)),some (.ref la),r2,r3,r4] st') ∨
      ((after fs as).2 ≠ .non ∧ ∃ m,m < st'.nxt ∧ st'.at_ m = some (.lst [.str (after fs as).2.txt.1,.str (after fs as).2.txt.2]) ∧ loopS (tgTup 3 (tgCons (tgName 2) (tgCons (tgName 3) (tgCons (tgName 4) tgNil)))) law_after_L1 [(la,.lst ds)] (as.map Act.d) [some (.tup (fs.map Fr.d)),some (.ref la),o2,o3,o4] st = .rt (.tup [.tup ((after fs as).1.map Fr.d),.ref m]) st'))
  | [],fs,o2,o3,o4,st,_,_,hla,_ => ⟨o2,o3,o4,st,Kp.refl,.inl ⟨rfl,loopS_nil (srcOk_one hla)⟩⟩
  | a :: r,fs,o2,o3,o4,st,ha,hf,hla,ll => by
    have A:=ha a List.mem_cons_self
    have hr : ∀ b ∈ r,b.Ok p:=fun b hb => ha b (List.mem_cons_of_mem _ hb)
    have so : SrcOk [(la,Cell.lst ds)] st:=srcOk_one hla
    let l1 : DV.Loc:=[some (.tup (fs.map Fr.d)),some (.ref la),some (.int (a.way : Int)),some (.bl a.out),some a.row.d]
    have ht : tgTup 3 (tgCons (tgName 2) (tgCons (tgName 3) (tgCons (tgName 4) tgNil))) a.d [some (.tup (fs.map Fr.d)),some (.ref la),o2,o3,o4] st = some l1:=rfl
    have c0 : tB_ (m2 fEq (mVar 2) (mC (.int 0))) l1 st = .ok (decide (a.way = 0)) st:=int_is (l:=l1) (j:=0) rfl
    have cn : tB_ (m2 fNe (mVar 2) (mC (.int 0))) l1 st = .ok (!decide (a.way = 0)) st:=by
      have e : decide ((a.way : Int) = ((0 : Nat) : Int)) = decide (a.way = 0):=decide_eq_decide.mpr Int.ofNat_inj
      refine tb_is (m2_is (x:=.int (a.way : Int)) (y:=.int 0) (s1:=st) (s2:=st) rfl rfl ?_)
      show some (D.bl (!decide ((a.way : Int) = ((0 : Nat) : Int))),st) = _
      rw [e]
    have ce : tB_ (m2 fEq (mVar 0) (mTup maNil)) l1 st = .ok (decide (fs.length = 0)) st:=by
      refine tb_is (m2_is (x:=.tup (fs.map Fr.d)) (y:=.tup []) (s1:=st) (s2:=st) rfl (tup_is nil_is (by simp)) ?_)
      by_cases h0 : fs.length = 0
      · rw [decide_eq_true h0]
        have h0:=List.eq_nil_of_length_eq_zero h0
        subst h0
        exact state_eq0
      · rw [decide_eq_false h0]
        exact state_eq hf.2 fun z => h0 (by rw [z]; rfl)
    have c8 : tB_ (m2 fEq (mL (f1 lenD) (maCons (mVar 0) maNil)) (mC (.int 8))) l1 st = .ok (decide (fs.length = 8)) st:=by
      have e : decide (((fs.map Fr.d).length : Int) = ((8 : Nat) : Int)) = decide (fs.length = 8):=decide_eq_decide.mpr (by simp; omega)
      refine tb_is (m2_is (x:=.int ((fs.map Fr.d).length : Int)) (y:=.int 8) (s1:=st) (s2:=st) (mL_is (ds:=[.tup (fs.map Fr.d)]) (cons_is rfl nil_is) len_tup) rfl ?_)
      show some (D.bl (decide (((fs.map Fr.d).length : Int) = ((8 : Nat) : Int))),st) = _
      rw [e]
    have lst2 : ∀ (x y : Str),mLst (maCons (mC (.str x)) (maCons (mC (.str y)) maNil)) l1 st = .ok (.ref st.nxt) (st.new (.lst [.str x,.str y])):=fun x y => lst_is (cons_is (x:=.str x) (s1:=st) rfl (cons_is (x:=.str y) (s1:=st) rfl nil_is)) (by simp)
    have rt2 : ∀ (x y : Str),msRet (mTup (maCons (mVar 0) (maCons (mLst (maCons (mC (.str x)) (maCons (mC (.str y)) maNil))) maNil))) l1 st = .rt (.tup [.tup (fs.map Fr.d),.ref st.nxt]) (st.new (.lst [.str x,.str y])):=fun x y => ret_is (tup_is (cons_is (x:=.tup (fs.map Fr.d)) (s1:=st) rfl (cons_is (lst2 x y) nil_is)) (by simp))
    have go : ∀ {gs : List Fr},law_after_L1 l1 st = .nx (l1.set 0 (some (.tup (gs.map Fr.d)))) st → FsOk p gs →
        ∃ r2 r3 r4 st',Kp [] st st' ∧ (((after gs r).2 = .non ∧ loopS (tgTup 3 (tgCons (tgName 2) (tgCons (tgName 3) (tgCons (tgName 4) tgNil)))) law_after_L1 [(la,.lst ds)] ((a :: r).map Act.d) [some (.tup (fs.map Fr.d)),some (.ref la),o2,o3,o4] st = .nx [some (.tup ((after gs r).1.map Fr.d)),some (.ref la),r2,r3,r4] st') ∨
      ((after gs r).2 ≠ .non ∧ ∃ m,m < st'.nxt ∧ st'.at_ m = some (.lst [.str (after gs r).2.txt.1,.str (after gs r).2.txt.2]) ∧ loopS (tgTup 3 (tgCons (tgName 2) (tgCons (tgName 3) (tgCons (tgName 4) tgNil)))) law_after_L1 [(la,.lst ds)] ((a :: r).map Act.d) [some (.tup (fs.map Fr.d)),some (.ref la),o2,o3,o4] st = .rt (.tup [.tup ((after gs r).1.map Fr.d),.ref m]) st')):=fun {gs} e hg => by
      obtain ⟨r2,r3,r4,st',k,h⟩:=after_loop r gs _ _ _ st hr hg hla ll
      have z:=loopS_nx (ds:=r.map Act.d) so ht e
      rcases h with ⟨h1,h2⟩ | ⟨h1,m,h2,h3,h4⟩
      · exact ⟨r2,r3,r4,st',k,.inl ⟨h1,z.trans h2⟩⟩
      · exact ⟨r2,r3,r4,st',k,.inr ⟨h1,m,h2,h3,z.trans h4⟩⟩
    unfold after
    by_cases hw : a.way = 0
    · rw [if_pos hw]
      rw [decide_eq_true hw] at c0 cn
      by_cases h0 : fs.length = 0
      · rw [if_pos h0]
        rw [decide_eq_true h0] at ce
        refine ⟨none,none,none,_,Kp.new,.inr ⟨by simp,st.nxt,Nat.lt_succ_self _,Store.new_same,?_⟩⟩
        refine loopS_rt so ht ?_
        unfold law_after_L1
        exact seq_rt (if_t (and_t c0 ce) (rt2 "undo" ""))
      · rw [if_neg h0]
        rw [decide_eq_false h0] at ce
        refine go (gs:=fs.dropLast) ?_ hf.drop
        unfold law_after_L1
        refine seq_go (if_fn (and_t c0 ce)) (seq_go (if_fn (and_f cn)) (asg_n (d:=.tup (fs.dropLast.map Fr.d)) (mif_t c0 ?_) rfl))
        have cu:=cut_lastF fs
        simp [l1,-List.map_dropLast,cu]
    · rw [if_neg hw]
      rw [decide_eq_false hw] at c0 cn
      by_cases h8 : fs.length = 8
      · rw [if_pos h8]
        rw [decide_eq_true h8] at c8
        refine ⟨none,none,none,st.new (.lst [.str "many",.str "8"]),Kp.new,.inr ⟨by simp,st.nxt,Nat.lt_succ_self _,?_,?_⟩⟩
        · have e : sI ((8 : Nat) : Int) = "8":=by decide +kernel
          show (st.new (.lst [.str "many",.str "8"])).at_ st.nxt = some (.lst [.str "many",.str (sI ((8 : Nat) : Int))])
          rw [e]
          exact Store.new_same
        · refine loopS_rt so ht ?_
          unfold law_after_L1
          exact seq_go (if_fn (and_f c0)) (seq_rt (if_t (and_t cn c8) (rt2 "many" "8")))
      · rw [if_neg h8]
        rw [decide_eq_false h8] at c8
        refine go (gs:=fs ++ [a.row]) ?_ (hf.add h8 A.row)
        unfold law_after_L1
        refine seq_go (if_fn (and_f c0)) (seq_go (if_fn (and_t cn c8)) (asg_n (d:=.tup ((fs ++ [a.row]).map Fr.d)) (mif_f c0 (m2_is (x:=.tup (fs.map Fr.d)) (y:=.tup [a.row.d]) (s1:=st) (s2:=st) rfl (tup_is (cons_is (x:=a.row.d) (s1:=st) rfl nil_is) (by simp)) ?_)) rfl))
        rw [tup_add (by have:=hf.1; simp; omega)]
        simp
theorem after_call {as : List Act} (ha : ∀ a ∈ as,a.Ok p) (hf : FsOk p fs) (hla : st.at_ la = some (.lst (as.map Act.d))) (ll : la < st.nxt) :
    ∃ d st',F_law_after [.tup (fs.map Fr.d),.ref la] st = .ok (.tup [.tup ((after fs as).1.map Fr.d),d]) st' ∧ EdAt st' (after fs as).2 d ∧ Kp [] st st':=by
  obtain ⟨r2,r3,r4,st',k,h⟩:=after_loop as fs none none none st ha hf hla ll
  let l0 : DV.Loc:=[some (.tup (fs.map Fr.d)),some (.ref la),none,none,none]
  have it : miSeq (mVar 1) l0 st = .ok ⟨[(la,.lst (as.map Act.d))],as.map Act.d⟩ st:=seq_is (d:=.ref la) rfl (by rw [ev_seqOf]; simp only [hla])
  rcases h with ⟨h1,h2⟩ | ⟨h1,m,h2,h3,h4⟩
  · exact ⟨.non,st',def_rt (l:=l0) rfl rfl (seq_go (for_is it h2) (ret_is (tup_is (cons_is (x:=.tup ((after fs as).1.map Fr.d)) (s1:=st') rfl (cons_is (x:=.non) (s1:=st') rfl nil_is)) (by simp)))),.inl ⟨h1,rfl⟩,k⟩
  · exact ⟨.ref m,st',def_rt (l:=l0) rfl rfl (seq_rt (for_is it h4)),.inr ⟨h1,m,rfl,h2,h3⟩,k⟩
end
end L58
namespace L58
open DV G PySem L2
def En.resR : En → DV.Loc → Store → RS
  | .back k,_,st => .rt (doneD k) st
  | .non,_,st => .rt .non st
  | .key,l,st => .exc 1000 [] l st
  | .zero,l,st => .exc 1001 [] l st
  | .many k,l,st => .exc 33 [("limit",.int (k : Int))] l st
  | .unk,l,st => .exc 27 [("given",.str "nobody")] l st
  | .undo,l,st => .exc 30 [] l st
section
variable {l l' : DV.Loc} {st s1 : Store} {x : En}
theorem ret_res {m : ME} (h : m l st = x.res s1) : msRet m l st = x.resR l s1:=by
  cases x <;> (rw [ev_msRet,h]; rfl)
theorem expr_res {m : ME} (h : m l st = x.res s1) (g : x.good = false) : msExpr m l st = x.resR l s1:=by
  cases x with
  | back k => cases g
  | non => cases g
  | _ => rw [ev_msExpr,h]; rfl
theorem seq_res {a b : MS} (h : a l st = x.resR l' s1) (g : x.good = false) : msSeq a b l st = x.resR l' s1:=by
  cases x with
  | back k => cases g
  | non => cases g
  | _ => exact seq_exc h
theorem def_res {n len : Nat} {body : MS} {ds : List D} (hn : ds.length = n) (hl : ds.map some ++ List.replicate (len - n) none = l) (h : body l st = x.resR l' s1) : mDef n len body ds st = x.res s1:=by
  cases x with
  | back k => exact def_rt hn hl h
  | non => exact def_rt hn hl h
  | _ => exact def_exc hn hl h
end
def thenE : En → Nat → En
  | .non,k => endE k
  | e,_ => e
theorem thenE_non {k : Nat} : thenE .non k = endE k:=rfl
theorem thenE_bad {e : En} {k : Nat} (h : e ≠ .non) : thenE e k = e:=by
  cases e with
  | non => exact absurd rfl h
  | _ => rfl
section
variable {p : Pic} {fs : List Fr} {n la : Nat} {st : Store}
theorem wf_ok (hp : p.Ok) (hf : FsOk p fs) (h0 : fs ≠ []) : (p.wf fs).Ok:=⟨hp.W0,hp.W1,hp.H0,hp.H1,h0,hf.1,hf.2,hp.firm⟩
theorem frs_data {k : Nat} (hf : FsOk p fs) : toData st (k + 4) (.tup (fs.map Fr.d)) = some (.tuple (fs.map frP)):=toData_tup (n:=k + 3) (optL_map fun f h => frd (hf.2 f h).ink.t (dooms_ok _ (hf.2 f h).doom))
theorem frs_shw (hp : p.Ok) (hf : FsOk p fs) : Shw (.tuple (fs.map frP)) 3000:=(shw_tuple (n:=260) fun d hd => by
  obtain ⟨f,h,rfl⟩:=List.mem_map.mp hd
  exact shw_frP (wf_ok hp hf fun z => by rw [z] at h; cases h) h).mono (by have:=hf.1; simp; omega)
def frsS (fs : List Fr) : Str:=(PyData.tuple (fs.map frP)).shown
theorem frs_repr (hp : p.Ok) (hf : FsOk p fs) : reprA (.tup (fs.map Fr.d)) st = some (.str (frsS fs),st):=reprA_tup (repr_tup (n:=3000) (frs_data (k:=16) hf) (frs_shw hp hf) (by decide))
theorem fr_tok {f : Fr} (h : f.Ok p.W p.Hh) : TOk (frP f).shown:=tok_tuple fun d hd => by
  simp only [List.mem_cons,List.not_mem_nil,or_false] at hd
  rcases hd with rfl | rfl | rfl
  · exact tok_repr h.ink.t
  · refine tok_tuple fun d hd => ?_
    simp only [List.mem_cons,List.not_mem_nil,or_false] at hd
    rcases hd with rfl | rfl | rfl | rfl <;> exact tok_int _
  · exact tok_repr (dooms_ok _ h.doom)
theorem frs_tok (hf : FsOk p fs) : TOk (frsS fs):=tok_tuple fun d hd => by
  obtain ⟨f,h,rfl⟩:=List.mem_map.mp hd
  exact fr_tok (hf.2 f h)
theorem scr_frames {l : DV.Loc} {i : Nat} (hi : l[i]? = some (some (.ref n))) (h : ScrAt st n p fs) : mProp 3 F_Screen_frames (mVar i) l st = .ok (.tup (fs.map Fr.d)) st:=by
  have e : F_Screen_frames [.ref n] st = .ok (.tup (fs.map Fr.d)) st:=def_rt (l:=[some (.ref n)]) rfl rfl (ret_is (fld_state (l:=[some (.ref n)]) (i:=0) rfl h))
  unfold ScrAt at h
  rw [ev_mProp,var_is hi,ev_bind_ok]
  simp only [h,if_true,e]
theorem repr_frames {l : DV.Loc} {i : Nat} (hp : p.Ok) (hf : FsOk p fs) (hi : l[i]? = some (some (.ref n))) (h : ScrAt st n p fs) : mL (f1 reprA) (maCons (mProp 3 F_Screen_frames (mVar i)) maNil) l st = .ok (.str (frsS fs)) st:=mL_is (cons_is (scr_frames hi h) nil_is) (frs_repr hp hf)
theorem eq_self {l : DV.Loc} {i j : Nat} (hi : l[i]? = some (some (.ref n))) (hj : l[j]? = some (some (.ref n))) (h : ScrAt st n p fs) : m2 (fEqI 3) (mVar i) (mVar j) l st = .ok (.bl true) st:=m2_is (var_is hi) (var_is hj) (by
  unfold ScrAt at h
  unfold fEqI
  simp [h])
theorem inner_ok {as : List Act} {k nh : Nat} (hp : p.Ok) (ne : la ≠ n) (nn : nh ≠ n) (nl : la ≠ nh) (ha : ∀ a ∈ as,a.Ok p) (hf : FsOk p fs) (hS : ScrAt st n p fs) (hn : n < st.nxt) (hla : st.at_ la = some (.lst (as.map Act.d))) (ll : la < st.nxt) (hh : st.at_ nh = some (.lst [])) (lh : nh < st.nxt) :
    ∃ st',F_law_inner [.ref n,.ref n,.ref la,.int (k : Int),.ref nh] st = (thenE (after fs as).2 k).res st' ∧ ScrAt st' n p (after fs as).1 ∧ Kp [n,nh] st st' ∧ st'.at_ nh = some (.lst [.ref st.nxt]) ∧ st'.at_ st.nxt = some (.lst [.bl true,.str (frsS fs)]) ∧ st.nxt < st'.nxt:=by
  let l0 : DV.Loc:=[some (.ref n),some (.ref n),some (.ref la),some (.int (k : Int)),some (.ref nh)]
  let s1:=st.new (.lst [.bl true,.str (frsS fs)])
  let s2:=s1.put nh (.lst [.ref st.nxt])
  have k1 : Kp [] st s1:=Kp.new
  have k2 : Kp [nh] s1 s2:=Kp.put (by simp)
  have n1 : st.nxt < s1.nxt:=Nat.lt_succ_self _
  have ml : mLst (maCons (m2 (fEqI 3) (mVar 0) (mVar 1)) (maCons (mL (f1 reprA) (maCons (mProp 3 F_Screen_frames (mVar 1)) maNil)) maNil)) l0 st = .ok (.ref st.nxt) s1:=lst_is (cons_is (eq_self (l:=l0) (i:=0) (j:=1) rfl rfl hS) (cons_is (repr_frames (l:=l0) (i:=1) hp hf rfl hS) nil_is)) (by simp)
  have w1 : msExpr (mM "list" fAppend (mVar 4) (maCons (mLst (maCons (m2 (fEqI 3) (mVar 0) (mVar 1)) (maCons (mL (f1 reprA) (maCons (mProp 3 F_Screen_frames (mVar 1)) maNil)) maNil))) maNil)) l0 st = .nx l0 s2:=
    expr_is (app_evE (xs:=[]) rfl hh ml (k1.get0 hh lh) (by simp))
  have S2 : ScrAt s2 n p fs:=k2.get (k1.get0 hS hn) (Nat.lt_of_lt_of_le hn k1.le) (by simpa using fun z => nn z.symm)
  have hl2 : s2.at_ la = some (.lst (as.map Act.d)):=k2.get (k1.get0 hla ll) (Nat.lt_of_lt_of_le ll k1.le) (by simpa using nl)
  have n2 : n < s2.nxt:=Nat.lt_of_lt_of_le (Nat.lt_of_lt_of_le hn k1.le) k2.le
  obtain ⟨s3,e3,h3,k3⟩:=done_ok ne ha hf S2 n2 hl2 (Nat.lt_of_lt_of_le (Nat.lt_of_lt_of_le ll k1.le) k2.le)
  have g1 : s2.at_ nh = some (.lst [.ref st.nxt]):=Store.put_same
  have g2 : s2.at_ st.nxt = some (.lst [.bl true,.str (frsS fs)]):=k2.get Store.new_same n1 (by simp; omega)
  have tn2 : st.nxt < s2.nxt:=Nat.lt_of_lt_of_le n1 k2.le
  have K : Kp [n,nh] st s3:=(k1.nil.trans (k2.more (by simp))).trans (k3.more (by simp))
  have r1 : s3.at_ nh = some (.lst [.ref st.nxt]):=k3.get g1 (Nat.lt_of_lt_of_le (Nat.lt_of_lt_of_le lh k1.le) k2.le) (by simpa using nn)
  have r2 : s3.at_ st.nxt = some (.lst [.bl true,.str (frsS fs)]):=k3.get g2 tn2 (by simp; omega)
  refine ⟨s3,?_,h3,K,r1,r2,Nat.lt_of_lt_of_le tn2 k3.le⟩
  have ea : (maCons (mVar 0) (maCons (mVar 1) (maCons (mVar 2) maNil))) l0 s2 = .ok [.ref n,.ref n,.ref la] s2:=rfl
  by_cases z : (after fs as).2 = .non
  · rw [z] at e3 ⊢
    exact def_res (l:=l0) (l':=l0) rfl rfl (seq_go w1 (seq_go (expr_is (call_is ea e3)) (ret_res (call_is (ds:=[.int (k : Int)]) (s1:=s3) rfl (ending_ok s3 k)))))
  · have g : (after fs as).2.good = false:=by
      rcases after_end as fs with h | h | h
      · exact absurd h z
      · rw [h]; rfl
      · rw [h]; rfl
    rw [thenE_bad z]
    exact def_res (l:=l0) (l':=l0) rfl rfl (seq_go w1 (seq_res (expr_res (call_is ea e3) g) g))
theorem thenE_ok {e : En} {k : Nat} (he : e.Ok) (hk : k < 100) : (thenE e k).Ok:=by
  by_cases z : e = .non
  · rw [z]; exact endE_ok hk
  · rw [thenE_bad z]; exact he
theorem tried_any {Fd : D → Store → Res D} {x : En} {gs : List Fr} {js : List Nat} {P : Store → Prop} {sc : Nat} (hS : ScrAt st sc p fs) (hn : sc < st.nxt) (hj : ∀ j ∈ js,j < st.nxt) (hsc : sc ∈ js) (h : ∀ s2,Kp [] st s2 → ScrAt s2 sc p fs → ∃ s3,Fd (.ref sc) s2 = x.res s3 ∧ ScrAt s3 sc p gs ∧ Kp js s2 s3 ∧ P s3) :
    ∃ s4,(∀ g,F_Screen_tried g Fd [.ref sc,.cst (.ref g)] st = x.res s4) ∧ ScrAt s4 sc p (if x.good then gs else fs) ∧ Kp js st s4 ∧ ∃ s3,P s3 ∧ Kp [sc] s3 s4:=by
  obtain ⟨s1,e1,t1,k1,n1⟩:=trial_ok hS
  have c1 : ScrAt s1 sc p fs:=k1.get0 hS hn
  obtain ⟨s2,hs2⟩ : ∃ s2,s2 = s1.put st.nxt (.ins 2 (trFs sc (.tup (fs.map Fr.d)))):=⟨_,rfl⟩
  have k12 : Kp [st.nxt] s1 s2:=by rw [hs2]; exact Kp.put (by simp)
  have k2 : Kp [] st s2:=((k1.more (by simp)).trans k12).drop (Nat.le_refl _)
  have T2 : TrAt s2 st.nxt sc (.tup (fs.map Fr.d)):=by rw [hs2]; exact Store.put_same
  have S2 : ScrAt s2 sc p fs:=k2.get0 hS hn
  have tn2 : st.nxt < s2.nxt:=Nat.lt_of_lt_of_le n1 k12.le
  have h2 : ∀ g : Addr,∃ s1,mMeth 3 "trial" F_Screen_trial 0 0 [.p 0] [] (mVar 0) maNil maNil [some (.ref sc),some (.cst (.ref g)),none] st = .ok (.ref st.nxt) s1 ∧ TrAt s1 st.nxt sc .non ∧ ScrAt s1 sc p fs ∧ s2 = s1.put st.nxt (.ins 2 (trFs sc (.tup (fs.map Fr.d)))):=fun g => ⟨s1,e1 _ 0 rfl,t1,c1,hs2⟩
  obtain ⟨s3,e3,S3,k3,P3⟩:=h s2 k2 S2
  have T3 : TrAt s3 st.nxt sc (.tup (fs.map Fr.d)):=k3.get T2 tn2 (fun z => Nat.lt_irrefl _ (hj _ z))
  have K : Kp js st s3:=k2.nil.trans k3
  have Kb : Kp js st (s3.put sc (.ins 3 (scrFs p fs))):=K.trans (Kp.put hsc)
  have bad : ∀ {c : Nat} {xs : List (Str × D)},Fd (.ref sc) s2 = .exc c xs s3 → ∀ g,F_Screen_tried g Fd [.ref sc,.cst (.ref g)] st = .exc c xs (s3.put sc (.ins 3 (scrFs p fs))):=fun {c xs} e g => tried_exc (Fd:=Fd) s2 (h2 g) e T3 S3
  have put : Kp [sc] s3 (s3.put sc (.ins 3 (scrFs p fs))):=Kp.put (by simp)
  cases x with
  | back k => exact ⟨s3,fun g => tried_ret (Fd:=Fd) hS hn s2 (h2 g) e3,S3,K,s3,P3,Kp.refl⟩
  | non => exact ⟨s3,fun g => tried_ret (Fd:=Fd) hS hn s2 (h2 g) e3,S3,K,s3,P3,Kp.refl⟩
  | _ => exact ⟨_,bad e3,Store.put_same,Kb,s3,P3,put⟩
theorem no_tried : (scrFs p fs).lookup ("tried" : Str) = none:=no_methS rfl rfl
end
end L58
namespace L58
open DV G PySem L2
def notesP (fs : List Fr) (as bs : List Act) (iw : Nat) : PyData:=match (after fs as).2 with
  | .non => .list [.list [.bool true,.str (frsS (after fs as).1),.str (frsS (after fs as).1)],.list [.list [.str (thenE (after (after fs as).1 bs).2 iw).txt.1,.str (thenE (after (after fs as).1 bs).2 iw).txt.2],.list [.list [.bool true,.str (frsS (after fs as).1)]],.str (frsS (if (thenE (after (after fs as).1 bs).2 iw).good then (after (after fs as).1 bs).1 else (after fs as).1))]]
  | _ => .list []
def actF (fs : List Fr) (as bs : List Act) (iw : Nat) : List Fr:=match (after fs as).2 with
  | .non => if (thenE (after (after fs as).1 bs).2 iw).good then (after (after fs as).1 bs).1 else (after fs as).1
  | _ => (after fs as).1
def Nt (n : Nat) (st : Store) (m : Nat) (z : PyData) : Prop:=m < st.nxt ∧ ∀ s,Kp [n] st s → toData s 20 (.ref m) = some z
theorem Nt.mv {n m : Nat} {st s : Store} {z : PyData} (h : Nt n st m z) (k : Kp [n] st s) : Nt n s m z:=⟨Nat.lt_of_lt_of_le h.1 k.le,fun t q => h.2 t (k.trans q)⟩
theorem endE_tok {k : Nat} : TOk (endE k).txt.1 ∧ TOk (endE k).txt.2:=by
  unfold endE
  split
  · exact ⟨by decide +kernel,by decide +kernel⟩
  · split
    · exact ⟨by decide +kernel,by decide +kernel⟩
    · split
      · exact ⟨by decide +kernel,tok_sI _⟩
      · split
        · exact ⟨by decide +kernel,by decide +kernel⟩
        · exact ⟨by show TOk "back"; decide +kernel,done_t k⟩
theorem after_tok {fs : List Fr} {as : List Act} : TOk (after fs as).2.txt.1 ∧ TOk (after fs as).2.txt.2:=by
  rcases after_end as fs with h | h | h <;> rw [h]
  · exact ⟨by decide +kernel,by decide +kernel⟩
  · exact ⟨by decide +kernel,by decide +kernel⟩
  · exact ⟨by decide +kernel,tok_sI _⟩
theorem thenE_tok {fs : List Fr} {as : List Act} {k : Nat} : TOk (thenE (after fs as).2 k).txt.1 ∧ TOk (thenE (after fs as).2 k).txt.2:=by
  by_cases z : (after fs as).2 = .non
  · rw [z]; exact endE_tok
  · rw [thenE_bad z]; exact after_tok
section
variable {p : Pic} {fs : List Fr} {n la li : Nat} {st : Store}
theorem notes_data {g1 g2 : List Fr} {x : En} {s : Store} {m a b c h q : Nat} (t1 : TOk (frsS g1)) (t2 : TOk (frsS g2)) (tx : TOk x.txt.1 ∧ TOk x.txt.2)
    (e0 : s.at_ m = some (.lst [.ref a,.ref b])) (e1 : s.at_ a = some (.lst [.bl true,.str (frsS g1),.str (frsS g1)])) (e2 : s.at_ b = some (.lst [.ref c,.ref h,.str (frsS g2)])) (e3 : s.at_ c = some (.lst [.str x.txt.1,.str x.txt.2])) (e4 : s.at_ h = some (.lst [.ref q])) (e5 : s.at_ q = some (.lst [.bl true,.str (frsS g1)])) :
    toData s 20 (.ref m) = some (.list [.list [.bool true,.str (frsS g1),.str (frsS g1)],.list [.list [.str x.txt.1,.str x.txt.2],.list [.list [.bool true,.str (frsS g1)]],.str (frsS g2)]]):=by
  have s1 : ∀ k,toData s (k + 1) (.str (frsS g1)) = some (.str (frsS g1)):=fun k => toData_str t1
  have s2 : ∀ k,toData s (k + 1) (.str (frsS g2)) = some (.str (frsS g2)):=fun k => toData_str t2
  have s3 : ∀ k,toData s (k + 1) (.str x.txt.1) = some (.str x.txt.1):=fun k => toData_str tx.1
  have s4 : ∀ k,toData s (k + 1) (.str x.txt.2) = some (.str x.txt.2):=fun k => toData_str tx.2
  have b1 : ∀ k,toData s (k + 1) (.bl true) = some (.bool true):=fun k => rfl
  have d5 : toData s 17 (.ref q) = some (.list [.bool true,.str (frsS g1)]):=data_lst e5 (by simp only [optL,b1 15,s1 15])
  have d4 : toData s 18 (.ref h) = some (.list [.list [.bool true,.str (frsS g1)]]):=data_lst e4 (by simp only [optL,d5])
  have d3 : toData s 18 (.ref c) = some (.list [.str x.txt.1,.str x.txt.2]):=data_lst e3 (by simp only [optL,s3 16,s4 16])
  have d2 : toData s 19 (.ref b) = some (.list [.list [.str x.txt.1,.str x.txt.2],.list [.list [.bool true,.str (frsS g1)]],.str (frsS g2)]):=data_lst e2 (by simp only [optL,d3,d4,s2 17])
  have d1 : toData s 19 (.ref a) = some (.list [.bool true,.str (frsS g1),.str (frsS g1)]):=data_lst e1 (by simp only [optL,b1 17,s1 17])
  exact data_lst e0 (by simp only [optL,d1,d2])
theorem notes_none {s : Store} {m : Nat} (e : s.at_ m = some (.lst [])) : toData s 20 (.ref m) = some (.list []):=data_lst e rfl
abbrev someD (la li w iw : Nat) : D:=.tup [.ref la,.ref li,.int (w : Int),.int (iw : Int)]
theorem action_ok {as bs : List Act} {w iw nn : Nat} (hp : p.Ok) (ha : ∀ a ∈ as,a.Ok p) (hb : ∀ a ∈ bs,a.Ok p) (hf : FsOk p fs) (hw : w < 100) (hiw : iw < 100) (hS : ScrAt st n p fs) (hn : n < st.nxt) (hla : st.at_ la = some (.lst (as.map Act.d))) (ll : la < st.nxt) (hli : st.at_ li = some (.lst (bs.map Act.d))) (l2 : li < st.nxt) (hnn : st.at_ nn = some (.lst [])) (ln : nn < st.nxt)
    (x1 : la ≠ n) (x2 : li ≠ n) (x3 : nn ≠ n) (x4 : la ≠ nn) (x5 : li ≠ nn) :
    ∃ st',F_law_action [.ref n,.ref n,someD la li w iw,.ref nn] st = (thenE (after fs as).2 w).res st' ∧ ScrAt st' n p (actF fs as bs iw) ∧ Kp [n,nn] st st' ∧ Nt n st' nn (notesP fs as bs iw):=by
  let l0 : DV.Loc:=[some (.ref n),some (.ref n),some (someD la li w iw),some (.ref nn),none,none,none,none,none,none]
  let l1 : DV.Loc:=[some (.ref n),some (.ref n),some (someD la li w iw),some (.ref nn),some (.ref la),some (.ref li),some (.int (w : Int)),some (.int (iw : Int)),none,none]
  have w0 : msAsg (mVar 2) (tgTup 4 (tgCons (tgName 4) (tgCons (tgName 5) (tgCons (tgName 6) (tgCons (tgName 7) tgNil))))) l0 st = .nx l1 st:=asg_is (d:=someD la li w iw) (s1:=st) rfl rfl
  obtain ⟨sa,ea,Sa,ka⟩:=done_ok x1 ha hf hS hn hla ll
  have na : n < sa.nxt:=Nat.lt_of_lt_of_le hn ka.le
  have arg : (maCons (mVar 0) (maCons (mVar 1) (maCons (mVar 4) maNil))) l1 st = .ok [.ref n,.ref n,.ref la] st:=rfl
  have nnA : sa.at_ nn = some (.lst []):=ka.get hnn ln (by simpa using x3)
  have lnA : nn < sa.nxt:=Nat.lt_of_lt_of_le ln ka.le
  by_cases z : (after fs as).2 = .non
  · have hA:=after_ok as fs ha hf
    have eP : notesP fs as bs iw = .list [.list [.bool true,.str (frsS (after fs as).1),.str (frsS (after fs as).1)],.list [.list [.str (thenE (after (after fs as).1 bs).2 iw).txt.1,.str (thenE (after (after fs as).1 bs).2 iw).txt.2],.list [.list [.bool true,.str (frsS (after fs as).1)]],.str (frsS (if (thenE (after (after fs as).1 bs).2 iw).good then (after (after fs as).1 bs).1 else (after fs as).1))]]:=by
      unfold notesP
      rw [z]
    have eF : actF fs as bs iw = if (thenE (after (after fs as).1 bs).2 iw).good then (after (after fs as).1 bs).1 else (after fs as).1:=by
      unfold actF
      rw [z]
    rw [z] at ea ⊢
    rw [eP,eF]
    have tG1 : TOk (frsS (after fs as).1):=frs_tok hA
    have tX:=thenE_tok (fs:=(after fs as).1) (as:=bs) (k:=iw)
    have hB:=after_ok bs _ hb hA
    have xOk : (thenE (after (after fs as).1 bs).2 iw).Ok:=thenE_ok after_endOk hiw
    have hG2 : FsOk p (if (thenE (after (after fs as).1 bs).2 iw).good then (after (after fs as).1 bs).1 else (after fs as).1):=by
      split
      · exact hB
      · exact hA
    generalize hx : thenE (after (after fs as).1 bs).2 iw = x at *
    generalize hg1 : (after fs as).1 = g1 at *
    generalize hgb : (after g1 bs).1 = gb at *
    -- the first note
    let s1:=sa.new (.lst [.bl true,.str (frsS g1),.str (frsS g1)])
    let s2:=s1.put nn (.lst [.ref sa.nxt])
    have k1 : Kp [] sa s1:=Kp.new
    have k2 : Kp [nn] s1 s2:=Kp.put (by simp)
    have ml : mLst (maCons (m2 (fEqI 3) (mVar 0) (mVar 1)) (maCons (mL (f1 reprA) (maCons (mProp 3 F_Screen_frames (mVar 0)) maNil)) (maCons (mL (f1 reprA) (maCons (mProp 3 F_Screen_frames (mVar 1)) maNil)) maNil))) l1 sa = .ok (.ref sa.nxt) s1:=lst_is (cons_is (eq_self (l:=l1) (i:=0) (j:=1) rfl rfl Sa) (cons_is (repr_frames (l:=l1) (i:=0) hp hA rfl Sa) (cons_is (repr_frames (l:=l1) (i:=1) hp hA rfl Sa) nil_is))) (by simp)
    have w2 : msExpr (mM "list" fAppend (mVar 3) (maCons (mLst (maCons (m2 (fEqI 3) (mVar 0) (mVar 1)) (maCons (mL (f1 reprA) (maCons (mProp 3 F_Screen_frames (mVar 0)) maNil)) (maCons (mL (f1 reprA) (maCons (mProp 3 F_Screen_frames (mVar 1)) maNil)) maNil)))) maNil)) l1 sa = .nx l1 s2:=
      expr_is (app_evE (xs:=[]) rfl nnA ml (k1.get0 nnA lnA) (by simp))
    -- the list of the function within
    let s3:=s2.new (.lst [])
    have k3 : Kp [] s2 s3:=Kp.new
    let l3 : DV.Loc:=[some (.ref n),some (.ref n),some (someD la li w iw),some (.ref nn),some (.ref la),some (.ref li),some (.int (w : Int)),some (.int (iw : Int)),some (.ref s2.nxt),none]
    have w3 : msAsg (mLst maNil) (tgName 8) l1 s2 = .nx l3 s3:=asg_n (lst_is nil_is (by simp)) rfl
    have u1 : sa.nxt < s1.nxt:=Nat.lt_succ_self _
    have u2 : s1.nxt = s2.nxt:=rfl
    have u3 : s2.nxt < s3.nxt:=Nat.lt_succ_self _
    have K13 : Kp [nn] sa s3:=(k1.nil.trans k2).trans k3.nil
    have S3 : ScrAt s3 n p g1:=K13.get Sa na (by simpa using x3.symm)
    have n3 : n < s3.nxt:=Nat.lt_of_lt_of_le na K13.le
    have li3 : s3.at_ li = some (.lst (bs.map Act.d)):=K13.get (ka.get hli l2 (by simpa using x2)) (Nat.lt_of_lt_of_le l2 ka.le) (by simpa using x5)
    have ll3 : li < s3.nxt:=Nat.lt_of_lt_of_le (Nat.lt_of_lt_of_le l2 ka.le) K13.le
    have hh3 : s3.at_ s2.nxt = some (.lst []):=Store.new_same
    have a3 : s3.at_ sa.nxt = some (.lst [.bl true,.str (frsS g1),.str (frsS g1)]):=k3.get0 (k2.get Store.new_same u1 (by simp; omega)) (by omega)
    have nn3 : s3.at_ nn = some (.lst [.ref sa.nxt]):=k3.get0 Store.put_same (by omega)
    have lis2 : li < s2.nxt:=Nat.lt_of_lt_of_le (Nat.lt_of_lt_of_le l2 ka.le) (Nat.le_of_lt (by omega))
    have ns2 : n < s2.nxt:=by omega
    -- the trial within
    let m : ME:=mCall F_law_inner [] (maCons (mVar 10) (maCons (mVar 1) (maCons (mVar 5) (maCons (mVar 7) (maCons (mVar 8) maNil)))))
    obtain ⟨s4,e4,S4,k4,s4',⟨q,hq1,hq2,hq3,hq4⟩,k44⟩:=tried_any (Fd:=fun d st => m (l3 ++ [some d]) st) (x:=x) (gs:=gb) (js:=[n,s2.nxt]) (P:=fun s => ∃ q,s.at_ s2.nxt = some (.lst [.ref q]) ∧ s.at_ q = some (.lst [.bl true,.str (frsS g1)]) ∧ q < s.nxt ∧ s3.nxt ≤ q) S3 n3
      (fun j hj => by
        simp only [List.mem_cons,List.not_mem_nil,or_false] at hj
        rcases hj with rfl | rfl
        · exact n3
        · exact u3) (by simp) (fun t kt St => by
        obtain ⟨t',q1,q2,q3,q4,q5,q6⟩:=inner_ok (k:=iw) (nh:=s2.nxt) hp x2 (by omega) (by omega) hb hA St (Nat.lt_of_lt_of_le n3 kt.le) (kt.get0 li3 ll3) (Nat.lt_of_lt_of_le ll3 kt.le) (kt.get0 hh3 u3) (Nat.lt_of_lt_of_le u3 kt.le)
        rw [hx] at q1
        rw [hgb] at q2
        exact ⟨t',call_is (ds:=[.ref n,.ref n,.ref li,.int (iw : Int),.ref s2.nxt]) (s1:=t) rfl q1,q2,q3,t.nxt,q4,q5,q6,kt.le⟩)
    have n4 : n < s4.nxt:=Nat.lt_of_lt_of_le n3 k4.le
    have me : mMethL 3 "tried" m F_Screen_tried (mVar 0) l3 s3 = x.res s4:=mMethL_eq (var_is (l:=l3) (i:=0) rfl) S3 no_tried e4
    obtain ⟨c,s5,e5,a5,c5,k5⟩:=went_ok (Fd:=fun st => mMethL 3 "tried" m F_Screen_tried (mVar 0) l3 st) xOk me
    let l5 : DV.Loc:=[some (.ref n),some (.ref n),some (someD la li w iw),some (.ref nn),some (.ref la),some (.ref li),some (.int (w : Int)),some (.int (iw : Int)),some (.ref s2.nxt),some (.ref c)]
    have w5 : msAsg (mLamA (mMethL 3 "tried" m F_Screen_tried (mVar 0)) F_law_went maNil) (tgName 9) l3 s3 = .nx l5 s5:=asg_n (mLamA_eq (ds:=[]) (st1:=s3) rfl fun f => e5 f) rfl
    have S5:=k5.get0 S4 n4
    have n5 : n < s5.nxt:=Nat.lt_of_lt_of_le n4 k5.le
    generalize hg2 : (if x.good then gb else g1) = g2 at *
    have tG2 : TOk (frsS g2):=frs_tok hG2
    -- the second note
    let s6:=s5.new (.lst [.ref c,.ref s2.nxt,.str (frsS g2)])
    let s7:=s6.put nn (.lst [.ref sa.nxt,.ref s5.nxt])
    have k6 : Kp [] s5 s6:=Kp.new
    have k7 : Kp [nn] s6 s7:=Kp.put (by simp)
    have k45 : Kp [n,s2.nxt] s3 s5:=k4.trans k5.nil
    have nn5 : s5.at_ nn = some (.lst [.ref sa.nxt]):=k45.get nn3 (by omega) (by simp; exact ⟨x3,by omega⟩)
    have ln5 : nn < s5.nxt:=Nat.lt_of_lt_of_le (by omega) k45.le
    have cn : c ≠ nn:=fun e => by
      rw [e,nn5] at a5
      cases a5
    have cs : c ≠ n:=fun e => by
      have h:=S5
      unfold ScrAt at h
      rw [e,h] at a5
      cases a5
    have ml2 : mLst (maCons (mVar 9) (maCons (mVar 8) (maCons (mL (f1 reprA) (maCons (mProp 3 F_Screen_frames (mVar 1)) maNil)) maNil))) l5 s5 = .ok (.ref s5.nxt) s6:=lst_is (cons_is (x:=.ref c) (s1:=s5) rfl (cons_is (x:=.ref s2.nxt) (s1:=s5) rfl (cons_is (repr_frames (l:=l5) (i:=1) hp hG2 rfl S5) nil_is))) (by simp)
    have w6 : msExpr (mM "list" fAppend (mVar 3) (maCons (mLst (maCons (mVar 9) (maCons (mVar 8) (maCons (mL (f1 reprA) (maCons (mProp 3 F_Screen_frames (mVar 1)) maNil)) maNil)))) maNil)) l5 s5 = .nx l5 s7:=
      expr_is (app_evE (xs:=[.ref sa.nxt]) rfl nn5 ml2 (k6.get0 nn5 ln5) (by simp))
    have u6 : s5.nxt < s6.nxt:=Nat.lt_succ_self _
    have u7 : s6.nxt = s7.nxt:=rfl
    have K57 : Kp [nn] s5 s7:=k6.nil.trans k7
    have S7 : ScrAt s7 n p g2:=K57.get S5 n5 (by simpa using x3.symm)
    have le35 : s3.nxt ≤ s5.nxt:=k45.le
    have q4' : s4'.nxt ≤ s4.nxt:=k44.le
    have r5 : s5.at_ s2.nxt = some (.lst [.ref q]):=k5.get0 (k44.get hq1 (by omega) (by simp; omega)) (by omega)
    have rq : s5.at_ q = some (.lst [.bl true,.str (frsS g1)]):=k5.get0 (k44.get hq2 hq3 (by simp; omega)) (by omega)
    have lq : q < s5.nxt:=Nat.lt_of_lt_of_le (Nat.lt_of_lt_of_le hq3 k44.le) k5.le
    have f0 : s7.at_ nn = some (.lst [.ref sa.nxt,.ref s5.nxt]):=Store.put_same
    have f1' : s7.at_ sa.nxt = some (.lst [.bl true,.str (frsS g1),.str (frsS g1)]):=K57.get (k45.get a3 (by omega) (by simp; omega)) (by omega) (by simp; omega)
    have f2' : s7.at_ s5.nxt = some (.lst [.ref c,.ref s2.nxt,.str (frsS g2)]):=k7.get Store.new_same u6 (by simp; omega)
    have f3 : s7.at_ c = some (.lst [.str x.txt.1,.str x.txt.2]):=K57.get a5 c5 (by simpa using cn)
    have f4 : s7.at_ s2.nxt = some (.lst [.ref q]):=K57.get r5 (by omega) (by simp; omega)
    have f5 : s7.at_ q = some (.lst [.bl true,.str (frsS g1)]):=K57.get rq lq (by simp; omega)
    have KK : Kp [n,nn] st s7:=by
      have a : Kp [n,nn] st s3:=(ka.more (by simp)).trans (K13.more (by simp))
      have b : Kp [n,nn] st s5:=⟨Nat.le_trans a.le k45.le,fun j hj hne => (k45.at_ j (Nat.lt_of_lt_of_le hj a.le) (by
        simp only [List.mem_cons,List.not_mem_nil,or_false,not_or] at hne ⊢
        exact ⟨hne.1,by have:=ka.le; omega⟩)).trans (a.at_ j hj hne)⟩
      exact b.trans (K57.more (by simp))
    refine ⟨s7,def_res (l:=l0) (l':=l5) rfl rfl (seq_go w0 (seq_go (expr_is (call_is arg ea)) (seq_go w2 (seq_go w3 (seq_go w5 (seq_go w6 (ret_res (call_is (ds:=[.int (w : Int)]) (s1:=s7) rfl (ending_ok s7 w))))))))),S7,KK,by omega,fun s k => ?_⟩
    exact notes_data tG1 tG2 tX (k.get f0 (by omega) (by simpa using x3)) (k.get f1' (by omega) (by simp; omega)) (k.get f2' (by omega) (by simp; omega)) (k.get f3 (by omega) (by simpa using cs)) (k.get f4 (by omega) (by simp; omega)) (k.get f5 (by omega) (by simp; omega))
  · have g : (after fs as).2.good = false:=by
      rcases after_end as fs with h | h | h
      · exact absurd h z
      · rw [h]; rfl
      · rw [h]; rfl
    have eP : notesP fs as bs iw = .list []:=by
      unfold notesP
      rcases after_end as fs with h | h | h
      · exact absurd h z
      · rw [h]
      · rw [h]
    have eF : actF fs as bs iw = (after fs as).1:=by
      unfold actF
      rcases after_end as fs with h | h | h
      · exact absurd h z
      · rw [h]
      · rw [h]
    rw [thenE_bad z,eP,eF]
    exact ⟨sa,def_res (l:=l0) (l':=l1) rfl rfl (seq_go w0 (seq_res (expr_res (call_is arg ea) g) g)),Sa,ka.more (by simp),lnA,fun s k => notes_none (k.get nnA lnA (by simpa using x3))⟩
end
end L58
namespace DV
open PySem PySem.Spec PyProof.Rows L2 He
section
variable {X : Cx} {cl : CL} {W : WX} {o e : Expr} {mo me : ME} {apos pos : Pos}
end
open Classical in
section
variable {X : Cx} {cl : CL} {W : WX} {k n c : Nat} {p g : Addr} {fd : FuncData} {ps ks : List Str} {G : Addr → FD} {x name : Str} {px apos pos : Pos} {e : Expr} {es : List Expr} {kws : List Keyword} {xs ys : MA} {ix : List Src} {dds : List D} {dvs : List V} {mc : Value}
end
section
variable {X : Cx} {cl : CL} {W : WX} {k n c : Nat} {f : Addr} {fd : FuncData} {ps ks : List Str} {F : FD} {x : Str} {p pos : Pos} {e : Expr} {es : List Expr} {kws : List Keyword} {xs ys : MA} {ix : List Src} {dds : List D} {dvs : List V}
end
section
variable {prog : Program} {w : World} {A : Around} {E : Value → Shared → Prop} {s : Shared} {K : PySem.W.Frag} {x C f : Addr} {ox : Obj} {od : Option Obj} {b tb : Value}
end
structure NfOk (K : PySem.W.Frag) (cl : CL) (c : Nat) (bs : List String) (cs : List Nat) : Prop where
  b : ∀ m ∈ bs,PySem.W.notFirst K (cl c) (.type m) = true
  o : ∀ d ∈ cs,PySem.W.notFirst K (cl c) (.ref (cl d)) = true ∧ ClsA K (cl d)
section
variable {X : Cx} {cl : CL} {k c : Nat} {f : Addr} {fd : FuncData} {ps : List Str} {F : FD} {bs : List String} {cs : List Nat}
end
section
variable {fx : List Fx} {fn : List DefA} {K : PySem.W.Frag} {mg : Str → Option Value}
end
end DV
namespace G
open DV PySem L2
noncomputable section
end
end G
namespace G
open DV PySem L2
noncomputable section
end
end G
namespace G
open DV PySem L2
def layD (f : Fr) : D:=.tup [.str f.ink,f.part]
def shD (s : List Fr) : D:=.tup (s.map layD)
structure Wsh where
  W : Int
  Hh : Int
  sh : List (List Fr)
  firm : List Str
def Wsh.d (w : Wsh) : D:=.tup [.int w.W,.int w.Hh,.tup (w.sh.map shD),.tup (w.firm.map D.str)]
structure Wsh.Ok (w : Wsh) : Prop where
  W0 : 1 ≤ w.W
  W1 : w.W ≤ 1000000000000
  H0 : 1 ≤ w.Hh
  H1 : w.Hh ≤ 1000000000000
  ne : w.sh ≠ []
  l4 : w.sh.length ≤ 4
  s4 : ∀ s ∈ w.sh,s.length ≤ 4
  fr : ∀ s ∈ w.sh,∀ f ∈ s,f.Ok w.W w.Hh
  firm : FirmOk w.firm
section
variable {st : Store} {n : Nat} {w : Wsh}
end
end G
namespace G
open DV PySem L2
end G
namespace G
open DV PySem L2
structure HeadOk (p : Pic) : Prop where
  W0 : 1 ≤ p.W
  W1 : p.W ≤ 1000000000000
  H0 : 1 ≤ p.Hh
  H1 : p.Hh ≤ 1000000000000
  firm : FirmOk p.firm
theorem Pic.Ok.head {p : Pic} (h : p.Ok) : HeadOk p:=⟨h.W0,h.W1,h.H0,h.H1,h.firm⟩
section
variable {p : Pic} {st : Store}
end
end G
namespace G
open DV PySem L2
section
variable {p : Pic} {st : Store}
end
section
variable {p : Pic} {st : Store}
end
end G
namespace G
open DV PySem L2
section
variable {p q : Pic} {n m : Nat} {st : Store}
def Pic.bare (p : Pic) : Pic:=⟨p.W,p.Hh,p.fs,[]⟩
end
end G
namespace G
open DV PySem L2
section
variable {st : Store} {n : Nat} {w : Wsh}
variable {p : Pic}
def Wsh.bare (w : Wsh) : Wsh:=⟨w.W,w.Hh,w.sh,[]⟩
def Wsh.hd (w : Wsh) : Pic:=⟨w.W,w.Hh,[],w.firm⟩
end
end G
namespace G
open DV PySem L2
section
variable {st : Store} {n : Nat} {w : Wsh}
end
end G
namespace G
open DV PySem L2
structure Found (st : Store) (f : Nat) (as : List Nat) (ss : List (List Fr)) : Prop where
  fo : st.at_ f = some (.lst (as.map D.ref))
  fn : f < st.nxt
  len : as.length = ss.length
  lt : ∀ a ∈ as,a < st.nxt ∧ a ≠ f
  nd : as.Nodup
  at_ : ∀ (i a : Nat) (s : List Fr),as[i]? = some a → ss[i]? = some s → st.at_ a = some (.lst (s.map layD))
section
variable {st st' : Store} {f m : Nat} {as : List Nat} {ss : List (List Fr)} {w : Wsh}
theorem Found.mv0 (h : Found st f as ss) (k : Kp [] st st') : Found st' f as ss:=
  ⟨k.get0 h.fo h.fn,Nat.lt_of_lt_of_le h.fn k.le,h.len,fun a ha => ⟨Nat.lt_of_lt_of_le (h.lt a ha).1 k.le,(h.lt a ha).2⟩,h.nd,fun i a s h1 h2 => k.get0 (h.at_ i a s h1 h2) (h.lt a (List.mem_of_getElem? h1)).1⟩
theorem Found.more (h : Found st f as ss) : Found ((st.new (.lst [])).put f (.lst ((as ++ [st.nxt]).map D.ref))) f (as ++ [st.nxt]) (ss ++ [[]]):=by
  have kn : Kp [] st (st.new (.lst [])):=Kp.new
  have fn:=h.fn
  refine ⟨Store.put_same,Nat.lt_succ_of_lt h.fn,by simp [h.len],fun a ha => ?_,?_,fun i a s h1 h2 => ?_⟩
  · rcases List.mem_append.mp ha with z | z
    · exact ⟨Nat.lt_succ_of_lt (h.lt a z).1,(h.lt a z).2⟩
    · rw [List.mem_singleton.mp z]
      exact ⟨Nat.lt_succ_self _,by omega⟩
  · refine List.nodup_append.mpr ⟨h.nd,by simp,fun a ha b hb => ?_⟩
    rw [List.mem_singleton.mp hb]
    have:=(h.lt a ha).1
    omega
  · have hlt : i < as.length + 1:=by
      have:=(List.getElem?_eq_some_iff.mp h1).1
      simpa using this
    by_cases z : i < as.length
    · rw [List.getElem?_append_left z] at h1
      rw [List.getElem?_append_left (by rw [← h.len]; exact z)] at h2
      have g:=h.at_ i a s h1 h2
      have l:=h.lt a (List.mem_of_getElem? h1)
      have e:=kn.get0 g l.1
      exact (Kp.put (js:=[f]) (by simp)).get e (Nat.lt_succ_of_lt l.1) (by simpa using l.2)
    · have e : i = as.length:=by omega
      subst e
      rw [List.getElem?_append_right (Nat.le_refl _)] at h1
      rw [h.len,List.getElem?_append_right (Nat.le_refl _)] at h2
      simp at h1 h2
      subst h1 h2
      have g : (st.new (.lst [])).at_ st.nxt = some (.lst (([] : List Fr).map layD)):=Store.new_same
      exact (Kp.put (js:=[f]) (by simp)).get g (Nat.lt_succ_self _) (by simp; omega)
theorem Found.add {a : Nat} {pre : List (List Fr)} {cur : List Fr} {x : Fr} (h : Found st f (as ++ [a]) (pre ++ [cur])) : Found (st.put a (.lst ((cur ++ [x]).map layD))) f (as ++ [a]) (pre ++ [cur ++ [x]]):=by
  have la:=h.lt a (by simp)
  have k : Kp [a] st (st.put a (.lst ((cur ++ [x]).map layD))):=Kp.put (by simp)
  have hl : as.length = pre.length:=by have:=h.len; simpa using this
  refine ⟨k.get h.fo h.fn (by simpa using la.2.symm),h.fn,by simp [hl],h.lt,h.nd,fun i b s h1 h2 => ?_⟩
  by_cases z : i < as.length
  · have hb : b ∈ as:=by
      rw [List.getElem?_append_left z] at h1
      exact List.mem_of_getElem? h1
    have ne : b ≠ a:=(List.nodup_append.mp h.nd).2.2 b hb a (by simp)
    have g:=h.at_ i b s h1 (by
      rw [List.getElem?_append_left (by rw [← hl]; exact z)] at h2 ⊢
      exact h2)
    exact k.get g (h.lt b (List.mem_append.mpr (.inl hb))).1 (by simpa using ne)
  · have e : i = as.length:=by
      have:=(List.getElem?_eq_some_iff.mp h1).1
      simp at this
      omega
    subst e
    rw [List.getElem?_append_right (Nat.le_refl _)] at h1
    rw [hl,List.getElem?_append_right (Nat.le_refl _)] at h2
    simp at h1 h2
    subst h1 h2
    exact Store.put_same
theorem Found.last {a : Nat} {pre : List (List Fr)} {cur : List Fr} (h : Found st f (as ++ [a]) (pre ++ [cur])) : st.at_ a = some (.lst (cur.map layD)):=by
  have hl : as.length = pre.length:=by have:=h.len; simpa using this
  exact h.at_ as.length a cur (by simp) (by rw [hl]; simp)
def LinesAt (st : Store) (m : Nat) (all : List Str) : Prop:=st.at_ m = some (.lst (all.map D.str)) ∧ m < st.nxt
abbrev sl (m : Nat) (w : Wsh) (n f : Nat) (o5 o6 o7 : Option D) : DV.Loc:=[some (.ref m),some (.int w.W),some (.int w.Hh),some (.int (n : Int)),some (.ref f),o5,o6,o7]
end
end G
namespace G
open DV PySem L2
theorem Kp.base {js : List Nat} {a b c : Store} (k0 : Kp [] a b) (k : Kp js b c) (h : ∀ j ∈ js,a.nxt ≤ j) : Kp [] a c:=
  ⟨Nat.le_trans k0.le k.le,fun m hm _ => (k.at_ m (Nat.lt_of_lt_of_le hm k0.le) fun z => absurd (h m z) (by omega)).trans (k0.at_ m hm (by simp))⟩
section
variable {st0 st st' : Store} {f m : Nat} {as : List Nat} {ss : List (List Fr)} {w : Wsh}
structure FB (st0 st : Store) (m f : Nat) (all : List Str) (as : List Nat) (ss : List (List Fr)) : Prop where
  L : LinesAt st m all
  F : Found st f as ss
  k : Kp [] st0 st
  f0 : st0.nxt ≤ f
  a0 : ∀ a ∈ as,st0.nxt ≤ a
  m0 : m < st0.nxt
end
end G
namespace L58
open DV G PySem L2
theorem back_iff (x : En) : decide (x.txt.1 = ("back" : Str)) = x.good:=by
  cases x with
  | back k => show decide (("back" : Str) = "back") = true; decide +kernel
  | non => show decide (("back" : Str) = "back") = true; decide +kernel
  | key => show decide (("key" : Str) = "back") = false; decide +kernel
  | zero => show decide (("zero" : Str) = "back") = false; decide +kernel
  | many k => show decide (("many" : Str) = "back") = false; decide +kernel
  | unk => show decide (("unknown" : Str) = "back") = false; decide +kernel
  | undo => show decide (("undo" : Str) = "back") = false; decide +kernel
def lapF (fs : List Fr) (as bs : List Act) (w iw : Nat) : List Fr:=if (thenE (after fs as).2 w).good then actF fs as bs iw else fs
section
variable {p : Pic} {fs : List Fr} {n la li : Nat} {st : Store}
theorem actF_ok {as bs : List Act} {iw : Nat} (ha : ∀ a ∈ as,a.Ok p) (hb : ∀ a ∈ bs,a.Ok p) (hf : FsOk p fs) : FsOk p (actF fs as bs iw):=by
  have hA:=after_ok as fs ha hf
  unfold actF
  split
  · split
    · exact after_ok bs _ hb hA
    · exact hA
  · exact hA
theorem lapF_ok {as bs : List Act} {w iw : Nat} (ha : ∀ a ∈ as,a.Ok p) (hb : ∀ a ∈ bs,a.Ok p) (hf : FsOk p fs) : FsOk p (lapF fs as bs w iw):=by
  unfold lapF
  split
  · exact actF_ok ha hb hf
  · exact hf
theorem back_t {l : DV.Loc} {s : Store} {i c : Nat} {x : En} (hi : l[i]? = some (some (.ref c))) (hc : s.at_ c = some (.lst [.str x.txt.1,.str x.txt.2])) : tB_ (m2 fEq (m2 fIx (mVar i) (mC (.int 0))) (mC (.str "back"))) l s = .ok x.good s:=by
  rw [← back_iff]
  exact tb_is (m2_is (x:=.str x.txt.1) (y:=.str "back") (s1:=s) (s2:=s) (m2_is (x:=.ref c) (y:=.int 0) (s1:=s) (s2:=s) (var_is hi) rfl (ix_lst hc rfl)) rfl str_eqE)
theorem due_ok {as bs : List Act} {w iw cc : Nat} {ff : List (Str × D)} (hN : st.at_ n = some (.ins cc ff)) (hp : p.Ok) (ha : ∀ a ∈ as,a.Ok p) (hb : ∀ a ∈ bs,a.Ok p) (hf : FsOk p fs) (hw : w < 100) (hiw : iw < 100) (hn : n < st.nxt) (hla : st.at_ la = some (.lst (as.map Act.d))) (ll : la < st.nxt) (hli : st.at_ li = some (.lst (bs.map Act.d))) (ll2 : li < st.nxt) :
    ∃ nd dd st',F_law_notes_due [.tup (fs.map Fr.d),someD la li w iw] st = .ok (.tup [.ref nd,.ref dd,.tup ((lapF fs as bs w iw).map Fr.d)]) st' ∧ st'.at_ dd = some (.lst [.str (thenE (after fs as).2 w).txt.1,.str (thenE (after fs as).2 w).txt.2]) ∧ dd < st'.nxt ∧ Kp [] st st' ∧ Nt n st' nd (notesP fs as bs iw):=by
  let R : D:=.tup (fs.map Fr.d)
  let S : D:=someD la li w iw
  let l0 : DV.Loc:=[some R,some S,none,none,none,none,none,none,none,none,none,none,none]
  let l1 : DV.Loc:=[some R,some S,some (.ref la),some (.ref li),some (.int (w : Int)),some (.int (iw : Int)),none,none,none,none,none,none,none]
  have w0 : msAsg (mVar 1) (tgTup 4 (tgCons (tgName 2) (tgCons (tgName 3) (tgCons (tgName 4) (tgCons (tgName 5) tgNil))))) l0 st = .nx l1 st:=asg_is (d:=S) (s1:=st) rfl rfl
  obtain ⟨d1,s1,e1,E1,k1⟩:=after_call ha hf hla ll
  let A : D:=.tup ((after fs as).1.map Fr.d)
  let l2 : DV.Loc:=[some R,some S,some (.ref la),some (.ref li),some (.int (w : Int)),some (.int (iw : Int)),some A,some d1,none,none,none,none,none]
  have w1 : msAsg (mCall F_law_after [] (maCons (mVar 0) (maCons (mVar 2) maNil))) (tgTup 2 (tgCons (tgName 6) (tgCons (tgName 7) tgNil))) l1 st = .nx l2 s1:=asg_is (d:=.tup [A,d1]) (s1:=s1) (call_is (ds:=[R,.ref la]) (s1:=st) rfl e1) rfl
  have hA:=after_ok as fs ha hf
  rcases E1 with ⟨z,hd⟩ | ⟨z,m,hd,lm,gm⟩
  · subst hd
    have w2 : msIf (tB_ (m2 fNotN (mVar 7) (mC .non))) (msRet (mTup (maCons (mLst maNil) (maCons (mVar 7) (maCons (mVar 0) maNil))))) msNil l2 s1 = .nx l2 s1:=if_fn (tb_is (m2_is (x:=.non) (y:=.non) (s1:=s1) (s2:=s1) rfl rfl rfl))
    have eP : notesP fs as bs iw = .list [.list [.bool true,.str (frsS (after fs as).1),.str (frsS (after fs as).1)],.list [.list [.str (thenE (after (after fs as).1 bs).2 iw).txt.1,.str (thenE (after (after fs as).1 bs).2 iw).txt.2],.list [.list [.bool true,.str (frsS (after fs as).1)]],.str (frsS (if (thenE (after (after fs as).1 bs).2 iw).good then (after (after fs as).1 bs).1 else (after fs as).1))]]:=by
      unfold notesP
      rw [z]
    have eF : lapF fs as bs w iw = if (endE w).good then (if (thenE (after (after fs as).1 bs).2 iw).good then (after (after fs as).1 bs).1 else (after fs as).1) else fs:=by
      unfold lapF actF
      rw [z]
      rfl
    rw [eP,eF,z,thenE_non]
    have hB:=after_ok bs _ hb hA
    have tG1 : TOk (frsS (after fs as).1):=frs_tok hA
    have tX:=thenE_tok (fs:=(after fs as).1) (as:=bs) (k:=iw)
    have hG2 : FsOk p (if (thenE (after (after fs as).1 bs).2 iw).good then (after (after fs as).1 bs).1 else (after fs as).1):=by
      split
      · exact hB
      · exact hA
    -- the first note
    let s2:=s1.new (.lst [.bl true,.str (frsS (after fs as).1),.str (frsS (after fs as).1)])
    let s3:=s2.new (.lst [.ref s1.nxt])
    have k3 : Kp [] s1 s3:=Kp.new.trans Kp.new
    let l3 : DV.Loc:=[some R,some S,some (.ref la),some (.ref li),some (.int (w : Int)),some (.int (iw : Int)),some A,some .non,some (.ref s2.nxt),none,none,none,none]
    have rA : mL (f1 reprA) (maCons (mVar 6) maNil) l2 s1 = .ok (.str (frsS (after fs as).1)) s1:=mL_is (ds:=[A]) (s1:=s1) (cons_is (x:=A) (s1:=s1) rfl nil_is) (frs_repr hp hA)
    have w3 : msAsg (mLst (maCons (mLst (maCons (mC (.bl true)) (maCons (mL (f1 reprA) (maCons (mVar 6) maNil)) (maCons (mL (f1 reprA) (maCons (mVar 6) maNil)) maNil)))) maNil)) (tgName 8) l2 s1 = .nx l3 s3:=
      asg_n (lst_is (cons_is (lst_is (cons_is (x:=.bl true) (s1:=s1) rfl (cons_is rA (cons_is rA nil_is))) (by simp)) nil_is) (by simp)) rfl
    have K13 : Kp [] st s3:=k1.trans k3
    obtain ⟨d4,s4,e4,E4,k4⟩:=after_call (st:=s3) (fs:=(after fs as).1) hb hA (K13.get0 hli ll2) (Nat.lt_of_lt_of_le ll2 K13.le)
    let B : D:=.tup ((after (after fs as).1 bs).1.map Fr.d)
    let l4 : DV.Loc:=[some R,some S,some (.ref la),some (.ref li),some (.int (w : Int)),some (.int (iw : Int)),some A,some .non,some (.ref s2.nxt),some B,some d4,none,none]
    have w4 : msAsg (mCall F_law_after [] (maCons (mVar 6) (maCons (mVar 3) maNil))) (tgTup 2 (tgCons (tgName 9) (tgCons (tgName 10) tgNil))) l3 s3 = .nx l4 s4:=asg_is (d:=.tup [B,d4]) (s1:=s4) (call_is (ds:=[A,.ref li]) (s1:=s3) rfl e4) rfl
    -- what is said of the trial within
    obtain ⟨c,s5,e5,g5,c5,k5⟩ : ∃ c s5,mIf (tB_ (m2 fIsN (mVar 10) (mC .non))) (mCall F_law_end_due [] (maCons (mVar 5) maNil)) (mVar 10) l4 s4 = .ok (.ref c) s5 ∧ s5.at_ c = some (.lst [.str (thenE (after (after fs as).1 bs).2 iw).txt.1,.str (thenE (after (after fs as).1 bs).2 iw).txt.2]) ∧ c < s5.nxt ∧ Kp [] s4 s5:=by
      rcases E4 with ⟨y,hd⟩ | ⟨y,m,hd,lm,gm⟩
      · obtain ⟨c,s5,q1,q2,q3,q4⟩:=end_due_ok s4 hiw
        rw [y,thenE_non]
        exact ⟨c,s5,mif_t (tb_is (m2_is (x:=.non) (y:=.non) (s1:=s4) (s2:=s4) (var_is (by show some (some d4) = _; rw [hd])) rfl rfl)) (call_is (ds:=[.int (iw : Int)]) (s1:=s4) rfl q1),q2,q3,q4⟩
      · rw [thenE_bad y]
        exact ⟨m,s4,mif_f (tb_is (m2_is (x:=.ref m) (y:=.non) (s1:=s4) (s2:=s4) (var_is (by show some (some d4) = _; rw [hd])) rfl rfl)) (var_is (by show some (some d4) = _; rw [hd])),gm,lm,Kp.refl⟩
    generalize hx : thenE (after (after fs as).1 bs).2 iw = x at *
    let l5 : DV.Loc:=[some R,some S,some (.ref la),some (.ref li),some (.int (w : Int)),some (.int (iw : Int)),some A,some .non,some (.ref s2.nxt),some B,some d4,some (.ref c),none]
    have w5 : msAsg (mIf (tB_ (m2 fIsN (mVar 10) (mC .non))) (mCall F_law_end_due [] (maCons (mVar 5) maNil)) (mVar 10)) (tgName 11) l4 s4 = .nx l5 s5:=asg_n e5 rfl
    let C : D:=.tup ((if x.good then (after (after fs as).1 bs).1 else (after fs as).1).map Fr.d)
    let l6 : DV.Loc:=[some R,some S,some (.ref la),some (.ref li),some (.int (w : Int)),some (.int (iw : Int)),some A,some .non,some (.ref s2.nxt),some C,some d4,some (.ref c),none]
    have w6 : msAsg (mIf (tB_ (m2 fEq (m2 fIx (mVar 11) (mC (.int 0))) (mC (.str "back")))) (mVar 9) (mVar 6)) (tgName 9) l5 s5 = .nx l6 s5:=asg_n (d:=C) (by
      have b:=back_t (l:=l5) (i:=11) rfl g5
      show _ = Res.ok (D.tup ((if x.good then (after (after fs as).1 bs).1 else (after fs as).1).map Fr.d)) s5
      cases h : x.good with
      | true => rw [h] at b; exact mif_t b rfl
      | false => rw [h] at b; exact mif_f b rfl) rfl
    -- the second note
    let s6:=s5.new (.lst [.bl true,.str (frsS (after fs as).1)])
    let s7:=s6.new (.lst [.ref s5.nxt])
    let s8:=s7.new (.lst [.ref c,.ref s6.nxt,.str (frsS (if x.good then (after (after fs as).1 bs).1 else (after fs as).1))])
    let s9:=s8.put s2.nxt (.lst [.ref s1.nxt,.ref s7.nxt])
    have k6 : Kp [] s5 s6:=Kp.new
    have k7 : Kp [] s6 s7:=Kp.new
    have k8 : Kp [] s7 s8:=Kp.new
    have k9 : Kp [s2.nxt] s8 s9:=Kp.put (by simp)
    have v1 : s1.nxt < s2.nxt:=Nat.lt_succ_self _
    have v2 : s2.nxt < s3.nxt:=Nat.lt_succ_self _
    have v3:=k4.le
    have v4:=k5.le
    have v5 : s5.nxt < s6.nxt:=Nat.lt_succ_self _
    have v6 : s6.nxt < s7.nxt:=Nat.lt_succ_self _
    have v7 : s7.nxt < s8.nxt:=Nat.lt_succ_self _
    have v8 : s8.nxt = s9.nxt:=rfl
    have v0:=k1.le
    have g3 : s3.at_ s2.nxt = some (.lst [.ref s1.nxt]):=Store.new_same
    have k38 : Kp [] s3 s8:=(((k4.trans k5).trans k6).trans k7).trans k8
    have k35 : Kp [] s3 s5:=k4.trans k5
    have rA6 : mL (f1 reprA) (maCons (mVar 6) maNil) l6 s5 = .ok (.str (frsS (after fs as).1)) s5:=mL_is (ds:=[A]) (s1:=s5) (cons_is (x:=A) (s1:=s5) rfl nil_is) (frs_repr hp hA)
    have rC : mL (f1 reprA) (maCons (mVar 9) maNil) l6 s7 = .ok (.str (frsS (if x.good then (after (after fs as).1 bs).1 else (after fs as).1))) s7:=mL_is (ds:=[C]) (s1:=s7) (cons_is (x:=C) (s1:=s7) rfl nil_is) (frs_repr hp hG2)
    have ml : mLst (maCons (mVar 11) (maCons (mLst (maCons (mLst (maCons (mC (.bl true)) (maCons (mL (f1 reprA) (maCons (mVar 6) maNil)) maNil))) maNil)) (maCons (mL (f1 reprA) (maCons (mVar 9) maNil)) maNil))) l6 s5 = .ok (.ref s7.nxt) s8:=
      lst_is (cons_is (x:=.ref c) (s1:=s5) rfl (cons_is (lst_is (cons_is (lst_is (cons_is (x:=.bl true) (s1:=s5) rfl (cons_is rA6 nil_is)) (by simp)) nil_is) (by simp)) (cons_is rC nil_is))) (by simp)
    have w7 : msExpr (mM "list" fAppend (mVar 8) (maCons (mLst (maCons (mVar 11) (maCons (mLst (maCons (mLst (maCons (mC (.bl true)) (maCons (mL (f1 reprA) (maCons (mVar 6) maNil)) maNil))) maNil)) (maCons (mL (f1 reprA) (maCons (mVar 9) maNil)) maNil)))) maNil)) l6 s5 = .nx l6 s9:=
      expr_is (app_evE (xs:=[.ref s1.nxt]) rfl (k35.get0 g3 v2) ml (k38.get0 g3 v2) (by simp))
    obtain ⟨dd,s10,e10,g10,d10,k10⟩:=end_due_ok s9 hw
    let l8 : DV.Loc:=[some R,some S,some (.ref la),some (.ref li),some (.int (w : Int)),some (.int (iw : Int)),some A,some .non,some (.ref s2.nxt),some C,some d4,some (.ref c),some (.ref dd)]
    have w8 : msAsg (mCall F_law_end_due [] (maCons (mVar 4) maNil)) (tgName 12) l6 s9 = .nx l8 s10:=asg_n (call_is (ds:=[.int (w : Int)]) (s1:=s9) rfl e10) rfl
    have k39 : Kp [s2.nxt] s3 s9:=k38.nil.trans k9
    have K9 : Kp [] st s9:=Kp.base K13 k39 (fun j hj => by simp at hj; omega)
    have cne : c ≠ s2.nxt:=fun e => by
      have h:=k35.get0 g3 v2
      rw [← e,g5] at h
      cases h
    have f0 : s10.at_ s2.nxt = some (.lst [.ref s1.nxt,.ref s7.nxt]):=k10.get0 Store.put_same (by omega)
    have f1' : s10.at_ s1.nxt = some (.lst [.bl true,.str (frsS (after fs as).1),.str (frsS (after fs as).1)]):=k10.get0 (k39.get ((Kp.new (js:=[])).get0 Store.new_same v1) (by omega) (by simp; omega)) (by omega)
    have f2' : s10.at_ s7.nxt = some (.lst [.ref c,.ref s6.nxt,.str (frsS (if x.good then (after (after fs as).1 bs).1 else (after fs as).1))]):=k10.get0 (k9.get Store.new_same v7 (by simp; omega)) (by omega)
    have f3 : s10.at_ c = some (.lst [.str x.txt.1,.str x.txt.2]):=k10.get0 (k9.get (((k6.trans k7).trans k8).get0 g5 c5) (by omega) (by simpa using cne)) (by omega)
    have f4 : s10.at_ s6.nxt = some (.lst [.ref s5.nxt]):=k10.get0 (k9.get (k8.get0 Store.new_same v6) (by omega) (by simp; omega)) (by omega)
    have f5 : s10.at_ s5.nxt = some (.lst [.bl true,.str (frsS (after fs as).1)]):=k10.get0 (k9.get ((k7.trans k8).get0 Store.new_same v5) (by omega) (by simp; omega)) (by omega)
    have le10:=k10.le
    have v1' : n < s1.nxt:=Nat.lt_of_lt_of_le hn k1.le
    have cNe : c ≠ n:=fun e => by
      have h:=(K13.trans k35).get0 hN hn
      rw [← e,g5] at h
      cases h
    refine ⟨s2.nxt,dd,s10,def_rt (l:=l0) rfl rfl (seq_go w0 (seq_go w1 (seq_go w2 (seq_go w3 (seq_go w4 (seq_go w5 (seq_go w6 (seq_go w7 (seq_go w8 (ret_is (tup_is (cons_is (x:=.ref s2.nxt) (s1:=s10) rfl (cons_is (x:=.ref dd) (s1:=s10) rfl (cons_is (x:=.tup ((if (endE w).good then (if x.good then (after (after fs as).1 bs).1 else (after fs as).1) else fs).map Fr.d)) (s1:=s10) ?_ nil_is))) (by simp)))))))))))),g10,d10,K9.trans k10,by omega,fun s k => ?_⟩
    · have b:=back_t (l:=l8) (i:=12) rfl g10
      cases h : (endE w).good with
      | true => rw [h] at b; exact mif_t b rfl
      | false => rw [h] at b; exact mif_f b rfl
    · have fc : s.at_ c = some (.lst [.str x.txt.1,.str x.txt.2]):=k.get f3 (by omega) (by simpa using cNe)
      exact notes_data tG1 (frs_tok hG2) tX (k.get f0 (by omega) (by simp; omega)) (k.get f1' (by omega) (by simp; omega)) (k.get f2' (by omega) (by simp; omega)) fc (k.get f4 (by omega) (by simp; omega)) (k.get f5 (by omega) (by simp; omega))
  · subst hd
    have g : (after fs as).2.good = false:=by
      rcases after_end as fs with h | h | h
      · exact absurd h z
      · rw [h]; rfl
      · rw [h]; rfl
    have eP : notesP fs as bs iw = .list []:=by
      unfold notesP
      rcases after_end as fs with h | h | h
      · exact absurd h z
      · rw [h]
      · rw [h]
    have eF : lapF fs as bs w iw = fs:=by
      unfold lapF
      rw [thenE_bad z,g]
      rfl
    rw [thenE_bad z,eP,eF]
    let s2:=s1.new (.lst [])
    have w2 : msIf (tB_ (m2 fNotN (mVar 7) (mC .non))) (msRet (mTup (maCons (mLst maNil) (maCons (mVar 7) (maCons (mVar 0) maNil))))) msNil l2 s1 = .rt (.tup [.ref s1.nxt,.ref m,R]) s2:=
      if_t (tb_is (m2_is (x:=.ref m) (y:=.non) (s1:=s1) (s2:=s1) rfl rfl rfl)) (ret_is (tup_is (cons_is (lst_is nil_is (by simp)) (cons_is (x:=.ref m) (s1:=s2) rfl (cons_is (x:=R) (s1:=s2) rfl nil_is))) (by simp)))
    have k2 : Kp [] s1 s2:=Kp.new
    have v1' : n < s1.nxt:=Nat.lt_of_lt_of_le hn k1.le
    exact ⟨s1.nxt,m,s2,def_rt (l:=l0) rfl rfl (seq_go w0 (seq_go w1 (seq_rt w2))),k2.get0 gm lm,Nat.lt_of_lt_of_le lm k2.le,k1.trans k2,Nat.lt_succ_self _,fun s k => notes_none (k.get Store.new_same (Nat.lt_succ_self _) (by simp; omega))⟩
end
end L58
namespace L58
open DV G PySem L2
section
variable {p : Pic} {j : Nat} {st : Store}
theorem kp_base2 {js js' : List Nat} {a b c : Store} (k0 : Kp js a b) (k : Kp js' b c) (h : ∀ j ∈ js',j ∈ js ∨ a.nxt ≤ j) : Kp js a c:=
  ⟨Nat.le_trans k0.le k.le,fun m hm hn => (k.at_ m (Nat.lt_of_lt_of_le hm k0.le) fun z => (h m z).elim hn (by omega)).trans (k0.at_ m hm hn)⟩
theorem stays_doom : ("stays" : Str) ∈ dooms:=by simp [dooms]
theorem acts_loop (hp : p.Ok) (hW : p.W ≤ 1000000) (hH : p.Hh ≤ 1000000) {m : Nat} (mj : m ≠ j) : ∀ (ks : List Nat) (as : List Act) (o3 o4 : Option D) (st : Store),as.length + ks.length ≤ 100 → (∀ a ∈ as,a.Ok p) → JarAt st j → j < st.nxt → st.at_ m = some (.lst (as.map Act.d)) → m < st.nxt →
    ∃ (bs : List Act) (r3 r4 : Option D) (st' : Store),loopS (tgName 3) law_acts_L1 [] (ks.map fun k : Nat => D.int (k : Int)) [some (.ref j),some p.d,some (.ref m),o3,o4] st = .nx [some (.ref j),some p.d,some (.ref m),r3,r4] st' ∧ (∀ a ∈ bs,a.Ok p) ∧ JarAt st' j ∧ st'.at_ m = some (.lst (bs.map Act.d)) ∧ Kp [j,m] st st'
  | [],as,o3,o4,st,_,ha,hj,_,hm,_ => ⟨as,o3,o4,st,loopS_nil srcOk_nil,ha,hj,hm,Kp.refl⟩
  | k :: ks,as,o3,o4,st,hl,ha,hj,hn,hm,mn => by
    let l1 : DV.Loc:=[some (.ref j),some p.d,some (.ref m),some (.int (k : Int)),o4]
    let s0:=st.new (.lst [.str "sky",.str "a",.str "bird2"])
    have k0 : Kp [] st s0:=Kp.new
    obtain ⟨d,s1,hd,e1,k1,j1⟩:=pick_ok (hj.new hn) (Store.new_same (st:=st) (c:=.lst [.str "sky",.str "a",.str "bird2"])) (by omega) (Nat.lt_succ_self _) (by decide) (by decide)
    obtain ⟨x,hx,rfl⟩ : ∃ x,x ∈ inks ∧ d = .str x:=by
      simp only [List.mem_cons,List.not_mem_nil,or_false] at hd
      rcases hd with h | h | h
      · exact ⟨_,by simp [inks],h⟩
      · exact ⟨"a",by simp [inks],h⟩
      · exact ⟨"bird2",by simp [inks],h⟩
    have W0:=hp.W0; have H0:=hp.H0
    obtain ⟨fl,ft,fr,fb,s2,a1,a2,a3,a4,a5,a6,e2,k2,j2⟩:=rect_ok (W:=p.W) (Hh:=p.Hh) j1 (by omega) (by omega) (by omega) (by omega)
    let f : Fr:=⟨x,fl,ft,fr,fb,"stays"⟩
    have fok : f.Ok p.W p.Hh:=⟨inks_name hx,a1,a2,a3,a4,a5,a6,stays_doom⟩
    let l2 : DV.Loc:=[some (.ref j),some p.d,some (.ref m),some (.int (k : Int)),some f.d]
    have w1 : msAsg (mTup (maCons (mCall F_law_pick [] (maCons (mVar 0) (maCons (mLst (maCons (mC (.str "sky")) (maCons (mC (.str "a")) (maCons (mC (.str "bird2")) maNil)))) maNil))) (maCons (mCall F_law_rect [] (maCons (mVar 0) (maCons (m2 fIx (mVar 1) (mC (.int 0))) (maCons (m2 fIx (mVar 1) (mC (.int 1))) maNil)))) (maCons (mC (.str "stays")) maNil)))) (tgName 4) l1 st = .nx l2 s2:=
      asg_n (d:=f.d) (tup_is (ds:=[.str x,f.part,.str "stays"]) (cons_is (call_is (ds:=[.ref j,.ref st.nxt]) (s1:=s0) (cons_is (x:=.ref j) (s1:=st) rfl (cons_is (lst_is (ds:=[.str "sky",.str "a",.str "bird2"]) (s1:=st) rfl (by simp)) nil_is)) e1) (cons_is (call_is (ds:=[.ref j,.int p.W,.int p.Hh]) (s1:=s1) (cons_is (x:=.ref j) (s1:=s1) rfl (cons_is (m2_is (x:=p.d) (y:=.int 0) (s1:=s1) (s2:=s1) rfl rfl rfl) (cons_is (m2_is (x:=p.d) (y:=.int 1) (s1:=s1) (s2:=s1) rfl rfl rfl) nil_is))) e2) (cons_is (x:=.str "stays") (s1:=s2) rfl nil_is))) (by simp)) rfl
    obtain ⟨c3,s3,b1,b2,e3,k3,j3⟩:=dip_ok (n:=3) j2 (by omega) (by omega)
    obtain ⟨c4,s4,d1,d2,e4,k4,j4⟩:=dip_ok (n:=2) j3 (by omega) (by omega)
    obtain ⟨w,hw⟩ : ∃ w : Nat,(w : Int) = c3:=⟨c3.toNat,by omega⟩
    subst hw
    let a : Act:=⟨w,decide (c4 = 0),f⟩
    have aok : a.Ok p:=⟨by show w < 3; omega,fok⟩
    have k02 : Kp [j] st s2:=k0.nil.trans (k1.trans k2)
    have k24 : Kp [j] s2 s4:=k3.trans k4
    have ml : mTup (maCons (mCall F_law_dip [] (maCons (mVar 0) (maCons (mC (.int 3)) maNil))) (maCons (m2 fEq (mCall F_law_dip [] (maCons (mVar 0) (maCons (mC (.int 2)) maNil))) (mC (.int 0))) (maCons (mVar 4) maNil))) l2 s2 = .ok a.d s4:=
      tup_is (ds:=[.int (w : Int),.bl (decide (c4 = 0)),f.d]) (cons_is (call_is (ds:=[.ref j,.int 3]) (s1:=s2) rfl e3) (cons_is (m2_is (x:=.int c4) (y:=.int 0) (s1:=s4) (s2:=s4) (call_is (ds:=[.ref j,.int 2]) (s1:=s3) rfl e4) rfl rfl) (cons_is (x:=f.d) (s1:=s4) rfl nil_is))) (by simp)
    have m2' : s2.at_ m = some (.lst (as.map Act.d)):=k02.get hm mn (by simpa using mj)
    have mn2:=Nat.lt_of_lt_of_le mn k02.le
    have m4 : s4.at_ m = some (.lst (as.map Act.d)):=k24.get m2' mn2 (by simpa using mj)
    let s5:=s4.put m (.lst ((as ++ [a]).map Act.d))
    have w2 : msExpr (mM "list" fAppend (mVar 2) (maCons (mTup (maCons (mCall F_law_dip [] (maCons (mVar 0) (maCons (mC (.int 3)) maNil))) (maCons (m2 fEq (mCall F_law_dip [] (maCons (mVar 0) (maCons (mC (.int 2)) maNil))) (mC (.int 0))) (maCons (mVar 4) maNil)))) maNil)) l2 s2 = .nx l2 s5:=by
      have e:=app_evE (mo:=mVar 2) (l:=l2) (r:=m) rfl m2' ml m4 (by simp at hl ⊢; omega)
      have q : as.map Act.d ++ [a.d] = (as ++ [a]).map Act.d:=by simp
      rw [q] at e
      exact expr_is e
    have k5 : Kp [m] s4 s5:=Kp.put (by simp)
    have K : Kp [j,m] st s5:=((k02.more (by simp)).trans (k24.more (by simp))).trans (k5.more (by simp))
    obtain ⟨bs,r3,r4,st',q1,q2,q3,q4,q5⟩:=acts_loop hp hW hH mj ks (as ++ [a]) _ _ s5 (by simp at hl ⊢; omega) (fun b hb => by
      rcases List.mem_append.mp hb with z | z
      · exact ha b z
      · rw [List.mem_singleton.mp z]; exact aok) (j4.mv k5 (Nat.lt_of_lt_of_le hn (k02.trans k24).le) (by simpa using mj.symm)) (Nat.lt_of_lt_of_le hn K.le) Store.put_same (Nat.lt_of_lt_of_le mn K.le)
    refine ⟨bs,r3,r4,st',(loopS_nx (l1:=l1) (l2:=l2) (st2:=s5) srcOk_nil rfl ?_).trans q1,q2,q3,q4,K.trans q5⟩
    unfold law_acts_L1
    exact seq_go w1 w2
theorem acts_ok (hp : p.Ok) (hW : p.W ≤ 1000000) (hH : p.Hh ≤ 1000000) (hj : JarAt st j) (hn : j < st.nxt) :
    ∃ (as : List Act) (m : Nat) (st' : Store),F_law_acts [.ref j,p.d] st = .ok (.ref m) st' ∧ (∀ a ∈ as,a.Ok p) ∧ JarAt st' j ∧ st'.at_ m = some (.lst (as.map Act.d)) ∧ m < st'.nxt ∧ st.nxt ≤ m ∧ Kp [j] st st':=by
  let l0 : DV.Loc:=[some (.ref j),some p.d,none,none,none]
  let s1:=st.new (.lst [])
  let l1 : DV.Loc:=[some (.ref j),some p.d,some (.ref st.nxt),none,none]
  have k1 : Kp [] st s1:=Kp.new
  have w1 : msAsg (mLst maNil) (tgName 2) l0 st = .nx l1 s1:=asg_n (lst_is (ds:=[]) (s1:=st) rfl (by simp)) rfl
  obtain ⟨c,s2,c0,c1,e2,k2,j2⟩:=dip_ok (n:=5) (hj.new hn (c:=.lst [])) (by omega) (by omega)
  obtain ⟨n,rfl⟩ : ∃ n : Nat,(n : Int) = c:=⟨c.toNat,by omega⟩
  have n2 : j < s2.nxt:=Nat.lt_of_lt_of_le (Nat.lt_of_lt_of_le hn k1.le) k2.le
  have u1 : st.nxt < s1.nxt:=Nat.lt_succ_self _
  have g2 : s2.at_ st.nxt = some (.lst (([] : List Act).map Act.d)):=k2.get Store.new_same u1 (by simp; omega)
  obtain ⟨bs,r3,r4,st',q1,q2,q3,q4,q5⟩:=acts_loop hp hW hH (m:=st.nxt) (by omega) (List.range n) [] none none s2 (by simp; omega) (by simp) j2 n2 g2 (Nat.lt_of_lt_of_le u1 k2.le)
  have it : miRng rng1 (maCons (mCall F_law_dip [] (maCons (mVar 0) (maCons (mC (.int 5)) maNil))) maNil) l1 s1 = .ok ⟨[],(List.range n).map fun k : Nat => D.int (k : Int)⟩ s2:=miRng_of (ds:=[.int (n : Int)]) (st1:=s2) (cons_is (call_is (ds:=[.ref j,.int 5]) (s1:=s1) rfl e2) nil_is) (rng_nat (by omega))
  refine ⟨bs,st.nxt,st',def_rt (l:=l0) rfl rfl (seq_go w1 (seq_go (for_is it q1) (ret_is rfl))),q2,q3,q4,Nat.lt_of_lt_of_le (Nat.lt_of_lt_of_le u1 k2.le) q5.le,Nat.le_refl _,?_⟩
  exact kp_base2 (k1.nil.trans k2) q5 (fun x hx => by
    simp only [List.mem_cons,List.not_mem_nil,or_false] at hx
    rcases hx with rfl | rfl
    · exact .inl (by simp)
    · exact .inr (Nat.le_refl _))
end
end L58
namespace L58
open DV G PySem L2
structure LI (p : Pic) (j sc : Nat) (fs : List Fr) (st : Store) : Prop where
  jar : JarAt st j
  jn : j < st.nxt
  scr : ScrAt st sc p fs
  sn : sc < st.nxt
  ne : j ≠ sc
  fok : FsOk p fs
abbrev lR (p : Pic) (j sc : Nat) (fs : List Fr) (o4 o5 o6 o7 o8 o9 o10 : Option D) : DV.Loc:=[some (.ref j),some p.d,some (.ref sc),some (.tup (fs.map Fr.d)),o4,o5,o6,o7,o8,o9,o10]
section
variable {p : Pic} {j sc : Nat} {fs : List Fr} {st : Store}
theorem LI.mv {st' : Store} {js : List Nat} (h : LI p j sc fs st) (k : Kp js st st') (h1 : j ∉ js) (h2 : sc ∉ js) : LI p j sc fs st':=⟨h.jar.mv k h.jn h1,Nat.lt_of_lt_of_le h.jn k.le,k.get h.scr h.sn h2,Nat.lt_of_lt_of_le h.sn k.le,h.ne,h.fok⟩
theorem LI.mvj {st' : Store} (h : LI p j sc fs st) (k : Kp [j] st st') (hj : JarAt st' j) : LI p j sc fs st':=⟨hj,Nat.lt_of_lt_of_le h.jn k.le,k.get h.scr h.sn (by simpa using h.ne.symm),Nat.lt_of_lt_of_le h.sn k.le,h.ne,h.fok⟩
theorem pair_repr {r : Nat} (hp : p.Ok) (hf : FsOk p fs) (e : st.at_ r = some (.lst [.tup (fs.map Fr.d),.int (fs.length : Int)])) : reprA (.ref r) st = some (.str (PyData.list [.tuple (fs.map frP),.int (fs.length : Int)]).shown,st):=by
  have a:=frs_data (st:=st) (k:=15) hf
  have c : toData st 19 (.int (fs.length : Int)) = some (.int (fs.length : Int)):=rfl
  have e2 : toData st 20 (.ref r) = some (.list [.tuple (fs.map frP),.int (fs.length : Int)]):=data_lst e (by simp only [optL,a,c])
  have h8:=hf.1
  have h:=repr_ref (n:=7000) e2 ((shw_list (n:=3000) fun d hd => by
    simp only [List.mem_cons,List.not_mem_nil,or_false] at hd
    rcases hd with rfl | rfl
    · exact frs_shw hp hf
    · exact (shw_int (by omega)).mono (by decide)).mono (by simp)) (by decide)
  unfold reprA
  simp only [e]
  exact h
theorem scr_len {l : DV.Loc} {i : Nat} (hi : l[i]? = some (some (.ref sc))) (h : ScrAt st sc p fs) (hl : fs.length ≤ 8) : mLenX 3 F_Screen_len (mVar i) l st = .ok (.int (fs.length : Int)) st:=by
  have g:=h
  unfold ScrAt at g
  have v : mVar i l st = .ok (.ref sc) st:=by rw [ev_mVar,hi]
  have e : F_Screen_len [.ref sc] st = .ok (.int (fs.length : Int)) st:=by
    have a:=fld_state (l:=[some (.ref sc)]) (i:=0) rfl h
    exact def_rt (l:=[some (.ref sc)]) rfl rfl (ret_is (mL_is (cons_is a nil_is) (by rw [len_tup,List.length_map])))
  rw [ev_mLenX,v]
  simp [g,e]
  all_goals omega
theorem ne_list {m n : Nat} {z : PyData} (h1 : toData st 20 (.ref m) = some z) (h2 : toData st 20 (.ref n) = some z) (pl : z.plain = true) : fNe (.ref m) (.ref n) st = some (.bl false,st):=by
  unfold fNe dataEq
  simp only [scalEq,h1,h2]
  rw [PySem.SeqAt.eqv_refl_plain z pl]
  rfl
theorem two_data {s : Store} {m : Nat} {a b : Str} (e : s.at_ m = some (.lst [.str a,.str b])) (h1 : TOk a) (h2 : TOk b) : toData s 20 (.ref m) = some (.list [.str a,.str b]):=by
  have x : toData s 19 (.str a) = some (.str a):=toData_str h1
  have y : toData s 19 (.str b) = some (.str b):=toData_str h2
  exact data_lst e (by simp only [optL,x,y])
theorem notes_plain {as bs : List Act} {iw : Nat} : (notesP fs as bs iw).plain = true:=by
  unfold notesP
  split <;> rfl
theorem lap_ok {o4 o6 o7 o8 o9 o10 : Option D} {k : Int} (hp : p.Ok) (hW : p.W ≤ 1000000) (hH : p.Hh ≤ 1000000) (h : LI p j sc fs st) :
    ∃ gs p6 p7 p8 p9 p10 s1,law_right_L2 (lR p j sc fs o4 (some (.int k)) o6 o7 o8 o9 o10) st = .nx (lR p j sc gs o4 (some (.int k)) p6 p7 p8 p9 p10) s1 ∧ LI p j sc gs s1 ∧ st.nxt ≤ s1.nxt:=by
  let l0:=lR p j sc fs o4 (some (.int k)) o6 o7 o8 o9 o10
  obtain ⟨as,la,s1,e1,ha,j1,g1,n1,b1,k1⟩:=acts_ok hp hW hH h.jar h.jn
  have h1:=h.mvj k1 j1
  obtain ⟨bs,li,s2,e2,hb,j2,g2,n2,b2,k2⟩:=acts_ok hp hW hH j1 h1.jn
  have h2:=h1.mvj k2 j2
  obtain ⟨c3,s3,c30,c31,e3,k3,j3⟩:=dip_ok (n:=7) j2 (by omega) (by omega)
  have h3:=h2.mvj k3 j3
  obtain ⟨c4,s4,c40,c41,e4,k4,j4⟩:=dip_ok (n:=7) j3 (by omega) (by omega)
  have h4:=h3.mvj k4 j4
  obtain ⟨w,rfl⟩ : ∃ w : Nat,(w : Int) = c3:=⟨c3.toNat,by omega⟩
  obtain ⟨iw,rfl⟩ : ∃ iw : Nat,(iw : Int) = c4:=⟨c4.toNat,by omega⟩
  have jn:=h.jn; have sn:=h.sn
  have u1:=k1.le; have u2:=k2.le; have u3:=k3.le; have u4:=k4.le
  have k24 : Kp [j] s2 s4:=k3.trans k4
  have k14 : Kp [j] s1 s4:=k2.trans k24
  have la4 : s4.at_ la = some (.lst (as.map Act.d)):=k14.get g1 n1 (by simp; omega)
  have li4 : s4.at_ li = some (.lst (bs.map Act.d)):=k24.get g2 n2 (by simp; omega)
  let l1:=lR p j sc fs o4 (some (.int k)) (some (someD la li w iw)) o7 o8 o9 o10
  have w1 : msAsg (mTup (maCons (mCall F_law_acts [] (maCons (mVar 0) (maCons (mVar 1) maNil))) (maCons (mCall F_law_acts [] (maCons (mVar 0) (maCons (mVar 1) maNil))) (maCons (mCall F_law_dip [] (maCons (mVar 0) (maCons (mC (.int 7)) maNil))) (maCons (mCall F_law_dip [] (maCons (mVar 0) (maCons (mC (.int 7)) maNil))) maNil))))) (tgName 6) l0 st = .nx l1 s4:=
    asg_n (tup_is (ds:=[.ref la,.ref li,.int (w : Int),.int (iw : Int)]) (cons_is (call_is (ds:=[.ref j,p.d]) (s1:=st) rfl e1) (cons_is (call_is (ds:=[.ref j,p.d]) (s1:=s1) rfl e2) (cons_is (call_is (ds:=[.ref j,.int 7]) (s1:=s2) rfl e3) (cons_is (call_is (ds:=[.ref j,.int 7]) (s1:=s3) rfl e4) nil_is)))) (by simp)) rfl
  let s5:=s4.new (.lst [])
  have k5 : Kp [] s4 s5:=Kp.new
  have u5 : s4.nxt < s5.nxt:=Nat.lt_succ_self _
  let l2:=lR p j sc fs o4 (some (.int k)) (some (someD la li w iw)) (some (.ref s4.nxt)) o8 o9 o10
  have w2 : msAsg (mLst maNil) (tgName 7) l1 s4 = .nx l2 s5:=asg_n (lst_is (ds:=[]) (s1:=s4) rfl (by simp)) rfl
  have h5:=h4.mv k5 (by simp) (by simp)
  have la5:=k5.get0 la4 (by omega)
  have li5:=k5.get0 li4 (by omega)
  have nn5 : s5.at_ s4.nxt = some (.lst []):=Store.new_same
  -- the trial
  let m : ME:=mCall F_law_action [] (maCons (mVar 11) (maCons (mVar 2) (maCons (mVar 6) (maCons (mVar 7) maNil))))
  have xOk : (thenE (after fs as).2 w).Ok:=thenE_ok after_endOk (by omega)
  obtain ⟨s6,e6,S6,k6,s6',P6,k66⟩:=tried_any (Fd:=fun d st => m (l2 ++ [some d]) st) (x:=thenE (after fs as).2 w) (gs:=actF fs as bs iw) (js:=[sc,s4.nxt]) (P:=fun s => Nt sc s s4.nxt (notesP fs as bs iw)) h5.scr h5.sn
    (fun i hi => by
      simp only [List.mem_cons,List.not_mem_nil,or_false] at hi
      rcases hi with rfl | rfl
      · exact h5.sn
      · exact u5) (by simp) (fun t kt St => by
      obtain ⟨t',q1,q2,q3,q4⟩:=action_ok (w:=w) (iw:=iw) (nn:=s4.nxt) hp ha hb h.fok (by omega) (by omega) St (Nat.lt_of_lt_of_le h5.sn kt.le) (kt.get0 la5 (by omega)) (Nat.lt_of_lt_of_le (by omega) kt.le) (kt.get0 li5 (by omega)) (Nat.lt_of_lt_of_le (by omega) kt.le) (kt.get0 nn5 u5) (Nat.lt_of_lt_of_le u5 kt.le) (by omega) (by omega) (by omega) (by omega) (by omega)
      exact ⟨t',call_is (ds:=[.ref sc,.ref sc,someD la li w iw,.ref s4.nxt]) (s1:=t) rfl q1,q2,q3,q4⟩)
  have N6 : Nt sc s6 s4.nxt (notesP fs as bs iw):=P6.mv k66
  have me : mMethL 3 "tried" m F_Screen_tried (mVar 2) l2 s5 = (thenE (after fs as).2 w).res s6:=mMethL_eq (var_is (l:=l2) (i:=2) rfl) h5.scr no_tried e6
  obtain ⟨c,s7,e7,a7,c7,k7⟩:=went_ok (Fd:=fun st => mMethL 3 "tried" m F_Screen_tried (mVar 2) l2 st) xOk me
  let l3:=lR p j sc fs o4 (some (.int k)) (some (someD la li w iw)) (some (.ref s4.nxt)) (some (.ref c)) o9 o10
  have w3 : msAsg (mLamA (mMethL 3 "tried" m F_Screen_tried (mVar 2)) F_law_went maNil) (tgName 8) l2 s5 = .nx l3 s7:=asg_n (mLamA_eq (ds:=[]) (st1:=s5) rfl fun f => e7 f) rfl
  have u6:=k6.le; have u7:=k7.le
  have N7:=N6.mv k7.nil
  have k57 : Kp [sc,s4.nxt] s5 s7:=k6.trans k7.nil
  have S7:=k7.get0 S6 (by omega)
  have la7 : s7.at_ la = some (.lst (as.map Act.d)):=k57.get la5 (by omega) (by simp; omega)
  have li7 : s7.at_ li = some (.lst (bs.map Act.d)):=k57.get li5 (by omega) (by simp; omega)
  obtain ⟨nd,dd,s8,e8,g8,d8,k8,N8⟩:=due_ok (n:=sc) (w:=w) (iw:=iw) S7 hp ha hb h.fok (by omega) (by omega) (by omega) la7 (by omega) li7 (by omega)
  let l4:=lR p j sc (lapF fs as bs w iw) o4 (some (.int k)) (some (someD la li w iw)) (some (.ref s4.nxt)) (some (.ref c)) (some (.ref nd)) (some (.ref dd))
  have w4 : msAsg (mCall F_law_notes_due [] (maCons (mVar 3) (maCons (mVar 6) maNil))) (tgTup 3 (tgCons (tgName 9) (tgCons (tgName 10) (tgCons (tgName 3) tgNil)))) l3 s7 = .nx l4 s8:=asg_is (d:=.tup [.ref nd,.ref dd,.tup ((lapF fs as bs w iw).map Fr.d)]) (s1:=s8) (call_is (ds:=[.tup (fs.map Fr.d),someD la li w iw]) (s1:=s7) rfl e8) rfl
  have u8:=k8.le
  have eF : (if (thenE (after fs as).2 w).good then actF fs as bs iw else fs) = lapF fs as bs w iw:=rfl
  rw [eF] at S6 S7
  have hL:=lapF_ok (w:=w) (iw:=iw) ha hb h.fok
  have S8:=k8.get0 S7 (by omega)
  have j5 : JarAt s8 j:=(h5.jar.mv k57 h5.jn (by simp; exact ⟨h.ne,by omega⟩)).mv k8 (by omega) (by simp)
  have L8 : LI p j sc (lapF fs as bs w iw) s8:=⟨j5,by omega,S8,by omega,h.ne,hL⟩
  -- the looks
  have tX:=thenE_tok (fs:=fs) (as:=as) (k:=w)
  have t1 : tB_ (m2 fNe (mVar 8) (mVar 10)) l4 s8 = .ok false s8:=tb_is (m2_is (x:=.ref c) (y:=.ref dd) (s1:=s8) (s2:=s8) rfl rfl (ne_list (two_data (k8.get0 a7 c7) tX.1 tX.2) (two_data g8 tX.1 tX.2) rfl))
  have t2 : tB_ (m2 fNe (mVar 7) (mVar 9)) l4 s8 = .ok false s8:=tb_is (m2_is (x:=.ref s4.nxt) (y:=.ref nd) (s1:=s8) (s2:=s8) rfl rfl (ne_list ((N7.mv k8.nil).2 s8 Kp.refl) (N8.2 s8 Kp.refl) notes_plain))
  let s9:=s8.new (.lst [.tup ((lapF fs as bs w iw).map Fr.d),.int ((lapF fs as bs w iw).length : Int)])
  let s10:=s9.new (.lst [.tup ((lapF fs as bs w iw).map Fr.d),.int ((lapF fs as bs w iw).length : Int)])
  have k9 : Kp [] s8 s10:=Kp.new.trans Kp.new
  have x1 : mL (f1 reprA) (maCons (mLst (maCons (mProp 3 F_Screen_frames (mVar 2)) (maCons (mLenX 3 F_Screen_len (mVar 2)) maNil))) maNil) l4 s8 = .ok (.str (PyData.list [.tuple ((lapF fs as bs w iw).map frP),.int ((lapF fs as bs w iw).length : Int)]).shown) s9:=
    mL_is (cons_is (lst_is (cons_is (scr_frames (l:=l4) (i:=2) rfl S8) (cons_is (scr_len (l:=l4) (i:=2) rfl S8 hL.1) nil_is)) (by simp)) nil_is) (pair_repr hp hL Store.new_same)
  have x2 : mL (f1 reprA) (maCons (mLst (maCons (mVar 3) (maCons (mL (f1 lenD) (maCons (mVar 3) maNil)) maNil))) maNil) l4 s9 = .ok (.str (PyData.list [.tuple ((lapF fs as bs w iw).map frP),.int ((lapF fs as bs w iw).length : Int)]).shown) s10:=
    mL_is (cons_is (lst_is (cons_is (x:=.tup ((lapF fs as bs w iw).map Fr.d)) (s1:=s9) rfl (cons_is (x:=.int ((lapF fs as bs w iw).length : Int)) (s1:=s9) (mL_is (ds:=[.tup ((lapF fs as bs w iw).map Fr.d)]) (s1:=s9) rfl (by rw [len_tup,List.length_map])) nil_is)) (by simp)) nil_is) (pair_repr hp hL Store.new_same)
  have t3 : tB_ (m2 fNe (mL (f1 reprA) (maCons (mLst (maCons (mProp 3 F_Screen_frames (mVar 2)) (maCons (mLenX 3 F_Screen_len (mVar 2)) maNil))) maNil)) (mL (f1 reprA) (maCons (mLst (maCons (mVar 3) (maCons (mL (f1 lenD) (maCons (mVar 3) maNil)) maNil))) maNil))) l4 s8 = .ok false s10:=tb_is (m2_is x1 x2 (by simp [-ev_dataEq,str_same]))
  refine ⟨lapF fs as bs w iw,some (someD la li w iw),some (.ref s4.nxt),some (.ref c),some (.ref nd),some (.ref dd),s10,?_,L8.mv k9 (by simp) (by simp),Nat.le_trans (by omega) k9.le⟩
  unfold law_right_L2
  exact seq_go w1 (seq_go w2 (seq_go w3 (seq_go w4 (if_fn (or_f t1 (or_f t2 t3))))))
theorem laps_ok {o4 : Option D} (hp : p.Ok) (hW : p.W ≤ 1000000) (hH : p.Hh ≤ 1000000) : ∀ (ks : List Nat) (fs : List Fr) (o5 o6 o7 o8 o9 o10 : Option D) (st : Store),LI p j sc fs st →
    ∃ gs p5 p6 p7 p8 p9 p10 s1,loopS (tgName 5) law_right_L2 [] (ks.map fun k : Nat => D.int (k : Int)) (lR p j sc fs o4 o5 o6 o7 o8 o9 o10) st = .nx (lR p j sc gs o4 p5 p6 p7 p8 p9 p10) s1 ∧ LI p j sc gs s1 ∧ st.nxt ≤ s1.nxt
  | [],fs,o5,o6,o7,o8,o9,o10,st,h => ⟨fs,o5,o6,o7,o8,o9,o10,st,loopS_nil srcOk_nil,h,Nat.le_refl _⟩
  | k :: ks,fs,o5,o6,o7,o8,o9,o10,st,h => by
    obtain ⟨gs,p6,p7,p8,p9,p10,s1,e1,h1,b1⟩:=lap_ok (o4:=o4) (o6:=o6) (o7:=o7) (o8:=o8) (o9:=o9) (o10:=o10) (k:=(k : Int)) hp hW hH h
    obtain ⟨gs2,q5,q6,q7,q8,q9,q10,s2,e2,h2,b2⟩:=laps_ok hp hW hH ks gs _ p6 p7 p8 p9 p10 s1 h1
    exact ⟨gs2,q5,q6,q7,q8,q9,q10,s2,(loopS_nx (l1:=lR p j sc fs o4 (some (.int (k : Int))) o6 o7 o8 o9 o10) srcOk_nil rfl e1).trans e2,h2,Nat.le_trans b1 b2⟩
theorem paints_ok {o5 o6 o7 o8 o9 o10 : Option D} {rs : List Fr} : ∀ (xs gs : List Fr) (o4 : Option D) (st : Store),(∀ f ∈ xs,f.Ok p.W p.Hh) → gs.length + xs.length ≤ 8 → ScrAt st sc p gs → sc < st.nxt →
    ∃ p4 s1,loopS (tgName 4) law_right_L1 [] (xs.map Fr.d) (lR p j sc rs o4 o5 o6 o7 o8 o9 o10) st = .nx (lR p j sc rs p4 o5 o6 o7 o8 o9 o10) s1 ∧ ScrAt s1 sc p (gs ++ xs) ∧ Kp [sc] st s1
  | [],gs,o4,st,_,_,hS,_ => ⟨o4,st,loopS_nil srcOk_nil,by rw [List.append_nil]; exact hS,Kp.refl⟩
  | f :: xs,gs,o4,st,hx,hl,hS,hn => by
    have lx : (f :: xs).length = xs.length + 1:=rfl
    obtain ⟨s1,e1,S1,k1⟩:=paint_ok hS hn (hx f List.mem_cons_self) (by omega)
    obtain ⟨p4,s2,e2,S2,k2⟩:=paints_ok (o5:=o5) (o6:=o6) (o7:=o7) (o8:=o8) (o9:=o9) (o10:=o10) (rs:=rs) xs (gs ++ [f]) (some f.d) s1 (fun g hg => hx g (List.mem_cons_of_mem _ hg)) (by simp; omega) S1 (Nat.lt_of_lt_of_le hn k1.le)
    let l1:=lR p j sc rs (some f.d) o5 o6 o7 o8 o9 o10
    have w : law_right_L1 l1 st = .nx l1 s1:=expr_is (methS (ds:=[.str f.ink,f.part,.str f.doom]) (es:=[]) (st2:=st) (st3:=st) rfl hS rfl rfl (cons_is (row_ix (l:=l1) rfl 0 (by decide)) (cons_is (row_ix (l:=l1) rfl 1 (by decide)) (cons_is (row_ix (l:=l1) rfl 2 (by decide)) nil_is))) rfl e1 rfl rfl)
    exact ⟨p4,s2,(loopS_nx (l1:=l1) srcOk_nil rfl w).trans e2,by rw [List.append_assoc] at S2; exact S2,k1.trans k2⟩
theorem tried_val {Fd : D → Store → Res D} {r : D} (hS : ScrAt st sc p fs) (hn : sc < st.nxt) (h : ∀ s2,Kp [] st s2 → ScrAt s2 sc p fs → Fd (.ref sc) s2 = .ok r s2) : ∃ s4,(∀ g,F_Screen_tried g Fd [.ref sc,.cst (.ref g)] st = .ok r s4) ∧ ScrAt s4 sc p fs ∧ Kp [] st s4:=by
  obtain ⟨s1,e1,t1,k1,n1⟩:=trial_ok hS
  have c1 : ScrAt s1 sc p fs:=k1.get0 hS hn
  obtain ⟨s2,hs2⟩ : ∃ s2,s2 = s1.put st.nxt (.ins 2 (trFs sc (.tup (fs.map Fr.d)))):=⟨_,rfl⟩
  have k12 : Kp [st.nxt] s1 s2:=by rw [hs2]; exact Kp.put (by simp)
  have k2 : Kp [] st s2:=((k1.more (by simp)).trans k12).drop (Nat.le_refl _)
  have S2 : ScrAt s2 sc p fs:=k2.get0 hS hn
  exact ⟨s2,fun g => tried_ret (Fd:=Fd) hS hn s2 ⟨s1,e1 _ 0 rfl,t1,c1,hs2⟩ (h s2 k2 S2),S2,k2⟩
theorem right_ok (hj : JarAt st j) (hn : j < st.nxt) : ∃ st',F_law_right [.ref j] st = .ok (.bl true) st' ∧ st.nxt ≤ st'.nxt:=by
  let l0 : DV.Loc:=[some (.ref j),none,none,none,none,none,none,none,none,none,none]
  obtain ⟨p,s1,dp,e1,k1,j1⟩:=model_ok 6 4 3 (by decide) (by decide) (by decide) (by decide) (by decide) (by decide) hj hn
  let l1 : DV.Loc:=[some (.ref j),some p.d,none,none,none,none,none,none,none,none,none]
  have w1 : msAsg (mCall F_law_model [] (maCons (mVar 0) (maCons (mC (.int 6)) (maCons (mC (.int 4)) (maCons (mC (.int 3)) maNil))))) (tgName 1) l0 st = .nx l1 s1:=asg_n (call_is (ds:=[.ref j,.int 6,.int 4,.int 3]) (s1:=st) rfl e1) rfl
  have jn1:=Nat.lt_of_lt_of_le hn k1.le
  have hp:=dp.toOk
  have hW : p.W ≤ 1000000:=by have:=dp.Ww; omega
  have hH : p.Hh ≤ 1000000:=by have:=dp.Hw; omega
  obtain ⟨s2,e2,S2,k2,n2⟩:=board_ok (st:=s1) hp
  let l2:=lR p j s1.nxt p.fs none none none none none none none
  have w2 : msAsg (mTup (maCons (mCall F_law_board [] (maCons (mVar 1) maNil)) (maCons (m2 fIx (mVar 1) (mC (.int 2))) maNil))) (tgTup 2 (tgCons (tgName 2) (tgCons (tgName 3) tgNil))) l1 s1 = .nx l2 s2:=
    asg_is (d:=.tup [.ref s1.nxt,.tup (p.fs.map Fr.d)]) (tup_is (cons_is (x:=.ref s1.nxt) (s1:=s2) (call_is (ds:=[p.d]) (s1:=s1) rfl e2) (cons_is (x:=.tup (p.fs.map Fr.d)) (s1:=s2) (m2_is (x:=p.d) (y:=.int 2) (s1:=s2) (s2:=s2) rfl rfl rfl) nil_is)) (by simp)) rfl
  have lm:=dp.lm
  obtain ⟨p4,s3,e3,S3,k3⟩:=paints_ok (j:=j) (o5:=none) (o6:=none) (o7:=none) (o8:=none) (o9:=none) (o10:=none) (rs:=p.fs) p.fs [] none s2 hp.fr (by simp; omega) S2 n2
  rw [List.nil_append] at S3
  have it3 : miSeq (mVar 3) l2 s2 = .ok ⟨[],p.fs.map Fr.d⟩ s2:=seq_is (d:=.tup (p.fs.map Fr.d)) (s1:=s2) rfl rfl
  have u2:=k2.le; have u3:=k3.le
  have h3 : LI p j s1.nxt p.fs s3:=⟨(j1.mv k2 jn1 (by simp)).mv k3 (by omega) (by simp; omega),by omega,S3,by omega,by omega,⟨by omega,hp.fr⟩⟩
  obtain ⟨gs,p5,p6,p7,p8,p9,p10,s4,e4,h4,b4⟩:=laps_ok (o4:=p4) hp hW hH (List.range 3) p.fs none none none none none none s3 h3
  have it4 : miRng rng1 (maCons (mC (.int 3)) maNil) (lR p j s1.nxt p.fs p4 none none none none none none) s3 = .ok ⟨[],(List.range 3).map fun k : Nat => D.int (k : Int)⟩ s3:=miRng_of (ds:=[.int ((3 : Nat) : Int)]) (st1:=s3) rfl (rng_nat (n:=3) (by omega))
  let l4:=lR p j s1.nxt gs p4 p5 p6 p7 p8 p9 p10
  -- taken back once more
  obtain ⟨hs,s5,w5,S5,n5,b5⟩ : ∃ (hs : List Fr) (s5 : Store),msIf (tAnd_ (tB_ (m2 fNe (mVar 3) (mTup maNil))) (tOr_ (tB_ (m2 fNotN (mMeth 3 "undo" F_Screen_undo 0 0 [.p 0] [] (mVar 2) maNil maNil) (mC .non))) (tB_ (m2 fNe (mL (f1 reprA) (maCons (mProp 3 F_Screen_frames (mVar 2)) maNil)) (mL (f1 reprA) (maCons (mSl (mVar 3) moNone (moSome (m1 fNeg (mC (.int 1))))) maNil)))))) (msRet (mC (.bl false))) msNil l4 s4 = .nx l4 s5 ∧ ScrAt s5 s1.nxt p hs ∧ hs.length ≤ 8 ∧ s4.nxt ≤ s5.nxt:=by
    by_cases z : gs.length = 0
    · refine ⟨gs,s4,if_fn (and_f (tb_is (m2_is (x:=.tup (gs.map Fr.d)) (y:=.tup []) (s1:=s4) (s2:=s4) rfl (tup_is nil_is (by simp)) ?_))),h4.scr,h4.fok.1,Nat.le_refl _⟩
      have z:=List.eq_nil_of_length_eq_zero z
      subst z
      have e:=state_eq0 (st:=s4)
      unfold fEq at e
      unfold fNe
      generalize dataEq (.tup (([] : List Fr).map Fr.d)) (.tup []) s4 = o at e
      cases o with
      | none => cases e
      | some b =>
        cases b with
        | true => rfl
        | false => simp at e
    · have ne : gs ≠ []:=fun e => z (by rw [e]; rfl)
      obtain ⟨s5,e5,S5,k5⟩:=scr_undo_ok h4.scr h4.fok.2 ne
      have hd:=h4.fok.drop
      have cu:=cut_lastF gs
      have sl : mSl (mVar 3) moNone (moSome (m1 fNeg (mC (.int 1)))) l4 s5 = .ok (.tup (gs.dropLast.map Fr.d)) s5:=by
        simp [l4,-List.map_dropLast,cu]
      have ne2 : fNe (.tup (gs.map Fr.d)) (.tup []) s4 = some (.bl true,s4):=by
        unfold fNe
        rw [frames_ne ne h4.fok.2]
        rfl
      refine ⟨gs.dropLast,s5,if_fn (and_t (tb_is (m2_is (x:=.tup (gs.map Fr.d)) (y:=.tup []) (s1:=s4) (s2:=s4) rfl (tup_is nil_is (by simp)) ne2)) (or_f (tb_is (m2_is (x:=.non) (y:=.non) (s1:=s5) (s2:=s5) (methS (ds:=[]) (es:=[]) (st2:=s4) (st3:=s4) rfl h4.scr rfl rfl rfl rfl e5 rfl rfl) rfl rfl)) ?_)),S5,hd.1,k5.le⟩
      exact tb_is (m2_is (repr_frames (l:=l4) (i:=2) hp hd rfl S5) (mL_is (cons_is sl nil_is) (frs_repr hp hd)) (by simp [-ev_dataEq,str_same]))
  have sn5 : s1.nxt < s5.nxt:=Nat.lt_of_lt_of_le h4.sn b5
  -- a trial by keyword
  obtain ⟨s6,e6,S6,k6⟩:=tried_val (Fd:=fun d st => mL (f1 lenD) (maCons (mProp 3 F_Screen_frames (mVar 11)) maNil) (l4 ++ [some d]) st) (r:=.int (hs.length : Int)) S5 sn5 (fun t _ St => mL_is (cons_is (scr_frames (l:=l4 ++ [some (.ref s1.nxt)]) (i:=11) rfl St) nil_is) (by rw [len_tup,List.length_map]))
  have me : mMethL 3 "tried" (mL (f1 lenD) (maCons (mProp 3 F_Screen_frames (mVar 11)) maNil)) F_Screen_tried (mVar 2) l4 s5 = .ok (.int (hs.length : Int)) s6:=mMethL_eq (var_is (l:=l4) (i:=2) rfl) S5 no_tried e6
  refine ⟨s6,def_rt (l:=l0) rfl rfl (seq_go w1 (seq_go w2 (seq_go (for_is it3 e3) (seq_go (for_is it4 e4) (seq_go w5 (ret_is (m2_is me (scr_len (l:=l4) (i:=2) rfl S6 n5) ?_))))))),by have:=k1.le; have:=k6.le; omega⟩
  simp
end
theorem law_ok (ns : List Int) (hn : ns.length ≤ 63) : ∃ st',F_law [.rol (ns.map D.int)] ⟨0,fun _ => none⟩ = .ok (.bl true) st':=
  law_all (R:=F_law_right) (n:=5) (fun j st h1 h2 => right_ok h1 h2) hn (by decide)
end L58
set_option maxHeartbeats 0
namespace L58
open DV G PySem PySem.Spec PyProof.Rows L2 He NdefX
theorem facts {P : Program} {w : World} {K : PySem.W.Frag} {h : Heap} {mg : Str → Option Value} {f : Addr} (X : K.In h) (G : h.Ns mainGlobals mg) (hfa : mg ("law" : Str) = some (.ref f)) (c : SaysV fx fn K) :
    ∃ fd : FuncData,(∀ (s : Shared) (u : Value),BindsTo s fd ⟨[u],[]⟩ [("_law_script",u)]) ∧ ∀ base : Heap,K.In base → base.Ns mainGlobals mg → TBs base mg (csOf K tf) → FnS P w K mg base (cl K PP.all) 25 f fd ["_law_script"] F_law:=by
  have T : Tx fx fn K mg:=⟨c,h,X,G⟩
  have e:=hfa.symm.trans (T.glo 115)
  cases e
  obtain ⟨fd,D⟩:=c.def_ 44 (d:=d_law) rfl
  refine ⟨fd,fun s u => FunD.bindsA (ps:=["_law_script"]) D (fun kV doc pm an cdv ct us hl => bd_law kV doc pm an cdv ct us hl) s [u] rfl,fun base _ _ TB => ?_⟩
  obtain ⟨fd2,G2,D2⟩:=(ok_law (P:=P) (w:=w) (base:=base) (p:=PP.all) T TB).ex
  obtain ⟨_,_,_,_,_,_,_,_,_,_,_,l1,_⟩:=D.ex
  obtain ⟨_,_,_,_,_,_,_,_,_,_,_,l2,_⟩:=D2.ex
  have z:=l1.symm.trans l2
  cases z
  exact G2
theorem tabs_in {K : PySem.W.Frag} : TabsIn (cl K PP.all) (csOf K tf):=fun t ht => by
  have ht : t ∈ tabs K:=ht
  unfold tabs at ht
  simp only [List.mem_cons,List.not_mem_nil,or_false] at ht
  rcases ht with rfl | rfl
  · exact ⟨_,List.mem_map.mpr ⟨_,List.mem_cons_self ..,rfl⟩,rfl⟩
  · exact ⟨_,List.mem_map.mpr ⟨_,List.mem_cons_of_mem _ (List.mem_cons_self ..),rfl⟩,rfl⟩
end L58
open PySem PySem.W PySem.Calls PyProof.Rows
theorem PySem.Challenge.cw_tidyframes_k58_screens_tried_holds : PySem.Challenge.rw_tidyframes_k58_screens_tried.Holds := by
  w_on; refine PySem.W.holds_law L58.said_ fun said => ?_
  refine HandSHeadRun.head_any (r:=OpenLaw.row PySem.Challenge.rw_tidyframes_k58_screens_tried) (q:=view (OpenLaw.row PySem.Challenge.rw_tidyframes_k58_screens_tried).prog [93]) (H:=L58.hk) (ob:=L58.ob) (M:=20000) (loose:=L58.looseAll) (d:=HandSHeadRun.topDef (OpenLaw.row PySem.Challenge.rw_tidyframes_k58_screens_tried).prog 93) (kwd:=[]) L58.ob_eq
    (by kernel_rfl) (fun s => by kernel_rfl) L58.run (by kernel_rfl) (by kernel_rfl) (by kernel_rfl) (by rfl) said (by decide +kernel) ⟨rfl,rfl,rfl,rfl,rfl,L58.tables_⟩ ?hw ?hc
  case hw => w_witness2
  case hc =>
    refine DV.walkG (l:=PySem.Challenge.rw_tidyframes_k58_screens_tried) (k:=25) (x:="_law_script") (F:=L58.F_law) rfl (by kernel_rfl) ⟨rfl,by decide,by decide⟩ ?G L58.law_ok
    intro w mg fa h Y G hmg0
    obtain ⟨K,KX,c,_⟩:=Y
    have hmg : mg ("law" : PySem.Str) = some (.ref fa):=by
      have e : (HandSHeadRun.topDef (OpenLaw.row PySem.Challenge.rw_tidyframes_k58_screens_tried).prog 93).name = ("law" : PySem.Str):=by kernel_rfl
      rw [← e]
      exact hmg0
    obtain ⟨fd,hb,hF⟩:=L58.facts (P:=(PySem.Challenge.rw_tidyframes_k58_screens_tried).prog) (w:=w) KX G hmg c.t
    refine ⟨K,L58.cl K DV.PP.all,fd,DV.csOf K L58.tf,KX,fun y hy => ?_,fun y hy => ?_,fun y hy => ?_,fun _ _ _ => trivial,L58.tabs_in,hb,hF⟩
    · obtain ⟨q,hq,rfl⟩:=List.mem_map.mp hy
      exact c.empty q hq
    · obtain ⟨q,hq,rfl⟩:=List.mem_map.mp hy
      exact c.out q hq
    · obtain ⟨q,hq,rfl⟩:=List.mem_map.mp hy
      exact PySem.W.codeHd_of_K KX (c.hd q hq)
