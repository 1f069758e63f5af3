import PyProof.Rows.All
import Wide.All
import OpenK.AllK
import Wide.FinOn
import HandS.ForMost
import HandS.ForExc
import HandS.CallSlots
import HandS.Nested
import HandS.TupAny
import HandS.TupMul
import HandS.Deep
import HandS.More
import HandS.Conv
import HandS.IsInst
import PyProof.ReprRoads
import HandS.Iter
import HandS.Zip
import KE.GoesEnum
import HandS.SetKeys
import HandS.SetFor
import HandS.Property
import HandS.MakeKwOnly
import KE.KStateDown
import HandS.Ends
import HandS.Head0
import HandS.Head1
import HandS.Head2
import HandS.HeadHook1
import HandS.HeadHook2
import HandS.HeadNt
import HandS.WordsExc
import HandS.EndTab
import HandS.Set
import HandS.Strs
import HandS.Style
import HandS.HeadHook4
import KE.KDictZip
import HandS.TupLe
import KE.DataMinMax
import PyProof.StrLawsRepr
import PySem.Challenge.RW_tidyframes_k12_first_differences_by_tryi
set_option Elab.async false
set_option linter.all false
set_option maxRecDepth 100000
set_option  maxHeartbeats   8000000
namespace DV
open PySem PySem.Spec PyProof.Rows L2 He
/-- deep values: tuples are trees, lists and objects are places of a store -/
inductive D where
  | non | bl (b : Bool) | int (i : Int) | str (x : Str) | tup (xs : List D) | ref (n : Nat) | rol (xs : List D) | cst (v : V)

mutual
def datB (K : PySem.W.Frag) : D → Value → Bool
  | .non, u => (match u with
    | .none => true
    | _ => false)
  | .bl b, u => (match u with
    | .bool c => b == c
    | _ => false)
  | .int i, u => (match u with
    | .int j _ => decide (i = j)
    | _ => false)
  | .str x, u => (match u with
    | .str y _ => decide (x = y)
    | _ => false)
  | .tup ds, u => (match u with
    | .ref a => (match K.lookup a with
      | some ⟨.type c, _, .seq its _, _⟩ => decide (c = "tuple") && (decide (its.size ≤ sizeLine) && datsB K ds its.toList)
      | _ => false)
    | _ => false)
  | _, _ => false
def datsB (K : PySem.W.Frag) : List D → List Value → Bool
  | [], us => (match us with
    | [] => true
    | _ => false)
  | d :: ds, us => (match us with
    | u :: us => datB K d u && datsB K ds us
    | [] => false)
end

inductive Fx where
  | glo (x : Str)
  | free (x : Str)
  | dat (x : Str) (d : D)
  | cls (x : Str)
  | noat (x f : Str)
  | prop (x f : Str)
  | mkr (x : Str)
  | isi (x : Str) (bs : List String)
  | meth (x m : Str)
/-- a property's getter -/
def pgA (K : PySem.W.Frag) (C f : Str) : Addr := match PySem.W.recIn K (ma K (ga K C) f) "property" with
  | some (.ref g :: _) => g
  | _ => 0
def eqB (a b : Option Bool) : Bool := decide (a = b)
def Fx.ok (K : PySem.W.Frag) : Fx → Bool
  | .glo x => eqO (PySem.W.nsIn K mainGlobals x) (some (some (.ref (ga K x)))) && PySem.W.keepIn K (.ref (ga K x))
  | .free x => eqO (PySem.W.nsIn K mainGlobals x) (some none)
  | .dat x d => (match PySem.W.nsIn K mainGlobals x with
    | some (some u) => datB K d u
    | _ => false)
  | .cls x => (Fa.cls x).ok K && (eqO (PySem.W.findIn K (.ref (ga K x)) "__class__") (some (some (.builtin "object.__class__"))) && (eqO (PySem.W.specialIn K (.builtin "object.__class__") "__get__") (some (some (.builtin "getset_descriptor.__get__"))) &&
    (eqB (PySem.W.takesIn K (.builtin "object.__class__")) (some true) && eqB (PySem.W.mroIn K (ga K x) (.type "object")) (some true))))
  | .noat x f => eqO (PySem.W.findIn K (.ref (ga K x)) f) (some none)
  | .prop x f => eqO (PySem.W.findIn K (.ref (ga K x)) f) (some (some (.ref (ma K (ga K x) f)))) && (eqO (PySem.W.specialIn K (.ref (ma K (ga K x) f)) "__get__") (some (some (.builtin "property.__get__"))) && (eqB (PySem.W.takesIn K (.ref (ma K (ga K x) f))) (some true) &&
    (match PySem.W.recIn K (ma K (ga K x) f) "property" with
      | some (.ref g :: _) => true
      | _ => false)))
  | .mkr x => (Fa.mkr x).ok K
  | .meth x m => (Fa.meth x m).ok K
  | .isi x bs => eqB (PySem.W.kitOne K (.ref (ga K x)) (.ref (ga K x))) (some true) && bs.all fun b => eqB (PySem.W.kitOne K (.type b) (.ref (ga K x))) (some false)

abbrev DefA := He5.DefA
def obsV (fx : List Fx) (fn : List DefA) (K : PySem.W.Frag) : He.AlD := ((fx.all fun f => f.ok K) && fn.all fun d => d.ok K, fn.map fun d => He5.fnA K (d.at_ K))
def valFn (fn : List DefA) : He.AlD := (true, fn.map He5.DefA.val)
def SaysV (fx : List Fx) (fn : List DefA) (K : PySem.W.Frag) : Prop := obsV fx fn K = valFn fn
def obsVG (n : Nat) (fx : List Fx) (fn : List DefA) (g : Addr → Option Obj) : He.AlD := obsV fx fn (frG g (He5.asA g n))
def hookV (n : Nat) (fx : List Fx) (fn : List DefA) : PySem.W.Hook where
  α := He.AlD
  obs := fun s => obsVG n fx fn s.heap.get?
  val := fun _ => valFn fn
  says := fun _ h => ∃ K : PySem.W.Frag, K.In h ∧ SaysV fx fn K
  of := fun _ _ e => ⟨_, frG_in, e⟩
  keeps := fun _ _ _ ⟨K, hK, c⟩ k => ⟨K, PySem.W.Frag.In.keeps hK k, c⟩
theorem obsVG_eq {n : Nat} {fx : List Fx} {fn : List DefA} {g : Addr → Option Obj} {s : Shared} (h : ∀ a, g a = s.heap.get? a) : obsVG n fx fn g = (hookV n fx fn).obs s := by
  obtain rfl : g = s.heap.get? := funext h
  rfl
/-! ### the hook -/
/-- the addresses that are looked at: the module's names, the statics, all else from 4 on (a list of all that can be reached costs the kernel much more) -/
def asW (n : Nat) : List Addr := 3 :: 2 :: List.range' 4 n
def obsVT (n : Nat) (fx : List Fx) (fn : List DefA) (tf : List Defn) (g : Addr → Option Obj) : He.AlD × Bool := (obsV fx fn (frT g (asW n)), tabsB g tf (frT g (asW n)))
structure SaysVT (fx : List Fx) (fn : List DefA) (tf : List Defn) (h : Heap) (K : PySem.W.Frag) : Prop where
  t : SaysV fx fn K
  hd : ∀ p ∈ tf, PySem.W.codeHdIn K (cT K p).1 (cT K p).2 = true
  out : ∀ p ∈ tf, K.lookup (cT K p).2 = none
  empty : ∀ p ∈ tf, h.get? (cT K p).2 = some { cls := .none, data := .fields #[] }
theorem saysVT_of {n : Nat} {fx : List Fx} {fn : List DefA} {tf : List Defn} {h : Heap} (e : obsVT n fx fn tf h.get? = (valFn fn, true)) : SaysVT fx fn tf h (frT h.get? (asW n)) := by
  have e1 : obsV fx fn (frT h.get? (asW n)) = valFn fn := congrArg (fun z : He.AlD × Bool => z.1) e
  have h2 : tabsB h.get? tf (frT h.get? (asW n)) = true := congrArg (fun z : He.AlD × Bool => z.2) e
  have key : ∀ p ∈ tf, PySem.W.codeHdIn (frT h.get? (asW n)) (cT (frT h.get? (asW n)) p).1 (cT (frT h.get? (asW n)) p).2 = true ∧ ∃ o, h.get? (cT (frT h.get? (asW n)) p).2 = some o ∧ emptyTab o = true := fun p hp => by
    obtain ⟨h3, h4⟩ := ba (List.all_eq_true.mp h2 p hp)
    refine ⟨h3, ?_⟩
    cases q : h.get? (cT (frT h.get? (asW n)) p).2 with
    | none =>
      rw [q] at h4
      cases h4
    | some o =>
      rw [q] at h4
      exact ⟨o, rfl, h4⟩
  exact ⟨e1, fun p hp => (key p hp).1, fun p hp => by
    obtain ⟨_, o, q, z⟩ := key p hp
    exact frT_none q z, fun p hp => by
    obtain ⟨_, o, q, z⟩ := key p hp
    rw [q, emptyTab_eq z]⟩
def hookVT (n : Nat) (fx : List Fx) (fn : List DefA) (tf : List Defn) : PySem.W.Hook where
  α := He.AlD × Bool
  obs := fun s => obsVT n fx fn tf s.heap.get?
  val := fun _ => (valFn fn, true)
  says := fun _ h => ∃ K : PySem.W.Frag, K.In h ∧ SaysVT fx fn tf h K
  of := fun _ _ e => ⟨_, frT_in, saysVT_of e⟩
  keeps := fun _ _ _ ⟨K, hK, c⟩ k => ⟨K, PySem.W.Frag.In.keeps hK k, ⟨c.t, c.hd, c.out, fun p hp => k _ _ (c.empty p hp)⟩⟩
theorem obsVT_eq {n : Nat} {fx : List Fx} {fn : List DefA} {tf : List Defn} {g : Addr → Option Obj} {s : Shared} (h : ∀ a, g a = s.heap.get? a) : obsVT n fx fn tf g = (hookVT n fx fn tf).obs s := by
  obtain rfl : g = s.heap.get? := funext h
  rfl
end DV


set_option Elab.async false
set_option linter.all false
set_option maxRecDepth 100000
set_option  maxHeartbeats   8000000
/-! law_k12_first_differences_by_trying: the head, run. -/
namespace L12
open DV PySem PySem.Spec PyProof.Rows L2 He
def top (i : Nat) : Stmt := PySem.Challenge.pw_tidyframes_k12_first_differences_by_tryi.main.body.getD i (.Pass ⟨0, 0, 0, 0⟩)
abbrev s_law_dip : Stmt := top 67
abbrev s_law_rect : Stmt := top 69
abbrev s_law_pick : Stmt := top 68
abbrev s_law_model : Stmt := top 70
abbrev s_law_mate : Stmt := top 72
abbrev s_law_who : Stmt := top 77
abbrev s_is_integer : Stmt := top 22
abbrev s_is_within : Stmt := top 23
abbrev s_check_size : Stmt := top 27
abbrev s_is_name : Stmt := top 24
abbrev s_is_part : Stmt := top 26
abbrev s_is_word : Stmt := top 25
abbrev s_is_frame : Stmt := top 38
abbrev s_check_solid : Stmt := top 28
abbrev s_Film_init : Stmt := inClass (top 41) 0
abbrev s_law_made : Stmt := top 71
abbrev s_law_dots : Stmt := top 74
abbrev s_law_patterns : Stmt := top 76
abbrev s_law_in : Stmt := top 73
abbrev s_law_play : Stmt := top 75
abbrev s_law_differ : Stmt := top 78
abbrev s_check_film : Stmt := top 42
abbrev s_check_player : Stmt := top 53
abbrev s_check_start : Stmt := top 58
abbrev s_Film_width : Stmt := inClass (top 41) 2
abbrev s_Film_height : Stmt := inClass (top 41) 3
abbrev s_Film_solid : Stmt := inClass (top 41) 5
abbrev s_do_fit : Stmt := top 43
abbrev s_check_fit : Stmt := top 44
abbrev s_Film_frames : Stmt := inClass (top 41) 4
abbrev s_over : Stmt := top 47
abbrev s_laid : Stmt := top 48
abbrev s_played_fate : Stmt := top 54
abbrev s_played : Stmt := top 55
abbrev s_parts_in : Stmt := top 45
abbrev s_holds : Stmt := top 29
abbrev s_covers_at : Stmt := top 56
abbrev s_unlike_beats : Stmt := top 61
abbrev s_borders_of : Stmt := top 30
abbrev s_cells_of : Stmt := top 31
abbrev s_first_pair : Stmt := top 60
abbrev s_first_spots : Stmt := top 59
abbrev s_Film_len : Stmt := inClass (top 41) 7
abbrev s_first_unlike : Stmt := top 62
abbrev s_unlike : Stmt := top 63
abbrev s_alike : Stmt := top 64
abbrev s_law_first : Stmt := top 80
abbrev s_law_any : Stmt := top 79
abbrev s_law_right : Stmt := top 81
abbrev s_law_jar : Stmt := top 66
abbrev s_law : Stmt := top 82
def fx : List Fx := [
  .free "len",
  .free "min",
  .free "max",
  .free "range",
  .free "int",
  .glo "_law_dip",
  .free "tuple",
  .glo "_law_rect",
  .glo "_law_pick",
  .glo "_law_model",
  .glo "_law_mate",
  .glo "_law_who",
  .free "isinstance",
  .free "bool",
  .glo "is_integer",
  .dat "MOST_SIZE" (.int 1000000000000),
  .glo "is_within",
  .glo "check_size",
  .free "enumerate",
  .dat "MOST_FRAMES" (.int 8),
  .free "str",
  .dat "LONGEST_NAME" (.int 8),
  .dat "SMALL" (.str "abcdefghijklmnopqrstuvwxyz"),
  .dat "BARRED" (.tup [(.str "screen"), (.str "solid"), (.str "beat")]),
  .dat "DIGITS" (.str "0123456789"),
  .free "all",
  .glo "is_name",
  .glo "is_part",
  .dat "FATES" (.tup [(.str "stays"), (.str "wiped"), (.str "back")]),
  .glo "is_word",
  .glo "is_frame",
  .dat "MOST_SOLID" (.int 8),
  .glo "check_solid",
  .cls "Film",
  .noat "Film" "all",
  .mkr "Film",
  .glo "Film",
  .glo "_law_made",
  .glo "_law_dots",
  .free "dict",
  .glo "_law_patterns",
  .glo "_law_in",
  .glo "_law_play",
  .glo "_law_differ",
  .isi "Film" ["NoneType", "bool", "int", "str", "tuple", "list", "dict"],
  .glo "check_film",
  .dat "PLAYERS" (.tup [(.str "full"), (.str "keeps"), (.str "wipes"), (.str "blanks")]),
  .glo "check_player",
  .glo "check_start",
  .prop "Film" "width",
  .prop "Film" "height",
  .prop "Film" "solid",
  .glo "do_fit",
  .glo "check_fit",
  .prop "Film" "frames",
  .free "zip",
  .free "list",
  .glo "over",
  .glo "laid",
  .glo "played_fate",
  .dat "NOTHING" (.tup [(.tup []), (.bl true)]),
  .glo "parts_in",
  .glo "holds",
  .glo "covers_at",
  .glo "played",
  .glo "unlike_beats",
  .free "sorted",
  .free "set",
  .glo "borders_of",
  .glo "cells_of",
  .meth "Film" "__len__",
  .glo "first_spots",
  .glo "first_pair",
  .dat "ANYTHING" (.tup [(.tup []), (.bl false)]),
  .glo "first_unlike",
  .glo "unlike",
  .free "repr",
  .glo "alike",
  .glo "_law_first",
  .glo "_law_any",
  .free "abs",
  .glo "_law_jar",
  .glo "_law_right",
  .glo "law"]
def d_law_dip : DV.DefA := ⟨fun K => (ga K "_law_dip"), "_law_dip", "_law_dip", defArgs s_law_dip, defBody s_law_dip, defScope s_law_dip, [], []⟩
def d_law_rect : DV.DefA := ⟨fun K => (ga K "_law_rect"), "_law_rect", "_law_rect", defArgs s_law_rect, defBody s_law_rect, defScope s_law_rect, [], []⟩
def d_law_pick : DV.DefA := ⟨fun K => (ga K "_law_pick"), "_law_pick", "_law_pick", defArgs s_law_pick, defBody s_law_pick, defScope s_law_pick, [], []⟩
def d_law_model : DV.DefA := ⟨fun K => (ga K "_law_model"), "_law_model", "_law_model", defArgs s_law_model, defBody s_law_model, defScope s_law_model, [], []⟩
def d_law_mate : DV.DefA := ⟨fun K => (ga K "_law_mate"), "_law_mate", "_law_mate", defArgs s_law_mate, defBody s_law_mate, defScope s_law_mate, [], []⟩
def d_law_who : DV.DefA := ⟨fun K => (ga K "_law_who"), "_law_who", "_law_who", defArgs s_law_who, defBody s_law_who, defScope s_law_who, [], []⟩
def d_is_integer : DV.DefA := ⟨fun K => (ga K "is_integer"), "is_integer", "is_integer", defArgs s_is_integer, defBody s_is_integer, defScope s_is_integer, [], []⟩
def d_is_within : DV.DefA := ⟨fun K => (ga K "is_within"), "is_within", "is_within", defArgs s_is_within, defBody s_is_within, defScope s_is_within, [], []⟩
def d_check_size : DV.DefA := ⟨fun K => (ga K "check_size"), "check_size", "check_size", defArgs s_check_size, defBody s_check_size, defScope s_check_size, [], []⟩
def d_is_name : DV.DefA := ⟨fun K => (ga K "is_name"), "is_name", "is_name", defArgs s_is_name, defBody s_is_name, defScope s_is_name, [], []⟩
def d_is_part : DV.DefA := ⟨fun K => (ga K "is_part"), "is_part", "is_part", defArgs s_is_part, defBody s_is_part, defScope s_is_part, [], []⟩
def d_is_word : DV.DefA := ⟨fun K => (ga K "is_word"), "is_word", "is_word", defArgs s_is_word, defBody s_is_word, defScope s_is_word, [], []⟩
def d_is_frame : DV.DefA := ⟨fun K => (ga K "is_frame"), "is_frame", "is_frame", defArgs s_is_frame, defBody s_is_frame, defScope s_is_frame, [], []⟩
def d_check_solid : DV.DefA := ⟨fun K => (ga K "check_solid"), "check_solid", "check_solid", defArgs s_check_solid, defBody s_check_solid, defScope s_check_solid, [], []⟩
def d_Film_init : DV.DefA := ⟨fun K => (ma K (ga K "Film") "__init__"), "__init__", "Film.__init__", defArgs s_Film_init, defBody s_Film_init, defScope s_Film_init, [], []⟩
def d_law_made : DV.DefA := ⟨fun K => (ga K "_law_made"), "_law_made", "_law_made", defArgs s_law_made, defBody s_law_made, defScope s_law_made, [], []⟩
def d_law_dots : DV.DefA := ⟨fun K => (ga K "_law_dots"), "_law_dots", "_law_dots", defArgs s_law_dots, defBody s_law_dots, defScope s_law_dots, [], []⟩
def d_law_patterns : DV.DefA := ⟨fun K => (ga K "_law_patterns"), "_law_patterns", "_law_patterns", defArgs s_law_patterns, defBody s_law_patterns, defScope s_law_patterns, [], []⟩
def d_law_in : DV.DefA := ⟨fun K => (ga K "_law_in"), "_law_in", "_law_in", defArgs s_law_in, defBody s_law_in, defScope s_law_in, [], []⟩
def d_law_play : DV.DefA := ⟨fun K => (ga K "_law_play"), "_law_play", "_law_play", defArgs s_law_play, defBody s_law_play, defScope s_law_play, [], []⟩
def d_law_differ : DV.DefA := ⟨fun K => (ga K "_law_differ"), "_law_differ", "_law_differ", defArgs s_law_differ, defBody s_law_differ, defScope s_law_differ, [], []⟩
def d_check_film : DV.DefA := ⟨fun K => (ga K "check_film"), "check_film", "check_film", defArgs s_check_film, defBody s_check_film, defScope s_check_film, [], []⟩
def d_check_player : DV.DefA := ⟨fun K => (ga K "check_player"), "check_player", "check_player", defArgs s_check_player, defBody s_check_player, defScope s_check_player, [], []⟩
def d_check_start : DV.DefA := ⟨fun K => (ga K "check_start"), "check_start", "check_start", defArgs s_check_start, defBody s_check_start, defScope s_check_start, [], []⟩
def d_Film_width : DV.DefA := ⟨fun K => (pgA K "Film" "width"), "width", "Film.width", defArgs s_Film_width, defBody s_Film_width, defScope s_Film_width, [], []⟩
def d_Film_height : DV.DefA := ⟨fun K => (pgA K "Film" "height"), "height", "Film.height", defArgs s_Film_height, defBody s_Film_height, defScope s_Film_height, [], []⟩
def d_Film_solid : DV.DefA := ⟨fun K => (pgA K "Film" "solid"), "solid", "Film.solid", defArgs s_Film_solid, defBody s_Film_solid, defScope s_Film_solid, [], []⟩
def d_do_fit : DV.DefA := ⟨fun K => (ga K "do_fit"), "do_fit", "do_fit", defArgs s_do_fit, defBody s_do_fit, defScope s_do_fit, [], []⟩
def d_check_fit : DV.DefA := ⟨fun K => (ga K "check_fit"), "check_fit", "check_fit", defArgs s_check_fit, defBody s_check_fit, defScope s_check_fit, [], []⟩
def d_Film_frames : DV.DefA := ⟨fun K => (pgA K "Film" "frames"), "frames", "Film.frames", defArgs s_Film_frames, defBody s_Film_frames, defScope s_Film_frames, [], []⟩
def d_over : DV.DefA := ⟨fun K => (ga K "over"), "over", "over", defArgs s_over, defBody s_over, defScope s_over, [], []⟩
def d_laid : DV.DefA := ⟨fun K => (ga K "laid"), "laid", "laid", defArgs s_laid, defBody s_laid, defScope s_laid, [], []⟩
def d_played_fate : DV.DefA := ⟨fun K => (ga K "played_fate"), "played_fate", "played_fate", defArgs s_played_fate, defBody s_played_fate, defScope s_played_fate, [], []⟩
def d_played : DV.DefA := ⟨fun K => (ga K "played"), "played", "played", defArgs s_played, defBody s_played, defScope s_played, [], []⟩
def d_parts_in : DV.DefA := ⟨fun K => (ga K "parts_in"), "parts_in", "parts_in", defArgs s_parts_in, defBody s_parts_in, defScope s_parts_in, [], []⟩
def d_holds : DV.DefA := ⟨fun K => (ga K "holds"), "holds", "holds", defArgs s_holds, defBody s_holds, defScope s_holds, [], []⟩
def d_covers_at : DV.DefA := ⟨fun K => (ga K "covers_at"), "covers_at", "covers_at", defArgs s_covers_at, defBody s_covers_at, defScope s_covers_at, [], []⟩
def d_unlike_beats : DV.DefA := ⟨fun K => (ga K "unlike_beats"), "unlike_beats", "unlike_beats", defArgs s_unlike_beats, defBody s_unlike_beats, defScope s_unlike_beats, [], []⟩
def d_borders_of : DV.DefA := ⟨fun K => (ga K "borders_of"), "borders_of", "borders_of", defArgs s_borders_of, defBody s_borders_of, defScope s_borders_of, [], []⟩
def d_cells_of : DV.DefA := ⟨fun K => (ga K "cells_of"), "cells_of", "cells_of", defArgs s_cells_of, defBody s_cells_of, defScope s_cells_of, [], []⟩
def d_first_pair : DV.DefA := ⟨fun K => (ga K "first_pair"), "first_pair", "first_pair", defArgs s_first_pair, defBody s_first_pair, defScope s_first_pair, [], []⟩
def d_first_spots : DV.DefA := ⟨fun K => (ga K "first_spots"), "first_spots", "first_spots", defArgs s_first_spots, defBody s_first_spots, defScope s_first_spots, [], []⟩
def d_Film_len : DV.DefA := ⟨fun K => (ma K (ga K "Film") "__len__"), "__len__", "Film.__len__", defArgs s_Film_len, defBody s_Film_len, defScope s_Film_len, [], []⟩
def d_first_unlike : DV.DefA := ⟨fun K => (ga K "first_unlike"), "first_unlike", "first_unlike", defArgs s_first_unlike, defBody s_first_unlike, defScope s_first_unlike, [], []⟩
def d_unlike : DV.DefA := ⟨fun K => (ga K "unlike"), "unlike", "unlike", defArgs s_unlike, defBody s_unlike, defScope s_unlike, [], [("player", .str "full"), ("second", .str "full"), ("start", .str "empty")]⟩
def d_alike : DV.DefA := ⟨fun K => (ga K "alike"), "alike", "alike", defArgs s_alike, defBody s_alike, defScope s_alike, [], [("player", .str "full"), ("second", .str "full"), ("start", .str "empty")]⟩
def d_law_first : DV.DefA := ⟨fun K => (ga K "_law_first"), "_law_first", "_law_first", defArgs s_law_first, defBody s_law_first, defScope s_law_first, [], []⟩
def d_law_any : DV.DefA := ⟨fun K => (ga K "_law_any"), "_law_any", "_law_any", defArgs s_law_any, defBody s_law_any, defScope s_law_any, [], []⟩
def d_law_right : DV.DefA := ⟨fun K => (ga K "_law_right"), "_law_right", "_law_right", defArgs s_law_right, defBody s_law_right, defScope s_law_right, [], []⟩
def d_law_jar : DV.DefA := ⟨fun K => (ga K "_law_jar"), "_law_jar", "_law_jar", defArgs s_law_jar, defBody s_law_jar, defScope s_law_jar, [], []⟩
def d_law : DV.DefA := ⟨fun K => (ga K "law"), "law", "law", defArgs s_law, defBody s_law, defScope s_law, [], []⟩
def fn : List DV.DefA := [d_law_dip, d_law_rect, d_law_pick, d_law_model, d_law_mate, d_law_who, d_is_integer, d_is_within, d_check_size, d_is_name, d_is_part, d_is_word, d_is_frame, d_check_solid, d_Film_init, d_law_made, d_law_dots, d_law_patterns, d_law_in, d_law_play, d_law_differ, d_check_film, d_check_player, d_check_start, d_Film_width, d_Film_height, d_Film_solid, d_do_fit, d_check_fit, d_Film_frames, d_over, d_laid, d_played_fate, d_played, d_parts_in, d_holds, d_covers_at, d_unlike_beats, d_borders_of, d_cells_of, d_first_pair, d_first_spots, d_Film_len, d_first_unlike, d_unlike, d_alike, d_law_first, d_law_any, d_law_right, d_law_jar, d_law]
def tf : List (Str × Option Str) := [("first_unlike", none)]
def loose0 : List Str := ["_wall", "WrongValue", "InvalidSize", "InvalidPlayer", "InvalidStart", "InvalidText", "NotAFilm", "InvalidFrames", "InvalidSolid", "WrongRow", "NoAnswer", "DoNotFit", "MOST_FRAMES", "MOST_SOLID", "MOST_SIZE", "SMALL", "DIGITS", "LONGEST_NAME", "BARRED", "FATES", "is_integer", "is_within", "is_name", "is_word", "is_part", "check_size", "check_solid", "holds", "borders_of", "cells_of"]
def loose1 : List Str := ["number_in", "screen_in", "solid_in", "laying_in", "frame_in", "is_frame", "head_of", "head_text", "Film", "check_film", "do_fit", "check_fit", "parts_in", "over", "laid", "PLAYERS", "NOTHING", "ANYTHING", "check_player", "played_fate", "played", "covers_at", "check_start", "first_spots", "first_pair", "unlike_beats", "first_unlike", "unlike", "alike", "_law_jar"]
def loose2 : List Str := ["_law_dip", "_law_pick", "_law_rect", "_law_model", "_law_made", "_law_mate", "_law_in", "_law_dots", "_law_play", "_law_patterns", "_law_who", "_law_differ", "_law_any", "_law_first", "_law_right"]
def looseAll : List Str := loose0 ++ loose1 ++ loose2
abbrev RR : PySem.W.OpenRow := PySem.W.OpenLaw.row PySem.Challenge.rw_tidyframes_k12_first_differences_by_tryi
abbrev hk : PySem.W.Hook := hookVT 1200 fx fn tf
def ob (s : PySem.W.SharedT) : He.AlD × Bool := obsVT 1200 fx fn tf (HandSHeadRun.getT s)
theorem ob_eq (s : PySem.W.SharedT) : ob s = hk.obs s.abs := obsVT_eq (HandSHeadRun.getT_eq s)
theorem run (w : World) : HandSHeadRun.RunEq RR (PySem.W.view RR.prog [82]) hk ob 20000 looseAll w := by
  intro os
  kernel_rfl
end L12


set_option Elab.async false
set_option linter.all false
set_option maxRecDepth 100000
set_option  maxHeartbeats   4000000
/-! DV, part A: deep values over the layer's abstract heap; a store; the relation between both; what a reading is. -/
namespace DV
open PySem L2


inductive Cell where
  | lst (xs : List D)
  | dic (kvs : List (Key × D))
  | ins (c : Nat) (fs : List (Str × D))

structure Store where
  nxt : Nat
  at_ : Nat → Option Cell

def Store.new (st : Store) (c : Cell) : Store := ⟨st.nxt + 1, fun n => if n = st.nxt then some c else st.at_ n⟩
def Store.put (st : Store) (n : Nat) (c : Cell) : Store := ⟨st.nxt, fun m => if m = n then some c else st.at_ m⟩

/-- an exception's fields go with it -/
inductive Res (α : Type) where
  | ok (a : α) (st : Store)
  | exc (c : Nat) (fs : List (Str × D)) (st : Store)
  | bad
def Res.bind {α β : Type} (r : Res α) (k : α → Store → Res β) : Res β :=
  match r with
  | .ok a st => k a st
  | .exc c fs st => .exc c fs st
  | .bad => .bad

abbrev Loc := List (Option D)

/-- a list that is locked or written: it stays as it is -/
def RoL (K : PySem.W.Frag) (H : Hp) (a : Addr) (vs : List V) : Prop :=
  (∃ o, H a = some (.frz o (.lst vs))) ∨
    ∃ (o : Obj) (its : Array Value) (n : Nat), K.lookup a = some o ∧ o.cls = .type "list" ∧ o.dict = none ∧ o.data = .seq its n ∧ its.size ≤ sizeLine ∧ Vals vs its.toList
theorem RoL.sq {K : PySem.W.Frag} {H : Hp} {a : Addr} {vs : List V} (h : RoL K H a vs) : SqL K H a vs := by
  rcases h with ⟨o, h⟩ | h
  · exact .inl (.inr ⟨o, h⟩)
  · exact .inr h

mutual
def VR (K : PySem.W.Frag) (μ : Nat → Addr) (N : Nat) (H : Hp) : D → V → Prop
  | .non, v => v = .non
  | .bl b, v => v = .bl b
  | .int i, v => v = .int i
  | .str x, v => v = .str x
  | .ref n, v => n < N ∧ v = .ref (μ n)
  | .cst w, v => v = w
  | .tup ds, v => ∃ p vs, v = .ref p ∧ SqT K H p vs ∧ VRs K μ N H ds vs
  | .rol ds, v => ∃ p vs, v = .ref p ∧ RoL K H p vs ∧ VRs K μ N H ds vs
def VRs (K : PySem.W.Frag) (μ : Nat → Addr) (N : Nat) (H : Hp) : List D → List V → Prop
  | [], vs => vs = []
  | d :: ds, vs => ∃ v r, vs = v :: r ∧ VR K μ N H d v ∧ VRs K μ N H ds r
end

/-- what values lean on -/
structure Ev0 (K : PySem.W.Frag) (μ : Nat → Addr) (N : Nat) (H : Hp) (μ' : Nat → Addr) (N' : Nat) (H' : Hp) : Prop where
  le : N ≤ N'
  mu : ∀ n, n < N → μ' n = μ n
  sq : ∀ p vs, SqT K H p vs → SqT K H' p vs
  rq : ∀ p vs, RoL K H p vs → RoL K H' p vs
  ex : ∀ p φ, H p = some (.ext φ) → H' p = some (.ext φ)
/-- how the heap goes on -/
structure Ev (K : PySem.W.Frag) (μ : Nat → Addr) (N : Nat) (H : Hp) (μ' : Nat → Addr) (N' : Nat) (H' : Hp) : Prop extends Ev0 K μ N H μ' N' H' where
  kp : ∀ b o, H b = some o → (∀ n, n < N → μ n ≠ b) → (∀ ps, o ≠ .tbl ps) → H' b = some o
  fr : ∀ n, N ≤ n → n < N' → H (μ' n) = none
  tr : ∀ b, H b ≠ none → H' b ≠ none

section
variable {K : PySem.W.Frag} {μ μ1 μ2 : Nat → Addr} {N N1 N2 : Nat} {H H1 H2 : Hp}
theorem Ev.refl : Ev K μ N H μ N H := ⟨⟨Nat.le_refl _, fun _ _ => rfl, fun _ _ h => h, fun _ _ h => h, fun _ _ h => h⟩, fun _ _ h _ _ => h, fun n h1 h2 => absurd h2 (by omega), fun _ h => h⟩
theorem Ev.trans (a : Ev K μ N H μ1 N1 H1) (b : Ev K μ1 N1 H1 μ2 N2 H2) : Ev K μ N H μ2 N2 H2 where
  le := Nat.le_trans a.le b.le
  mu := fun n h => (b.mu n (Nat.lt_of_lt_of_le h a.le)).trans (a.mu n h)
  sq := fun p vs h => b.sq p vs (a.sq p vs h)
  rq := fun p vs h => b.rq p vs (a.rq p vs h)
  ex := fun p φ h => b.ex p φ (a.ex p φ h)
  kp := fun c o h hn ht => b.kp c o (a.kp c o h hn ht) (fun n hn1 => by
    by_cases hlt : n < N
    · rw [a.mu n hlt]; exact hn n hlt
    · intro e
      have := a.fr n (by omega) hn1
      rw [e, h] at this; cases this) ht
  fr := fun n h1 h2 => by
    by_cases hlt : n < N1
    · rw [b.mu n hlt]; exact a.fr n h1 hlt
    · have q := b.fr n (by omega) h2
      cases e : H (μ2 n) with
      | none => rfl
      | some o => exact absurd q (a.tr _ (by rw [e]; simp))
  tr := fun c h => b.tr c (a.tr c h)

mutual
theorem VR.ev0 (e : Ev0 K μ N H μ1 N1 H1) : ∀ {d : D} {v : V}, VR K μ N H d v → VR K μ1 N1 H1 d v
  | .non, _, h => by simpa only [VR] using h
  | .bl _, _, h => by simpa only [VR] using h
  | .int _, _, h => by simpa only [VR] using h
  | .str _, _, h => by simpa only [VR] using h
  | .cst _, _, h => by simpa only [VR] using h
  | .ref n, _, h => by
    simp only [VR] at h ⊢
    exact ⟨Nat.lt_of_lt_of_le h.1 e.le, by rw [e.mu n h.1]; exact h.2⟩
  | .tup ds, _, h => by
    simp only [VR] at h ⊢
    obtain ⟨p, vs, h1, h2, h3⟩ := h
    exact ⟨p, vs, h1, e.sq p vs h2, VRs.ev0 e h3⟩
  | .rol ds, _, h => by
    simp only [VR] at h ⊢
    obtain ⟨p, vs, h1, h2, h3⟩ := h
    exact ⟨p, vs, h1, e.rq p vs h2, VRs.ev0 e h3⟩
theorem VRs.ev0 (e : Ev0 K μ N H μ1 N1 H1) : ∀ {ds : List D} {vs : List V}, VRs K μ N H ds vs → VRs K μ1 N1 H1 ds vs
  | [], _, h => by simpa only [VRs] using h
  | d :: ds, _, h => by
    simp only [VRs] at h ⊢
    obtain ⟨v, r, h1, h2, h3⟩ := h
    exact ⟨v, r, h1, VR.ev0 e h2, VRs.ev0 e h3⟩
end
theorem VR.ev (e : Ev K μ N H μ1 N1 H1) {d : D} {v : V} (h : VR K μ N H d v) : VR K μ1 N1 H1 d v := VR.ev0 e.toEv0 h
theorem VRs.ev (e : Ev K μ N H μ1 N1 H1) {ds : List D} {vs : List V} (h : VRs K μ N H ds vs) : VRs K μ1 N1 H1 ds vs := VRs.ev0 e.toEv0 h
theorem VRs.length : ∀ {ds : List D} {vs : List V}, VRs K μ N H ds vs → ds.length = vs.length
  | [], _, h => by simp only [VRs] at h; rw [h]; rfl
  | d :: ds, _, h => by
    simp only [VRs] at h
    obtain ⟨v, r, rfl, _, h3⟩ := h
    simp [VRs.length h3]
theorem VRs.get : ∀ {ds : List D} {vs : List V} {i : Nat} {d : D}, VRs K μ N H ds vs → ds[i]? = some d → ∃ v, vs[i]? = some v ∧ VR K μ N H d v
  | [], _, _, _, _, e => by simp at e
  | x :: ds, _, 0, d, h, e => by
    simp only [VRs] at h
    obtain ⟨v, r, rfl, h2, h3⟩ := h
    simp at e; subst e
    exact ⟨v, rfl, h2⟩
  | x :: ds, _, i + 1, d, h, e => by
    simp only [VRs] at h
    obtain ⟨v, r, rfl, h2, h3⟩ := h
    obtain ⟨w, a, b⟩ := VRs.get h3 (i := i) (by simpa using e)
    exact ⟨w, by simpa using a, b⟩
theorem VRs.append : ∀ {ds es : List D} {vs ws : List V}, VRs K μ N H ds vs → VRs K μ N H es ws → VRs K μ N H (ds ++ es) (vs ++ ws)
  | [], _, _, _, h, h' => by simp only [VRs] at h; subst h; exact h'
  | d :: ds, es, _, ws, h, h' => by
    simp only [VRs] at h
    obtain ⟨v, r, rfl, h2, h3⟩ := h
    simp only [List.cons_append, VRs]
    exact ⟨v, r ++ ws, rfl, h2, VRs.append h3 h'⟩
theorem VRs.one {d : D} {v : V} (h : VR K μ N H d v) : VRs K μ N H [d] [v] := by
  simp only [VRs]; exact ⟨v, [], rfl, h, rfl⟩
theorem VRs.two {d e : D} {v w : V} (h : VR K μ N H d v) (h' : VR K μ N H e w) : VRs K μ N H [d, e] [v, w] := by
  simp only [VRs]; exact ⟨v, [w], rfl, h, w, [], rfl, h', rfl⟩
theorem VRs.take : ∀ {ds : List D} {vs : List V} (n : Nat), VRs K μ N H ds vs → VRs K μ N H (ds.take n) (vs.take n)
  | [], _, n, h => by simp only [VRs] at h; subst h; simp [VRs]
  | d :: ds, _, 0, h => by simp [VRs]
  | d :: ds, _, n + 1, h => by
    simp only [VRs] at h
    obtain ⟨v, r, rfl, h2, h3⟩ := h
    simp only [List.take_succ_cons, VRs]
    exact ⟨v, _, rfl, h2, VRs.take n h3⟩
theorem VRs.drop : ∀ {ds : List D} {vs : List V} (n : Nat), VRs K μ N H ds vs → VRs K μ N H (ds.drop n) (vs.drop n)
  | [], _, n, h => by simp only [VRs] at h; subst h; simp [VRs]
  | d :: ds, _, 0, h => by simpa using h
  | d :: ds, _, n + 1, h => by
    simp only [VRs] at h
    obtain ⟨v, r, rfl, h2, h3⟩ := h
    simp only [List.drop_succ_cons]
    exact VRs.drop n h3
theorem VRs.rev : ∀ {ds : List D} {vs : List V}, VRs K μ N H ds vs → VRs K μ N H ds.reverse vs.reverse
  | [], _, h => by simp only [VRs] at h; subst h; simp [VRs]
  | d :: ds, _, h => by
    simp only [VRs] at h
    obtain ⟨v, r, rfl, h2, h3⟩ := h
    simp only [List.reverse_cons]
    exact VRs.append (VRs.rev h3) (VRs.one h2)
theorem VRs.set {d : D} {v : V} (hd : VR K μ N H d v) : ∀ {ds : List D} {vs : List V} (i : Nat), VRs K μ N H ds vs → VRs K μ N H (ds.set i d) (vs.set i v)
  | [], _, i, h => by simp only [VRs] at h; subst h; simp [VRs]
  | x :: ds, _, 0, h => by
    simp only [VRs] at h
    obtain ⟨w, r, rfl, h2, h3⟩ := h
    simp only [List.set_cons_zero, VRs]
    exact ⟨v, r, rfl, hd, h3⟩
  | x :: ds, _, i + 1, h => by
    simp only [VRs] at h
    obtain ⟨w, r, rfl, h2, h3⟩ := h
    simp only [List.set_cons_succ, VRs]
    exact ⟨w, _, rfl, h2, VRs.set hd i h3⟩

/-- what a proof knows besides: the classes, something that stays, the tables of code objects -/
structure CL where
  at_ : Nat → Addr
  P : PySem.W.Frag → (Nat → Addr) → Nat → Hp → Prop
  up : ∀ {K : PySem.W.Frag} {μ : Nat → Addr} {N : Nat} {H : Hp} {μ' : Nat → Addr} {N' : Nat} {H' : Hp}, Ev0 K μ N H μ' N' H' → P K μ N H → P K μ' N' H'
  tabs : List NdefX.NTab
instance : CoeFun CL (fun _ => Nat → Addr) := ⟨CL.at_⟩
/-- a cell as the heap has it -/
def CellOk (K : PySem.W.Frag) (cl : CL) (μ : Nat → Addr) (N : Nat) (H : Hp) (a : Addr) : Cell → Prop
  | .lst xs => ∃ vs, H a = some (.lst vs) ∧ VRs K μ N H xs vs
  | .dic kvs => ∃ ps : List (Key × V), H a = some (.dK ps) ∧ ps.map (·.1) = kvs.map (·.1) ∧ VRs K μ N H (kvs.map (·.2)) (ps.map (·.2))
  | .ins c fs => ∃ dx ps, H a = some (.ins (cl c) dx ps) ∧ ps.map (·.1) = fs.map (·.1) ∧ VRs K μ N H (fs.map (·.2)) (ps.map (·.2))
theorem CellOk.ev0 {cl : CL} {a : Addr} {c : Cell} (e : Ev0 K μ N H μ1 N1 H1) (ha : H1 a = H a) (h : CellOk K cl μ N H a c) : CellOk K cl μ1 N1 H1 a c := by
  cases c with
  | lst xs => obtain ⟨vs, h1, h2⟩ := h; exact ⟨vs, ha.trans h1, h2.ev0 e⟩
  | dic kvs => obtain ⟨ps, h1, h2, h3⟩ := h; exact ⟨ps, ha.trans h1, h2, h3.ev0 e⟩
  | ins c fs => obtain ⟨dx, ps, h1, h2, h3⟩ := h; exact ⟨dx, ps, ha.trans h1, h2, h3.ev0 e⟩
theorem CellOk.ev {cl : CL} {a : Addr} {c : Cell} (e : Ev K μ N H μ1 N1 H1) (ha : H1 a = H a) (h : CellOk K cl μ N H a c) : CellOk K cl μ1 N1 H1 a c := h.ev0 e.toEv0 ha
/-- a thing of the store's kinds -/
def CellH : HO → Prop
  | .lst _ => True
  | .dK _ => True
  | .ins _ _ _ => True
  | _ => False
theorem CellOk.there {cl : CL} {a : Addr} {c : Cell} (h : CellOk K cl μ N H a c) : ∃ o, H a = some o ∧ CellH o := by
  cases c with
  | lst xs => obtain ⟨vs, h1, _⟩ := h; exact ⟨_, h1, trivial⟩
  | dic kvs => obtain ⟨ps, h1, _⟩ := h; exact ⟨_, h1, trivial⟩
  | ins c fs => obtain ⟨dx, ps, h1, _⟩ := h; exact ⟨_, h1, trivial⟩

/-- the store as the heap has it -/
structure SR (K : PySem.W.Frag) (cl : CL) (μ : Nat → Addr) (st : Store) (H : Hp) : Prop where
  inj : ∀ m n, m < st.nxt → n < st.nxt → μ m = μ n → m = n
  cell : ∀ n, n < st.nxt → ∃ c, st.at_ n = some c ∧ CellOk K cl μ st.nxt H (μ n) c
  out : ∀ n, st.nxt ≤ n → st.at_ n = none
  pp : cl.P K μ st.nxt H
  tb : NdefX.TabsN cl.tabs H
theorem SR.lt {cl : CL} {st : Store} (S : SR K cl μ st H) {n : Nat} {c : Cell} (e : st.at_ n = some c) : n < st.nxt := by
  by_cases h : n < st.nxt
  · exact h
  · have := S.out n (by omega)
    rw [e] at this; cases this
theorem SR.get {cl : CL} {st : Store} (S : SR K cl μ st H) {n : Nat} {c : Cell} (e : st.at_ n = some c) : CellOk K cl μ st.nxt H (μ n) c := by
  obtain ⟨c', h1, h2⟩ := S.cell n (S.lt e)
  rw [e] at h1; cases h1
  exact h2
theorem SR.there {cl : CL} {st : Store} (S : SR K cl μ st H) {n : Nat} (h : n < st.nxt) : ∃ o, H (μ n) = some o ∧ CellH o := by
  obtain ⟨c, _, h2⟩ := S.cell n h
  exact h2.there
theorem SR.ne_new {cl : CL} {st : Store} (S : SR K cl μ st H) {p : Addr} (hp : H p = none) : ∀ n, n < st.nxt → μ n ≠ p := fun n hn e => by
  obtain ⟨o, h, _⟩ := S.there hn
  rw [e, hp] at h; cases h

/-- a tuple, a locked list is none of the store's things -/
theorem SqT.upd_new {p : Addr} {o : HO} (hp : H p = none) {q : Addr} {vs : List V} (h : SqT K H q vs) : SqT K (upd H p o) q vs := by
  rcases h with (h | ⟨u, h⟩) | h
  · exact .inl (.inl (by rw [upd_ne (ne_of_none h hp)]; exact h))
  · exact .inl (.inr ⟨u, by rw [upd_ne (ne_of_none h hp)]; exact h⟩)
  · exact .inr h
theorem SqT.upd_cell {p : Addr} {o u : HO} (hp : H p = some u) (hu : CellH u) {q : Addr} {vs : List V} (h : SqT K H q vs) : SqT K (upd H p o) q vs := by
  rcases h with (h | ⟨w, h⟩) | h
  · refine .inl (.inl ?_)
    rw [upd_ne]
    · exact h
    · rintro rfl
      rw [hp] at h; cases h; exact hu
  · refine .inl (.inr ⟨w, ?_⟩)
    rw [upd_ne]
    · exact h
    · rintro rfl
      rw [hp] at h; cases h; exact hu
  · exact .inr h
theorem RoL.upd_new {p : Addr} {o : HO} (hp : H p = none) {q : Addr} {vs : List V} (h : RoL K H q vs) : RoL K (upd H p o) q vs := by
  rcases h with ⟨u, h⟩ | h
  · exact .inl ⟨u, by rw [upd_ne (ne_of_none h hp)]; exact h⟩
  · exact .inr h
theorem RoL.upd_cell {p : Addr} {o u : HO} (hp : H p = some u) (hu : CellH u) {q : Addr} {vs : List V} (h : RoL K H q vs) : RoL K (upd H p o) q vs := by
  rcases h with ⟨w, h⟩ | h
  · refine .inl ⟨w, ?_⟩
    rw [upd_ne]
    · exact h
    · rintro rfl
      rw [hp] at h; cases h; exact hu
  · exact .inr h
theorem ext_ne_cell {p q : Addr} {u : HO} {φ : Heap → Prop} (hp : H p = some u) (hu : CellH u) (h : H q = some (.ext φ)) : q ≠ p := by
  rintro rfl
  rw [hp] at h
  cases h
  exact hu
theorem tbl_ne_cell {p q : Addr} {u : HO} {ps : Array Value} (hp : H p = some u) (hu : CellH u) (h : H q = some (.tbl ps)) : q ≠ p := by
  rintro rfl
  rw [hp] at h
  cases h
  exact hu
theorem tabs_up {T : List NdefX.NTab} (e1 : ∀ p ps, H p = some (.tbl ps) → H1 p = some (.tbl ps)) (e2 : ∀ p φ, H p = some (.ext φ) → H1 p = some (.ext φ)) (h : NdefX.TabsN T H) : NdefX.TabsN T H1 := fun t ht => by
  obtain ⟨ps, h1, h2, h3⟩ := h t ht
  refine ⟨ps, e1 _ _ h1, h2, fun pos cv hc => ?_⟩
  obtain ⟨c, q1, q2⟩ := h3 pos cv hc
  exact ⟨c, q1, e2 _ _ q2⟩
theorem upd_tr {p : Addr} {o : HO} : ∀ b, H b ≠ none → upd H p o b ≠ none := fun b h => by
  by_cases e : b = p
  · subst e; rw [upd_same]; simp
  · rw [upd_ne e]; exact h

/-- μ with one more place -/
def ext (μ : Nat → Addr) (n : Nat) (p : Addr) : Nat → Addr := fun m => if m = n then p else μ m
theorem ext_same {n : Nat} {p : Addr} : ext μ n p n = p := by unfold ext; rw [if_pos rfl]
theorem ext_ne {n m : Nat} {p : Addr} (h : m ≠ n) : ext μ n p m = μ m := by unfold ext; rw [if_neg h]

/-- a new thing beside the store (a tuple) -/
theorem Ev.beside {p : Addr} {o : HO} (hp : H p = none) : Ev K μ N H μ N (upd H p o) :=
  ⟨⟨Nat.le_refl _, fun _ _ => rfl, fun _ _ h => SqT.upd_new hp h, fun _ _ h => RoL.upd_new hp h, fun _ _ h => by rw [upd_ne (ne_of_none h hp)]; exact h⟩, fun b u h _ _ => by rw [upd_ne (ne_of_none h hp)]; exact h, fun n h1 h2 => absurd h2 (by omega), upd_tr⟩
theorem SR.beside {cl : CL} {st : Store} (S : SR K cl μ st H) {p : Addr} {o : HO} (hp : H p = none) : SR K cl μ st (upd H p o) :=
  ⟨S.inj, fun n hn => by
    obtain ⟨c, h1, h2⟩ := S.cell n hn
    exact ⟨c, h1, h2.ev (Ev.beside hp) (upd_ne (S.ne_new hp n hn))⟩, S.out, cl.up (Ev.beside hp).toEv0 S.pp, tabs_up (fun _ _ h => by rw [upd_ne (ne_of_none h hp)]; exact h) (fun _ _ h => by rw [upd_ne (ne_of_none h hp)]; exact h) S.tb⟩
/-- a new place -/
theorem Ev.new {p : Addr} {o : HO} (hp : H p = none) : Ev K μ N H (ext μ N p) (N + 1) (upd H p o) where
  le := Nat.le_succ _
  mu := fun n h => ext_ne (by omega)
  sq := fun _ _ h => SqT.upd_new hp h
  rq := fun _ _ h => RoL.upd_new hp h
  ex := fun _ _ h => by rw [upd_ne (ne_of_none h hp)]; exact h
  kp := fun b u h _ _ => by rw [upd_ne (ne_of_none h hp)]; exact h
  fr := fun n h1 h2 => by
    have e : n = N := by omega
    subst e; rw [ext_same]; exact hp
  tr := upd_tr
theorem SR.mk_new {cl : CL} {st : Store} (S : SR K cl μ st H) {p : Addr} {o : HO} {c : Cell} (hp : H p = none) (hc : CellOk K cl (ext μ st.nxt p) (st.nxt + 1) (upd H p o) p c) : SR K cl (ext μ st.nxt p) (st.new c) (upd H p o) where
  inj := fun m n hm hn e => by
    have hm' : m < st.nxt + 1 := hm
    have hn' : n < st.nxt + 1 := hn
    by_cases a : m = st.nxt
    · by_cases b : n = st.nxt
      · rw [a, b]
      · rw [a, ext_same, ext_ne b] at e
        exact absurd e.symm (S.ne_new hp n (by omega))
    · by_cases b : n = st.nxt
      · rw [b, ext_same, ext_ne a] at e
        exact absurd e (S.ne_new hp m (by omega))
      · rw [ext_ne a, ext_ne b] at e
        exact S.inj m n (by omega) (by omega) e
  cell := fun n hn => by
    have hn' : n < st.nxt + 1 := hn
    by_cases b : n = st.nxt
    · subst b
      exact ⟨c, by unfold Store.new; exact if_pos rfl, by rw [ext_same]; exact hc⟩
    · obtain ⟨c', h1, h2⟩ := S.cell n (by omega)
      refine ⟨c', by unfold Store.new; exact (if_neg b).trans h1, ?_⟩
      rw [ext_ne b]
      exact h2.ev (Ev.new hp) (upd_ne (S.ne_new hp n (by omega)))
  out := fun n hn => by
    have hn' : st.nxt + 1 ≤ n := hn
    unfold Store.new
    exact (if_neg (by omega)).trans (S.out n (by omega))
  pp := cl.up (Ev.new hp).toEv0 S.pp
  tb := tabs_up (fun _ _ h => by rw [upd_ne (ne_of_none h hp)]; exact h) (fun _ _ h => by rw [upd_ne (ne_of_none h hp)]; exact h) S.tb
theorem SR.new_lst {cl : CL} {st : Store} (S : SR K cl μ st H) {p : Addr} {xs : List D} {vs : List V} (hp : H p = none) (h : VRs K μ st.nxt H xs vs) : SR K cl (ext μ st.nxt p) (st.new (.lst xs)) (upd H p (.lst vs)) :=
  S.mk_new hp ⟨vs, upd_same, h.ev (Ev.new hp)⟩
theorem SR.new_dic {cl : CL} {st : Store} (S : SR K cl μ st H) {p : Addr} {kvs : List (Key × D)} {ps : List (Key × V)} (hp : H p = none) (hk : ps.map (·.1) = kvs.map (·.1)) (h : VRs K μ st.nxt H (kvs.map (·.2)) (ps.map (·.2))) :
    SR K cl (ext μ st.nxt p) (st.new (.dic kvs)) (upd H p (.dK ps)) :=
  S.mk_new hp ⟨ps, upd_same, hk, h.ev (Ev.new hp)⟩
/-- a place is written -/
theorem Ev.put {n : Nat} {o u : HO} (hn : n < N) (hu : H (μ n) = some u) (hc : CellH u) : Ev K μ N H μ N (upd H (μ n) o) :=
  ⟨⟨Nat.le_refl _, fun _ _ => rfl, fun _ _ h => SqT.upd_cell hu hc h, fun _ _ h => RoL.upd_cell hu hc h, fun _ _ h => by rw [upd_ne (ext_ne_cell hu hc h)]; exact h⟩, fun b w h hb _ => by rw [upd_ne (fun e => hb n hn e.symm)]; exact h, fun m h1 h2 => absurd h2 (by omega), upd_tr⟩
theorem SR.put_ {cl : CL} {st : Store} (S : SR K cl μ st H) {n : Nat} {o : HO} {c : Cell} (hn : n < st.nxt) (hc : CellOk K cl μ st.nxt (upd H (μ n) o) (μ n) c) : SR K cl μ (st.put n c) (upd H (μ n) o) ∧ Ev K μ st.nxt H μ st.nxt (upd H (μ n) o) := by
  obtain ⟨u, hu, hcu⟩ := S.there hn
  have e : Ev K μ st.nxt H μ st.nxt (upd H (μ n) o) := Ev.put hn hu hcu
  refine ⟨⟨S.inj, fun m hm => ?_, fun m hm => ?_, cl.up e.toEv0 S.pp, tabs_up (fun _ _ h => by rw [upd_ne (tbl_ne_cell hu hcu h)]; exact h) e.ex S.tb⟩, e⟩
  · have hm' : m < st.nxt := hm
    by_cases b : m = n
    · subst b
      exact ⟨c, by unfold Store.put; exact if_pos rfl, hc⟩
    · obtain ⟨c', h1, h2⟩ := S.cell m hm'
      exact ⟨c', by unfold Store.put; exact (if_neg b).trans h1, h2.ev e (upd_ne fun q => b (S.inj m n hm' hn q))⟩
  · have hm' : st.nxt ≤ m := hm
    unfold Store.put
    exact (if_neg (by omega)).trans (S.out m hm')
end

/-! ### what is wanted behind -/
section
variable (K : PySem.W.Frag) (cl : CL)
/-- an exception in the air -/
def XR (μ : Nat → Addr) (N : Nat) (H : Hp) (c : Nat) (fs : List (Str × D)) (cls : Value) (d : Option Addr) : Prop :=
  cls = .ref (cl c) ∧ ((fs = [] ∧ d = none) ∨ ∃ a ps, d = some a ∧ H a = some (.xd ps) ∧ ps.map (·.1) = fs.map (·.1) ∧ VRs K μ N H (fs.map (·.2)) (ps.map (·.2)))
def Post {α β : Type} (rel : (Nat → Addr) → Nat → Hp → α → β → Prop) (μ : Nat → Addr) (N : Nat) (H : Hp) (Q : β → Hp → Prop) (W : XK) : Res α → Prop
  | .ok a st' => ∀ μ' H' b, SR K cl μ' st' H' → Ev K μ N H μ' st'.nxt H' → rel μ' st'.nxt H' a b → Q b H'
  | .exc c fs st' => ∀ μ' H' cls d, SR K cl μ' st' H' → Ev K μ N H μ' st'.nxt H' → XR K cl μ' st'.nxt H' c fs cls d → W cls d H'
  | .bad => False
/-- of an operator: it raises nothing -/
def PostO {α β : Type} (rel : (Nat → Addr) → Nat → Hp → α → β → Prop) (μ : Nat → Addr) (N : Nat) (H : Hp) (Q : β → Hp → Prop) : Option (α × Store) → Prop
  | some (a, st') => ∀ μ' H' b, SR K cl μ' st' H' → Ev K μ N H μ' st'.nxt H' → rel μ' st'.nxt H' a b → Q b H'
  | none => False
def Same_ {α : Type} : (Nat → Addr) → Nat → Hp → α → α → Prop := fun _ _ _ a b => a = b
/-- the slots -/
def LR (μ : Nat → Addr) (N : Nat) (H : Hp) (l : Loc) (σ : St) : Prop := l.length = σ.length ∧ ∀ (i : Nat) (d : D), l[i]? = some (some d) → ∃ v, σ[i]? = some (some v) ∧ VR K μ N H d v

abbrev ME := Loc → Store → Res D
abbrev MT := Loc → Store → Res Bool
abbrev MA := Loc → Store → Res (List D)
def rdE (W : WX) (m : ME) : TE := fun σ H Q => ∃ μ st l, SR K cl μ st H ∧ LR K μ st.nxt H l σ ∧ Post K cl (VR K) μ st.nxt H Q (WE W σ) (m l st)
def rdT (W : WX) (m : MT) : TT := fun σ H Q => ∃ μ st l, SR K cl μ st H ∧ LR K μ st.nxt H l σ ∧ Post K cl Same_ μ st.nxt H Q (WE W σ) (m l st)
def rdA (W : WX) (m : MA) : TA := fun σ H Q => ∃ μ st l, SR K cl μ st H ∧ LR K μ st.nxt H l σ ∧ Post K cl (VRs K) μ st.nxt H Q (WE W σ) (m l st)

/-- behind a statement -/
inductive RS where
  | nx (l : Loc) (st : Store)
  | rt (d : D) (st : Store)
  | bk (l : Loc) (st : Store)
  | ct (l : Loc) (st : Store)
  | exc (c : Nat) (fs : List (Str × D)) (l : Loc) (st : Store)
  | bad
abbrev MS := Loc → Store → RS
def PostL (μ : Nat → Addr) (N : Nat) (H : Hp) (l : Loc) (st' : Store) (Q : St → Hp → Prop) : Prop :=
  ∀ μ' H' σ', SR K cl μ' st' H' → Ev K μ N H μ' st'.nxt H' → LR K μ' st'.nxt H' l σ' → Q σ' H'
def PostS (μ : Nat → Addr) (N : Nat) (H : Hp) (E : Ends) (W : WX) : RS → Prop
  | .nx l st' => PostL K cl μ N H l st' E.nx
  | .rt d st' => ∀ μ' H' v, SR K cl μ' st' H' → Ev K μ N H μ' st'.nxt H' → VR K μ' st'.nxt H' d v → E.rt v H'
  | .bk l st' => PostL K cl μ N H l st' E.bk
  | .ct l st' => PostL K cl μ N H l st' E.ct
  | .exc c fs l st' => ∀ μ' H' σ' cls d, SR K cl μ' st' H' → Ev K μ N H μ' st'.nxt H' → LR K μ' st'.nxt H' l σ' → XR K cl μ' st'.nxt H' c fs cls d → W cls d σ' H'
  | .bad => False
def rdS (W : WX) (m : MS) : TS := fun E σ H => ∃ μ st l, SR K cl μ st H ∧ LR K μ st.nxt H l σ ∧ PostS K cl μ st.nxt H E W (m l st)
end

section
variable {K : PySem.W.Frag} {cl : CL} {μ μ1 μ2 : Nat → Addr} {N N1 N2 : Nat} {H H1 H2 : Hp}
theorem LR.ev {l : Loc} {σ : St} (h : LR K μ N H l σ) (e : Ev K μ N H μ1 N1 H1) : LR K μ1 N1 H1 l σ := ⟨h.1, fun i d q => let ⟨v, a, b⟩ := h.2 i d q; ⟨v, a, b.ev e⟩⟩
theorem LR.set {l : Loc} {σ : St} {d : D} {v : V} (h : LR K μ N H l σ) (i : Nat) (hd : VR K μ N H d v) : LR K μ N H (l.set i (some d)) (σ.set i (some v)) := by
  refine ⟨by simp [h.1], fun j e q => ?_⟩
  by_cases hj : i = j
  · subst hj
    by_cases hl : i < l.length
    · rw [List.getElem?_set_self hl] at q
      cases q
      exact ⟨v, List.getElem?_set_self (by rw [← h.1]; exact hl), hd⟩
    · rw [List.getElem?_eq_none (by simpa using hl)] at q; cases q
  · rw [List.getElem?_set_ne hj] at q
    rw [List.getElem?_set_ne hj]
    exact h.2 j e q
theorem Post.mono {α β : Type} {rel : (Nat → Addr) → Nat → Hp → α → β → Prop} {Q : β → Hp → Prop} {W : XK} {r : Res α} (e : Ev K μ N H μ1 N1 H1) (h : Post K cl rel μ N H Q W r) : Post K cl rel μ1 N1 H1 Q W r := by
  cases r with
  | ok a st' => exact fun μ' H' b s e' q => h μ' H' b s (e.trans e') q
  | exc c fs st' => exact fun μ' H' cls d s e' q => h μ' H' cls d s (e.trans e') q
  | bad => exact h
theorem PostO.mono {α β : Type} {rel : (Nat → Addr) → Nat → Hp → α → β → Prop} {Q : β → Hp → Prop} {r : Option (α × Store)} (e : Ev K μ N H μ1 N1 H1) (h : PostO K cl rel μ N H Q r) : PostO K cl rel μ1 N1 H1 Q r := by
  cases r with
  | some a => exact fun μ' H' b s e' q => h μ' H' b s (e.trans e') q
  | none => exact h
theorem PostS.mono {E : Ends} {W : WX} {r : RS} (e : Ev K μ N H μ1 N1 H1) (h : PostS K cl μ N H E W r) : PostS K cl μ1 N1 H1 E W r := by
  cases r with
  | nx l st' => exact fun μ' H' σ' s e' q => h μ' H' σ' s (e.trans e') q
  | rt d st' => exact fun μ' H' v s e' q => h μ' H' v s (e.trans e') q
  | bk l st' => exact fun μ' H' σ' s e' q => h μ' H' σ' s (e.trans e') q
  | ct l st' => exact fun μ' H' σ' s e' q => h μ' H' σ' s (e.trans e') q
  | exc c fs l st' => exact fun μ' H' σ' cls d s e' q x => h μ' H' σ' cls d s (e.trans e') q x
  | bad => exact h
/-- the step of every composition -/
theorem Post.bind {α β γ δ : Type} {rel : (Nat → Addr) → Nat → Hp → α → β → Prop} {rel' : (Nat → Addr) → Nat → Hp → γ → δ → Prop} {Q : β → Hp → Prop} {Q' : δ → Hp → Prop} {W : XK} {r : Res γ} {k : γ → Store → Res α}
    (h : Post K cl rel μ N H Q W (r.bind k))
    (hk : ∀ c st1 μ1 H1 v, r = .ok c st1 → SR K cl μ1 st1 H1 → Ev K μ N H μ1 st1.nxt H1 → rel' μ1 st1.nxt H1 c v → Post K cl rel μ1 st1.nxt H1 Q W (k c st1) → Q' v H1) : Post K cl rel' μ N H Q' W r := by
  cases r with
  | ok c st1 => exact fun μ1 H1 v s e q => hk c st1 μ1 H1 v rfl s e q (Post.mono e h)
  | exc c fs st' => exact h
  | bad => exact h
def Res.ofO {α : Type} : Option (α × Store) → Res α
  | some (a, st) => .ok a st
  | none => .bad
theorem Post.ofO {α β : Type} {rel : (Nat → Addr) → Nat → Hp → α → β → Prop} {Q : β → Hp → Prop} {W : XK} {r : Option (α × Store)} (h : Post K cl rel μ N H Q W (Res.ofO r)) : PostO K cl rel μ N H Q r := by
  cases r with
  | some a => exact h
  | none => exact h
end

theorem PE.weak {X : Cx} {e : Expr} {t t' : TE} (h : PE X e t) (w : ∀ σ H Q, t' σ H Q → t σ H Q) : PE X e t' := ⟨fun pins s σ H Q I q => h.run pins s σ H Q I (w σ H Q q)⟩
theorem PT.weak {X : Cx} {e : Expr} {t t' : TT} (h : PT X e t) (w : ∀ σ H Q, t' σ H Q → t σ H Q) : PT X e t' := ⟨fun pins s σ H Q I q => h.run pins s σ H Q I (w σ H Q q)⟩
theorem PW.weak {X : Cx} {e : Expr} {t t' : TT} (h : PW X e t) (w : ∀ σ H Q, t' σ H Q → t σ H Q) : PW X e t' := ⟨fun wh pins s σ H Q I q => h.run wh pins s σ H Q I (w σ H Q q)⟩
theorem PA.weak {X : Cx} {e : List Expr} {t t' : TA} (h : PA X e t) (w : ∀ σ H Q, t' σ H Q → t σ H Q) : PA X e t' := ⟨fun pos pins s σ H Q I q => h.run pos pins s σ H Q I (w σ H Q q)⟩
theorem PS.weak {X : Cx} {e : Stmt} {t t' : TS} (h : PS X e t) (w : ∀ E σ H, t' E σ H → t E σ H) : PS X e t' := ⟨fun pins s σ H E I q => h.run pins s σ H E I (w E σ H q)⟩
theorem PSs.weak {X : Cx} {e : List Stmt} {t t' : TS} (h : PSs X e t) (w : ∀ E σ H, t' E σ H → t E σ H) : PSs X e t' := ⟨fun pins s σ H E I q => h.run pins s σ H E I (w E σ H q)⟩

/-- the judgements of this layer -/
abbrev SE (X : Cx) (cl : CL) (W : WX) (e : Expr) (m : ME) : Prop := PE X e (rdE X.K cl W m)
abbrev ST (X : Cx) (cl : CL) (W : WX) (e : Expr) (m : MT) : Prop := PT X e (rdT X.K cl W m)
abbrev SW (X : Cx) (cl : CL) (W : WX) (e : Expr) (m : MT) : Prop := PW X e (rdT X.K cl W m)
abbrev SA (X : Cx) (cl : CL) (W : WX) (es : List Expr) (m : MA) : Prop := PA X es (rdA X.K cl W m)
abbrev SS (X : Cx) (cl : CL) (W : WX) (st : Stmt) (m : MS) : Prop := PS X st (rdS X.K cl W m)
abbrev SSs (X : Cx) (cl : CL) (W : WX) (st : List Stmt) (m : MS) : Prop := PSs X st (rdS X.K cl W m)
end DV


set_option Elab.async false
set_option linter.all false
set_option maxRecDepth 100000
set_option  maxHeartbeats   4000000
/-! DV, part B: expressions. -/
namespace DV
open PySem L2

/-! ### what operators do, by values -/
abbrev F1 := D → Store → Option (D × Store)
abbrev F2 := D → D → Store → Option (D × Store)
abbrev FL := List D → Store → Option (D × Store)
def rdO (K : PySem.W.Frag) (cl : CL) (f : F2) : R2 := fun x y H Q => ∃ μ st d1 d2, SR K cl μ st H ∧ VR K μ st.nxt H d1 x ∧ VR K μ st.nxt H d2 y ∧ PostO K cl (VR K) μ st.nxt H Q (f d1 d2 st)
def rdU (K : PySem.W.Frag) (cl : CL) (f : F1) : V → Hp → VK → Prop := fun x H Q => ∃ μ st d1, SR K cl μ st H ∧ VR K μ st.nxt H d1 x ∧ PostO K cl (VR K) μ st.nxt H Q (f d1 st)
def rdC (K : PySem.W.Frag) (cl : CL) (f : FL) : List V → Hp → VK → Prop := fun xs H Q => ∃ μ st ds, SR K cl μ st H ∧ VRs K μ st.nxt H ds xs ∧ PostO K cl (VR K) μ st.nxt H Q (f ds st)
def rdM (K : PySem.W.Frag) (cl : CL) (f : D → FL) : V → List V → Hp → VK → Prop := fun x xs H Q => ∃ μ st d ds, SR K cl μ st H ∧ VR K μ st.nxt H d x ∧ VRs K μ st.nxt H ds xs ∧ PostO K cl (VR K) μ st.nxt H Q (f d ds st)
abbrev OpS (X : Cx) (cl : CL) (g : Value → Value → Sem Value) (f : F2) : Prop := OpR X g (rdO X.K cl f)
abbrev CallS (X : Cx) (cl : CL) (v : Value) (f : FL) : Prop := CallR X v (rdC X.K cl f)

/-! ### the terms -/
def mVar (i : Nat) : ME := fun l st => match l[i]? with
  | some (some d) => .ok d st
  | _ => .bad
def mC (d : D) : ME := fun _ st => .ok d st
def m2 (f : F2) (a b : ME) : ME := fun l st => (a l st).bind fun x st1 => (b l st1).bind fun y st2 => Res.ofO (f x y st2)
def m1 (f : F1) (a : ME) : ME := fun l st => (a l st).bind fun x st1 => Res.ofO (f x st1)
def mL (f : FL) (a : MA) : ME := fun l st => (a l st).bind fun xs st1 => Res.ofO (f xs st1)
def maNil : MA := fun _ st => .ok [] st
def maCons (a : ME) (b : MA) : MA := fun l st => (a l st).bind fun x st1 => (b l st1).bind fun xs st2 => .ok (x :: xs) st2
def fTup : FL := fun xs st => if xs.length ≤ sizeLine then some (.tup xs, st) else none
def fLst : FL := fun xs st => if xs.length ≤ sizeLine then some (.ref st.nxt, st.new (.lst xs)) else none
def mTup (a : MA) : ME := mL fTup a
def mLst (a : MA) : ME := mL fLst a
/-- a bool's value as a test -/
def toB : D → Store → Res Bool
  | .bl b, st => .ok b st
  | _, _ => .bad
def tB_ (a : ME) : MT := fun l st => (a l st).bind toB
def mChain (f g : F2) (a b c : ME) : ME := fun l st => (a l st).bind fun x st1 => (b l st1).bind fun y st2 => (Res.ofO (f x y st2)).bind fun z st3 => (toB z st3).bind fun k st4 =>
  if k then (c l st4).bind fun w st5 => Res.ofO (g y w st5) else .ok (.bl false) st4
def tAnd_ (a b : MT) : MT := fun l st => (a l st).bind fun k st1 => if k then b l st1 else .ok false st1
def tOr_ (a b : MT) : MT := fun l st => (a l st).bind fun k st1 => if k then .ok true st1 else b l st1
def tNot_ (a : MT) : MT := fun l st => (a l st).bind fun k st1 => .ok (!k) st1
def mAnd (a b : ME) : ME := fun l st => (a l st).bind fun d st1 => (toB d st1).bind fun k st2 => if k then b l st2 else .ok (.bl false) st2
def mOr (a b : ME) : ME := fun l st => (a l st).bind fun d st1 => (toB d st1).bind fun k st2 => if k then .ok (.bl true) st2 else b l st2
def mNot (a : ME) : ME := fun l st => (a l st).bind fun d st1 => (toB d st1).bind fun k st2 => .ok (.bl (!k)) st2
def mIf (c : MT) (a b : ME) : ME := fun l st => (c l st).bind fun k st1 => if k then a l st1 else b l st1

section
variable {X : Cx} {cl : CL} {W : WX} {a b c e : Expr} {es rest : List Expr} {ma mb mc m : ME} {mt mu : MT} {xs : MA} {pos : Pos}

theorem s_pe {t : TE} (h : PE X e t) (w : ∀ σ H Q, rdE X.K cl W m σ H Q → t σ H Q) : SE X cl W e m := PE.weak h w

theorem s_var (i : Nat) {x : Str} (hN : X.N[i]? = some x := by rfl) (hv : Vis X.env.scope x := by first | exact Or.inl rfl | exact Or.inr (Or.inl rfl) | exact Or.inr (Or.inr rfl)) (hd : (x == ("__debug__" : Str)) = false := by decide)
    (hcd : (x == ("__classdict__" : Str)) = false := by decide) : SE X cl W (.Name x pos) (mVar i) := s_pe (pe_var (i := i) hN hv hd hcd) fun σ H Q ⟨μ, st, l, S, L, h⟩ => by
  unfold mVar at h
  cases q : l[i]? with
  | none => rw [q] at h; exact h.elim
  | some o =>
    cases o with
    | none => rw [q] at h; exact h.elim
    | some d =>
      rw [q] at h
      obtain ⟨v, h1, h2⟩ := L.2 i d q
      exact ⟨v, h1, h μ H v S Ev.refl h2⟩
theorem s_c {d : D} {v : V} (he : PE X e (tC v)) (hv : ∀ μ N H, VR X.K μ N H d v) : SE X cl W e (mC d) := s_pe he fun σ H Q ⟨μ, st, l, S, L, h⟩ => h μ H v S Ev.refl (hv μ st.nxt H)
theorem s_int {i : Int} {j : Nat} : SE X cl W (.Constant (.int i) j pos) (mC (.int i)) := s_c pe_int fun _ _ _ => by simp only [VR]
theorem s_bl {k : Bool} {j : Nat} : SE X cl W (.Constant (.bool k) j pos) (mC (.bl k)) := s_c pe_bl fun _ _ _ => by simp only [VR]
theorem s_non {j : Nat} : SE X cl W (.Constant .none j pos) (mC .non) := s_c pe_non fun _ _ _ => by simp only [VR]
theorem s_str {x : Str} {j : Nat} : SE X cl W (.Constant (.str x) j pos) (mC (.str x)) := s_c pe_str fun _ _ _ => by simp only [VR]

/-! ### arguments -/
theorem sa_nil : SA X cl W [] maNil := PA.weak pa_nil fun σ H Q ⟨μ, st, l, S, L, h⟩ => h μ H [] S Ev.refl (by simp only [VRs])
theorem sa_cons (ha : SE X cl W e ma) (hr : SA X cl W es xs) (hs : starEach (e :: es) X.env = (false, eval e X.env) :: starEach es X.env := by rfl) : SA X cl W (e :: es) (maCons ma xs) :=
  PA.weak (pa_cons ha hr hs) fun σ H Q ⟨μ, st, l, S, L, h⟩ => ⟨μ, st, l, S, L, Post.bind h fun x st1 μ1 H1 v _ S1 e1 r1 h1 =>
    ⟨μ1, st1, l, S1, L.ev e1, Post.bind h1 fun ys st2 μ2 H2 vs _ S2 e2 r2 h2 => h2 μ2 H2 (v :: vs) S2 Ev.refl (by simp only [VRs]; exact ⟨v, vs, rfl, r1.ev e2, r2⟩)⟩⟩

/-! ### operators -/
theorem w_op {f : F2} : ∀ σ H Q, rdE X.K cl W (m2 f ma mb) σ H Q → L2.tOp (rdO X.K cl f) (rdE X.K cl W ma) (rdE X.K cl W mb) σ H Q := fun σ H Q ⟨μ, st, l, S, L, h⟩ =>
  ⟨μ, st, l, S, L, Post.bind h fun x st1 μ1 H1 v _ S1 e1 r1 h1 => ⟨μ1, st1, l, S1, L.ev e1, Post.bind h1 fun y st2 μ2 H2 w _ S2 e2 r2 h2 => ⟨μ2, st2, x, y, S2, r1.ev e2, r2, Post.ofO h2⟩⟩⟩
theorem s_op {op : Operator} {f : F2} (ho : OpS X cl (binaryOp op) f) (ha : SE X cl W a ma) (hb : SE X cl W b mb) : SE X cl W (.BinOp a op b pos) (m2 f ma mb) := s_pe (pe_op ho ha hb) w_op
theorem s_un {op : UnaryOp} {f : F1} (ho : UnR X (unaryOp op) (rdU X.K cl f)) (ha : SE X cl W a ma) : SE X cl W (.UnaryOp op a pos) (m1 f ma) := s_pe (pe_un ho ha) fun σ H Q ⟨μ, st, l, S, L, h⟩ =>
  ⟨μ, st, l, S, L, Post.bind h fun x st1 μ1 H1 v _ S1 e1 r1 h1 => ⟨μ1, st1, x, S1, r1, Post.ofO h1⟩⟩
theorem s_cmp {op : CmpOp} {f : F2} (ho : OpS X cl (compareOp op) f) (ha : SE X cl W a ma) (hb : SE X cl W b mb) (hm : behindInMarks op b = false := by first | exact nomark _ | rfl) : SE X cl W (.Compare a [op] [b] pos) (m2 f ma mb) := s_pe (pe_cmpR ho ha hb hm) w_op
theorem s_ix {f : F2} (hr : IxR X (rdO X.K cl f)) (ha : SE X cl W a ma) (hb : SE X cl W b mb) (hs : PlainIx b := by intro _ _; rfl) : SE X cl W (.Subscript a b pos) (m2 f ma mb) := s_pe (pe_ix hr ha hb hs) w_op
/-- tests -/
theorem w_toB {t : TE} (w : ∀ σ H Q, rdE X.K cl W m σ H Q → t σ H Q) : ∀ σ H Q, rdT X.K cl W (tB_ m) σ H Q → (fun σ H Q => t σ H fun x H' => ∃ k, x = .bl k ∧ Q k H') σ H Q := fun σ H Q ⟨μ, st, l, S, L, h⟩ =>
  w σ H _ ⟨μ, st, l, S, L, Post.bind h fun d st1 μ1 H1 v _ S1 e1 r1 h1 => by
    cases d with
    | bl k =>
      simp only [VR] at r1
      exact ⟨k, r1, h1 μ1 H1 k S1 Ev.refl rfl⟩
    | _ => exact h1.elim⟩
theorem t_cmp {op : CmpOp} {f : F2} (ho : OpS X cl (compareOp op) f) (ha : SE X cl W a ma) (hb : SE X cl W b mb) (hm : behindInMarks op b = false := by first | exact nomark _ | rfl) : ST X cl W (.Compare a [op] [b] pos) (tB_ (m2 f ma mb)) :=
  PT.weak (pt_cmpR ho ha hb hm) (w_toB w_op)
/-- any expression whose value is a bool -/
theorem t_val (h : SE X cl W e m) (he : ∀ whole, isTrue e X.env whole = (do let v ← whole; standAt e.pos; holding [v] (truthy v)) := by intro _; rfl) : ST X cl W e (tB_ m) := PT.weak (pt_val h he) (w_toB fun _ _ _ q => q)
theorem w_chain {f g : F2} : ∀ σ H Q, rdE X.K cl W (mChain f g ma mb mc) σ H Q → tChain (rdO X.K cl f) (rdO X.K cl g) (rdE X.K cl W ma) (rdE X.K cl W mb) (rdE X.K cl W mc) σ H Q := fun σ H Q ⟨μ, st, l, S, L, h⟩ =>
  ⟨μ, st, l, S, L, Post.bind h fun x st1 μ1 H1 v _ S1 e1 r1 h1 => ⟨μ1, st1, l, S1, L.ev e1, Post.bind h1 fun y st2 μ2 H2 w _ S2 e2 r2 h2 => ⟨μ2, st2, x, y, S2, r1.ev e2, r2, by
    refine Post.ofO (W := WE W σ) (Post.bind h2 fun z st3 μ3 H3 u _ S3 e3 r3 h3 => ?_)
    cases z with
    | bl k =>
      simp only [VR] at r3
      refine ⟨k, r3, ?_⟩
      cases k with
      | true => exact ⟨μ3, st3, l, S3, L.ev (e1.trans (e2.trans e3)), Post.bind h3 fun z2 st4 μ4 H4 u4 _ S4 e4 r4 h4 => ⟨μ4, st4, y, z2, S4, r2.ev (e3.trans e4), r4, Post.ofO h4⟩⟩
      | false => exact h3 μ3 H3 (.bl false) S3 Ev.refl (by simp only [VR])
    | _ => exact h3.elim⟩⟩⟩
theorem s_chain {op op' : CmpOp} {f g : F2} (ho : OpS X cl (compareOp op) f) (ho' : OpS X cl (compareOp op') g) (ha : SE X cl W a ma) (hb : SE X cl W b mb) (hc : SE X cl W c mc) (hm : lastMarks [op, op'] [b, c] = false := by with_unfolding_all rfl) :
    SE X cl W (.Compare a [op, op'] [b, c] pos) (mChain f g ma mb mc) := s_pe (pe_chain ho ho' ha hb hc hm) w_chain
theorem t_chain {op op' : CmpOp} {f g : F2} (ho : OpS X cl (compareOp op) f) (ho' : OpS X cl (compareOp op') g) (ha : SE X cl W a ma) (hb : SE X cl W b mb) (hc : SE X cl W c mc) (hm : lastMarks [op, op'] [b, c] = false := by with_unfolding_all rfl) :
    ST X cl W (.Compare a [op, op'] [b, c] pos) (tB_ (mChain f g ma mb mc)) := PT.weak (pt_chain ho ho' ha hb hc hm) (w_toB w_chain)

/-! ### and, or, not, if -/
theorem t_and1 (ha : ST X cl W a mt) : SW X cl W (.BoolOp .And [a] pos) mt := pw_and1 ha
theorem t_or1 (ha : ST X cl W a mt) : SW X cl W (.BoolOp .Or [a] pos) mt := pw_or1 ha
theorem t_and (ha : ST X cl W a mt) (hb : SW X cl W (.BoolOp .And (b :: rest) pos) mu) : SW X cl W (.BoolOp .And (a :: b :: rest) pos) (tAnd_ mt mu) := PW.weak (pw_and ha hb) fun σ H Q ⟨μ, st, l, S, L, h⟩ =>
  ⟨μ, st, l, S, L, Post.bind h fun k st1 μ1 H1 k' _ S1 e1 r1 h1 => by
    cases r1
    cases k with
    | true => exact ⟨μ1, st1, l, S1, L.ev e1, h1⟩
    | false => exact h1 μ1 H1 false S1 Ev.refl rfl⟩
theorem t_or (ha : ST X cl W a mt) (hb : SW X cl W (.BoolOp .Or (b :: rest) pos) mu) : SW X cl W (.BoolOp .Or (a :: b :: rest) pos) (tOr_ mt mu) := PW.weak (pw_or ha hb) fun σ H Q ⟨μ, st, l, S, L, h⟩ =>
  ⟨μ, st, l, S, L, Post.bind h fun k st1 μ1 H1 k' _ S1 e1 r1 h1 => by
    cases r1
    cases k with
    | false => exact ⟨μ1, st1, l, S1, L.ev e1, h1⟩
    | true => exact h1 μ1 H1 true S1 Ev.refl rfl⟩
theorem t_w (h : SW X cl W e mt) : ST X cl W e mt := h.pt
theorem t_not (ha : ST X cl W a mt) : ST X cl W (.UnaryOp .Not a pos) (tNot_ mt) := PT.weak (pt_not ha) fun σ H Q ⟨μ, st, l, S, L, h⟩ =>
  ⟨μ, st, l, S, L, Post.bind h fun k st1 μ1 H1 k' _ S1 e1 r1 h1 => by
    cases r1
    exact h1 μ1 H1 (!k) S1 Ev.refl rfl⟩
theorem s_one {op} (h : SE X cl W a ma) : SE X cl W (.BoolOp op [a] pos) ma := pe_one h
theorem s_and (ha : SE X cl W a ma) (hb : SE X cl W (.BoolOp .And (b :: rest) pos) mb) : SE X cl W (.BoolOp .And (a :: b :: rest) pos) (mAnd ma mb) := s_pe (pe_and ha hb) fun σ H Q ⟨μ, st, l, S, L, h⟩ =>
  ⟨μ, st, l, S, L, Post.bind h fun d st1 μ1 H1 v _ S1 e1 r1 h1 => by
    cases d with
    | bl k =>
      simp only [VR] at r1
      refine ⟨k, r1, ?_⟩
      cases k with
      | true => exact ⟨μ1, st1, l, S1, L.ev e1, h1⟩
      | false => exact h1 μ1 H1 (.bl false) S1 Ev.refl (by simp only [VR])
    | _ => exact h1.elim⟩
theorem s_or (ha : SE X cl W a ma) (hb : SE X cl W (.BoolOp .Or (b :: rest) pos) mb) : SE X cl W (.BoolOp .Or (a :: b :: rest) pos) (mOr ma mb) := s_pe (pe_or ha hb) fun σ H Q ⟨μ, st, l, S, L, h⟩ =>
  ⟨μ, st, l, S, L, Post.bind h fun d st1 μ1 H1 v _ S1 e1 r1 h1 => by
    cases d with
    | bl k =>
      simp only [VR] at r1
      refine ⟨k, r1, ?_⟩
      cases k with
      | false => exact ⟨μ1, st1, l, S1, L.ev e1, h1⟩
      | true => exact h1 μ1 H1 (.bl true) S1 Ev.refl (by simp only [VR])
    | _ => exact h1.elim⟩
theorem s_not (ha : SE X cl W a ma) : SE X cl W (.UnaryOp .Not a pos) (mNot ma) := s_pe (pe_not ha) fun σ H Q ⟨μ, st, l, S, L, h⟩ =>
  ⟨μ, st, l, S, L, Post.bind h fun d st1 μ1 H1 v _ S1 e1 r1 h1 => by
    cases d with
    | bl k =>
      simp only [VR] at r1
      exact ⟨k, r1, h1 μ1 H1 (.bl (!k)) S1 Ev.refl (by simp only [VR])⟩
    | _ => exact h1.elim⟩
theorem s_if (hc : ST X cl W c mt) (ha : SE X cl W a ma) (hb : SE X cl W b mb) : SE X cl W (.IfExp c a b pos) (mIf mt ma mb) := s_pe (pe_ifExp hc ha hb) fun σ H Q ⟨μ, st, l, S, L, h⟩ =>
  ⟨μ, st, l, S, L, Post.bind h fun k st1 μ1 H1 k' _ S1 e1 r1 h1 => by
    cases r1
    cases k with
    | true => exact ⟨μ1, st1, l, S1, L.ev e1, h1⟩
    | false => exact ⟨μ1, st1, l, S1, L.ev e1, h1⟩⟩

/-! ### displays -/
theorem s_tup {x1} (h : SA X cl W es xs) : SE X cl W (.Tuple es x1 pos) (mTup xs) := s_pe (pe_tup h) fun σ H Q ⟨μ, st, l, S, L, h⟩ =>
  ⟨μ, st, l, S, L, Post.bind h fun ds st1 μ1 H1 vs _ S1 e1 r1 h1 => by
    unfold fTup at h1
    by_cases hz : ds.length ≤ sizeLine
    · rw [if_pos hz] at h1
      refine ⟨by rw [← r1.length]; exact hz, fun p hp => h1 μ1 (upd H1 p (.tup vs)) (.ref p) (S1.beside hp) (Ev.beside hp) ?_⟩
      simp only [VR]
      exact ⟨p, vs, rfl, SqT.of upd_same, r1.ev (Ev.beside hp)⟩
    · rw [if_neg hz] at h1; exact h1.elim⟩
theorem s_lst (h : SA X cl W es xs) : SE X cl W (.List es pos) (mLst xs) := s_pe (pe_lst h) fun σ H Q ⟨μ, st, l, S, L, h⟩ =>
  ⟨μ, st, l, S, L, Post.bind h fun ds st1 μ1 H1 vs _ S1 e1 r1 h1 => by
    unfold fLst at h1
    by_cases hz : ds.length ≤ sizeLine
    · rw [if_pos hz] at h1
      refine ⟨by rw [← r1.length]; exact hz, fun p hp => h1 (ext μ1 st1.nxt p) (upd H1 p (.lst vs)) (.ref p) (S1.new_lst hp r1) (Ev.new hp) ?_⟩
      simp only [VR]
      exact ⟨Nat.lt_succ_self _, by rw [ext_same]⟩
    · rw [if_neg hz] at h1; exact h1.elim⟩

/-! ### calls of what Python brings -/
theorem w_cB {f : FL} : ∀ σ H Q, rdE X.K cl W (mL f xs) σ H Q → tCB (rdC X.K cl f) (rdA X.K cl W xs) σ H Q := fun σ H Q ⟨μ, st, l, S, L, h⟩ =>
  ⟨μ, st, l, S, L, Post.bind h fun ds st1 μ1 H1 vs _ S1 e1 r1 h1 => ⟨μ1, st1, ds, S1, r1, Post.ofO h1⟩⟩
theorem s_callB {f : FL} {id : String} {x : Str} {p : Pos} (hc : CallS X cl (.builtin id) f) (hg : Gl X x) (hm : X.mg x = none) (hv : bootBuiltins x = some (.builtin id)) (ha : SA X cl W (e :: es) xs) (hn : x ≠ "__name__" := by decide) (hdb : (x == ("__debug__" : Str)) = false := by decide)
    (he : starEach (e :: es) X.env = (false, eval e X.env) :: starEach es X.env := by rfl) (hpl : (backTo pos (starEach es X.env)).any (·.1) = false := by rfl) : SE X cl W (.Call (.Name x p) (e :: es) [] pos) (mL f xs) := s_pe (pe_callB hc hg hm hv ha hn hdb he hpl) w_cB
theorem s_callTy {f : FL} {T : String} {x : Str} {p : Pos} (hc : CallS X cl (.type T) f) (hg : Gl X x) (hm : X.mg x = none) (hv : bootBuiltins x = some (.type T)) (ha : SA X cl W (e :: es) xs) (hn : x ≠ "__name__" := by decide) (hdb : (x == ("__debug__" : Str)) = false := by decide)
    (he : starEach (e :: es) X.env = (false, eval e X.env) :: starEach es X.env := by rfl) (hpl : (backTo pos (starEach es X.env)).any (·.1) = false := by rfl) : SE X cl W (.Call (.Name x p) (e :: es) [] pos) (mL f xs) := s_pe (pe_callTy hc hg hm hv ha hn hdb he hpl) w_cB
/-- a module's constant -/
theorem s_glob {x : Str} {d : D} {v : V} {u : Value} {p : Pos} (hg : Gl X x) (hm : X.mg x = some u) (r : RelV v u) (hv : ∀ μ N H, VR X.K μ N H d v) (hd : (x == ("__debug__" : Str)) = false := by decide) : SE X cl W (.Name x p) (mC d) := s_c (pe_glob hg hm r hd) hv
end
end DV


set_option Elab.async false
set_option linter.all false
set_option maxRecDepth 100000
set_option  maxHeartbeats   4000000
/-! DV, part C: targets, statements, loops, comprehensions, calls of defs. -/
namespace DV
open PySem L2

section
variable {K : PySem.W.Frag} {cl : CL} {μ μ1 μ2 : Nat → Addr} {N N1 N2 : Nat} {H H1 H2 : Hp}
def Res.toS {α : Type} (r : Res α) (l : Loc) (k : α → Store → RS) : RS :=
  match r with
  | .ok a st => k a st
  | .exc c fs st => .exc c fs l st
  | .bad => .bad
theorem PostS.bind {γ δ : Type} {rel' : (Nat → Addr) → Nat → Hp → γ → δ → Prop} {E : Ends} {Q' : δ → Hp → Prop} {W : WX} {r : Res γ} {l : Loc} {σ : St} {k : γ → Store → RS}
    (h : PostS K cl μ N H E W (r.toS l k)) (L : LR K μ N H l σ)
    (hk : ∀ c st1 μ1 H1 v, r = .ok c st1 → SR K cl μ1 st1 H1 → Ev K μ N H μ1 st1.nxt H1 → rel' μ1 st1.nxt H1 c v → PostS K cl μ1 st1.nxt H1 E W (k c st1) → Q' v H1) : Post K cl rel' μ N H Q' (WE W σ) r := by
  cases r with
  | ok c st1 => exact fun μ1 H1 v s e q => hk c st1 μ1 H1 v rfl s e q (PostS.mono e h)
  | exc c fs st' => exact fun μ' H' cls d s e x => h μ' H' σ cls d s e (L.ev e) x
  | bad => exact h
end

/-! ### targets -/
abbrev TGT := D → Loc → Store → Option Loc
abbrev TGTs := List D → Loc → Store → Option Loc
def rdG (K : PySem.W.Frag) (cl : CL) (ws : List Nat) (t : TGT) : TG := fun v σ H Q => ∃ μ st l d l', SR K cl μ st H ∧ LR K μ st.nxt H l σ ∧ VR K μ st.nxt H d v ∧ t d l st = some l' ∧
  ∀ σ', LR K μ st.nxt H l' σ' → σ'.length = σ.length → (∀ j : Nat, j ∉ ws → σ'[j]? = σ[j]?) → Q σ' H
def rdGs (K : PySem.W.Frag) (cl : CL) (ws : List Nat) (t : TGTs) : TGs := fun vs σ H Q => ∃ μ st l ds l', SR K cl μ st H ∧ LR K μ st.nxt H l σ ∧ VRs K μ st.nxt H ds vs ∧ t ds l st = some l' ∧
  ∀ σ', LR K μ st.nxt H l' σ' → σ'.length = σ.length → (∀ j : Nat, j ∉ ws → σ'[j]? = σ[j]?) → Q σ' H
theorem PG.weak {X : Cx} {e : Expr} {t t' : TG} (h : PG X e t) (w : ∀ v σ H Q, t' v σ H Q → t v σ H Q) : PG X e t' := ⟨fun pins s σ H v u Q I r q => h.run pins s σ H v u Q I r (w v σ H Q q)⟩
theorem PGs.weak {X : Cx} {e : List Expr} {t t' : TGs} (h : PGs X e t) (w : ∀ v σ H Q, t' v σ H Q → t v σ H Q) : PGs X e t' := ⟨fun pins s σ H v u Q I r q => h.run pins s σ H v u Q I r (w v σ H Q q)⟩
abbrev SG (X : Cx) (cl : CL) (e : Expr) (ws : List Nat) (t : TGT) : Prop := PG X e (rdG X.K cl ws t)
abbrev SGs (X : Cx) (cl : CL) (e : List Expr) (ws : List Nat) (t : TGTs) : Prop := PGs X e (rdGs X.K cl ws t)
def tgName (i : Nat) : TGT := fun d l _ => some (l.set i (some d))
def tgNil : TGTs := fun ds l _ => match ds with
  | [] => some l
  | _ :: _ => none
def tgCons (t : TGT) (u : TGTs) : TGTs := fun ds l st => match ds with
  | d :: ds => (t d l st).bind fun l1 => u ds l1 st
  | [] => none
def tgTup (n : Nat) (t : TGTs) : TGT := fun d l st => match d with
  | .tup xs => if xs.length = n then t xs l st else none
  | _ => none
section
variable {X : Cx} {cl : CL} {e : Expr} {es : List Expr} {pos : Pos}
theorem g_name (i : Nat) {x : Str} (hN : X.N.Nodup) (hi : X.N[i]? = some x := by rfl) (hx : L2.Loc X.env.scope x := by first | exact Or.inl rfl | exact Or.inr rfl) (hf : X.fn x = true ∨ X.env.scope.names.lookup x = some .local := by first | exact .inl rfl | exact .inr rfl | assumption) : SG X cl (.Name x pos) [i] (tgName i) :=
  PG.weak (pg_name (i := i) hN hi hx hf) fun v σ H Q ⟨μ, st, l, d, l', S, L, r, e, h⟩ => by
    cases e
    exact h _ (L.set i r) (by simp) fun j hj => List.getElem?_set_ne (by simpa [eq_comm] using hj)
theorem g_nil : SGs X cl [] [] tgNil := PGs.weak pgs_nil fun vs σ H Q ⟨μ, st, l, ds, l', S, L, r, e, h⟩ => by
  cases ds with
  | nil =>
    cases e
    simp only [VRs] at r
    exact ⟨r, h σ L rfl fun _ _ => rfl⟩
  | cons d ds => cases e
theorem g_cons {ws wt : List Nat} {t : TGT} {u : TGTs} (h1 : SG X cl e ws t) (h2 : SGs X cl es wt u) (hs : (assignEach (e :: es) X.env).map (·.2) = assign e X.env :: (assignEach es X.env).map (·.2) := by rfl) : SGs X cl (e :: es) (ws ++ wt) (tgCons t u) :=
  PGs.weak (pgs_cons h1 h2 hs) fun vs σ H Q ⟨μ, st, l, ds, l', S, L, r, e, h⟩ => by
    cases ds with
    | nil => cases e
    | cons d ds =>
      simp only [VRs] at r
      obtain ⟨v, vr, rfl, r1, r2⟩ := r
      unfold tgCons at e
      simp only at e
      cases q : t d l st with
      | none => rw [q] at e; cases e
      | some l1 =>
        rw [q] at e
        refine ⟨v, vr, rfl, μ, st, l, d, l1, S, L, r1, q, fun σ1 L1 z1 k1 => ⟨μ, st, l1, ds, l', S, L1, r2, e, fun σ2 L2 z2 k2 => h σ2 L2 (z2.trans z1) fun j hj => ?_⟩⟩
        simp only [List.mem_append, not_or] at hj
        exact (k2 j hj.2).trans (k1 j hj.1)
theorem g_tup {ws : List Nat} {k : Nat} {t : TGTs} {n : Nat} (hc : X.calm = true) (h : SGs X cl es ws t) (hn : (assignEach es X.env).length = n := by rfl) (hst : (assignEach es X.env).findIdx? (·.1) = none := by rfl) : SG X cl (.Tuple es k pos) ws (tgTup n t) :=
  PG.weak (pg_tup hc h hn hst) fun v σ H Q ⟨μ, st, l, d, l', S, L, r, e, h⟩ => by
    cases d with
    | tup xs =>
      simp only [VR] at r
      obtain ⟨p, vs, rfl, r1, r2⟩ := r
      unfold tgTup at e
      simp only at e
      by_cases hz : xs.length = n
      · rw [if_pos hz] at e
        exact ⟨p, vs, rfl, r1, by rw [← r2.length]; exact hz, μ, st, l, xs, l', S, L, r2, e, h⟩
      · rw [if_neg hz] at e; cases e
    | _ => cases e
end

/-! ### statements -/
def msNil : MS := fun l st => .nx l st
def msSeq (a b : MS) : MS := fun l st => match a l st with
  | .nx l' st' => b l' st'
  | r => r
def msExpr (m : ME) : MS := fun l st => (m l st).toS l fun _ st1 => .nx l st1
def msRet (m : ME) : MS := fun l st => (m l st).toS l fun d st1 => .rt d st1
def msRetN : MS := fun _ st => .rt .non st
def msBreak : MS := fun l st => .bk l st
def msCont : MS := fun l st => .ct l st
def msIf (c : MT) (a b : MS) : MS := fun l st => (c l st).toS l fun k st1 => if k then a l st1 else b l st1
def msAsg (m : ME) (t : TGT) : MS := fun l st => (m l st).toS l fun d st1 => match t d l st1 with
  | some l' => .nx l' st1
  | none => .bad
def msPar (i j : Nat) (m : MA) : MS := fun l st => (m l st).toS l fun ds st1 => match ds with
  | [x, y] => .nx ((l.set i (some x)).set j (some y)) st1
  | _ => .bad
section
variable {X : Cx} {cl : CL} {W : WX} {e c : Expr} {m : ME} {mt : MT} {xs : MA} {st₁ : Stmt} {rest sa sb : List Stmt} {ma mb : MS} {pos : Pos}
theorem ss_nil : SSs X cl W [] msNil := PSs.weak pss_nil fun E σ H ⟨μ, st, l, S, L, h⟩ => h μ H σ S Ev.refl L
theorem w_seq : ∀ E σ H, rdS X.K cl W (msSeq ma mb) E σ H → tSeq (rdS X.K cl W ma) (rdS X.K cl W mb) E σ H := fun E σ H ⟨μ, st, l, S, L, h⟩ => by
  refine ⟨μ, st, l, S, L, ?_⟩
  unfold msSeq at h
  cases q : ma l st with
  | nx l' st' =>
    rw [q] at h
    exact fun μ' H' σ' s e L' => ⟨μ', st', l', s, L', PostS.mono e h⟩
  | rt d st' => rw [q] at h; exact h
  | bk l' st' => rw [q] at h; exact h
  | ct l' st' => rw [q] at h; exact h
  | exc c fs l' st' => rw [q] at h; exact h
  | bad => rw [q] at h; exact h
theorem ss_cons (h1 : SS X cl W st₁ ma) (h2 : SSs X cl W rest mb) : SSs X cl W (st₁ :: rest) (msSeq ma mb) := PSs.weak (pss_cons h1 h2) w_seq
theorem ss_one (h1 : SS X cl W st₁ ma) : SSs X cl W [st₁] ma := pss_one h1
theorem ss_pass : SS X cl W (.Pass pos) msNil := PS.weak ps_pass fun E σ H ⟨μ, st, l, S, L, h⟩ => h μ H σ S Ev.refl L
theorem ss_break : SS X cl W (.Break pos) msBreak := PS.weak ps_break fun E σ H ⟨μ, st, l, S, L, h⟩ => h μ H σ S Ev.refl L
theorem ss_cont : SS X cl W (.Continue pos) msCont := PS.weak ps_continue fun E σ H ⟨μ, st, l, S, L, h⟩ => h μ H σ S Ev.refl L
theorem ss_expr (he : SE X cl W e m) (hs : swapsWith e none pos.line X.env = pure false := by rfl) : SS X cl W (.Expr e pos) (msExpr m) := PS.weak (ps_expr he hs) fun E σ H ⟨μ, st, l, S, L, h⟩ =>
  ⟨μ, st, l, S, L, PostS.bind h L fun d st1 μ1 H1 v _ S1 e1 r1 h1 => h1 μ1 H1 σ S1 Ev.refl (L.ev e1)⟩
theorem ss_ret (he : SE X cl W e m) : SS X cl W (.Return (some e) pos) (msRet m) := PS.weak (ps_ret he) fun E σ H ⟨μ, st, l, S, L, h⟩ =>
  ⟨μ, st, l, S, L, PostS.bind h L fun d st1 μ1 H1 v _ S1 e1 r1 h1 => h1 μ1 H1 v S1 Ev.refl r1⟩
theorem ss_retN : SS X cl W (.Return none pos) msRetN := PS.weak ps_retN fun E σ H ⟨μ, st, l, S, L, h⟩ => h μ H .non S Ev.refl (by simp only [VR])
theorem ss_if (hc : ST X cl W c mt) (ha : SSs X cl W sa ma) (hb : SSs X cl W sb mb) : SS X cl W (.If c sa sb pos) (msIf mt ma mb) := PS.weak (ps_if hc ha hb) fun E σ H ⟨μ, st, l, S, L, h⟩ =>
  ⟨μ, st, l, S, L, PostS.bind h L fun k st1 μ1 H1 k' _ S1 e1 r1 h1 => by
    cases r1
    cases k with
    | true => exact ⟨μ1, st1, l, S1, L.ev e1, h1⟩
    | false => exact ⟨μ1, st1, l, S1, L.ev e1, h1⟩⟩
theorem w_asg {t : TGT} {ws : List Nat} : ∀ E σ H, rdS X.K cl W (msAsg m t) E σ H → tAsg (rdE X.K cl W m) (rdG X.K cl ws t) E σ H := fun E σ H ⟨μ, st, l, S, L, h⟩ =>
  ⟨μ, st, l, S, L, PostS.bind h L fun d st1 μ1 H1 v _ S1 e1 r1 h1 => by
    cases q : t d l st1 with
    | none => rw [q] at h1; exact h1.elim
    | some l' =>
      rw [q] at h1
      exact ⟨μ1, st1, l, d, l', S1, L.ev e1, r1, q, fun σ' L' _ _ => h1 μ1 H1 σ' S1 Ev.refl L'⟩⟩
theorem ss_asg {tg : Expr} {t : TGT} {ws : List Nat} (he : SE X cl W e m) (hg : SG X cl tg ws t) (hs : swapsWithSole [tg] e pos.line X.env = pure false := by rfl) (hw : swappedStores [tg] e X.env = pure none := by rfl) (h1 : (assignEach [tg] X.env).map (·.2) = [assign tg X.env] := by rfl) :
    SS X cl W (.Assign [tg] e pos) (msAsg m t) := PS.weak (ps_asg he hg hs hw h1) w_asg
theorem ss_set (i : Nat) {x : Str} {pos' : Pos} (hN : X.N.Nodup) (he : SE X cl W e m) (hi : X.N[i]? = some x := by rfl) (hx : L2.Loc X.env.scope x := by first | exact Or.inl rfl | exact Or.inr rfl) (hs : swapsWith e (some (.Name x pos')) pos.line X.env = pure false := by rfl)
    (hf : X.fn x = true ∨ X.env.scope.names.lookup x = some .local := by first | exact .inl rfl | exact .inr rfl | assumption) : SS X cl W (.Assign [.Name x pos'] e pos) (msAsg m (tgName i)) := PS.weak (ps_set (i := i) hN hi hx he hs hf) fun E σ H ⟨μ, st, l, S, L, h⟩ =>
  ⟨μ, st, l, S, L, PostS.bind h L fun d st1 μ1 H1 v _ S1 e1 r1 h1 => h1 μ1 H1 _ S1 Ev.refl ((L.ev e1).set i r1)⟩
theorem ss_par (i j : Nat) {x y : Str} {a b : Expr} {px py pt : Pos} {kt k2 pt2} (hc : X.calm = true) (hN : X.N.Nodup) (ha : SA X cl W [a, b] xs) (hi : X.N[i]? = some x := by rfl) (hj : X.N[j]? = some y := by rfl) (hij : i ≠ j := by decide)
    (hx : X.env.scope.names.lookup x = some .local := by rfl) (hy : X.env.scope.names.lookup y = some .local := by rfl)
    (hw : swappedStores [.Tuple [.Name x px, .Name y py] kt pt] (.Tuple [a, b] k2 pt2) X.env = pure (some [x, y]) := by rfl)
    (hs : swapsWithSole [.Tuple [.Name x px, .Name y py] kt pt] (.Tuple [a, b] k2 pt2) pos.line X.env = pure false := by rfl) :
    SS X cl W (.Assign [.Tuple [.Name x px, .Name y py] kt pt] (.Tuple [a, b] k2 pt2) pos) (msPar i j xs) := PS.weak (ps_par (i := i) (j := j) hc hN hi hj hij hx hy ha hw hs) fun E σ H ⟨μ, st, l, S, L, h⟩ =>
  ⟨μ, st, l, S, L, PostS.bind h L fun ds st1 μ1 H1 vs _ S1 e1 r1 h1 => by
    match ds, r1, h1 with
    | [d1, d2], r1, h1 =>
      simp only [VRs] at r1
      obtain ⟨v, _, rfl, r, w, _, rfl, r', rfl⟩ := r1
      exact ⟨v, w, rfl, h1 μ1 H1 _ S1 Ev.refl (((L.ev e1).set i r).set j r')⟩
    | [], _, h1 => exact h1.elim
    | [_], _, h1 => exact h1.elim
    | _ :: _ :: _ :: _, _, h1 => exact h1.elim⟩
end

/-! ### what is walked -/
structure Iter where
  srcs : List (Nat × List D)
  items : List D
abbrev MI := Loc → Store → Res Iter
/-- what is walked stands as it stood -/
def SrcOk (srcs : List (Nat × List D)) (st : Store) : Prop := ∀ p ∈ srcs, st.at_ p.1 = some (.lst p.2)
def IterR (K : PySem.W.Frag) (cl : CL) (μ₀ : Nat → Addr) (N₀ : Nat) (H₀ : Hp) (it : Iter) (J : It) : Prop := ∀ μ st H, SR K cl μ st H → Ev K μ₀ N₀ H₀ μ st.nxt H → SrcOk it.srcs st →
  (∀ i d, it.items[i]? = some d → J.go i H ∧ ∀ x H', J.yld i H x H' → SR K cl μ st H' ∧ Ev K μ st.nxt H μ st.nxt H' ∧ VR K μ st.nxt H' d x) ∧ J.stop it.items.length H
def rdI (K : PySem.W.Frag) (cl : CL) (W : WX) (m : MI) : TI := fun σ H R => ∃ μ st l, SR K cl μ st H ∧ LR K μ st.nxt H l σ ∧ Post K cl (IterR K cl) μ st.nxt H R (WE W σ) (m l st)
abbrev SI (X : Cx) (cl : CL) (W : WX) (tg iter : Expr) (m : MI) : Prop := PI X tg iter (rdI X.K cl W m)
theorem PI.weak {X : Cx} {tg iter : Expr} {t t' : TI} (h : PI X tg iter t) (w : ∀ σ H Q, t' σ H Q → t σ H Q) : PI X tg iter t' := ⟨fun pins s σ H R I q => h.run pins s σ H R I (w σ H R q)⟩
open Classical in
noncomputable def loopS (t : TGT) (body : MS) (srcs : List (Nat × List D)) : List D → Loc → Store → RS
  | [], l, st => if SrcOk srcs st then .nx l st else .bad
  | d :: ds, l, st => if SrcOk srcs st then (match t d l st with
    | none => .bad
    | some l1 => match body l1 st with
      | .nx l2 st2 => loopS t body srcs ds l2 st2
      | .ct l2 st2 => loopS t body srcs ds l2 st2
      | .bk l2 st2 => .nx l2 st2
      | r => r) else .bad
noncomputable def msFor (mi : MI) (t : TGT) (body : MS) : MS := fun l st => (mi l st).toS l fun it st1 => loopS t body it.srcs it.items l st1
section
variable {X : Cx} {cl : CL} {W : WX}
theorem ss_for {tg iter : Expr} {body : List Stmt} {mi : MI} {t : TGT} {ws : List Nat} {mb : MS} {pos : Pos} (hp : PassesOwn (model X.prog X.w) X.A X.env X.xe) (hc : X.calm = true) (hi : SI X cl W tg iter mi) (hg : SG X cl tg ws t) (hb : SSs X cl W body mb)
    (hs : ∀ x, foldedSetIterable iter X.env x = pure x := by intro _; rfl) : SS X cl W (.For tg iter body [] pos) (msFor mi t mb) := PS.weak (ps_for hp hc hi hg hb hs) fun E σ H ⟨μ, st, l, S, L, h⟩ => by
  refine ⟨μ, st, l, S, L, PostS.bind h L fun it st0 μ0 H0 J _ S0 e0 RJ h0 => ?_⟩
  refine ⟨fun i m σ H => m = it.items.length - i ∧ i ≤ it.items.length ∧ ∃ μ st l, SR X.K cl μ st H ∧ LR X.K μ st.nxt H l σ ∧ Ev X.K μ0 st0.nxt H0 μ st.nxt H ∧ PostS X.K cl μ st.nxt H E W (loopS t mb it.srcs (it.items.drop i) l st),
    ⟨it.items.length, by simp, Nat.zero_le _, μ0, st0, l, S0, L.ev e0, Ev.refl, by simpa using h0⟩, ?_⟩
  rintro i m σ1 H1 ⟨rfl, hi, μ1, st1, l1, S1, L1, e1, h1⟩
  by_cases hlt : i < it.items.length
  · rw [List.drop_eq_getElem_cons hlt] at h1
    unfold loopS at h1
    by_cases so : SrcOk it.srcs st1
    · rw [if_pos so] at h1
      obtain ⟨g1, g2⟩ := (RJ μ1 st1 H1 S1 e1 so).1 i it.items[i] (List.getElem?_eq_getElem hlt)
      refine .inr ⟨g1, fun σ' H' => it.items.length - (i + 1) = it.items.length - (i + 1) ∧ i + 1 ≤ it.items.length ∧ ∃ μ st l, SR X.K cl μ st H' ∧ LR X.K μ st.nxt H' l σ' ∧ Ev X.K μ0 st0.nxt H0 μ st.nxt H' ∧ PostS X.K cl μ st.nxt H' E W (loopS t mb it.srcs (it.items.drop (i + 1)) l st),
        fun σ' H' q => ⟨it.items.length - (i + 1), by omega, q⟩, fun x H' y => ?_⟩
      obtain ⟨S2, e2, r2⟩ := g2 x H' y
      cases q : t it.items[i] l1 st1 with
      | none => rw [q] at h1; exact h1.elim
      | some l2 =>
        rw [q] at h1
        refine ⟨μ1, st1, l1, it.items[i], l2, S2, L1.ev e2, r2, q, fun σ3 L3 _ _ => ⟨μ1, st1, l2, S2, L3, ?_⟩⟩
        have h1 := PostS.mono e2 h1
        cases z : mb l2 st1 with
        | nx l4 st4 =>
          simp only [z] at h1
          exact fun μ' H'' σ' s e L' => ⟨rfl, hlt, μ', st4, l4, s, L', e1.trans (e2.trans e), PostS.mono e h1⟩
        | ct l4 st4 =>
          simp only [z] at h1
          exact fun μ' H'' σ' s e L' => ⟨rfl, hlt, μ', st4, l4, s, L', e1.trans (e2.trans e), PostS.mono e h1⟩
        | bk l4 st4 => simp only [z] at h1; exact h1
        | rt d st4 => simp only [z] at h1; exact h1
        | exc c fs l4 st4 => simp only [z] at h1; exact h1
        | bad => simp only [z] at h1; exact h1
    · rw [if_neg so] at h1; exact h1.elim
  · have e : i = it.items.length := by omega
    subst e
    rw [List.drop_length] at h1
    unfold loopS at h1
    by_cases so : SrcOk it.srcs st1
    · rw [if_pos so] at h1
      exact .inl ⟨(RJ μ1 st1 H1 S1 e1 so).2, h1 μ1 H1 σ1 S1 Ev.refl L1⟩
    · rw [if_neg so] at h1; exact h1.elim
end

/-! ### comprehensions -/
def wipeL (l : Loc) : List Nat → Loc
  | [] => l
  | v :: vs => (wipeL l vs).set v none
theorem wipeL_length (l : Loc) : ∀ vs : List Nat, (wipeL l vs).length = l.length
  | [] => rfl
  | v :: vs => by unfold wipeL; rw [List.length_set, wipeL_length l vs]
theorem wipeL_get {l : Loc} {i : Nat} : ∀ {vs : List Nat}, (wipeL l vs)[i]? = if i ∈ vs ∧ i < l.length then some none else l[i]?
  | [] => by simp [wipeL]
  | v :: vs => by
    unfold wipeL
    rw [List.getElem?_set, wipeL_length, wipeL_get]
    by_cases hv : v = i
    · subst hv
      by_cases hl : v < l.length <;> simp [hl]
    · have : (i = v) ↔ False := ⟨fun e => hv e.symm, False.elim⟩
      simp [hv, this]
theorem wipe_get {σ : St} {i : Nat} : ∀ {vs : List Nat}, (wipe σ vs)[i]? = if i ∈ vs ∧ i < σ.length then some none else σ[i]?
  | [] => by simp [wipe]
  | v :: vs => by
    unfold wipe
    rw [List.getElem?_set, wipe_length, wipe_get]
    by_cases hv : v = i
    · subst hv
      by_cases hl : v < σ.length <;> simp [hl]
    · have : (i = v) ↔ False := ⟨fun e => hv e.symm, False.elim⟩
      simp [hv, this]
theorem LR.wipe {K : PySem.W.Frag} {μ : Nat → Addr} {N : Nat} {H : Hp} {l : Loc} {σ : St} (L : LR K μ N H l σ) (vs : List Nat) : LR K μ N H (wipeL l vs) (wipe σ vs) := by
  refine ⟨by rw [wipeL_length, wipe_length]; exact L.1, fun i d q => ?_⟩
  rw [wipeL_get] at q
  by_cases h : i ∈ vs ∧ i < l.length
  · rw [if_pos h] at q; cases q
  · rw [if_neg h] at q
    rw [wipe_get, ← L.1, if_neg h]
    exact L.2 i d q
open Classical in
noncomputable def loopC (t : TGT) (mt : MT) (me : ME) (srcs : List (Nat × List D)) (l0 : Loc) : List D → Store → Res (List D)
  | [], st => if SrcOk srcs st then .ok [] st else .bad
  | d :: ds, st => if SrcOk srcs st then (match t d l0 st with
    | none => .bad
    | some l1 => match mt l1 st with
      | .ok true st1 => (match me l1 st1 with
        | .ok y st2 => (match loopC t mt me srcs l0 ds st2 with
          | .ok ys st3 => .ok (y :: ys) st3
          | _ => .bad)
        | _ => .bad)
      | .ok false st1 => loopC t mt me srcs l0 ds st1
      | _ => .bad) else .bad
open Classical in
noncomputable def mLc (mi : MI) (t : TGT) (mt : MT) (me : ME) (vs : List Nat) : ME := fun l st => (mi l st).bind fun it st1 => match loopC t mt me it.srcs (wipeL l vs) it.items st1 with
  | .ok ys st2 => if ys.length ≤ sizeLine then .ok (.ref st2.nxt) (st2.new (.lst ys)) else .bad
  | _ => .bad
section
variable {K : PySem.W.Frag} {cl : CL} {μ μ1 : Nat → Addr} {N N1 : Nat} {H H1 : Hp}
/-- a thing of ours beside the store is changed -/
theorem Ev.off {D : Addr} {o u : HO} (e : Ev K μ1 N1 H1 μ N H) (hD : H1 D = none) (hu : H D = some u) (hc : CellH u) : Ev K μ1 N1 H1 μ N (upd H D o) where
  le := e.le
  mu := e.mu
  sq := fun p vs h => SqT.upd_cell hu hc (e.sq p vs h)
  rq := fun p vs h => RoL.upd_cell hu hc (e.rq p vs h)
  ex := fun p φ h => by rw [upd_ne (ne_of_none h hD)]; exact e.ex p φ h
  kp := fun b w h hn ht => by rw [upd_ne (ne_of_none h hD)]; exact e.kp b w h hn ht
  fr := e.fr
  tr := fun b h => upd_tr b (e.tr b h)
theorem Ev0.off {D : Addr} {o u : HO} (hu : H D = some u) (hc : CellH u) : Ev0 K μ N H μ N (upd H D o) := ⟨Nat.le_refl _, fun _ _ => rfl, fun _ _ h => SqT.upd_cell hu hc h, fun _ _ h => RoL.upd_cell hu hc h, fun _ _ h => by rw [upd_ne (ext_ne_cell hu hc h)]; exact h⟩
theorem SR.off {st : Store} {D : Addr} {o u : HO} (S : SR K cl μ st H) (hu : H D = some u) (hc : CellH u) (hD : ∀ n, n < st.nxt → μ n ≠ D) : SR K cl μ st (upd H D o) :=
  ⟨S.inj, fun n hn => by
    obtain ⟨c, h1, h2⟩ := S.cell n hn
    exact ⟨c, h1, h2.ev0 (Ev0.off hu hc) (upd_ne (hD n hn))⟩, S.out, cl.up (Ev0.off hu hc) S.pp, tabs_up (fun _ _ h => by rw [upd_ne (tbl_ne_cell hu hc h)]; exact h) (Ev0.off (K := K) (μ := μ) (N := st.nxt) hu hc).ex S.tb⟩
/-- it becomes a place of the store -/
theorem Ev.adopt {D : Addr} (e : Ev K μ1 N1 H1 μ N H) (hD : H1 D = none) : Ev K μ1 N1 H1 (ext μ N D) (N + 1) H where
  le := Nat.le_succ_of_le e.le
  mu := fun n h => (ext_ne (by have := e.le; omega)).trans (e.mu n h)
  sq := e.sq
  rq := e.rq
  ex := e.ex
  kp := e.kp
  fr := fun n h1 h2 => by
    by_cases b : n = N
    · subst b; rw [ext_same]; exact hD
    · rw [ext_ne b]; exact e.fr n h1 (by omega)
  tr := e.tr
theorem SR.adopt {st : Store} {D : Addr} {c : Cell} (S : SR K cl μ st H) (hD : ∀ n, n < st.nxt → μ n ≠ D) (hc : CellOk K cl μ st.nxt H D c) : SR K cl (ext μ st.nxt D) (st.new c) H := by
  have e : Ev0 K μ st.nxt H (ext μ st.nxt D) (st.nxt + 1) H := ⟨Nat.le_succ _, fun n h => ext_ne (by omega), fun _ _ h => h, fun _ _ h => h, fun _ _ h => h⟩
  refine ⟨fun m n hm hn q => ?_, fun n hn => ?_, fun n hn => ?_, cl.up e S.pp, S.tb⟩
  · have hm' : m < st.nxt + 1 := hm
    have hn' : n < st.nxt + 1 := hn
    by_cases a : m = st.nxt
    · by_cases b : n = st.nxt
      · rw [a, b]
      · rw [a, ext_same, ext_ne b] at q
        exact absurd q.symm (hD n (by omega))
    · by_cases b : n = st.nxt
      · rw [b, ext_same, ext_ne a] at q
        exact absurd q (hD m (by omega))
      · rw [ext_ne a, ext_ne b] at q
        exact S.inj m n (by omega) (by omega) q
  · have hn' : n < st.nxt + 1 := hn
    by_cases b : n = st.nxt
    · subst b
      exact ⟨c, by unfold Store.new; exact if_pos rfl, by rw [ext_same]; exact hc.ev0 e rfl⟩
    · obtain ⟨c', h1, h2⟩ := S.cell n (by omega)
      refine ⟨c', by unfold Store.new; exact (if_neg b).trans h1, ?_⟩
      rw [ext_ne b]
      exact h2.ev0 e rfl
  · have hn' : st.nxt + 1 ≤ n := hn
    unfold Store.new
    exact (if_neg (by omega)).trans (S.out n (by omega))
/-- what was put beside stays beside -/
theorem Ev.apart {D : Addr} (e : Ev K μ N H μ1 N1 H1) (hD : ∀ n, n < N → μ n ≠ D) (h : H D ≠ none) : ∀ n, n < N1 → μ1 n ≠ D := fun n hn => by
  by_cases b : n < N
  · rw [e.mu n b]; exact hD n b
  · intro q
    have := e.fr n (by omega) hn
    rw [q] at this; exact h this
end
end DV


set_option Elab.async false
set_option linter.all false
set_option maxRecDepth 100000
set_option  maxHeartbeats   4000000
/-! DV, part D: comprehensions; calls of defs. -/
namespace DV
open PySem PySem.Spec PyProof.Rows L2

abbrev W0 : WX := fun _ _ _ _ => False
def tYes_ : MT := fun _ st => .ok true st
abbrev STs (X : Cx) (cl : CL) (W : WX) (es : List Expr) (m : MT) : Prop := PTs X es (rdT X.K cl W m)
theorem PTs.weak {X : Cx} {e : List Expr} {t t' : TT} (h : PTs X e t) (w : ∀ σ H Q, t' σ H Q → t σ H Q) : PTs X e t' := ⟨fun pins s σ H Q I q => h.run pins s σ H Q I (w σ H Q q)⟩
section
variable {X : Cx} {cl : CL} {W : WX}
theorem ts_nil : STs X cl W [] tYes_ := PTs.weak pts_nil fun σ H Q ⟨μ, st, l, S, L, h⟩ => h μ H true S Ev.refl rfl
theorem ts_one {c : Expr} {mt : MT} (h : ST X cl W c mt) : STs X cl W [c] mt := pts_one h
theorem wipe_ws {σ σ' : L2.St} {vs ws : List Nat} (hl : σ'.length = σ.length) (hw : ∀ j : Nat, j ∉ ws → σ'[j]? = σ[j]?) (hs : ∀ j ∈ ws, j ∈ vs) : wipe σ' vs = wipe σ vs := by
  apply List.ext_getElem?
  intro i
  rw [wipe_get, wipe_get, hl]
  by_cases h : i ∈ vs ∧ i < σ.length
  · rw [if_pos h, if_pos h]
  · rw [if_neg h, if_neg h]
    by_cases hi : i ∈ ws
    · have hv := hs i hi
      have hz : ¬ i < σ.length := fun q => h ⟨hv, q⟩
      rw [List.getElem?_eq_none (by omega), List.getElem?_eq_none (by omega)]
    · exact hw i hi
theorem wipe_wipe {σ : L2.St} {vs : List Nat} : wipe (wipe σ vs) vs = wipe σ vs := by
  apply List.ext_getElem?
  intro i
  rw [wipe_get, wipe_length, wipe_get]
  by_cases h : i ∈ vs ∧ i < σ.length
  · rw [if_pos h, if_pos h]
  · rw [if_neg h]
theorem w_lc {mi : MI} {t : TGT} {ws vs : List Nat} {mt : MT} {me : ME} (hws : ∀ j ∈ ws, j ∈ vs) : ∀ σ H Q, rdE X.K cl W (mLc mi t mt me vs) σ H Q → tLc (rdI X.K cl W mi) (rdG X.K cl ws t) (rdT X.K cl W0 mt) (rdE X.K cl W0 me) vs σ H Q := fun σ H Q ⟨μ, st, l, S, L, h⟩ => by
  refine ⟨μ, st, l, S, L, Post.bind h fun it st1 μ1 H1 J _ S1 e1 RJ h1 => fun D hD => ?_⟩
  cases q : loopC t mt me it.srcs (wipeL l vs) it.items st1 with
  | exc c fs st2 => rw [q] at h1; exact h1.elim
  | bad => rw [q] at h1; exact h1.elim
  | ok ys st2 =>
    rw [q] at h1
    simp only at h1
    by_cases hz : ys.length ≤ sizeLine
    · rw [if_pos hz] at h1
      have h0 : upd H1 D (.lst []) D = some (.lst []) := upd_same
      refine ⟨fun i m H => m = it.items.length - i ∧ i ≤ it.items.length ∧ ∃ μ st acc accV ys', SR X.K cl μ st H ∧ Ev X.K μ1 st1.nxt H1 μ st.nxt H ∧ H D = some (.lst accV) ∧ VRs X.K μ st.nxt H acc accV ∧ (∀ n, n < st.nxt → μ n ≠ D) ∧
        loopC t mt me it.srcs (wipeL l vs) (it.items.drop i) st = .ok ys' st2 ∧ acc ++ ys' = ys,
        ⟨it.items.length, by simp, Nat.zero_le _, μ1, st1, [], [], ys, S1.beside hD, Ev.beside hD, h0, by simp only [VRs], S1.ne_new hD, by simpa using q, rfl⟩, ?_⟩
      rintro i m H3 ⟨rfl, hi, μ3, st3, acc, accV, ys', S3, e3, hD3, racc, ap3, q3, eys⟩
      have L3 := (L.ev (e1.trans e3)).wipe vs
      by_cases hlt : i < it.items.length
      · rw [List.drop_eq_getElem_cons hlt] at q3
        unfold loopC at q3
        by_cases so : SrcOk it.srcs st3
        · rw [if_pos so] at q3
          obtain ⟨g1, g2⟩ := (RJ μ3 st3 H3 S3 e3 so).1 i it.items[i] (List.getElem?_eq_getElem hlt)
          refine .inr ⟨g1, fun H' => it.items.length - (i + 1) = it.items.length - (i + 1) ∧ i + 1 ≤ it.items.length ∧ ∃ μ st acc accV ys', SR X.K cl μ st H' ∧ Ev X.K μ1 st1.nxt H1 μ st.nxt H' ∧ H' D = some (.lst accV) ∧ VRs X.K μ st.nxt H' acc accV ∧ (∀ n, n < st.nxt → μ n ≠ D) ∧
            loopC t mt me it.srcs (wipeL l vs) (it.items.drop (i + 1)) st = .ok ys' st2 ∧ acc ++ ys' = ys, fun H' z => ⟨it.items.length - (i + 1), by omega, z⟩, fun x H' y => ?_⟩
          obtain ⟨S4, e4, r4⟩ := g2 x H' y
          cases q1 : t it.items[i] (wipeL l vs) st3 with
          | none => simp only [q1] at q3; cases q3
          | some l1 =>
            simp only [q1] at q3
            refine ⟨μ3, st3, wipeL l vs, it.items[i], l1, S4, L3.ev e4, r4, q1, fun σ2 L5 z5 k5 => ⟨(wipe_ws z5 k5 hws).trans wipe_wipe, ?_⟩⟩
            refine ⟨μ3, st3, l1, S4, L5, ?_⟩
            have hD4 : H' D = some (.lst accV) := e4.kp D _ hD3 ap3 (fun _ e => by cases e)
            cases q5 : mt l1 st3 with
            | exc c fs st5 => simp only [q5] at q3; cases q3
            | bad => simp only [q5] at q3; cases q3
            | ok b st5 =>
              rintro μ5 H5 b' S5 e5 rfl
              have hD5 : H5 D = some (.lst accV) := e5.kp D _ hD4 ap3 (fun _ e => by cases e)
              have ap5 : ∀ n, n < st5.nxt → μ5 n ≠ D := e5.apart ap3 (by rw [hD4]; simp)
              cases b with
              | false =>
                simp only [q5] at q3
                rw [if_neg (by decide)]
                exact ⟨rfl, hlt, μ5, st5, acc, accV, ys', S5, e3.trans (e4.trans e5), hD5, (racc.ev e4).ev e5, ap5, q3, eys⟩
              | true =>
                simp only [q5] at q3
                rw [if_pos rfl]
                refine ⟨μ5, st5, l1, S5, L5.ev e5, ?_⟩
                cases q6 : me l1 st5 with
                | exc c fs st6 => simp only [q6] at q3; cases q3
                | bad => simp only [q6] at q3; cases q3
                | ok y6 st6 =>
                  simp only [q6] at q3
                  intro μ6 H6 v6 S6 e6 r6
                  have hD6 : H6 D = some (.lst accV) := e6.kp D _ hD5 ap5 (fun _ e => by cases e)
                  have ap6 : ∀ n, n < st6.nxt → μ6 n ≠ D := e6.apart ap5 (by rw [hD5]; simp)
                  cases q7 : loopC t mt me it.srcs (wipeL l vs) (it.items.drop (i + 1)) st6 with
                  | exc c fs st7 => simp only [q7] at q3; cases q3
                  | bad => simp only [q7] at q3; cases q3
                  | ok ys7 st7 =>
                    simp only [q7] at q3
                    cases q3
                    have r7 : VRs X.K μ6 st6.nxt H6 acc accV := ((racc.ev e4).ev e5).ev e6
                    have ln := r7.length
                    refine ⟨accV, hD6, ?_, rfl, hlt, μ6, st6, acc ++ [y6], accV ++ [v6], ys7, S6.off hD6 trivial ap6, (e3.trans (e4.trans (e5.trans e6))).off hD hD6 trivial, upd_same, VRs.ev0 (Ev0.off hD6 trivial) (r7.append (VRs.one r6)), ap6, q7, by rw [List.append_assoc]; exact eys⟩
                    have := congrArg List.length eys
                    simp only [List.length_append, List.length_cons] at this
                    omega
        · rw [if_neg so] at q3; cases q3
      · have e : i = it.items.length := by omega
        subst e
        rw [List.drop_length] at q3
        unfold loopC at q3
        by_cases so : SrcOk it.srcs st3
        · rw [if_pos so] at q3
          cases q3
          rw [List.append_nil] at eys
          subst eys
          refine .inl ⟨(RJ μ3 _ H3 S3 e3 so).2, h1 (ext μ3 _ D) H3 (.ref D) (S3.adopt (c := .lst acc) ap3 ⟨accV, hD3, racc⟩) (e3.adopt hD) ?_⟩
          simp only [VR]
          exact ⟨Nat.lt_succ_self _, by rw [ext_same]⟩
        · rw [if_neg so] at q3; cases q3
    · rw [if_neg hz] at h1; exact h1.elim
theorem s_lc (own : List (Str × Nat)) {elt tg iter : Expr} {ifs : List Expr} {scope : Scope} {pos : Pos} {mi : MI} {t : TGT} {ws : List Nat} {mt : MT} {me : ME} (hc : X.calm = true) (hN : X.N.Nodup) (hi : SI X cl W tg iter mi) (ok : BlkOk X.N X.env.scope scope own)
    (hg : ∀ (s : Shared) (H : Hp) (C : Addr) (c : List (Str × Addr)) (fp : List Addr), SG (X.blk s H scope (compEnvC scope c C X.env) fp) cl tg ws t)
    (ht : ∀ (s : Shared) (H : Hp) (C : Addr) (c : List (Str × Addr)) (fp : List Addr), STs (X.blk s H scope (compEnvC scope c C X.env) fp) cl W0 ifs mt)
    (he : ∀ (s : Shared) (H : Hp) (C : Addr) (c : List (Str × Addr)) (fp : List Addr), SE (X.blk s H scope (compEnvC scope c C X.env) fp) cl W0 elt me)
    (hws : ∀ j ∈ ws, j ∈ own.map (·.2) := by decide) (hs : ∀ x, foldedSetIterable iter X.env x = pure x := by intro _; rfl) : SE X cl W (.ListComp elt [⟨tg, iter, ifs, 0⟩] scope pos) (mLc mi t mt me (own.map (·.2))) :=
  s_pe (pe_lc hc hN hi ok hg ht he hs) (w_lc hws)
theorem ss_setLc (i : Nat) (own : List (Str × Nat)) {y : Str} {py : Pos} {elt tg iter : Expr} {ifs : List Expr} {scope : Scope} {pos spos : Pos} {mi : MI} {t : TGT} {ws : List Nat} {mt : MT} {me : ME} (hc : X.calm = true) (hN : X.N.Nodup) (hi : SI X cl W tg iter mi) (ok : BlkOk X.N X.env.scope scope own)
    (hg : ∀ (s : Shared) (H : Hp) (C : Addr) (c : List (Str × Addr)) (fp : List Addr), SG (X.blk s H scope (compEnvC scope c C X.env) fp) cl tg ws t)
    (ht : ∀ (s : Shared) (H : Hp) (C : Addr) (c : List (Str × Addr)) (fp : List Addr), STs (X.blk s H scope (compEnvC scope c C X.env) fp) cl W0 ifs mt)
    (he : ∀ (s : Shared) (H : Hp) (C : Addr) (c : List (Str × Addr)) (fp : List Addr), SE (X.blk s H scope (compEnvC scope c C X.env) fp) cl W0 elt me)
    (hsw : swapsWith (.ListComp elt [⟨tg, iter, ifs, 0⟩] scope pos) (some (.Name y py)) spos.line X.env = pure true) (hy : X.N[i]? = some y := by rfl) (hyl : X.env.scope.names.lookup y = some .local := by rfl)
    (hws : ∀ j ∈ ws, j ∈ own.map (·.2) := by decide) (hs : ∀ x, foldedSetIterable iter X.env x = pure x := by intro _; rfl) : SS X cl W (.Assign [.Name y py] (.ListComp elt [⟨tg, iter, ifs, 0⟩] scope pos) spos) (msAsg (mLc mi t mt me (own.map (·.2))) (tgName i)) :=
  PS.weak (ps_setLc (i := i) hc hN hy hyl hsw hi ok hg ht he hs) fun E σ H ⟨μ, st, l, S, L, h⟩ => by
    have z : rdE X.K cl W (mLc mi t mt me (own.map (·.2))) σ H (fun x H1 => gName i x σ H1 E.nx) := ⟨μ, st, l, S, L, PostS.bind h L fun d st1 μ1 H1 v _ S1 e1 r1 h1 => h1 μ1 H1 _ S1 Ev.refl ((L.ev e1).set i r1)⟩
    exact w_lc hws σ H _ z
end

/-! ### defs -/
abbrev FD := List D → Store → Res D
def spF (K : PySem.W.Frag) (cl : CL) (F : FD) : Sp := fun vs H Q E => ∃ μ st ds, SR K cl μ st H ∧ VRs K μ st.nxt H ds vs ∧ Post K cl (VR K) μ st.nxt H Q E (F ds st)
/-- a def of n parameters and so many names, by its body -/
def mDef (n len : Nat) (body : MS) : FD := fun ds st => if ds.length = n then (match body (ds.map some ++ List.replicate (len - n) none) st with
  | .rt d st' => .ok d st'
  | .nx _ st' => .ok .non st'
  | .exc c fs _ st' => .exc c fs st'
  | _ => .bad) else .bad
/-- room, and nothing is being shown (repr) around -/
structure RoomG (k : Nat) (A : Around) : Prop where
  room : Room k A
  g : A.guards = some []
theorem RoomG.mono {j k : Nat} {A : Around} (r : RoomG k A) (h : j ≤ k) : RoomG j A := ⟨r.room.mono h, r.g⟩
theorem RoomG.hu {k : Nat} {A : Around} (r : RoomG k A) : A.units + 64 < cLine := r.room.units
/-- the def at f does what F tells -/
structure FnS (P : Program) (w : World) (K : PySem.W.Frag) (mg : Str → Option Value) (base : Heap) (cl : CL) (k : Nat) (f : Addr) (fd : FuncData) (ps : List Str) (F : FD) : Prop where
  len : ∀ ds st, F ds st ≠ .bad → ds.length = ps.length
  run : ∀ (A : Around) (outer : List Env) (s : Shared) (H : Hp) (args : Args) (us : List Value) (vs : List V) (Q : VK) (E : XK), RoomG k A → Env0 P w K mg base A outer s H → BindsTo s fd args (ps.zip us) → Vals vs us → spF K cl F vs H Q E →
    codeAny (model P w) A (.call (.ref f) args) (CR (L2.CX P w) outer P w H s Q E) s
theorem FnS.mono {P : Program} {w : World} {K : PySem.W.Frag} {mg : Str → Option Value} {base : Heap} {cl : CL} {j k : Nat} {f : Addr} {fd : FuncData} {ps : List Str} {F : FD} (G : FnS P w K mg base cl j f fd ps F) (h : j ≤ k) : FnS P w K mg base cl k f fd ps F :=
  ⟨G.len, fun A outer s H args us vs Q E hr => G.run A outer s H args us vs Q E (hr.mono h)⟩
theorem Post.nb {K : PySem.W.Frag} {cl : CL} {μ : Nat → Addr} {N : Nat} {H : Hp} {α β : Type} {rel : (Nat → Addr) → Nat → Hp → α → β → Prop} {Q : β → Hp → Prop} {W : XK} {r : Res α} (h : Post K cl rel μ N H Q W r) : r ≠ .bad := by
  rintro rfl
  exact h
theorem VRs.start {K : PySem.W.Frag} {μ : Nat → Addr} {N : Nat} {H : Hp} {ds : List D} {vs : List V} {len : Nat} {ns : List Str} (h : VRs K μ N H ds vs) (hl : ns.length = len) : LR K μ N H (ds.map some ++ List.replicate (len - ds.length) none) (L2.start ns vs) := by
  have ln := h.length
  unfold L2.start
  refine ⟨by simp [ln, hl], fun i d q => ?_⟩
  by_cases hi : i < ds.length
  · rw [List.getElem?_append_left (by simpa using hi), List.getElem?_map] at q
    have q' : ds[i]? = some d := by
      cases z : ds[i]? with
      | none => rw [z] at q; cases q
      | some e => rw [z] at q; simpa using q
    obtain ⟨v, a, b⟩ := h.get q'
    refine ⟨v, ?_, b⟩
    rw [List.getElem?_append_left (by simpa [← ln] using hi), List.getElem?_map, a]
    rfl
  · rw [List.getElem?_append_right (by simpa using hi)] at q
    have := List.mem_of_getElem? q
    simp at this
section
variable {P : Program} {w : World} {K : PySem.W.Frag} {mg : Str → Option Value} {base : Heap} {cl : CL}
/-- the context of a def's body -/
abbrev cxD (P : Program) (w : World) (K : PySem.W.Frag) (mg : Str → Option Value) (base : Heap) (N : List Str) (qual : Str) (st : Stmt) (f : Addr) (cdv : Value) (A : Around) (outer : List Env) (s : Shared) (H : Hp) (E : XK) : Cx := cxOf (L2.CX P w) P w K mg base N qual (defScope st) f cdv A outer s H E
/-- what is to be had of a def as the top has left it: any keyword defaults -/
structure FunA (K : PySem.W.Frag) (x qual : Str) (st : Stmt) (f : Addr) (fd : FuncData) : Prop where
  ex : ∃ (oc : Value) (od : Option Addr) (dV kV doc pm : Value) (an : Option Addr) (cdv ct : Value) (osl : Array (Option Value)),
    fd = PySem.W.fnOf x qual (defArgs st) (defBody st) (defScope st) dV kV doc pm an cdv ct ∧ K.lookup f = some ⟨oc, od, .func fd, osl⟩ ∧ PySem.W.codeIn K cdv qual = true
  kp : PySem.W.keepIn K (.ref f) = true
theorem fn_s {x qual : Str} {st : Stmt} {f : Addr} {fd : FuncData} {N ps : List Str} {k len n : Nat} {mb : MS} (F : FunA K x qual st f fd) (S : FnScope N ps (defScope st)) (hn : ps.length = n) (hl : N.length = len)
    (hbody : ∀ (cdv : Value) (A : Around) (outer : List Env) (s : Shared) (H : Hp) (E : XK), RoomG k (A.deeper (envOfC qual (defScope st) s.heap.objs.size f cdv)) →
      Takes (cxD P w K mg base N qual st f cdv A outer s H E) (fun cls d _ H => E cls d H) →
      SSs (cxD P w K mg base N qual st f cdv A outer s H E) cl (fun cls d _ H => E cls d H) (defBody st) mb) : FnS P w K mg base cl (k + 1) f fd ps (mDef n len mb) := by
  obtain ⟨oc, od, dV, kV, doc, pm, an, cdv, ct, osl, efd, lk, hcd⟩ := F.ex
  have hlen : ∀ ds st, mDef n len mb ds st ≠ .bad → ds.length = ps.length := fun ds t h => by
    unfold mDef at h
    by_cases z : ds.length = n
    · rw [z, hn]
    · rw [if_neg z] at h; exact absurd rfl h
  refine ⟨hlen, fun A outer s H args us vs Q E hr e0 hb r ⟨μ, t, ds, SS, rv, h⟩ => ?_⟩
  subst efd
  have hvl : vs.length = ps.length := by rw [← rv.length]; exact hlen ds t h.nb
  have kin0 : K.In s.heap := e0.mod.kin.keeps fun b o e => (e0.bs b o e).1
  have nolim : s.heap.NoLimit :=
    e0.mod.nolimit.keeps fun b o e => (e0.bs b o e).1
  have binds : ∀ y ∈ ps.zip us, (defScope st).names.lookup y.1 = some .local ∨ ((defScope st).names.lookup y.1 = some .cell ∧ ((cellsFrom (s.heap.objs.size + 1) (defScope st).names []).lookup y.1).isSome = true) := by
    rintro ⟨n, v⟩ hy
    rcases S.par n (List.of_mem_zip hy).1 with c | c
    · exact .inl c
    · exact .inr ⟨c, PySem.W.cellsFrom_some _ _ _ (.inl c)⟩
  have hr1 : RoomG k (A.deeper (envOfC qual (defScope st) s.heap.objs.size f cdv)) := ⟨hr.room.deeper _, hr.g⟩
  refine codeAny_call_function hr.room.depth (kin0 _ _ lk) rfl S.co S.gen rfl
    (PySem.W.codeRec_of kin0 hcd) (hb _ _ _ _ ?_)
  refine wpAny_newFunctionEnv_cells S.kind binds fun env1 henv t1 icc => ?_
  subst henv
  refine ⟨nolim.keeps icc.toInCall.keep, codeAny_func ?_⟩
  have body := hbody cdv A outer s H E hr1 (takes_of rfl rfl rfl rfl)
  have I0 : Inv (cxD P w K mg base N qual st f cdv A outer s H E) [] (L2.start N vs) H t1 :=
    inv_start S hr.room.hd e0 hvl r icc
  have want : rdS K cl (fun cls d _ H => E cls d H) mb { nx := fun _ H' => Q .non H', rt := Q } (L2.start N vs) H := by
    refine ⟨μ, t, _, SS, rv.start hl, ?_⟩
    unfold mDef at h
    have z : ds.length = n := by rw [rv.length, hvl, hn]
    rw [if_pos z] at h
    rw [z]
    cases q : mb (ds.map some ++ List.replicate (len - n) none) t with
    | rt d st' => rw [q] at h; exact h
    | nx l st' =>
      rw [q] at h
      exact fun μ' H' σ' s e _ => h μ' H' .non s e (by simp only [VR])
    | exc c fs l st' =>
      rw [q] at h
      exact fun μ' H' σ' cls d s e _ x => h μ' H' cls d s e x
    | bk l st' => rw [q] at h; exact h.elim
    | ct l st' => rw [q] at h; exact h.elim
    | bad => rw [q] at h; exact h.elim
  refine wpAny_mono (body.run [] t1 (L2.start N vs) H _ I0 want) (fun fl t2 hs => ?_) fun _ _ hs => hs
  cases fl with
  | ret u =>
    obtain ⟨v, σ', H', J, rv, q⟩ := hs
    exact ⟨v, H', J.os, J.bare, J.base, J.hok, rv, q⟩
  | next =>
    obtain ⟨σ', H', J, q⟩ := hs
    exact ⟨V.non, H', J.os, J.bare, J.base, J.hok, rfl, q⟩
  | brk => exact hs.elim fun _ h => h.elim fun _ h => h.2.elim
  | cont => exact hs.elim fun _ h => h.elim fun _ h => h.2.elim
end

/-! ### calls -/
def mCall (F : FD) (dds : List D) (a : MA) : ME := fun l st => (a l st).bind fun ds st1 => F (ds ++ dds) st1
/-- defaults: values that stand in the written part -/
def Dfl (K : PySem.W.Frag) (dds : List D) (dvs : List V) : Prop := ∀ μ N H, VRs K μ N H dds dvs
theorem dfl_nil {K : PySem.W.Frag} : Dfl K [] [] := fun _ _ _ => by simp only [VRs]
section
variable {X : Cx} {cl : CL} {W : WX} {e : Expr} {es : List Expr} {xs : MA} {k : Nat} {f : Addr} {fd : FuncData} {ps : List Str} {F : FD} {x : Str} {p pos : Pos} {dds : List D} {dvs : List V} {ds : List Value}
/-- the callee runs -/
theorem run_g {pins : List (Addr × Obj)} {σ : L2.St} {H : Hp} {s : Shared} {Q : VK} {us : List Value} {vs : List V} {args : Args} (G : FnS X.prog X.w X.K X.mg X.base cl k f fd ps F) (hr : RoomG k X.A) (tk : Takes X W) (I : Inv X pins σ H s)
    (hb : us.length = ps.length → BindsTo s fd args (ps.zip us)) (r : Vals vs us) (h : spF X.K cl F vs H Q (WE W σ)) : codeAny (model X.prog X.w) X.A (.call (.ref f) args) (fun r s' => match r with
      | .ok (.ret u) => EP X pins σ Q u s'
      | .ok _ => False
      | .error e => X.xe e s') s := by
  have hl : us.length = ps.length := by
    obtain ⟨μ, st, ds, S, rv, h⟩ := h
    rw [← r.length, ← rv.length]
    exact G.len ds st h.nb
  refine codeAny_mono (G.run X.A X.stack s H args us vs Q (WE W σ) hr I.env0 (hb hl) r h) fun r s' hq => ?_
  cases r with
  | error e => exact passAt tk σ pins H s e s' I hq
  | ok fl =>
    cases fl with
    | ret u => exact I.after hq
    | next => exact hq
    | brk => exact hq
    | cont => exact hq
theorem run_call {pins : List (Addr × Obj)} {σ : L2.St} {H : Hp} {s : Shared} {Q : VK} {us : List Value} {vs : List V} (G : FnS X.prog X.w X.K X.mg X.base cl k f fd ps F) (hr : RoomG k X.A) (tk : Takes X W) (hb : Binds X.K fd ps ds) (hd : Vals dvs ds) (I : Inv X pins σ H s)
    (r : Vals vs us) (h : spF X.K cl F (vs ++ dvs) H Q (WE W σ)) : wpAny (model X.prog X.w) X.A (call (.ref f) us) (EP X pins σ Q) X.xe s := by
  refine wpAny_call (codeAny_mono (run_g (args := ⟨us, []⟩) G hr tk I (fun hl => hb s us I.kIn hl) (r.append hd) h) fun r s' hq => ?_)
  cases r with
  | error e => exact hq
  | ok fl =>
    cases fl with
    | ret u => exact hq
    | next => exact hq
    | brk => exact hq
    | cont => exact hq
/-- f(e, ..) -/
theorem s_call (G : FnS X.prog X.w X.K X.mg X.base cl k f fd ps F) (hr : RoomG k X.A) (tk : Takes X W) (hm : X.mg x = some (.ref f)) (hk : PySem.W.keepIn X.K (.ref f) = true) (hb : Binds X.K fd ps ds) (hd : Vals dvs ds) (hD : Dfl X.K dds dvs) (ha : SA X cl W (e :: es) xs) (hg : Gl X x := by rfl)
    (hdb : (x == ("__debug__" : Str)) = false := by decide) (he : starEach (e :: es) X.env = (false, eval e X.env) :: starEach es X.env := by rfl) (hpl : (backTo pos (starEach es X.env)).any (·.1) = false := by rfl) :
    SE X cl W (.Call (.Name x p) (e :: es) [] pos) (mCall F dds xs) := by
  refine ⟨fun pins s σ H Q I ⟨μ, st, l, S, L, h⟩ => ?_⟩
  refine wpAny_Call_Name_kw (ld_glob I hg hm ?_ hdb)
  have want : rdA X.K cl W xs σ H fun vs H1 => spF X.K cl F (vs ++ dvs) H1 Q (WE W σ) :=
    ⟨μ, st, l, S, L, Post.bind h fun d st1 μ1 H1 vs _ S1 e1 r1 h1 => ⟨μ1, st1, d ++ dds, S1, r1.append (hD _ _ _), h1⟩⟩
  refine PySem.W.callWith_K (h₀ := X.base) I.ok.mod.kin hk (thn (ha.run pos pins s σ H _ I want) fun us s1 hh => ?_) he hpl
  obtain ⟨vs, H1, I1, r, q⟩ := hh
  exact ⟨I1.kIn, run_call G hr tk hb hd I1 r q⟩
/-- f() -/
theorem s_call0 (G : FnS X.prog X.w X.K X.mg X.base cl k f fd ps F) (hr : RoomG k X.A) (tk : Takes X W) (hm : X.mg x = some (.ref f)) (hk : PySem.W.keepIn X.K (.ref f) = true) (hb : Binds X.K fd ps ds) (hd : Vals dvs ds) (hD : Dfl X.K dds dvs) (hg : Gl X x := by rfl)
    (hdb : (x == ("__debug__" : Str)) = false := by decide) : SE X cl W (.Call (.Name x p) [] [] pos) (mCall F dds maNil) := by
  refine ⟨fun pins s σ H Q I ⟨μ, st, l, S, L, h⟩ => ?_⟩
  refine wpAny_Call_Name_kw (ld_glob I hg hm ?_ hdb)
  exact PySem.W.callWith_K0 I.kIn hk (run_call (us := []) G hr tk hb hd I .nil ⟨μ, st, [] ++ dds, S, hD _ _ _, h⟩)
end
end DV


set_option Elab.async false
set_option linter.all false
set_option maxRecDepth 100000
set_option  maxHeartbeats   4000000
/-! DV, part E: operators. -/
namespace DV
open PySem PySem.Spec PyProof.Rows L2

/-! ### data -/
def optL {α β : Type} (f : α → Option β) : List α → Option (List β)
  | [] => some []
  | a :: r => match f a with
    | none => none
    | some b => match optL f r with
      | none => none
      | some bs => some (b :: bs)
/-- the tree that a value is, to a depth -/
def toData (st : Store) : Nat → D → Option PyData
  | 0, _ => none
  | n + 1, d => match d with
    | .non => some .none
    | .bl b => some (.bool b)
    | .int i => some (.int i)
    | .str x => if PyData.strOk x then some (.str x) else none
    | .tup xs => match optL (toData st n) xs with
      | none => none
      | some ds => some (.tuple ds)
    | .rol xs => match optL (toData st n) xs with
      | none => none
      | some ds => some (.list ds)
    | .ref r => match st.at_ r with
      | some (.lst xs) => (match optL (toData st n) xs with
        | none => none
        | some ds => some (.list ds))
      | _ => none
    | .cst _ => none
section
variable {K : PySem.W.Frag} {cl : CL} {μ : Nat → Addr} {N : Nat} {H : Hp} {st : Store}
theorem dp_all {f : D → Option PyData} (hf : ∀ d v x, VR K μ N H d v → f d = some x → Dp K H v x) : ∀ {ds : List D} {vs : List V} {xs : List PyData}, VRs K μ N H ds vs → optL f ds = some xs → DpAll K H vs xs
  | [], vs, xs, r, h => by
    simp only [VRs] at r
    subst r
    cases h
    exact .nil
  | d :: ds, vs, xs, r, h => by
    simp only [VRs] at r
    obtain ⟨v, vr, rfl, r1, r2⟩ := r
    unfold optL at h
    cases q : f d with
    | none => rw [q] at h; cases h
    | some b =>
      rw [q] at h
      cases q2 : optL f ds with
      | none => simp only [q2] at h; cases h
      | some bs =>
        simp only [q2] at h
        cases h
        exact .cons (hf d v b r1 q) (dp_all hf r2 q2)
theorem toData_dp (S : SR K cl μ st H) : ∀ (n : Nat) (d : D) (v : V) (x : PyData), VR K μ st.nxt H d v → toData st n d = some x → Dp K H v x
  | 0, d, v, x, r, h => by cases h
  | n + 1, d, v, x, r, h => by
    unfold toData at h
    cases d with
    | non => cases h; simp only [VR] at r; subst r; exact .non
    | bl b => cases h; simp only [VR] at r; subst r; exact .bl b
    | int i => cases h; simp only [VR] at r; subst r; exact .int i
    | str z =>
      simp only at h
      by_cases hz : PyData.strOk z = true
      · rw [if_pos hz] at h
        cases h; simp only [VR] at r; subst r; exact .str z
      · rw [if_neg hz] at h; cases h
    | tup xs =>
      simp only at h
      cases q : optL (toData st n) xs with
      | none => rw [q] at h; cases h
      | some ds =>
        rw [q] at h
        cases h
        simp only [VR] at r
        obtain ⟨p, vs, rfl, r1, r2⟩ := r
        exact .tup r1 (dp_all (fun d v x => toData_dp S n d v x) r2 q)
    | rol xs =>
      simp only at h
      cases q : optL (toData st n) xs with
      | none => rw [q] at h; cases h
      | some ds =>
        rw [q] at h
        cases h
        simp only [VR] at r
        obtain ⟨p, vs, rfl, r1, r2⟩ := r
        exact .lst r1.sq (dp_all (fun d v x => toData_dp S n d v x) r2 q)
    | ref m =>
      simp only at h
      simp only [VR] at r
      obtain ⟨hm, rfl⟩ := r
      cases z : st.at_ m with
      | none => rw [z] at h; cases h
      | some c =>
        rw [z] at h
        cases c with
        | lst xs =>
          simp only at h
          cases q : optL (toData st n) xs with
          | none => rw [q] at h; cases h
          | some ds =>
            rw [q] at h
            cases h
            obtain ⟨vs, h1, h2⟩ := S.get z
            exact .lst (SqL.of h1) (dp_all (fun d v x => toData_dp S n d v x) h2 q)
        | dic kvs => cases h
        | ins c fs => cases h
    | cst w => cases h
end
theorem lay_all {f : D → Option PyData} (hf : ∀ d x, f d = some x → x.canLay0 = true) : ∀ {ds : List D} {xs : List PyData}, optL f ds = some xs → PyData.canLayAll0 xs = true
  | [], xs, h => by cases h; rfl
  | d :: ds, xs, h => by
    unfold optL at h
    cases q : f d with
    | none => rw [q] at h; cases h
    | some b =>
      rw [q] at h
      cases q2 : optL f ds with
      | none => simp only [q2] at h; cases h
      | some bs =>
        simp only [q2] at h
        cases h
        simp only [PyData.canLayAll0, Bool.and_eq_true]
        exact ⟨hf d b q, lay_all hf q2⟩
theorem depth_all {f : D → Option PyData} {n : Nat} (hf : ∀ d x, f d = some x → x.depth ≤ n) : ∀ {ds : List D} {xs : List PyData}, optL f ds = some xs → PyData.depthAll xs ≤ n
  | [], xs, h => by cases h; simp [PyData.depthAll]
  | d :: ds, xs, h => by
    unfold optL at h
    cases q : f d with
    | none => rw [q] at h; cases h
    | some b =>
      rw [q] at h
      cases q2 : optL f ds with
      | none => simp only [q2] at h; cases h
      | some bs =>
        simp only [q2] at h
        cases h
        have h1 := hf d b q
        have h2 := depth_all hf q2
        simp only [PyData.depthAll]
        omega
theorem toData_lay {st : Store} : ∀ (n : Nat) (d : D) (x : PyData), toData st n d = some x → x.canLay0 = true
  | 0, d, x, h => by cases h
  | n + 1, d, x, h => by
    unfold toData at h
    cases d with
    | non => cases h; rfl
    | bl b => cases h; rfl
    | int i => cases h; rfl
    | str z =>
      simp only at h
      by_cases hz : PyData.strOk z = true
      · rw [if_pos hz] at h; cases h; simpa [PyData.canLay0] using hz
      · rw [if_neg hz] at h; cases h
    | tup xs =>
      simp only at h
      cases q : optL (toData st n) xs with
      | none => rw [q] at h; cases h
      | some ds => rw [q] at h; cases h; simpa [PyData.canLay0] using lay_all (toData_lay n) q
    | rol xs =>
      simp only at h
      cases q : optL (toData st n) xs with
      | none => rw [q] at h; cases h
      | some ds => rw [q] at h; cases h; simpa [PyData.canLay0] using lay_all (toData_lay n) q
    | ref m =>
      simp only at h
      cases z : st.at_ m with
      | none => rw [z] at h; cases h
      | some c =>
        rw [z] at h
        cases c with
        | lst xs =>
          simp only at h
          cases q : optL (toData st n) xs with
          | none => rw [q] at h; cases h
          | some ds => rw [q] at h; cases h; simpa [PyData.canLay0] using lay_all (toData_lay n) q
        | dic kvs => cases h
        | ins c fs => cases h
    | cst w => cases h
theorem toData_depth {st : Store} : ∀ (n : Nat) (d : D) (x : PyData), toData st n d = some x → x.depth ≤ n
  | 0, d, x, h => by cases h
  | n + 1, d, x, h => by
    unfold toData at h
    cases d with
    | non => cases h; simp [PyData.depth]
    | bl b => cases h; simp [PyData.depth]
    | int i => cases h; simp [PyData.depth]
    | str z =>
      simp only at h
      by_cases hz : PyData.strOk z = true
      · rw [if_pos hz] at h; cases h; simp [PyData.depth]
      · rw [if_neg hz] at h; cases h
    | tup xs =>
      simp only at h
      cases q : optL (toData st n) xs with
      | none => rw [q] at h; cases h
      | some ds =>
        rw [q] at h; cases h
        have := depth_all (toData_depth n) q
        simp only [PyData.depth]; omega
    | rol xs =>
      simp only at h
      cases q : optL (toData st n) xs with
      | none => rw [q] at h; cases h
      | some ds =>
        rw [q] at h; cases h
        have := depth_all (toData_depth n) q
        simp only [PyData.depth]; omega
    | ref m =>
      simp only at h
      cases z : st.at_ m with
      | none => rw [z] at h; cases h
      | some c =>
        rw [z] at h
        cases c with
        | lst xs =>
          simp only at h
          cases q : optL (toData st n) xs with
          | none => rw [q] at h; cases h
          | some ds =>
            rw [q] at h; cases h
            have := depth_all (toData_depth n) q
            simp only [PyData.depth]; omega
        | dic kvs => cases h
        | ins c fs => cases h
    | cst w => cases h
theorem toData_shaped {st : Store} {n : Nat} {d : D} {x : PyData} (h : toData st n d = some x) (hn : n ≤ 64) : SeqAt.shaped x = true := by
  unfold SeqAt.shaped
  rw [Bool.and_eq_true]
  exact ⟨toData_lay n d x h, decide_eq_true (Nat.le_trans (toData_depth n d x h) hn)⟩

/-! ### equality -/
def scalEq : D → D → Option Bool
  | .non, .non => some true
  | .non, .int _ => some false | .int _, .non => some false | .non, .bl _ => some false | .bl _, .non => some false | .non, .str _ => some false | .str _, .non => some false
  | .int i, .int j => some (decide (i = j)) | .bl i, .bl j => some (decide (i = j)) | .str i, .str j => some (decide (i = j))
  | .int _, .str _ => some false | .str _, .int _ => some false | .bl _, .str _ => some false | .str _, .bl _ => some false
  | _, _ => none
def dataEq (x y : D) (st : Store) : Option Bool := match scalEq x y with
  | some b => some b
  | none => match toData st 20 x, toData st 20 y with
    | some a, some b => some (PyData.eqv a b)
    | _, _ => none
def fEq : F2 := fun x y st => (dataEq x y st).map fun b => (.bl b, st)
def fNe : F2 := fun x y st => (dataEq x y st).map fun b => (.bl (!b), st)
theorem scal_of {K : PySem.W.Frag} {μ : Nat → Addr} {N : Nat} {H : Hp} {x y : D} {v w : V} {b : Bool} (h : scalEq x y = some b) (rx : VR K μ N H x v) (ry : VR K μ N H y w) : scal v w = true ∧ decide (v = w) = b := by
  cases x <;> cases y <;> simp only [scalEq, Option.some.injEq, reduceCtorEq] at h <;> simp only [VR] at rx ry <;> subst rx ry <;> subst h <;> refine ⟨rfl, ?_⟩ <;> simp
section
variable {X : Cx} {cl : CL}
theorem o_eq (hu : X.A.units + 64 < cLine) : OpS X cl (compareOp .Eq) fEq := by
  intro pins s σ H x y v u Q I rx ry ⟨μ, st, d1, d2, S, r1, r2, h⟩
  unfold fEq dataEq at h
  cases q : scalEq d1 d2 with
  | some b =>
    rw [q] at h
    obtain ⟨h1, h2⟩ := scal_of q r1 r2
    exact op_eq pins s σ H x y v u Q I rx ry ⟨h1, h μ H _ S Ev.refl (by simp only [VR]; rw [h2])⟩
  | none =>
    rw [q] at h
    simp only at h
    cases q1 : toData st 20 d1 with
    | none => rw [q1] at h; exact h.elim
    | some a =>
      cases q2 : toData st 20 d2 with
      | none => rw [q1, q2] at h; exact h.elim
      | some b =>
        rw [q1, q2] at h
        exact op_eqD hu pins s σ H x y v u Q I rx ry ⟨a, b, toData_dp S 20 d1 x a r1 q1, toData_dp S 20 d2 y b r2 q2, toData_shaped q1 (by decide), toData_shaped q2 (by decide), h μ H _ S Ev.refl (by simp only [VR])⟩
theorem o_ne (hu : X.A.units + 64 < cLine) : OpS X cl (compareOp .NotEq) fNe := by
  intro pins s σ H x y v u Q I rx ry ⟨μ, st, d1, d2, S, r1, r2, h⟩
  unfold fNe dataEq at h
  cases q : scalEq d1 d2 with
  | some b =>
    rw [q] at h
    obtain ⟨h1, h2⟩ := scal_of q r1 r2
    exact op_ne pins s σ H x y v u Q I rx ry ⟨h1, h μ H _ S Ev.refl (by simp only [VR]; rw [h2])⟩
  | none =>
    rw [q] at h
    simp only at h
    cases q1 : toData st 20 d1 with
    | none => rw [q1] at h; exact h.elim
    | some a =>
      cases q2 : toData st 20 d2 with
      | none => rw [q1, q2] at h; exact h.elim
      | some b =>
        rw [q1, q2] at h
        exact op_neD hu pins s σ H x y v u Q I rx ry ⟨a, b, toData_dp S 20 d1 x a r1 q1, toData_dp S 20 d2 y b r2 q2, toData_shaped q1 (by decide), toData_shaped q2 (by decide), h μ H _ S Ev.refl (by simp only [VR])⟩

/-! ### arithmetic, order -/
def fI (C : Int → Int → Prop) [∀ i j, Decidable (C i j)] (g : Int → Int → D) : F2 := fun x y st => match x, y with
  | .int i, .int j => if C i j then some (g i j, st) else none
  | _, _ => none
theorem o_I {op : Value → Value → Sem Value} {C : Int → Int → Prop} [∀ i j, Decidable (C i j)] {g : Int → Int → D} {gv : Int → Int → V} (ho : OpR X op (rI C gv)) (hg : ∀ μ N H i j, VR X.K μ N H (g i j) (gv i j)) : OpS X cl op (fI C g) := by
  intro pins s σ H x y v u Q I rx ry ⟨μ, st, d1, d2, S, r1, r2, h⟩
  unfold fI at h
  cases d1 with
  | int i =>
    cases d2 with
    | int j =>
      simp only [VR] at r1 r2
      subst r1 r2
      simp only at h
      by_cases c : C i j
      · rw [if_pos c] at h
        exact ho pins s σ H _ _ v u Q I rx ry ⟨i, j, rfl, rfl, c, h μ H _ S Ev.refl (hg _ _ _ i j)⟩
      · rw [if_neg c] at h; exact h.elim
    | _ => exact h.elim
  | _ => exact h.elim
theorem OpR.rI_of {op : Value → Value → Sem Value} {g : Int → Int → V} (h : OpR X op (rI0 g)) : OpR X op (rI (fun _ _ => True) g) := by
  intro pins s σ H x y v u Q I rx ry ⟨i, j, e1, e2, _, q⟩
  exact h pins s σ H x y v u Q I rx ry ⟨i, j, e1, e2, q⟩
def fSub : F2 := fI (fun _ _ => True) fun i j => .int (i - j)
theorem o_sub : OpS X cl (binaryOp .Sub) fSub := o_I (OpR.rI_of op_sub) fun _ _ _ _ _ => by simp only [VR]
instance (i j : Int) : Decidable (CMul i j) := by unfold CMul; infer_instance
instance (i j : Int) : Decidable (CDiv i j) := by unfold CDiv; infer_instance
instance (i j : Int) : Decidable (CPow i j) := by unfold CPow; infer_instance
def fMod : F2 := fI (fun _ j => 0 < j) fun i j => .int (i % j)
theorem o_mod : OpS X cl (binaryOp .Mod) fMod := o_I op_mod fun _ _ _ _ _ => by simp only [VR]
def fPow : F2 := fI CPow fun i j => .int (i ^ j.toNat)
theorem o_pow : OpS X cl (binaryOp .Pow) fPow := o_I op_pow fun _ _ _ _ _ => by simp only [VR]
def fLt : F2 := fun x y st => match x, y with
  | .int i, .int j => some (.bl (decide (i < j)), st)
  | .str i, .str j => some (.bl (decide (i.cps.toList < j.cps.toList)), st)
  | _, _ => none
def fLe : F2 := fun x y st => match x, y with
  | .int i, .int j => some (.bl (decide (i ≤ j)), st)
  | _, _ => none
def fGt : F2 := fun x y st => match x, y with
  | .int i, .int j => some (.bl (decide (j < i)), st)
  | _, _ => none
def fGe : F2 := fun x y st => match x, y with
  | .int i, .int j => some (.bl (decide (j ≤ i)), st)
  | .str i, .str j => some (.bl (!decide (i.cps.toList < j.cps.toList)), st)
  | _, _ => none
theorem o_lt : OpS X cl (compareOp .Lt) fLt := by
  intro pins s σ H x y v u Q I rx ry ⟨μ, st, d1, d2, S, r1, r2, h⟩
  unfold fLt at h
  cases d1 with
  | int i =>
    cases d2 with
    | int j =>
      simp only [VR] at r1 r2
      subst r1 r2
      exact op_lt pins s σ H _ _ v u Q I rx ry ⟨i, j, rfl, rfl, h μ H _ S Ev.refl (by simp only [VR])⟩
    | _ => exact h.elim
  | str i =>
    cases d2 with
    | str j =>
      simp only [VR] at r1 r2
      subst r1 r2
      exact op_lt_str pins s σ H _ _ v u Q I rx ry ⟨i, j, rfl, rfl, h μ H _ S Ev.refl (by simp only [VR])⟩
    | _ => exact h.elim
  | _ => exact h.elim
theorem o_le : OpS X cl (compareOp .LtE) fLe := by
  intro pins s σ H x y v u Q I rx ry ⟨μ, st, d1, d2, S, r1, r2, h⟩
  unfold fLe at h
  cases d1 with
  | int i =>
    cases d2 with
    | int j =>
      simp only [VR] at r1 r2
      subst r1 r2
      exact op_le pins s σ H _ _ v u Q I rx ry ⟨i, j, rfl, rfl, h μ H _ S Ev.refl (by simp only [VR])⟩
    | _ => exact h.elim
  | _ => exact h.elim
theorem o_gt : OpS X cl (compareOp .Gt) fGt := by
  intro pins s σ H x y v u Q I rx ry ⟨μ, st, d1, d2, S, r1, r2, h⟩
  unfold fGt at h
  cases d1 with
  | int i =>
    cases d2 with
    | int j =>
      simp only [VR] at r1 r2
      subst r1 r2
      exact op_gt pins s σ H _ _ v u Q I rx ry ⟨i, j, rfl, rfl, h μ H _ S Ev.refl (by simp only [VR])⟩
    | _ => exact h.elim
  | _ => exact h.elim

/-! ### + -/
def fAdd : F2 := fun x y st => match x, y with
  | .int i, .int j => some (.int (i + j), st)
  | .str a, .str b => if a.length + b.length ≤ sizeLine then some (.str (a ++ b), st) else none
  | .tup xs, .tup ys => if xs.length + ys.length ≤ sizeLine then some (.tup (xs ++ ys), st) else none
  | .ref m, .ref n => match st.at_ m, st.at_ n with
    | some (.lst xs), some (.lst ys) => if xs.length + ys.length ≤ sizeLine then some (.ref st.nxt, st.new (.lst (xs ++ ys))) else none
    | _, _ => none
  | _, _ => none
theorem o_add : OpS X cl (binaryOp .Add) fAdd := by
  intro pins s σ H x y v u Q I rx ry ⟨μ, st, d1, d2, S, r1, r2, h⟩
  unfold fAdd at h
  cases d1 with
  | int i =>
    cases d2 with
    | int j =>
      simp only [VR] at r1 r2
      subst r1 r2
      exact op_add pins s σ H _ _ v u Q I rx ry ⟨i, j, rfl, rfl, h μ H _ S Ev.refl (by simp only [VR])⟩
    | _ => exact h.elim
  | str i =>
    cases d2 with
    | str j =>
      simp only [VR] at r1 r2
      subst r1 r2
      simp only at h
      by_cases c : i.length + j.length ≤ sizeLine
      · rw [if_pos c] at h
        exact op_add_str pins s σ H _ _ v u Q I rx ry ⟨i, j, rfl, rfl, c, h μ H _ S Ev.refl (by simp only [VR])⟩
      · rw [if_neg c] at h; exact h.elim
    | _ => exact h.elim
  | tup xs =>
    cases d2 with
    | tup ys =>
      simp only [VR] at r1 r2
      obtain ⟨p, vs, rfl, s1, t1⟩ := r1
      obtain ⟨q, ws, rfl, s2, t2⟩ := r2
      simp only at h
      have l1 := t1.length
      have l2 := t2.length
      by_cases c : xs.length + ys.length ≤ sizeLine
      · rw [if_pos c] at h
        refine op_catA pins s σ H _ _ v u Q I rx ry ⟨p, q, vs, ws, rfl, rfl, s1, s2, by omega, fun e => ?_, fun _ e => ?_, fun _ _ a ha => ?_⟩
        · subst e
          cases xs with
          | nil => exact h μ H _ S Ev.refl (by simp only [VR]; exact ⟨q, ws, rfl, s2, t2⟩)
          | cons d ds => simp at l1
        · subst e
          cases ys with
          | nil => exact h μ H _ S Ev.refl (by simp only [VR, List.append_nil]; exact ⟨p, vs, rfl, s1, t1⟩)
          | cons d ds => simp at l2
        · exact h μ _ _ (S.beside ha) (Ev.beside ha) (by simp only [VR]; exact ⟨a, vs ++ ws, rfl, SqT.of upd_same, (t1.append t2).ev (Ev.beside ha)⟩)
      · rw [if_neg c] at h; exact h.elim
    | _ => exact h.elim
  | ref m =>
    cases d2 with
    | ref n =>
      simp only [VR] at r1 r2
      obtain ⟨hm, rfl⟩ := r1
      obtain ⟨hn, rfl⟩ := r2
      simp only at h
      cases z1 : st.at_ m with
      | none => rw [z1] at h; exact h.elim
      | some c1 =>
        cases z2 : st.at_ n with
        | none => rw [z1, z2] at h; cases c1 <;> exact h.elim
        | some c2 =>
          rw [z1, z2] at h
          cases c1 with
          | lst xs =>
            cases c2 with
            | lst ys =>
              simp only at h
              obtain ⟨vs, g1, t1⟩ := S.get z1
              obtain ⟨ws, g2, t2⟩ := S.get z2
              have l1 := t1.length
              have l2 := t2.length
              by_cases c : xs.length + ys.length ≤ sizeLine
              · rw [if_pos c] at h
                exact op_cat pins s σ H _ _ v u Q I rx ry ⟨μ m, μ n, vs, ws, rfl, rfl, g1, g2, by omega, fun a ha => h _ _ _ (S.new_lst ha (t1.append t2)) (Ev.new ha) (by simp only [VR]; exact ⟨Nat.lt_succ_self _, by rw [ext_same]⟩)⟩
              · rw [if_neg c] at h; exact h.elim
            | _ => exact h.elim
          | _ => exact h.elim
    | _ => exact h.elim
  | _ => exact h.elim
def repL (n : Nat) (xs : List D) : List D := (List.replicate n xs).flatten
theorem VRs.rep {K : PySem.W.Frag} {μ : Nat → Addr} {N : Nat} {H : Hp} {xs : List D} {vs : List V} (h : VRs K μ N H xs vs) : ∀ n, VRs K μ N H (repL n xs) (List.replicate n vs).flatten
  | 0 => by simp [repL, VRs]
  | n + 1 => by
    simp only [repL, List.replicate_succ, List.flatten_cons]
    exact h.append (VRs.rep h n)
def fMul : F2 := fun x y st => match x, y with
  | .int i, .int j => if CMul i j then some (.int (i * j), st) else none
  | .ref m, .int k => match st.at_ m with
    | some (.lst xs) => if -(2 ^ 63) ≤ k ∧ k < 2 ^ 63 ∧ xs.length * k.toNat ≤ sizeLine then some (.ref st.nxt, st.new (.lst (repL k.toNat xs))) else none
    | _ => none
  | _, _ => none
theorem o_mul : OpS X cl (binaryOp .Mult) fMul := by
  intro pins s σ H x y v u Q I rx ry ⟨μ, st, d1, d2, S, r1, r2, h⟩
  unfold fMul at h
  cases d1 with
  | int i =>
    cases d2 with
    | int j =>
      simp only [VR] at r1 r2
      subst r1 r2
      simp only at h
      by_cases c : CMul i j
      · rw [if_pos c] at h
        exact op_mul pins s σ H _ _ v u Q I rx ry ⟨i, j, rfl, rfl, c, h μ H _ S Ev.refl (by simp only [VR])⟩
      · rw [if_neg c] at h; exact h.elim
    | _ => exact h.elim
  | ref m =>
    cases d2 with
    | int k =>
      simp only [VR] at r1 r2
      obtain ⟨hm, rfl⟩ := r1
      subst r2
      simp only at h
      cases z1 : st.at_ m with
      | none => rw [z1] at h; exact h.elim
      | some c1 =>
        rw [z1] at h
        cases c1 with
        | lst xs =>
          simp only at h
          obtain ⟨vs, g1, t1⟩ := S.get z1
          have l1 := t1.length
          by_cases c : -(2 ^ 63) ≤ k ∧ k < 2 ^ 63 ∧ xs.length * k.toNat ≤ sizeLine
          · rw [if_pos c] at h
            exact op_rep pins s σ H _ _ v u Q I rx ry ⟨μ m, k, vs, rfl, rfl, g1, c.1, c.2.1, by rw [← l1]; exact c.2.2, fun a ha => h _ _ _ (S.new_lst ha (t1.rep _)) (Ev.new ha) (by simp only [VR]; exact ⟨Nat.lt_succ_self _, by rw [ext_same]⟩)⟩
          · rw [if_neg c] at h; exact h.elim
        | _ => exact h.elim
    | _ => exact h.elim
  | _ => exact h.elim
def fNeg : F1 := fun x st => match x with
  | .int i => some (.int (-i), st)
  | _ => none
theorem u_neg : UnR X (unaryOp .USub) (rdU X.K cl fNeg) := by
  intro pins s σ H x v Q I rx ⟨μ, st, d1, S, r1, h⟩
  unfold fNeg at h
  cases d1 with
  | int i =>
    simp only [VR] at r1
    subst r1
    exact un_neg pins s σ H _ v Q I rx ⟨i, rfl, h μ H _ S Ev.refl (by simp only [VR])⟩
  | _ => exact h.elim

/-! ### is None -/
def fIsN : F2 := fun x y st => match y with
  | .non => match x with
    | .cst _ => none
    | .non => some (.bl true, st)
    | _ => some (.bl false, st)
  | _ => none
def fNotN : F2 := fun x y st => match y with
  | .non => match x with
    | .cst _ => none
    | .non => some (.bl false, st)
    | _ => some (.bl true, st)
  | _ => none
theorem o_isN : OpS X cl (compareOp .Is) fIsN := by
  intro pins s σ H x y v u Q I rx ry ⟨μ, st, d1, d2, S, r1, r2, h⟩
  unfold fIsN at h
  cases d2 with
  | non =>
    simp only [VR] at r2
    subst r2
    cases d1 with
    | cst w => exact h.elim
    | non =>
      simp only [VR] at r1
      subst r1
      exact op_isN pins s σ H _ _ v u Q I rx ry ⟨rfl, h μ H _ S Ev.refl (by simp only [VR]; simp)⟩
    | tup xs =>
      simp only [VR] at r1
      obtain ⟨p, vs, rfl, _⟩ := r1
      exact op_isN pins s σ H _ _ v u Q I rx ry ⟨rfl, h μ H _ S Ev.refl (by simp only [VR]; simp)⟩
    | rol xs =>
      simp only [VR] at r1
      obtain ⟨p, vs, rfl, _⟩ := r1
      exact op_isN pins s σ H _ _ v u Q I rx ry ⟨rfl, h μ H _ S Ev.refl (by simp only [VR]; simp)⟩
    | ref n =>
      simp only [VR] at r1
      obtain ⟨_, rfl⟩ := r1
      exact op_isN pins s σ H _ _ v u Q I rx ry ⟨rfl, h μ H _ S Ev.refl (by simp only [VR]; simp)⟩
    | _ =>
      simp only [VR] at r1
      subst r1
      exact op_isN pins s σ H _ _ v u Q I rx ry ⟨rfl, h μ H _ S Ev.refl (by simp only [VR]; simp)⟩
  | _ => exact h.elim
theorem o_notN : OpS X cl (compareOp .IsNot) fNotN := by
  intro pins s σ H x y v u Q I rx ry ⟨μ, st, d1, d2, S, r1, r2, h⟩
  unfold fNotN at h
  cases d2 with
  | non =>
    simp only [VR] at r2
    subst r2
    cases d1 with
    | cst w => exact h.elim
    | non =>
      simp only [VR] at r1
      subst r1
      exact op_notN pins s σ H _ _ v u Q I rx ry ⟨rfl, h μ H _ S Ev.refl (by simp only [VR]; simp)⟩
    | tup xs =>
      simp only [VR] at r1
      obtain ⟨p, vs, rfl, _⟩ := r1
      exact op_notN pins s σ H _ _ v u Q I rx ry ⟨rfl, h μ H _ S Ev.refl (by simp only [VR]; simp)⟩
    | rol xs =>
      simp only [VR] at r1
      obtain ⟨p, vs, rfl, _⟩ := r1
      exact op_notN pins s σ H _ _ v u Q I rx ry ⟨rfl, h μ H _ S Ev.refl (by simp only [VR]; simp)⟩
    | ref n =>
      simp only [VR] at r1
      obtain ⟨_, rfl⟩ := r1
      exact op_notN pins s σ H _ _ v u Q I rx ry ⟨rfl, h μ H _ S Ev.refl (by simp only [VR]; simp)⟩
    | _ =>
      simp only [VR] at r1
      subst r1
      exact op_notN pins s σ H _ _ v u Q I rx ry ⟨rfl, h μ H _ S Ev.refl (by simp only [VR]; simp)⟩
  | _ => exact h.elim

/-! ### in -/
/-- a sign in a text; an item in a list, a tuple -/
def inB (x y : D) (st : Store) : Option Bool := match x, y with
  | .str a, .str b => if a.length = 1 then some (decide (a.cps.getD 0 0 ∈ b.cps.toList)) else none
  | _, .tup ys => (match toData st 20 x, optL (toData st 20) ys with
    | some d, some ds => some (ds.any fun z => PyData.eqv z d)
    | _, _ => none)
  | _, .rol ys => (match toData st 20 x, optL (toData st 20) ys with
    | some d, some ds => some (ds.any fun z => PyData.eqv z d)
    | _, _ => none)
  | _, .ref m => (match st.at_ m with
    | some (.lst ys) => (match toData st 20 x, optL (toData st 20) ys with
      | some d, some ds => some (ds.any fun z => PyData.eqv z d)
      | _, _ => none)
    | some (.dic kvs) => (match x with
      | .str a => some (kvs.any fun p => decide (p.1 = Sum.inr a))
      | .int a => some (kvs.any fun p => decide (p.1 = Sum.inl a))
      | _ => none)
    | _ => none)
  | _, _ => none
def fIn : F2 := fun x y st => (inB x y st).map fun b => (.bl b, st)
def fNin : F2 := fun x y st => (inB x y st).map fun b => (.bl (!b), st)
end
end DV


set_option Elab.async false
set_option linter.all false
set_option maxRecDepth 100000
set_option  maxHeartbeats   4000000
/-! DV, part F: in, subscripts, slices, stores, methods, what Python brings. -/
namespace DV
open PySem PySem.Spec PyProof.Rows L2

section
variable {X : Cx} {cl : CL}

/-! ### in -/
theorem reads_of {pins : List (Addr × Obj)} {s : Shared} {σ : L2.St} {H : Hp} (I : Inv X pins σ H s) {μ : Nat → Addr} {st : Store} (S : SR X.K cl μ st H) {x : D} {v : V} {u : Value} {d : PyData} (r : VR X.K μ st.nxt H x v) (ru : RelV v u) (h : toData st 20 x = some d) :
    ∃ as, Reads s.heap u d as := Dp.reads I d v u (toData_dp S 20 x v d r h) ru
theorem depth_in {ds : List PyData} {st : Store} {ys : List D} (h : optL (toData st 20) ys = some ds) : PyData.depthAll ds ≤ 20 := depth_all (toData_depth 20) h
/-- one rule for both kinds of sequences -/
theorem in_seq {pins : List (Addr × Obj)} {s : Shared} {σ : L2.St} {H : Hp} {Q : VK} (hu : X.A.units + 64 < cLine) (I : Inv X pins σ H s) {μ : Nat → Addr} {st : Store} (S : SR X.K cl μ st H) {x : D} {v : V} {u uc : Value} {p : Addr} {ys : List D} {vs : List V} {neg : Bool}
    (rx : VR X.K μ st.nxt H x v) (ru : RelV v u) (rc : uc = .ref p) (hp : SqT X.K H p vs ∨ SqL X.K H p vs) (rs : VRs X.K μ st.nxt H ys vs) {d : PyData} {ds : List PyData} (hd : toData st 20 x = some d) (hds : optL (toData st 20) ys = some ds)
    (h : Q (.bl (xor neg (ds.any fun z => PyData.eqv z d))) H) : wpAny (model X.prog X.w) X.A (compareOp (if neg then .NotIn else .In) u uc) (EP X pins σ Q) X.xe s := by
  subst rc
  obtain ⟨as, r1⟩ := reads_of I S rx ru hd
  have ha : DpAll X.K H vs ds := dp_all (fun d v x => toData_dp S 20 d v x) rs hds
  have l1 := lay_all (toData_lay 20) hds
  have l2 := toData_lay 20 x d hd
  have dp := depth_in hds
  have room : X.A.units + 1 + min (PyData.depthAll ds) d.depth < cLine := by
    have := Nat.min_le_left (PyData.depthAll ds) d.depth
    omega
  rcases hp with hp | hp
  · obtain ⟨bs, r2⟩ := Dp.reads I (.tuple ds) (.ref p) (.ref p) (.tup hp ha) rfl
    cases neg with
    | false => exact SeqAt.in_tuple_reads r2 r1 l1 l2 room ⟨.bl _, H, I, rfl, by simpa using h⟩
    | true => exact SeqAt.notIn_tuple_reads r2 r1 l1 l2 room ⟨.bl _, H, I, rfl, by simpa using h⟩
  · obtain ⟨bs, r2⟩ := Dp.reads I (.list ds) (.ref p) (.ref p) (.lst hp ha) rfl
    cases neg with
    | false => exact SeqAt.in_list_reads r2 r1 l1 l2 room ⟨.bl _, H, I, rfl, by simpa using h⟩
    | true => exact SeqAt.notIn_list_reads r2 r1 l1 l2 room ⟨.bl _, H, I, rfl, by simpa using h⟩
theorem str_one {a : Str} (h : a.length = 1) : a = ⟨#[a.cps.getD 0 0]⟩ := by
  obtain ⟨c⟩ := a
  obtain ⟨l⟩ := c
  have h' : l.length = 1 := h
  match l, h' with
  | [x], _ => rfl
def dLook (kvs : List (Key × D)) (k : Key) : Option D := (kvs.find? fun kv => decide (kv.1 = k)).map (·.2)
def dPut (kvs : List (Key × D)) (k : Key) (v : D) : List (Key × D) := if (kvs.any fun kv => decide (kv.1 = k)) = true then kvs.map (fun kv => if kv.1 = k then (kv.1, v) else kv) else kvs ++ [(k, v)]
theorem look_rel {K : PySem.W.Frag} {μ : Nat → Addr} {N : Nat} {H : Hp} {k : Key} : ∀ {kvs : List (Key × D)} {ps : List (Key × V)}, ps.map (·.1) = kvs.map (·.1) → VRs K μ N H (kvs.map (·.2)) (ps.map (·.2)) →
    (dLook kvs k = none ∧ valV ps k = none) ∨ ∃ d v, dLook kvs k = some d ∧ valV ps k = some v ∧ VR K μ N H d v
  | [], [], _, _ => .inl ⟨rfl, rfl⟩
  | [], _ :: _, e, _ => by cases e
  | _ :: _, [], e, _ => by cases e
  | (a, d) :: kvs, (b, v) :: ps, e, r => by
    simp only [List.map_cons, List.cons.injEq] at e
    simp only [List.map_cons, VRs] at r
    obtain ⟨v', r', q, r1, r2⟩ := r
    cases q
    obtain ⟨rfl, e2⟩ := e
    by_cases h : b = k
    · refine .inr ⟨d, v, by simp [dLook, h], by simp [valV, h], r1⟩
    · have h1 : dLook ((b, d) :: kvs) k = dLook kvs k := by simp [dLook, h]
      have h2 : valV ((b, v) :: ps) k = valV ps k := by simp [valV, h]
      rw [h1, h2]
      exact look_rel e2 r2
theorem any_rel {k : Key} : ∀ {kvs : List (Key × D)} {ps : List (Key × V)}, ps.map (·.1) = kvs.map (·.1) → (kvs.any fun p => decide (p.1 = k)) = (ps.any fun p => decide (p.1 = k))
  | [], [], _ => rfl
  | [], _ :: _, e => by cases e
  | _ :: _, [], e => by cases e
  | (a, d) :: kvs, (b, v) :: ps, e => by
    simp only [List.map_cons, List.cons.injEq] at e
    obtain ⟨rfl, e2⟩ := e
    simp only [List.any_cons]
    rw [any_rel e2]
theorem some_any {k : Key} : ∀ (ps : List (Key × V)), (valV ps k).isSome = (ps.any fun p => decide (p.1 = k))
  | [] => rfl
  | (b, v) :: ps => by
    by_cases h : b = k
    · simp [valV, h]
    · have h2 : valV ((b, v) :: ps) k = valV ps k := by simp [valV, h]
      rw [h2, some_any ps]
      simp [h]
theorem put_rel {K : PySem.W.Frag} {μ : Nat → Addr} {N : Nat} {H : Hp} {k : Key} {d : D} {v : V} (hd : VR K μ N H d v) {kvs : List (Key × D)} {ps : List (Key × V)} (e : ps.map (·.1) = kvs.map (·.1)) (r : VRs K μ N H (kvs.map (·.2)) (ps.map (·.2))) :
    (putK ps k v).map (·.1) = (dPut kvs k d).map (·.1) ∧ VRs K μ N H ((dPut kvs k d).map (·.2)) ((putK ps k v).map (·.2)) := by
  have go : ∀ {kvs : List (Key × D)} {ps : List (Key × V)}, ps.map (·.1) = kvs.map (·.1) → VRs K μ N H (kvs.map (·.2)) (ps.map (·.2)) →
      (ps.map (fun kv => if kv.1 = k then (kv.1, v) else kv)).map (·.1) = (kvs.map (fun kv => if kv.1 = k then (kv.1, d) else kv)).map (·.1) ∧
      VRs K μ N H ((kvs.map (fun kv => if kv.1 = k then (kv.1, d) else kv)).map (·.2)) ((ps.map (fun kv => if kv.1 = k then (kv.1, v) else kv)).map (·.2)) := by
    intro kvs
    induction kvs with
    | nil =>
      intro ps e r
      cases ps with
      | nil => exact ⟨rfl, by simp only [List.map_nil, VRs]⟩
      | cons _ _ => cases e
    | cons a kvs ih =>
      intro ps e r
      cases ps with
      | nil => cases e
      | cons b ps =>
        obtain ⟨a1, a2⟩ := a
        obtain ⟨b1, b2⟩ := b
        simp only [List.map_cons, List.cons.injEq] at e
        simp only [List.map_cons, VRs] at r
        obtain ⟨v', r', q, r1, r2⟩ := r
        cases q
        obtain ⟨rfl, e2⟩ := e
        obtain ⟨h1, h2⟩ := ih e2 r2
        by_cases h : b1 = k
        · simp only [List.map_cons, if_pos h, VRs]
          exact ⟨by rw [h1], v, _, rfl, hd, h2⟩
        · simp only [List.map_cons, if_neg h, VRs]
          exact ⟨by rw [h1], _, _, rfl, r1, h2⟩
  unfold putK dPut
  rw [any_rel e]
  by_cases c : (ps.any fun kv => decide (kv.1 = k)) = true
  · rw [if_pos c, if_pos c]
    exact go e r
  · rw [if_neg c, if_neg c]
    simp only [List.map_append, List.map_cons, List.map_nil]
    exact ⟨by rw [e], r.append (VRs.one hd)⟩
theorem look_any {k : Key} {kvs : List (Key × D)} : (kvs.any fun p => decide (p.1 = k)) = (dLook kvs k).isSome := by
  induction kvs with
  | nil => rfl
  | cons a kvs ih =>
    obtain ⟨a1, a2⟩ := a
    by_cases h : a1 = k
    · simp [dLook, h]
    · have h1 : dLook ((a1, a2) :: kvs) k = dLook kvs k := by simp [dLook, h]
      rw [h1, ← ih]
      simp [h]
theorem in_gen (hu : X.A.units + 64 < cLine) {pins : List (Addr × Obj)} {s : Shared} {σ : L2.St} {H : Hp} {Q : VK} (I : Inv X pins σ H s) {μ : Nat → Addr} {st : Store} (S : SR X.K cl μ st H) {d1 d2 : D} {x y : V} {v u : Value} {neg : Bool}
    (rx : RelV x v) (ry : RelV y u) (r1 : VR X.K μ st.nxt H d1 x) (r2 : VR X.K μ st.nxt H d2 y) {b : Bool} (e : inB d1 d2 st = some b) (h : Q (.bl (xor neg b)) H) :
    wpAny (model X.prog X.w) X.A (compareOp (if neg then .NotIn else .In) v u) (EP X pins σ Q) X.xe s := by
  unfold inB at e
  have seq : ∀ {ys : List D} {vs : List V} {p : Addr}, u = .ref p → (SqT X.K H p vs ∨ SqL X.K H p vs) → VRs X.K μ st.nxt H ys vs → (match toData st 20 d1, optL (toData st 20) ys with
      | some d, some ds => some (ds.any fun z => PyData.eqv z d)
      | _, _ => none) = some b → wpAny (model X.prog X.w) X.A (compareOp (if neg then .NotIn else .In) v u) (EP X pins σ Q) X.xe s := by
    intro ys vs p eu hp rs e
    cases q1 : toData st 20 d1 with
    | none => rw [q1] at e; cases e
    | some d =>
      cases q2 : optL (toData st 20) ys with
      | none => rw [q1, q2] at e; cases e
      | some ds =>
        rw [q1, q2] at e
        cases e
        exact in_seq hu I S r1 rx eu hp rs q1 q2 h
  have dic : ∀ {k : Key} {kvs : List (Key × D)} {m : Nat}, m < st.nxt → y = .ref (μ m) → st.at_ m = some (.dic kvs) → x = kV k → some (kvs.any fun p => decide (p.1 = k)) = some b → wpAny (model X.prog X.w) X.A (compareOp (if neg then .NotIn else .In) v u) (EP X pins σ Q) X.xe s := by
    intro k kvs m hm ey z ex e
    subst ey
    cases ry
    obtain ⟨ps, g1, g2, g3⟩ := S.get z
    have g : DGet H (μ m) x (valV ps k) := by rw [ex]; exact DGet.k g1
    rw [any_rel g2, ← some_any] at e
    cases e
    cases neg with
    | false => exact d_in (by omega) I g rx fun s3 I3 => ⟨.bl _, H, I3, rfl, by simpa using h⟩
    | true => exact d_notIn (by omega) I g rx fun s3 I3 => ⟨.bl _, H, I3, rfl, by simpa using h⟩
  cases d2 with
  | str z =>
    cases d1 with
    | str a =>
      simp only at e
      by_cases hl : a.length = 1
      · rw [if_pos hl] at e
        cases e
        simp only [VR] at r1 r2
        subst r1 r2
        cases neg with
        | false => exact op_in_sign pins s σ H _ _ v u Q I rx ry ⟨_, z, congrArg V.str (str_one hl), rfl, by simpa using h⟩
        | true => exact op_notIn_sign pins s σ H _ _ v u Q I rx ry ⟨_, z, congrArg V.str (str_one hl), rfl, by simpa using h⟩
      · rw [if_neg hl] at e; cases e
    | _ => cases e
  | tup ys =>
    simp only [VR] at r2
    obtain ⟨p, vs, rfl, s1, t1⟩ := r2
    cases ry
    exact seq rfl (.inl s1) t1 (by cases d1 <;> exact e)
  | rol ys =>
    simp only [VR] at r2
    obtain ⟨p, vs, rfl, s1, t1⟩ := r2
    cases ry
    exact seq rfl (.inr s1.sq) t1 (by cases d1 <;> exact e)
  | ref m =>
    simp only [VR] at r2
    obtain ⟨hm, rfl⟩ := r2
    have e' : (match st.at_ m with
      | some (.lst ys) => (match toData st 20 d1, optL (toData st 20) ys with
        | some d, some ds => some (ds.any fun z => PyData.eqv z d)
        | _, _ => none)
      | some (.dic kvs) => (match d1 with
        | .str a => some (kvs.any fun p => decide (p.1 = Sum.inr a))
        | .int a => some (kvs.any fun p => decide (p.1 = Sum.inl a))
        | _ => none)
      | _ => none) = some b := by cases d1 <;> exact e
    cases z : st.at_ m with
    | none => rw [z] at e'; cases e'
    | some c =>
      rw [z] at e'
      cases c with
      | lst ys =>
        obtain ⟨vs, g1, g2⟩ := S.get z
        cases ry
        exact seq rfl (.inr (SqL.of g1)) g2 e'
      | dic kvs =>
        cases d1 with
        | str a => simp only [VR] at r1; exact dic (k := Sum.inr a) hm rfl z r1 e'
        | int a => simp only [VR] at r1; exact dic (k := Sum.inl a) hm rfl z r1 e'
        | _ => cases e'
      | ins c fs => cases e'
  | _ => cases d1 <;> cases e
theorem o_in (hu : X.A.units + 64 < cLine) : OpS X cl (compareOp .In) fIn := by
  intro pins s σ H x y v u Q I rx ry ⟨μ, st, d1, d2, S, r1, r2, h⟩
  unfold fIn at h
  cases q : inB d1 d2 st with
  | none => rw [q] at h; exact h.elim
  | some b =>
    rw [q] at h
    exact in_gen (neg := false) hu I S rx ry r1 r2 q (by simpa using h μ H (.bl b) S Ev.refl (by simp only [VR]))
theorem o_nin (hu : X.A.units + 64 < cLine) : OpS X cl (compareOp .NotIn) fNin := by
  intro pins s σ H x y v u Q I rx ry ⟨μ, st, d1, d2, S, r1, r2, h⟩
  unfold fNin at h
  cases q : inB d1 d2 st with
  | none => rw [q] at h; exact h.elim
  | some b =>
    rw [q] at h
    exact in_gen (neg := true) hu I S rx ry r1 r2 q (by simpa using h μ H (.bl (!b)) S Ev.refl (by simp only [VR]))

/-! ### x[i] -/
def fIx : F2 := fun x y st => match x, y with
  | .tup xs, .int i => (atI xs i).map fun d => (d, st)
  | .rol xs, .int i => (atI xs i).map fun d => (d, st)
  | .str z, .int i => if z.length ≤ sizeLine then (atI z.cps.toList i).map fun c => (.str ⟨#[c]⟩, st) else none
  | .ref m, k => (match st.at_ m with
    | some (.lst xs) => (match k with
      | .int i => (atI xs i).map fun d => (d, st)
      | _ => none)
    | some (.dic kvs) => (match k with
      | .str a => (dLook kvs (Sum.inr a)).map fun d => (d, st)
      | .int a => (dLook kvs (Sum.inl a)).map fun d => (d, st)
      | _ => none)
    | _ => none)
  | _, _ => none
theorem VRs.atI {K : PySem.W.Frag} {μ : Nat → Addr} {N : Nat} {H : Hp} {ds : List D} {vs : List V} {i : Int} {d : D} (r : VRs K μ N H ds vs) (h : L2.atI ds i = some d) : ∃ v, L2.atI vs i = some v ∧ VR K μ N H d v := by
  unfold L2.atI at h ⊢
  rw [← r.length]
  cases q : ixN ds.length i with
  | none => rw [q] at h; cases h
  | some j =>
    rw [q] at h
    exact r.get h
theorem x_ix (hu : X.A.units + 64 < cLine) : IxR X (rdO X.K cl fIx) := by
  intro value slice pins s σ H x y v u Q I rx ry ⟨μ, st, d1, d2, S, r1, r2, h⟩ hs
  unfold fIx at h
  have dic : ∀ {k : Key} {kvs : List (Key × D)} {m : Nat}, m < st.nxt → x = .ref (μ m) → st.at_ m = some (.dic kvs) → y = kV k → PostO X.K cl (VR X.K) μ st.nxt H Q ((dLook kvs k).map fun d => (d, st)) → wpAny (model X.prog X.w) X.A (subscriptTail value slice v u) (EP X pins σ Q) X.xe s := by
    intro k kvs m hm ex z ey h
    subst ex
    cases rx
    obtain ⟨ps, g1, g2, g3⟩ := S.get z
    rcases look_rel (k := k) g2 g3 with ⟨e1, e2⟩ | ⟨d, w', e1, e2, r⟩
    · rw [e1] at h; exact h.elim
    · rw [e1] at h
      have g : DGet H (μ m) y (some w') := by rw [ey, ← e2]; exact DGet.k g1
      exact tail_any (dict_typeIs I g) PySem.F.slot_dict_getitem.lookup (d_getItem (by omega) I g ry fun w2 s3 I3 r3 => ⟨w', H, I3, r3, h μ H w' S Ev.refl r⟩) hs
  cases d1 with
  | tup xs =>
    cases d2 with
    | int i =>
      simp only [VR] at r1 r2
      obtain ⟨p, vs, rfl, s1, t1⟩ := r1
      subst r2
      simp only at h
      cases q : L2.atI xs i with
      | none => rw [q] at h; exact h.elim
      | some d =>
        rw [q] at h
        obtain ⟨w', e, r⟩ := t1.atI q
        exact ix_tup value slice pins s σ H _ _ v u Q I rx ry ⟨p, vs, i, w', rfl, rfl, s1, e, h μ H w' S Ev.refl r⟩ hs
    | _ => exact h.elim
  | rol xs =>
    cases d2 with
    | int i =>
      simp only [VR] at r1 r2
      obtain ⟨p, vs, rfl, s1, t1⟩ := r1
      subst r2
      simp only at h
      cases q : L2.atI xs i with
      | none => rw [q] at h; exact h.elim
      | some d =>
        rw [q] at h
        obtain ⟨w', e, r⟩ := t1.atI q
        exact ix_list value slice pins s σ H _ _ v u Q I rx ry ⟨p, vs, i, w', rfl, rfl, s1.sq, e, h μ H w' S Ev.refl r⟩ hs
    | _ => exact h.elim
  | str z =>
    cases d2 with
    | int i =>
      simp only [VR] at r1 r2
      subst r1 r2
      simp only at h
      by_cases hz : z.length ≤ sizeLine
      · rw [if_pos hz] at h
        cases q : L2.atI z.cps.toList i with
        | none => rw [q] at h; exact h.elim
        | some c =>
          rw [q] at h
          exact ix_str value slice pins s σ H _ _ v u Q I rx ry ⟨z, i, c, rfl, rfl, hz, q, h μ H _ S Ev.refl (by simp only [VR])⟩ hs
      · rw [if_neg hz] at h; exact h.elim
    | _ => exact h.elim
  | ref m =>
    simp only [VR] at r1
    obtain ⟨hm, rfl⟩ := r1
    simp only at h
    cases z : st.at_ m with
    | none => rw [z] at h; exact h.elim
    | some c =>
      rw [z] at h
      cases c with
      | lst xs =>
        cases d2 with
        | int i =>
          simp only [VR] at r2
          subst r2
          simp only at h
          cases q : L2.atI xs i with
          | none => rw [q] at h; exact h.elim
          | some d =>
            rw [q] at h
            obtain ⟨vs, g1, g2⟩ := S.get z
            obtain ⟨w', e, r⟩ := g2.atI q
            exact ix_list value slice pins s σ H _ _ v u Q I rx ry ⟨μ m, vs, i, w', rfl, rfl, SqL.of g1, e, h μ H w' S Ev.refl r⟩ hs
        | _ => exact h.elim
      | dic kvs =>
        cases d2 with
        | str a => simp only [VR] at r2; exact dic (k := Sum.inr a) hm rfl z r2 h
        | int a => simp only [VR] at r2; exact dic (k := Sum.inl a) hm rfl z r2 h
        | _ => exact h.elim
      | ins c fs => exact h.elim
  | _ => exact h.elim

/-! ### x[i:j] -/
abbrev MO := Loc → Store → Res (Option Int)
def rdP (K : PySem.W.Frag) (cl : CL) (W : WX) (m : MO) : TO := fun σ H Q => ∃ μ st l, SR K cl μ st H ∧ LR K μ st.nxt H l σ ∧ Post K cl Same_ μ st.nxt H Q (WE W σ) (m l st)
def moNone : MO := fun _ st => .ok none st
def moSome (m : ME) : MO := fun l st => (m l st).bind fun d st1 => match d with
  | .int i => .ok (some i) st1
  | _ => .bad
abbrev SO (X : Cx) (cl : CL) (W : WX) (e : Option Expr) (m : MO) : Prop := PO X e (rdP X.K cl W m)
theorem PO.weak {e : Option Expr} {t t' : TO} (h : PO X e t) (w : ∀ σ H Q, t' σ H Q → t σ H Q) : PO X e t' := ⟨fun pins s σ H Q I q => h.run pins s σ H Q I (w σ H Q q)⟩
theorem so_none {W : WX} : SO X cl W none moNone := PO.weak po_none fun σ H Q ⟨μ, st, l, S, L, h⟩ => h μ H none S Ev.refl rfl
theorem so_some {W : WX} {e : Expr} {m : ME} (he : SE X cl W e m) : SO X cl W (some e) (moSome m) := PO.weak (po_some he) fun σ H Q ⟨μ, st, l, S, L, h⟩ =>
  ⟨μ, st, l, S, L, Post.bind h fun d st1 μ1 H1 v _ S1 e1 r1 h1 => by
    cases d with
    | int i => simp only [VR] at r1; exact ⟨i, r1, h1 μ1 H1 (some i) S1 Ev.refl rfl⟩
    | _ => exact h1.elim⟩
def cutD (xs : List D) (lo hi : Option Int) : List D := (xs.drop (HT.sIx xs.length 0 lo)).take (HT.sIx xs.length xs.length hi - HT.sIx xs.length 0 lo)
def fSl (x : D) (lo hi : Option Int) (st : Store) : Option (D × Store) := match x with
  | .tup xs => some (.tup (cutD xs lo hi), st)
  | .rol xs => some (.ref st.nxt, st.new (.lst (cutD xs lo hi)))
  | .ref m => (match st.at_ m with
    | some (.lst xs) => some (.ref st.nxt, st.new (.lst (cutD xs lo hi)))
    | _ => none)
  | _ => none
theorem VRs.cut {K : PySem.W.Frag} {μ : Nat → Addr} {N : Nat} {H : Hp} {ds : List D} {vs : List V} (r : VRs K μ N H ds vs) (lo hi : Option Int) : VRs K μ N H (cutD ds lo hi) (cutV vs lo hi) := by
  unfold cutD cutV
  rw [r.length]
  exact (r.drop _).take _
theorem sIx_le (n d : Nat) (o : Option Int) (h : d ≤ n) : HT.sIx n d o ≤ n := HT.sIx_le _ _ h _
theorem x_sl : SlR X fun x lo hi H Q => ∃ μ st d, SR X.K cl μ st H ∧ VR X.K μ st.nxt H d x ∧ PostO X.K cl (VR X.K) μ st.nxt H Q (fSl d lo hi st) := by
  intro pins s σ H x v vl vu lo hi sl Q I rx hs pl pu ⟨μ, st, d, S, r, h⟩
  unfold fSl at h
  cases d with
  | tup xs =>
    simp only [VR] at r
    obtain ⟨p, vs, rfl, s1, t1⟩ := r
    simp only at h
    refine sl_tupA pins s σ H _ v vl vu lo hi sl Q I rx hs pl pu ⟨p, vs, rfl, s1, fun hw => ?_, fun hw a ha => ?_⟩
    · have e : cutD xs lo hi = xs := by
        unfold cutD
        rw [t1.length, hw.1, hw.2]
        rw [List.drop_zero]
        exact List.take_of_length_le (by rw [t1.length]; omega)
      rw [e] at h
      exact h μ H _ S Ev.refl (by simp only [VR]; exact ⟨p, vs, rfl, s1, t1⟩)
    · exact h μ _ _ (S.beside ha) (Ev.beside ha) (by simp only [VR]; exact ⟨a, _, rfl, SqT.of upd_same, (t1.cut lo hi).ev (Ev.beside ha)⟩)
  | rol xs =>
    simp only [VR] at r
    obtain ⟨p, vs, rfl, s1, t1⟩ := r
    exact sl_list pins s σ H _ v vl vu lo hi sl Q I rx hs pl pu ⟨p, vs, rfl, s1.sq, fun a ha => h _ _ _ (S.new_lst ha (t1.cut lo hi)) (Ev.new ha) (by simp only [VR]; exact ⟨Nat.lt_succ_self _, by rw [ext_same]⟩)⟩
  | ref m =>
    simp only [VR] at r
    obtain ⟨hm, rfl⟩ := r
    simp only at h
    cases z : st.at_ m with
    | none => rw [z] at h; exact h.elim
    | some c =>
      rw [z] at h
      cases c with
      | lst xs =>
        obtain ⟨vs, g1, t1⟩ := S.get z
        exact sl_list pins s σ H _ v vl vu lo hi sl Q I rx hs pl pu ⟨μ m, vs, rfl, SqL.of g1, fun a ha => h _ _ _ (S.new_lst ha (t1.cut lo hi)) (Ev.new ha) (by simp only [VR]; exact ⟨Nat.lt_succ_self _, by rw [ext_same]⟩)⟩
      | _ => exact h.elim
  | _ => exact h.elim
def mSl (a : ME) (lo hi : MO) : ME := fun l st => (a l st).bind fun x st1 => (lo l st1).bind fun i st2 => (hi l st2).bind fun j st3 => Res.ofO (fSl x i j st3)
theorem s_sl {W : WX} {e : Expr} {lo hi : Option Expr} {ma : ME} {mi mj : MO} {pos p2 : Pos} (he : SE X cl W e ma) (hl : SO X cl W lo mi) (hh : SO X cl W hi mj) : SE X cl W (.Subscript e (.Slice lo hi none p2) pos) (mSl ma mi mj) :=
  s_pe (pe_slice x_sl he hl hh) fun σ H Q ⟨μ, st, l, S, L, h⟩ => ⟨μ, st, l, S, L, Post.bind h fun x st1 μ1 H1 v _ S1 e1 r1 h1 => ⟨μ1, st1, l, S1, L.ev e1, Post.bind h1 fun i st2 μ2 H2 i' _ S2 e2 ri h2 =>
    ⟨μ2, st2, l, S2, L.ev (e1.trans e2), Post.bind h2 fun j st3 μ3 H3 j' _ S3 e3 rj h3 => by
      cases ri
      cases rj
      exact ⟨μ3, st3, x, S3, (r1.ev e2).ev e3, Post.ofO h3⟩⟩⟩⟩
end
end DV


set_option Elab.async false
set_option linter.all false
set_option maxRecDepth 100000
set_option  maxHeartbeats   4000000
/-! DV, part G: stores, methods, what Python brings. -/
namespace DV
open PySem PySem.Spec PyProof.Rows L2

/-! ### o[i] = v -/
def fSet (o i v : D) (st : Store) : Option Store := match o with
  | .ref m => (match st.at_ m with
    | some (.lst xs) => (match i with
      | .int k => (match ixN xs.length k with
        | some j => some (st.put m (.lst (xs.set j v)))
        | none => none)
      | _ => none)
    | some (.dic kvs) => if kvs.length < sizeLine then (match i with
      | .str a => some (st.put m (.dic (dPut kvs (Sum.inr a) v)))
      | .int a => some (st.put m (.dic (dPut kvs (Sum.inl a) v)))
      | _ => none) else none
    | _ => none)
  | _ => none
def rdSet (K : PySem.W.Frag) (cl : CL) : TSet := fun o i v H Q => ∃ μ st d1 d2 d3 st', SR K cl μ st H ∧ VR K μ st.nxt H d1 o ∧ VR K μ st.nxt H d2 i ∧ VR K μ st.nxt H d3 v ∧ fSet d1 d2 d3 st = some st' ∧ ∀ H', SR K cl μ st' H' → Ev K μ st.nxt H μ st'.nxt H' → Q H'
def msSub (m o i : ME) : MS := fun l st => (m l st).toS l fun d3 st1 => ((o l st1).toS l fun d1 st2 => (i l st2).toS l fun d2 st3 => match fSet d1 d2 d3 st3 with
  | some st4 => .nx l st4
  | none => .bad)
section
variable {X : Cx} {cl : CL}
theorem x_set (hu : X.A.units + 64 < cLine) : PSet X (rdSet X.K cl) := by
  intro pins s σ H o i v ov iv u Q I ro ri rv ⟨μ, st, d1, d2, d3, st', S, r1, r2, r3, e, h⟩
  unfold fSet at e
  cases d1 with
  | ref m =>
    simp only [VR] at r1
    obtain ⟨hm, rfl⟩ := r1
    simp only at e
    cases z : st.at_ m with
    | none => rw [z] at e; cases e
    | some c =>
      rw [z] at e
      cases c with
      | lst xs =>
        simp only at e
        cases d2 with
        | int k =>
          simp only at e
          simp only [VR] at r2
          subst r2
          obtain ⟨vs, g1, g2⟩ := S.get z
          cases q : ixN xs.length k with
          | none => rw [q] at e; cases e
          | some j =>
            rw [q] at e
            cases e
            have ob : CellOk X.K cl μ st.nxt (upd H (μ m) (.lst (vs.set j v))) (μ m) (.lst (xs.set j d3)) := ⟨_, upd_same, (g2.set r3 j).ev0 (Ev0.off g1 trivial)⟩
            obtain ⟨S', e'⟩ := S.put_ (c := .lst (xs.set j d3)) hm ob
            exact set_list pins s σ H _ _ v ov iv u Q I ro ri rv ⟨μ m, vs, k, j, rfl, rfl, g1, by rw [← g2.length]; exact q, h _ S' e'⟩
        | _ => cases e
      | dic kvs =>
        simp only at e
        obtain ⟨ps, g1, g2, g3⟩ := S.get z
        have ln : ps.length = kvs.length := by have := congrArg List.length g2; simpa using this
        have go : ∀ k : Key, i = kV k → st' = st.put m (.dic (dPut kvs k d3)) → kvs.length < sizeLine → wpAny (model X.prog X.w) X.A (setItem ov iv u) (fun _ s' => ∃ H', Inv X pins σ H' s' ∧ Q H') X.xe s := by
          intro k ek es hz
          subst es
          cases ro
          obtain ⟨p1, p2⟩ := put_rel (k := k) r3 g2 g3
          have ob : CellOk X.K cl μ st.nxt (upd H (μ m) (.dK (putK ps k v))) (μ m) (.dic (dPut kvs k d3)) := ⟨_, upd_same, p1, p2.ev0 (Ev0.off g1 trivial)⟩
          obtain ⟨S', e'⟩ := S.put_ (c := .dic (dPut kvs k d3)) hm ob
          have g : DPut H (μ m) i v (upd H (μ m) (.dK (putK ps k v))) := by rw [ek]; exact DPut.k g1 (by omega)
          exact d_setItem (by omega) I g ri rv fun s4 I4 => ⟨_, I4, h _ S' e'⟩
        by_cases hz : kvs.length < sizeLine
        · rw [if_pos hz] at e
          cases d2 with
          | str a => simp only [VR] at r2; cases e; exact go (Sum.inr a) r2 rfl hz
          | int a => simp only [VR] at r2; cases e; exact go (Sum.inl a) r2 rfl hz
          | _ => cases e
        · rw [if_neg hz] at e; cases e
      | ins c fs => cases e
  | _ => cases e
theorem ss_sub {W : WX} {o i e : Expr} {m mo mi : ME} {pos' pos : Pos} (hu : X.A.units + 64 < cLine) (he : SE X cl W e m) (ho : SE X cl W o mo) (hi : SE X cl W i mi)
    (ha : ∀ v, assign (.Subscript o i pos') X.env v = (do
      let ov ← holding [v] (eval o X.env)
      let iv ← holding [v, ov] (eval i X.env)
      standAt pos'
      holding [v, ov, iv] (setItem ov iv v)
      release [v, ov, iv] []) := by intro _; rfl)
    (hs : swapsWithSole [.Subscript o i pos'] e pos.line X.env = pure false := by rfl) (hw : swappedStores [.Subscript o i pos'] e X.env = pure none := by rfl)
    (h1 : (assignEach [.Subscript o i pos'] X.env).map (·.2) = [assign (.Subscript o i pos') X.env] := by rfl) : SS X cl W (.Assign [.Subscript o i pos'] e pos) (msSub m mo mi) :=
  PS.weak (ps_asg he (pg_sub ho hi (x_set hu) ha) hs hw h1) fun E σ H ⟨μ, st, l, S, L, h⟩ => ⟨μ, st, l, S, L, PostS.bind h L fun d3 st1 μ1 H1 v _ S1 e1 r1 h1 =>
    ⟨μ1, st1, l, S1, L.ev e1, PostS.bind h1 (L.ev e1) fun d1 st2 μ2 H2 w _ S2 e2 r2 h2 => ⟨μ2, st2, l, S2, L.ev (e1.trans e2), PostS.bind h2 (L.ev (e1.trans e2)) fun d2 st3 μ3 H3 z _ S3 e3 r3 h3 => by
      cases q : fSet d1 d2 d3 st3 with
      | none => rw [q] at h3; exact h3.elim
      | some st4 =>
        rw [q] at h3
        exact ⟨μ3, st3, d1, d2, d3, st4, S3, r2.ev e3, r3, (r1.ev e2).ev e3, q, fun H4 S4 e4 => h3 μ3 H4 σ S4 e4 (L.ev (e1.trans (e2.trans (e3.trans e4))))⟩⟩⟩⟩

/-! ### methods -/
def tyD (T : String) (x : D) (st : Store) : Bool := match x with
  | .str _ => T == "str"
  | .ref m => (match st.at_ m with
    | some (.lst _) => T == "list"
    | some (.dic _) => T == "dict"
    | _ => false)
  | _ => false
theorem tyD_ok {K : PySem.W.Frag} {μ : Nat → Addr} {st : Store} {H : Hp} {T : String} {x : D} {v : V} (S : SR K cl μ st H) (r : VR K μ st.nxt H x v) (h : tyD T x st = true) : tyV K T v H := by
  unfold tyD at h
  cases x with
  | str a =>
    simp only [VR] at r
    subst r
    exact beq_iff_eq.mp h
  | ref m =>
    simp only [VR] at r
    obtain ⟨hm, rfl⟩ := r
    simp only at h
    cases z : st.at_ m with
    | none => rw [z] at h; cases h
    | some c =>
      rw [z] at h
      cases c with
      | lst xs => obtain ⟨vs, g, _⟩ := S.get z; exact .inl ⟨beq_iff_eq.mp h, vs, SqL.of g⟩
      | dic kvs => obtain ⟨ps, g, _⟩ := S.get z; exact .inr (.inr (.inl ⟨beq_iff_eq.mp h, .inl ⟨ps, g⟩⟩))
      | ins c fs => cases h
  | _ => cases h
def mM (T : String) (f : D → FL) (o : ME) (a : MA) : ME := fun l st => (o l st).bind fun x st1 => if tyD T x st1 then (a l st1).bind fun xs st2 => Res.ofO (f x xs st2) else .bad
theorem s_bm {W : WX} {o e : Expr} {es : List Expr} {mo : ME} {xs : MA} {name : Str} {apos cpos : Pos} {T id : String} {f : D → FL} (pa : PlainAttrs T) (slot : Slot T name id) (hty : typeOf (.builtin id) = pure (.type "method_descriptor"))
    (hm : MtR X id (rdM X.K cl f)) (ho : SE X cl W o mo) (ha : SA X cl W (e :: es) xs) (hbase : attributeBase o name X.env (eval o X.env) = eval o X.env := by rfl)
    (hfew : ((backTo cpos (starEach (e :: es) X.env)).all (fun x => !x.1) && (backToKw cpos (keywordEach [] X.env)).all (fun x => x.1.isSome)
      && decide ((e :: es).length + ([] : List Keyword).length + (if ([] : List Keyword).isEmpty then 0 else 1) < 30)) = true := by rfl)
    (hline : (apos.endLine == cpos.line) = true := by rfl) (hs : starEach (e :: es) X.env = (false, eval e X.env) :: starEach es X.env := by rfl) (hplain : (backTo cpos (starEach es X.env)).any (·.1) = false := by rfl) :
    SE X cl W (.Call (.Attribute o name apos) (e :: es) [] cpos) (mM T f mo xs) :=
  s_pe (pe_bm pa slot hty hm ho ha hbase hfew hline hs hplain) fun σ H Q ⟨μ, st, l, S, L, h⟩ => ⟨μ, st, l, S, L, Post.bind h fun x st1 μ1 H1 v _ S1 e1 r1 h1 => by
    by_cases c : tyD T x st1 = true
    · rw [if_pos c] at h1
      exact ⟨tyD_ok S1 r1 c, μ1, st1, l, S1, L.ev e1, Post.bind h1 fun ys st2 μ2 H2 vs _ S2 e2 r2 h2 => ⟨μ2, st2, x, ys, S2, r1.ev e2, r2, Post.ofO h2⟩⟩
    · rw [if_neg c] at h1; exact h1.elim⟩
def fAppend : D → FL := fun x xs st => match x, xs with
  | .ref m, [y] => (match st.at_ m with
    | some (.lst zs) => if zs.length < sizeLine then some (.non, st.put m (.lst (zs ++ [y]))) else none
    | _ => none)
  | _, _ => none
theorem m_append : MtR X "list.append" (rdM X.K cl fAppend) := by
  intro pins s σ H x xs v us Q I rx rxs ⟨μ, st, d, ds, S, r1, r2, h⟩
  unfold fAppend at h
  cases d with
  | ref m =>
    match ds, r2, h with
    | [y], r2, h =>
      simp only [VR] at r1
      simp only [VRs] at r2
      obtain ⟨hm, rfl⟩ := r1
      obtain ⟨w, _, rfl, ry, rfl⟩ := r2
      simp only at h
      cases z : st.at_ m with
      | none => rw [z] at h; exact h.elim
      | some c =>
        rw [z] at h
        cases c with
        | lst zs =>
          simp only at h
          by_cases hz : zs.length < sizeLine
          · rw [if_pos hz] at h
            obtain ⟨vs, g1, g2⟩ := S.get z
            have ob : CellOk X.K cl μ st.nxt (upd H (μ m) (.lst (vs ++ [w]))) (μ m) (.lst (zs ++ [y])) := ⟨_, upd_same, (g2.append (VRs.one ry)).ev0 (Ev0.off g1 trivial)⟩
            obtain ⟨S', e'⟩ := S.put_ (c := .lst (zs ++ [y])) hm ob
            exact mt_append pins s σ H _ _ v us Q I rx rxs ⟨μ m, vs, w, rfl, rfl, g1, by rw [← g2.length]; exact hz, h μ _ .non S' e' (by simp only [VR])⟩
          · rw [if_neg hz] at h; exact h.elim
        | _ => exact h.elim
    | [], _, h => exact h.elim
    | _ :: _ :: _, _, h => exact h.elim
  | _ => exact h.elim
theorem s_append {W : WX} {o e : Expr} {mo me : ME} {apos cpos : Pos} (ho : SE X cl W o mo) (he : SE X cl W e me) (hbase : attributeBase o "append" X.env (eval o X.env) = eval o X.env := by rfl)
    (hfew : ((backTo cpos (starEach [e] X.env)).all (fun x => !x.1) && (backToKw cpos (keywordEach [] X.env)).all (fun x => x.1.isSome)
      && decide (([e] : List Expr).length + ([] : List Keyword).length + (if ([] : List Keyword).isEmpty then 0 else 1) < 30)) = true := by rfl)
    (hline : (apos.endLine == cpos.line) = true := by rfl) (hs : starEach [e] X.env = (false, eval e X.env) :: starEach [] X.env := by rfl) (hplain : (backTo cpos (starEach [] X.env)).any (·.1) = false := by rfl) :
    SE X cl W (.Call (.Attribute o "append" apos) [e] [] cpos) (mM "list" fAppend mo (maCons me maNil)) :=
  s_bm PySem.F.plainAttrs_list PySem.F.slot_list_append PySem.F.type_list_append m_append ho (sa_cons he sa_nil hs) hbase hfew hline hs hplain

/-! ### what Python brings, by name -/
/-- of one thing -/
def f1 (f : D → Store → Option (D × Store)) : FL := fun xs st => match xs with
  | [x] => f x st
  | _ => none
theorem c_one {v : Value} {f : D → Store → Option (D × Store)} (h : ∀ (pins : List (Addr × Obj)) (s : Shared) (σ : L2.St) (H : Hp) (x : V) (us : List Value) (Q : VK) (μ : Nat → Addr) (st : Store) (d : D), Inv X pins σ H s → Vals [x] us → SR X.K cl μ st H → VR X.K μ st.nxt H d x →
      PostO X.K cl (VR X.K) μ st.nxt H Q (f d st) → wpAny (model X.prog X.w) X.A (call v us) (EP X pins σ Q) X.xe s) : CallS X cl v (f1 f) := by
  intro pins s σ H xs us Q I r ⟨μ, st, ds, S, rs, q⟩
  match ds, rs, q with
  | [d], rs, q =>
    simp only [VRs] at rs
    obtain ⟨x, _, rfl, rd, rfl⟩ := rs
    exact h pins s σ H x us Q μ st d I r S rd q
  | [], _, q => exact q.elim
  | _ :: _ :: _, _, q => exact q.elim
def lenD (x : D) (st : Store) : Option (D × Store) := match x with
  | .str z => if z.length ≤ sizeLine then some (.int z.length, st) else none
  | .tup xs => some (.int xs.length, st)
  | .rol xs => some (.int xs.length, st)
  | .ref m => (match st.at_ m with
    | some (.lst xs) => some (.int xs.length, st)
    | some (.dic kvs) => some (.int kvs.length, st)
    | _ => none)
  | _ => none
theorem c_len : CallS X cl (.builtin "len") (f1 lenD) := c_one fun pins s σ H x us Q μ st d I r S rd h => by
  unfold lenD at h
  cases d with
  | str z =>
    simp only [VR] at rd
    subst rd
    simp only at h
    by_cases hz : z.length ≤ sizeLine
    · rw [if_pos hz] at h
      exact call_len pins s σ H _ us Q I r ⟨_, z.length, rfl, ⟨hz, rfl⟩, h μ H _ S Ev.refl (by simp only [VR])⟩
    · rw [if_neg hz] at h; exact h.elim
  | tup xs =>
    simp only [VR] at rd
    obtain ⟨p, vs, rfl, s1, t1⟩ := rd
    exact call_len pins s σ H _ us Q I r ⟨_, vs.length, rfl, .inr ⟨vs, s1, rfl⟩, h μ H _ S Ev.refl (by simp only [VR]; rw [t1.length])⟩
  | rol xs =>
    simp only [VR] at rd
    obtain ⟨p, vs, rfl, s1, t1⟩ := rd
    exact call_len pins s σ H _ us Q I r ⟨_, vs.length, rfl, .inl ⟨vs, s1.sq, rfl⟩, h μ H _ S Ev.refl (by simp only [VR]; rw [t1.length])⟩
  | ref m =>
    simp only [VR] at rd
    obtain ⟨hm, rfl⟩ := rd
    simp only at h
    cases z : st.at_ m with
    | none => rw [z] at h; exact h.elim
    | some c =>
      rw [z] at h
      cases c with
      | lst xs =>
        obtain ⟨vs, g1, t1⟩ := S.get z
        exact call_len pins s σ H _ us Q I r ⟨_, vs.length, rfl, .inl ⟨vs, SqL.of g1, rfl⟩, h μ H _ S Ev.refl (by simp only [VR]; rw [t1.length])⟩
      | dic kvs =>
        obtain ⟨ps, g1, g2, g3⟩ := S.get z
        have ln : ps.length = kvs.length := by have := congrArg List.length g2; simpa using this
        exact call_lenD pins s σ H _ us Q I r ⟨_, ps, rfl, g1, h μ H _ S Ev.refl (by simp only [VR]; rw [ln])⟩
      | ins c fs => exact h.elim
  | _ => exact h.elim
def absD (x : D) (st : Store) : Option (D × Store) := match x with
  | .int i => some (.int (if i < 0 then -i else i), st)
  | _ => none
theorem c_abs : CallS X cl (.builtin "abs") (f1 absD) := c_one fun pins s σ H x us Q μ st d I r S rd h => by
  unfold absD at h
  cases d with
  | int i =>
    simp only [VR] at rd
    subst rd
    exact call_abs pins s σ H _ us Q I r ⟨i, rfl, h μ H _ S Ev.refl (by simp only [VR])⟩
  | _ => exact h.elim
def intD (x : D) (st : Store) : Option (D × Store) := match x with
  | .int i => some (.int i, st)
  | _ => none
theorem c_int : CallS X cl (.type "int") (f1 intD) := c_one fun pins s σ H x us Q μ st d I r S rd h => by
  unfold intD at h
  cases d with
  | int i =>
    simp only [VR] at rd
    subst rd
    exact call_int1 pins s σ H _ us Q I r (.inl ⟨i, rfl, h μ H _ S Ev.refl (by simp only [VR])⟩)
  | _ => exact h.elim
def listD (x : D) (st : Store) : Option (D × Store) := match x with
  | .tup xs => some (.ref st.nxt, st.new (.lst xs))
  | .rol xs => some (.ref st.nxt, st.new (.lst xs))
  | .ref m => (match st.at_ m with
    | some (.lst xs) => some (.ref st.nxt, st.new (.lst xs))
    | _ => none)
  | _ => none
theorem c_list : CallS X cl (.type "list") (f1 listD) := c_one fun pins s σ H x us Q μ st d I r S rd h => by
  unfold listD at h
  have go : ∀ {p : Addr} {ys : List D} {vs : List V}, x = .ref p → (SqL X.K H p vs ∨ SqT X.K H p vs) → VRs X.K μ st.nxt H ys vs → PostO X.K cl (VR X.K) μ st.nxt H Q (some (.ref st.nxt, st.new (.lst ys))) → wpAny (model X.prog X.w) X.A (call (.type "list") us) (EP X pins σ Q) X.xe s := by
    intro p ys vs ex hp t1 h
    exact call_list_of pins s σ H _ us Q I r ⟨p, vs, by rw [ex], hp, fun a ha => h _ _ _ (S.new_lst ha t1) (Ev.new ha) (by simp only [VR]; exact ⟨Nat.lt_succ_self _, by rw [ext_same]⟩)⟩
  cases d with
  | tup xs =>
    simp only [VR] at rd
    obtain ⟨p, vs, rfl, s1, t1⟩ := rd
    exact go rfl (.inr s1) t1 h
  | rol xs =>
    simp only [VR] at rd
    obtain ⟨p, vs, rfl, s1, t1⟩ := rd
    exact go rfl (.inl s1.sq) t1 h
  | ref m =>
    simp only [VR] at rd
    obtain ⟨hm, rfl⟩ := rd
    simp only at h
    cases z : st.at_ m with
    | none => rw [z] at h; exact h.elim
    | some c =>
      rw [z] at h
      cases c with
      | lst xs => obtain ⟨vs, g1, t1⟩ := S.get z; exact go rfl (.inl (SqL.of g1)) t1 h
      | _ => exact h.elim
  | _ => exact h.elim
def tupleD (x : D) (st : Store) : Option (D × Store) := match x with
  | .tup xs => some (.tup xs, st)
  | .ref m => (match st.at_ m with
    | some (.lst xs) => some (.tup xs, st)
    | _ => none)
  | _ => none
theorem c_tuple : CallS X cl (.type "tuple") (f1 tupleD) := c_one fun pins s σ H x us Q μ st d I r S rd h => by
  unfold tupleD at h
  cases d with
  | tup xs =>
    have rd' := rd
    simp only [VR] at rd
    obtain ⟨p, vs, rfl, s1, t1⟩ := rd
    exact call_tuple_of pins s σ H _ us Q I r ⟨p, vs, rfl, .inr ⟨s1, h μ H _ S Ev.refl rd'⟩⟩
  | ref m =>
    simp only [VR] at rd
    obtain ⟨hm, rfl⟩ := rd
    simp only at h
    cases z : st.at_ m with
    | none => rw [z] at h; exact h.elim
    | some c =>
      rw [z] at h
      cases c with
      | lst xs =>
        obtain ⟨vs, g1, t1⟩ := S.get z
        exact call_tuple_of pins s σ H _ us Q I r ⟨_, vs, rfl, .inl ⟨SqL.of g1, fun a ha => h μ _ (.ref a) (S.beside ha) (Ev.beside ha) (by simp only [VR]; exact ⟨a, vs, rfl, SqT.of upd_same, t1.ev (Ev.beside ha)⟩)⟩⟩
      | _ => exact h.elim
  | _ => exact h.elim
def dictD (x : D) (st : Store) : Option (D × Store) := match x with
  | .ref m => (match st.at_ m with
    | some (.dic kvs) => some (.ref st.nxt, st.new (.dic kvs))
    | _ => none)
  | _ => none
theorem c_dict : CallS X cl (.type "dict") (f1 dictD) := c_one fun pins s σ H x us Q μ st d I r S rd h => by
  unfold dictD at h
  cases d with
  | ref m =>
    simp only [VR] at rd
    obtain ⟨hm, rfl⟩ := rd
    simp only at h
    cases z : st.at_ m with
    | none => rw [z] at h; exact h.elim
    | some c =>
      rw [z] at h
      cases c with
      | dic kvs =>
        obtain ⟨ps, g1, g2, g3⟩ := S.get z
        exact call_dictD pins s σ H _ us Q I r ⟨_, ps, rfl, .inl g1, fun a ha => h _ _ _ (S.new_dic ha g2 g3) (Ev.new ha) (by simp only [VR]; exact ⟨Nat.lt_succ_self _, by rw [ext_same]⟩)⟩
      | _ => exact h.elim
  | _ => exact h.elim
/-- a list's truth values -/
def boolsD : List D → Option (List Bool)
  | [] => some []
  | .bl b :: r => (boolsD r).map (b :: ·)
  | _ :: _ => none
theorem bools_rel {K : PySem.W.Frag} {μ : Nat → Addr} {N : Nat} {H : Hp} : ∀ {ds : List D} {vs : List V} {bs : List Bool}, VRs K μ N H ds vs → boolsD ds = some bs → vs = bs.map V.bl
  | [], vs, bs, r, h => by
    cases h
    simp only [VRs] at r
    exact r
  | d :: ds, vs, bs, r, h => by
    simp only [VRs] at r
    obtain ⟨v, vr, rfl, r1, r2⟩ := r
    cases d with
    | bl b =>
      simp only [VR] at r1
      subst r1
      simp only [boolsD] at h
      cases q : boolsD ds with
      | none => rw [q] at h; cases h
      | some cs =>
        rw [q] at h
        cases h
        rw [bools_rel r2 q]
        rfl
    | _ => cases h
def allD (all : Bool) (x : D) (st : Store) : Option (D × Store) := match x with
  | .ref m => (match st.at_ m with
    | some (.lst xs) => (boolsD xs).map fun bs => (.bl (if all then bs.all id else bs.any id), st)
    | _ => none)
  | _ => none
theorem c_all (hc : X.calm = true) : CallS X cl (.builtin "all") (f1 (allD true)) := c_one fun pins s σ H x us Q μ st d I r S rd h => by
  unfold allD at h
  cases d with
  | ref m =>
    simp only [VR] at rd
    obtain ⟨hm, rfl⟩ := rd
    simp only at h
    cases z : st.at_ m with
    | none => rw [z] at h; exact h.elim
    | some c =>
      rw [z] at h
      cases c with
      | lst xs =>
        obtain ⟨vs, g1, t1⟩ := S.get z
        simp only at h
        cases q : boolsD xs with
        | none => rw [q] at h; exact h.elim
        | some bs =>
          rw [q] at h
          have e := bools_rel t1 q
          subst e
          exact cr_all hc pins s σ H _ us Q I r ⟨_, bs, rfl, SqL.of g1, h μ H _ S Ev.refl (by simp only [VR]; rfl)⟩
      | _ => exact h.elim
  | _ => exact h.elim
theorem c_any (hc : X.calm = true) : CallS X cl (.builtin "any") (f1 (allD false)) := c_one fun pins s σ H x us Q μ st d I r S rd h => by
  unfold allD at h
  cases d with
  | ref m =>
    simp only [VR] at rd
    obtain ⟨hm, rfl⟩ := rd
    simp only at h
    cases z : st.at_ m with
    | none => rw [z] at h; exact h.elim
    | some c =>
      rw [z] at h
      cases c with
      | lst xs =>
        obtain ⟨vs, g1, t1⟩ := S.get z
        simp only at h
        cases q : boolsD xs with
        | none => rw [q] at h; exact h.elim
        | some bs =>
          rw [q] at h
          have e := bools_rel t1 q
          subst e
          exact cr_any hc pins s σ H _ us Q I r ⟨_, bs, rfl, SqL.of g1, h μ H _ S Ev.refl (by simp only [VR]; rfl)⟩
      | _ => exact h.elim
  | _ => exact h.elim
/-- max, min of two ints -/
def f2I (g : Int → Int → Int) : FL := fun xs st => match xs with
  | [.int i, .int j] => some (.int (g i j), st)
  | _ => none
theorem c_two {v : Value} {g : Int → Int → Int} (h : CallR X v (fun xs H Q => ∃ i j, xs = [.int i, .int j] ∧ Q (.int (g i j)) H)) : CallS X cl v (f2I g) := by
  intro pins s σ H xs us Q I r ⟨μ, st, ds, S, rs, q⟩
  unfold f2I at q
  split at q
  · simp only [VRs, VR] at rs
    obtain ⟨_, _, rfl, rfl, _, _, rfl, rfl, rfl⟩ := rs
    exact h pins s σ H _ us Q I r ⟨_, _, rfl, q μ H _ S Ev.refl (by simp only [VR])⟩
  · exact q.elim
def maxI (i j : Int) : Int := if j > i then j else i
def minI (i j : Int) : Int := if j < i then j else i
theorem c_max2 (hc : X.calm = true) : CallS X cl (.builtin "max") (f2I maxI) := c_two (call_max2 hc)
theorem c_min2 (hc : X.calm = true) : CallS X cl (.builtin "min") (f2I minI) := c_two (call_min2 hc)

/-! ### repr of lists and tuples -/
def reprD (x : D) (st : Store) : Option (D × Store) := match x with
  | .tup _ => (match toData st 20 x with
    | some d => if d.showable = true ∧ d.shown.length ≤ sizeLine then some (.str d.shown, st) else none
    | none => none)
  | .ref _ => (match toData st 20 x with
    | some d => if d.showable = true ∧ d.shown.length ≤ sizeLine then some (.str d.shown, st) else none
    | none => none)
  | .non => some (.str "None", st)
  | .bl b => some (.str (if b then "True" else "False"), st)
  | _ => none
theorem c_repr {k : Nat} (hr : RoomG k X.A) : CallS X cl (.builtin "repr") (f1 reprD) := c_one fun pins s σ H x us Q μ st d I r S rd h => by
  have go : ∀ {p : Addr}, x = .ref p → PostO X.K cl (VR X.K) μ st.nxt H Q (match toData st 20 d with
    | some d => if d.showable = true ∧ d.shown.length ≤ sizeLine then some (.str d.shown, st) else none
    | none => none) → wpAny (model X.prog X.w) X.A (call (.builtin "repr") us) (EP X pins σ Q) X.xe s := by
    intro p ex h
    cases q : toData st 20 d with
    | none => rw [q] at h; exact h.elim
    | some t =>
      rw [q] at h
      simp only at h
      by_cases c : t.showable = true ∧ t.shown.length ≤ sizeLine
      · rw [if_pos c] at h
        subst ex
        rw [Vals.ref1 r]
        obtain ⟨as, rr⟩ := reads_of I S rd (u := .ref p) rfl q
        have dp := toData_depth 20 d t q
        have hu := hr.hu
        refine repr_of_reads' rr c.1 (PyData.noDict_hsm (PyData.hasDict_of_canLay t (toData_lay 20 d t q))) hr.g (by omega) (fun b o e => e) (fun h' u tk hk => ?_) c.2
        exact ⟨.str t.shown, H, I.kept hk, ⟨u, rfl⟩, h μ H _ S Ev.refl (by simp only [VR])⟩
      · rw [if_neg c] at h; exact h.elim
  unfold reprD at h
  cases d with
  | tup xs =>
    have rd' := rd
    simp only [VR] at rd'
    obtain ⟨p, vs, e, _⟩ := rd'
    exact go e h
  | ref m =>
    have rd' := rd
    simp only [VR] at rd'
    exact go rd'.2 h
  | non =>
    simp only [VR] at rd
    subst rd
    obtain ⟨u, rfl, hu⟩ := vals1 r
    obtain rfl : u = .none := hu
    exact PySem.P.repr_of_none ⟨.str "None", H, I.tok _, ⟨_, rfl⟩, h μ H _ S Ev.refl (by simp only [VR])⟩
  | bl b =>
    simp only [VR] at rd
    subst rd
    obtain ⟨u, rfl, hu⟩ := vals1 r
    obtain rfl : u = .bool b := hu
    exact PySem.P.repr_of_bool ⟨.str (if b then "True" else "False"), H, I.tok _, ⟨_, rfl⟩, h μ H _ S Ev.refl (by simp only [VR])⟩
  | _ => exact h.elim
end
end DV


set_option Elab.async false
set_option linter.all false
set_option maxRecDepth 100000
set_option  maxHeartbeats   4000000
/-! DV, part H: more operators, isinstance, dict displays, what is walked. -/
namespace DV
open PySem PySem.Spec PyProof.Rows L2

section
variable {X : Cx} {cl : CL} {W : WX}
theorem o_ge : OpS X cl (compareOp .GtE) fGe := by
  intro pins s σ H x y v u Q I rx ry ⟨μ, st, d1, d2, S, r1, r2, h⟩
  unfold fGe at h
  cases d1 with
  | int i =>
    cases d2 with
    | int j =>
      simp only [VR] at r1 r2
      subst r1 r2
      exact op_ge pins s σ H _ _ v u Q I rx ry ⟨i, j, rfl, rfl, h μ H _ S Ev.refl (by simp only [VR])⟩
    | _ => exact h.elim
  | str i =>
    cases d2 with
    | str j =>
      simp only [VR] at r1 r2
      subst r1 r2
      exact op_ge_str pins s σ H _ _ v u Q I rx ry ⟨i, j, rfl, rfl, h μ H _ S Ev.refl (by simp only [VR])⟩
    | _ => exact h.elim
  | _ => exact h.elim
def fFdiv : F2 := fI CDiv fun i j => .int (i / j)
theorem o_fdiv : OpS X cl (binaryOp .FloorDiv) fFdiv := o_I op_fdiv fun _ _ _ _ _ => by simp only [VR]

/-! ### isinstance -/
inductive TyN where
  | b (n : String)
  | o (c : Nat)
def tyN (st : Store) : D → Option TyN
  | .non => some (.b "NoneType")
  | .bl _ => some (.b "bool")
  | .int _ => some (.b "int")
  | .str _ => some (.b "str")
  | .tup _ => some (.b "tuple")
  | .rol _ => some (.b "list")
  | .ref m => (match st.at_ m with
    | some (.lst _) => some (.b "list")
    | some (.dic _) => some (.b "dict")
    | some (.ins c _) => some (.o c)
    | none => none)
  | .cst _ => none
def tyV (cl : CL) : TyN → Value
  | .b n => .type n
  | .o c => .ref (cl c)
/-- what of an own class is asked for isinstance -/
structure ClsA (K : PySem.W.Frag) (C : Addr) : Prop where
  cl : Cls K C
  ha : PySem.W.findIn K (.ref C) "__class__" = some (some (.builtin "object.__class__"))
  hn : PySem.W.specialIn K (.builtin "object.__class__") "__get__" = some (some (.builtin "getset_descriptor.__get__"))
  htk : PySem.W.takesIn K (.builtin "object.__class__") = some true
  hm : PySem.W.mroIn K C (.type "object") = some true
theorem tyN_ok {K : PySem.W.Frag} {μ : Nat → Addr} {H : Hp} {st : Store} {d : D} {v : V} {t : TyN} (S : SR K cl μ st H) (r : VR K μ st.nxt H d v) (h : tyN st d = some t) (hc : ∀ c, t = .o c → ClsA K (cl c)) : TyX K H v (tyV cl t) := by
  unfold tyN at h
  cases d with
  | non => cases h; simp only [VR] at r; subst r; exact .base .non
  | bl b => cases h; simp only [VR] at r; subst r; exact .base (.bl b)
  | int b => cases h; simp only [VR] at r; subst r; exact .base (.int b)
  | str b => cases h; simp only [VR] at r; subst r; exact .base (.str b)
  | cst w => cases h
  | tup xs =>
    cases h
    simp only [VR] at r
    obtain ⟨p, vs, rfl, r1, r2⟩ := r
    rcases r1 with (h | ⟨u, h⟩) | ⟨o, its, n, h1, h2, h3, h4, h5⟩
    · exact .base (.tup h)
    · exact .fTuple h
    · exact .kTuple h1 h2
  | rol xs =>
    cases h
    simp only [VR] at r
    obtain ⟨p, vs, rfl, r1, r2⟩ := r
    rcases r1 with ⟨u, h⟩ | ⟨o, its, n, h1, h2, h3, h4, h5, _⟩
    · exact .base (.frz h)
    · exact .kList h1 h2
  | ref m =>
    simp only [VR] at r
    obtain ⟨hm, rfl⟩ := r
    simp only at h
    cases z : st.at_ m with
    | none => rw [z] at h; cases h
    | some c =>
      rw [z] at h
      have g := S.get z
      cases c with
      | lst xs => cases h; obtain ⟨vs, g1, _⟩ := g; exact .base (.lst g1)
      | dic kvs => cases h; obtain ⟨ps, g1, _⟩ := g; exact .base (.dK g1)
      | ins c fs =>
        cases h
        obtain ⟨dx, ps, g1, _⟩ := g
        have := hc c rfl
        exact .base (.ins g1 this.cl this.ha this.hn this.htk this.hm)
/-- isinstance(x, T): f tells by the type -/
def isiD (f : TyN → Option Bool) : D → Store → Option (D × Store) := fun d st => (tyN st d).bind fun t => (f t).map fun b => (.bl b, st)
/-- what f tells is so -/
structure IsiOk (K : PySem.W.Frag) (cl : CL) (u : Value) (f : TyN → Option Bool) : Prop where
  one : ∀ t b, f t = some b → PySem.W.kitOne K (tyV cl t) u = some b
  own : ∀ c b, f (.o c) = some b → ClsA K (cl c)
def fTy (n : String) : TyN → Option Bool
  | .b m => kitB m n
  | .o _ => none
theorem isi_ty {K : PySem.W.Frag} {n : String} : IsiOk K cl (.type n) (fTy n) where
  one := fun t b h => by
    cases t with
    | b m => exact kit_ty h
    | o c => cases h
  own := fun c b h => by cases h
def fOwn (c : Nat) (bs : List String) : TyN → Option Bool
  | .b m => if m ∈ bs then some false else none
  | .o c' => if c' = c then some true else none
theorem isi_own {K : PySem.W.Frag} {c : Nat} {bs : List String} (A : ClsA K (cl c)) (hb : ∀ m ∈ bs, PySem.W.kitOne K (.type m) (.ref (cl c)) = some false) (h1 : PySem.W.kitOne K (.ref (cl c)) (.ref (cl c)) = some true) : IsiOk K cl (.ref (cl c)) (fOwn c bs) where
  one := fun t b h => by
    cases t with
    | b m =>
      unfold fOwn at h
      simp only at h
      by_cases z : m ∈ bs
      · rw [if_pos z] at h; cases h; exact hb m z
      · rw [if_neg z] at h; cases h
    | o c' =>
      unfold fOwn at h
      simp only at h
      by_cases z : c' = c
      · rw [if_pos z] at h; cases h; subst z; exact h1
      · rw [if_neg z] at h; cases h
  own := fun c' b h => by
    unfold fOwn at h
    simp only at h
    by_cases z : c' = c
    · rw [z]; exact A
    · rw [if_neg z] at h; cases h
/-- a built-in class, an own class as a value: the second thing that isinstance is given -/
structure ClsE (X : Cx) (e : Expr) (v : V) (u : Value) : Prop where
  pe : PE X e (tC v)
  cls : ClsV v u
theorem ce_ty {x : Str} {n : String} {pos : Pos} (hg : Gl X x) (hm : X.mg x = none) (hv : bootBuiltins x = some (.type n)) (hn : x ≠ "__name__" := by decide) (hd : (x == ("__debug__" : Str)) = false := by decide) : ClsE X (.Name x pos) (.ty n) (.type n) :=
  ⟨pe_bltn hg hm hv rfl hn hd, .ty n⟩
theorem ce_own {x : Str} {C : Addr} {pos : Pos} (hg : Gl X x) (hm : X.mg x = some (.ref C)) (hd : (x == ("__debug__" : Str)) = false := by decide) : ClsE X (.Name x pos) (.ref C) (.ref C) :=
  ⟨pe_glob hg hm rfl hd, .own C⟩
def mIsi (f : TyN → Option Bool) (m : ME) : ME := m1 (isiD f) m
theorem s_isi {e c : Expr} {m : ME} {v : V} {u : Value} {f : TyN → Option Bool} {p pos : Pos} (hf : IsiOk X.K cl u f) (hc : ClsE X c v u) (he : SE X cl W e m) (hg : Gl X "isinstance" := by rfl) (hm : X.mg "isinstance" = none)
    (hv : bootBuiltins "isinstance" = some (.builtin "isinstance") := by rfl)
    (h1 : starEach (e :: [c]) X.env = (false, eval e X.env) :: starEach [c] X.env := by rfl) (h2 : starEach (c :: []) X.env = (false, eval c X.env) :: starEach [] X.env := by rfl) (hpl : (backTo pos (starEach [c] X.env)).any (·.1) = false := by rfl) :
    SE X cl W (.Call (.Name "isinstance" p) [e, c] [] pos) (mIsi f m) :=
  s_pe (pe_callB call_isi hg hm hv (pa_cons he (pa_cons hc.pe pa_nil h2) h1) (by decide) (by decide) h1 hpl) fun σ H Q ⟨μ, st, l, S, L, h⟩ =>
    ⟨μ, st, l, S, L, Post.bind h fun d st1 μ1 H1 x _ S1 e1 r1 h1 => by
      refine ⟨x, v, ?_⟩
      unfold isiD at h1
      cases q : tyN st1 d with
      | none => rw [q] at h1; exact h1.elim
      | some t =>
        rw [q] at h1
        simp only [Option.bind] at h1
        cases q2 : f t with
        | none => rw [q2] at h1; exact h1.elim
        | some b =>
          rw [q2] at h1
          exact ⟨tyV cl t, u, b, rfl, hc.cls, tyN_ok S1 r1 q fun c ec => hf.own c b (by rw [← ec]; exact q2), hf.one t b q2, h1 μ1 H1 _ S1 Ev.refl (by simp only [VR])⟩⟩

/-! ### {} -/
def mDnew : ME := fun _ st => .ok (.ref st.nxt) (st.new (.dic []))
theorem s_dnew {pos : Pos} : SE X cl W (.Dict [] [] pos) mDnew := s_pe pe_dnewK fun σ H Q ⟨μ, st, l, S, L, h⟩ => fun a ha =>
  h _ _ _ (S.new_dic ha (kvs := []) (ps := []) rfl (by simp only [List.map, VRs])) (Ev.new ha) (by simp only [VR]; exact ⟨Nat.lt_succ_self _, by rw [ext_same]⟩)

/-! ### range -/
def intsFrom : Int → Nat → List D
  | _, 0 => []
  | i, n + 1 => .int i :: intsFrom (i + 1) n
theorem intsFrom_get : ∀ (n : Nat) (i : Int) (j : Nat), (intsFrom i n)[j]? = if j < n then some (.int (i + j)) else none
  | 0, i, j => by simp [intsFrom]
  | n + 1, i, 0 => by simp [intsFrom]
  | n + 1, i, j + 1 => by
    simp only [intsFrom, List.getElem?_cons_succ]
    rw [intsFrom_get n (i + 1) j]
    by_cases h : j < n
    · rw [if_pos h, if_pos (by omega)]
      congr 2
      omega
    · rw [if_neg h, if_neg (by omega)]
theorem intsFrom_len (n : Nat) : ∀ i, (intsFrom i n).length = n := by
  induction n with
  | zero => intro i; rfl
  | succ n ih => intro i; simp [intsFrom, ih]
def rng1 : List D → Option Iter
  | [.int j] => if -(2 ^ 62) ≤ j ∧ j < 2 ^ 62 then some ⟨[], intsFrom 0 j.toNat⟩ else none
  | _ => none
def rng2 : List D → Option Iter
  | [.int i, .int j] => if -(2 ^ 62) ≤ i ∧ i < 2 ^ 62 ∧ -(2 ^ 62) ≤ j ∧ j < 2 ^ 62 then some ⟨[], intsFrom i (j - i).toNat⟩ else none
  | _ => none
def miRng (f : List D → Option Iter) (a : MA) : MI := fun l st => (a l st).bind fun ds st1 => match f ds with
  | some it => .ok it st1
  | none => .bad
theorem rng_it {K : PySem.W.Frag} {μ : Nat → Addr} {N : Nat} {H : Hp} {i : Int} {n : Nat} : IterR K cl μ N H ⟨[], intsFrom i n⟩ (Itr i n) := fun μ' st' H' S e so => by
  refine ⟨fun j d q => ?_, ?_⟩
  · rw [intsFrom_get] at q
    by_cases hj : j < n
    · rw [if_pos hj] at q
      cases q
      refine ⟨hj, fun x H2 y => ?_⟩
      obtain ⟨rfl, rfl⟩ := y
      exact ⟨S, Ev.refl, by simp only [VR]⟩
    · rw [if_neg hj] at q; cases q
  · show n ≤ (intsFrom i n).length
    rw [intsFrom_len]
    exact Nat.le_refl _
theorem rng1_inv {ds : List D} {it : Iter} (h : rng1 ds = some it) : ∃ j, ds = [.int j] ∧ -(2 ^ 62) ≤ j ∧ j < 2 ^ 62 ∧ it = ⟨[], intsFrom 0 j.toNat⟩ := by
  unfold rng1 at h
  split at h
  · rename_i j
    by_cases c : -(2 ^ 62) ≤ j ∧ j < 2 ^ 62
    · rw [if_pos c] at h; exact ⟨j, rfl, c.1, c.2, (Option.some.inj h).symm⟩
    · rw [if_neg c] at h; cases h
  · cases h
theorem rng2_inv {ds : List D} {it : Iter} (h : rng2 ds = some it) : ∃ i j, ds = [.int i, .int j] ∧ (-(2 ^ 62) ≤ i ∧ i < 2 ^ 62 ∧ -(2 ^ 62) ≤ j ∧ j < 2 ^ 62) ∧ it = ⟨[], intsFrom i (j - i).toNat⟩ := by
  unfold rng2 at h
  split at h
  · rename_i i j
    by_cases c : -(2 ^ 62) ≤ i ∧ i < 2 ^ 62 ∧ -(2 ^ 62) ≤ j ∧ j < 2 ^ 62
    · rw [if_pos c] at h; exact ⟨i, j, rfl, c, (Option.some.inj h).symm⟩
    · rw [if_neg c] at h; cases h
  · cases h
theorem i_rng1 {tg a : Expr} {ma : MA} {p pos : Pos} (hm : X.mg "range" = none) (ha : SA X cl W [a] ma) (hg : Gl X "range" := by rfl) (hs : starEach [a] X.env = [(false, eval a X.env)] := by rfl) : SI X cl W tg (.Call (.Name "range" p) [a] [] pos) (miRng rng1 ma) :=
  PI.weak (pi_range1 hg hm ha hs) fun σ H Q ⟨μ, st, l, S, L, h⟩ => ⟨μ, st, l, S, L, Post.bind h fun ds st1 μ1 H1 vs _ S1 e1 r1 h1 => by
    cases hit : rng1 ds with
    | none => rw [hit] at h1; exact h1.elim
    | some it =>
      rw [hit] at h1
      obtain ⟨j, rfl, c1, c2, rfl⟩ := rng1_inv hit
      simp only [VRs, VR] at r1
      obtain ⟨_, _, rfl, rfl, rfl⟩ := r1
      exact ⟨j, rfl, c1, c2, h1 μ1 H1 _ S1 Ev.refl rng_it⟩⟩
theorem i_rng2 {tg a b : Expr} {ma : MA} {p pos : Pos} (hm : X.mg "range" = none) (ha : SA X cl W [a, b] ma) (hg : Gl X "range" := by rfl) (hs : starEach [a, b] X.env = [(false, eval a X.env), (false, eval b X.env)] := by rfl) (hs2 : starEach [b] X.env = [(false, eval b X.env)] := by rfl) :
    SI X cl W tg (.Call (.Name "range" p) [a, b] [] pos) (miRng rng2 ma) :=
  PI.weak (pi_range2 hg hm ha hs hs2) fun σ H Q ⟨μ, st, l, S, L, h⟩ => ⟨μ, st, l, S, L, Post.bind h fun ds st1 μ1 H1 vs _ S1 e1 r1 h1 => by
    cases hit : rng2 ds with
    | none => rw [hit] at h1; exact h1.elim
    | some it =>
      rw [hit] at h1
      obtain ⟨i, j, rfl, c, rfl⟩ := rng2_inv hit
      simp only [VRs, VR] at r1
      obtain ⟨_, _, rfl, rfl, _, _, rfl, rfl, rfl⟩ := r1
      exact ⟨i, j, rfl, c, h1 μ1 H1 _ S1 Ev.refl rng_it⟩⟩

/-! ### a list or a tuple -/
/-- a list at a, or a tuple -/
def SqA (K : PySem.W.Frag) (H : Hp) (a : Addr) (k : Bool) (vs : List V) : Prop := if k then SqL K H a vs else SqT K H a vs
/-- the things of a list, a tuple, and what has to stay for it -/
def seqOf (d : D) (st : Store) : Option Iter := match d with
  | .tup xs => some ⟨[], xs⟩
  | .rol xs => some ⟨[], xs⟩
  | .ref m => (match st.at_ m with
    | some (.lst xs) => some ⟨[(m, xs)], xs⟩
    | _ => none)
  | _ => none
/-- such a thing in a heap, now and later -/
theorem seqOf_ok {K : PySem.W.Frag} {μ : Nat → Addr} {st : Store} {H : Hp} {d : D} {v : V} {it : Iter} (S : SR K cl μ st H) (r : VR K μ st.nxt H d v) (h : seqOf d st = some it) :
    ∃ a k, v = .ref a ∧ (∃ vs, SqA K H a k vs) ∧ ∀ μ' st' H', SR K cl μ' st' H' → Ev K μ st.nxt H μ' st'.nxt H' → SrcOk it.srcs st' → ∃ vs, SqA K H' a k vs ∧ VRs K μ' st'.nxt H' it.items vs := by
  unfold seqOf at h
  cases d with
  | tup xs =>
    cases h
    simp only [VR] at r
    obtain ⟨p, vs, rfl, r1, r2⟩ := r
    exact ⟨p, false, rfl, ⟨vs, r1⟩, fun μ' st' H' S' e _ => ⟨vs, e.sq p vs r1, r2.ev e⟩⟩
  | rol xs =>
    cases h
    simp only [VR] at r
    obtain ⟨p, vs, rfl, r1, r2⟩ := r
    exact ⟨p, true, rfl, ⟨vs, r1.sq⟩, fun μ' st' H' S' e _ => ⟨vs, (e.rq p vs r1).sq, r2.ev e⟩⟩
  | ref m =>
    simp only [VR] at r
    obtain ⟨hm, rfl⟩ := r
    simp only at h
    cases z : st.at_ m with
    | none => rw [z] at h; cases h
    | some c =>
      rw [z] at h
      cases c with
      | lst xs =>
        cases h
        obtain ⟨vs, g1, g2⟩ := S.get z
        refine ⟨μ m, true, rfl, ⟨vs, SqL.of g1⟩, fun μ' st' H' S' e so => ?_⟩
        have q := so (m, xs) (by simp)
        obtain ⟨ws, f1, f2⟩ := S'.get q
        refine ⟨ws, ?_, f2⟩
        rw [e.mu m hm] at f1
        exact SqL.of f1
      | _ => cases h
  | _ => cases h
def Its (K : PySem.W.Frag) (k : Bool) (a : Addr) : It := if k then Itl K a else Itt K a
theorem its_it {K : PySem.W.Frag} {μ : Nat → Addr} {st : Store} {H : Hp} {it : Iter} {a : Addr} {k : Bool}
    (hh : ∀ μ' st' H', SR K cl μ' st' H' → Ev K μ st.nxt H μ' st'.nxt H' → SrcOk it.srcs st' → ∃ vs, SqA K H' a k vs ∧ VRs K μ' st'.nxt H' it.items vs) : IterR K cl μ st.nxt H it (Its K k a) := fun μ' st' H' S e so => by
  obtain ⟨vs, q1, q2⟩ := hh μ' st' H' S e so
  have ln := q2.length
  cases k with
  | true =>
    refine ⟨fun j d q => ?_, ?_⟩
    · obtain ⟨v, h1, h2⟩ := q2.get q
      refine ⟨⟨vs, v, q1, h1⟩, fun x H2 y => ?_⟩
      obtain ⟨rfl, y⟩ := y
      have := y vs q1
      rw [h1] at this
      cases this
      exact ⟨S, Ev.refl, h2⟩
    · exact ⟨vs, q1, by omega⟩
  | false =>
    refine ⟨fun j d q => ?_, ?_⟩
    · obtain ⟨v, h1, h2⟩ := q2.get q
      refine ⟨⟨vs, v, q1, h1⟩, fun x H2 y => ?_⟩
      obtain ⟨rfl, y⟩ := y
      have := y vs q1
      rw [h1] at this
      cases this
      exact ⟨S, Ev.refl, h2⟩
    · exact ⟨vs, q1, by omega⟩
def miSeq (m : ME) : MI := fun l st => (m l st).bind fun d st1 => match seqOf d st1 with
  | some it => .ok it st1
  | none => .bad
theorem i_seq {tg e : Expr} {m : ME} (he : SE X cl W e m) : SI X cl W tg e (miSeq m) := by
  refine ⟨fun pins s σ H R I ⟨μ, st, l, S, L, h⟩ => ?_⟩
  have w : rdE X.K cl W m σ H (fun x H1 => ∃ a k, x = .ref a ∧ (∃ vs, SqA X.K H1 a k vs) ∧ R (Its X.K k a) H1) := ⟨μ, st, l, S, L, Post.bind h fun d st1 μ1 H1 v _ S1 e1 r1 h1 => by
    cases q : seqOf d st1 with
    | none => rw [q] at h1; exact h1.elim
    | some it =>
      rw [q] at h1
      obtain ⟨a, k, ev, z, hh⟩ := seqOf_ok S1 r1 q
      exact ⟨a, k, ev, z, h1 μ1 H1 _ S1 Ev.refl (its_it hh)⟩⟩
  refine thn (he.run pins s σ H _ I w) fun v s1 ⟨x, H1, I1, r1, q1⟩ => ?_
  obtain ⟨a, k, e, ⟨xs, hq⟩, q⟩ := q1
  subst e
  cases r1
  have fr : ∀ b ∈ [s1.heap.objs.size], FpOk X pins H1 b := fun b hb => by
    have e : b = s1.heap.objs.size := by simpa using hb
    rw [e]
    exact I1.fpOk (Nat.le_refl _) (I1.hok.fresh (Nat.le_refl _))
  cases k with
  | true =>
    obtain ⟨its, rv, p, hz⟩ := I1.list hq
    exact wpAny_pyIter_list p.isList ⟨s1.heap.objs.size, [s1.heap.objs.size], _, _, H1, rfl, I1.kept (t' := s1.toks) fun b o e => Heap.get?_push_of_some _ e, turn_list a _, ⟨_, Heap.get?_push_size _ rfl, rfl, rfl⟩, fr, q⟩
  | false =>
    obtain ⟨its, rv, p, hz⟩ := I1.tuple hq
    exact wpAny_pyIter_tuple (show s1.heap.IsTuple a its.toArray from p) ⟨s1.heap.objs.size, [s1.heap.objs.size], _, _, H1, rfl, I1.kept (t' := s1.toks) fun b o e => Heap.get?_push_of_some _ e, turn_tuple a _, ⟨_, Heap.get?_push_size _ rfl, rfl, rfl⟩, fr, q⟩
end
end DV


set_option Elab.async false
set_option linter.all false
set_option maxRecDepth 100000
set_option  maxHeartbeats   4000000
/-! DV, part I: enumerate and zip over lists and tuples in any mix; a text, sign by sign. -/
namespace DV
open PySem PySem.Spec PyProof.Rows L2

/-- an iterator over the list or tuple at a, so far gone -/
def SeqIt (h : Heap) (it a : Addr) (k : Bool) (i : Nat) : Prop := if k then h.IsListIter it a i else h.IsTupleIter it a i
def SeqAt (h : Heap) (a : Addr) (k : Bool) (items : Array Value) : Prop := if k then h.IsList a items else h.IsTuple a items
def seqItO (a : Addr) (k : Bool) : Obj := if k then { cls := .type "list_iterator", data := .fields #[.ref a, .int 0 0] } else { cls := .type "tuple_iterator", data := .fields #[.ref a, .int 0 0] }
theorem seqDraws {prog : Program} {w : World} {A : Around} (hh : A.handled = none) (it a : Addr) (hne : a ≠ it) (k : Bool) (items : Array Value) :
    Draws prog w A it [it, a] items.size (fun i v => items[i]? = some v) (fun i h => SeqIt h it a k i ∧ SeqAt h a k items) := by
  cases k with
  | true => exact Draws.list hh it a hne items
  | false => exact Draws.tuple hh it a hne items
theorem seqBegins (a : Addr) (k : Bool) (items : Array Value) : Begins (.ref a) (seqItO a k) (fun h => SeqAt h a k items) := by
  cases k with
  | true => exact begins_list a items
  | false => exact begins_tuple a items
theorem SeqIt.new {h : Heap} {it a : Addr} {k : Bool} (e : h.get? it = some (seqItO a k)) : SeqIt h it a k 0 := by
  cases k with
  | true => exact ⟨_, e, rfl, rfl⟩
  | false => exact ⟨_, e, rfl, rfl⟩
theorem SeqIt.moved {h h' : Heap} {it a : Addr} {k : Bool} {i : Nat} (s : SeqIt h it a k i) (hk : ∀ o, h.get? it = some o → h'.get? it = some o) : SeqIt h' it a k i := by
  cases k with
  | true => exact Heap.IsListIter.at s hk
  | false => exact Heap.IsTupleIter.at s hk
theorem SeqIt.ob {h : Heap} {it a : Addr} {k : Bool} {i : Nat} (s : SeqIt h it a k i) : ∃ o vs, h.get? it = some o ∧ o.data = .fields vs := by
  cases k with
  | true => obtain ⟨o, e, _, d⟩ := s; exact ⟨o, _, e, d⟩
  | false => obtain ⟨o, e, _, d⟩ := s; exact ⟨o, _, e, d⟩
section
variable {X : Cx} {pins : List (Addr × Obj)} {σ : L2.St} {H : Hp} {s : Shared}
theorem seq_at {a : Addr} {k : Bool} {vs : List V} (I : Inv X pins σ H s) (h : SqA X.K H a k vs) : ∃ its : List Value, Vals vs its ∧ SeqAt s.heap a k its.toArray ∧ a < s.heap.objs.size := by
  cases k with
  | true => obtain ⟨its, rv, p, _⟩ := I.list h; exact ⟨its, rv, p.isList, p.lt⟩
  | false => obtain ⟨its, rv, p, _⟩ := I.tuple h; exact ⟨its, rv, p, p.lt⟩
theorem seq_inj {a : Addr} {k : Bool} {vs ws : List V} (I : Inv X pins σ H s) (h : SqA X.K H a k vs) (h' : SqA X.K H a k ws) : vs = ws := by
  cases k with
  | true => exact I.list_inj h h'
  | false => exact I.tuple_inj h h'
end

/-! ### enumerate -/
def ItEn (K : PySem.W.Frag) (k : Bool) (a : Addr) : It where
  go := fun i H => ∃ (vs : List V) (v : V), SqA K H a k vs ∧ vs[i]? = some v
  yld := fun i H v H' => ∃ T x, v = .ref T ∧ H T = none ∧ H' = upd H T (.tup [.int (i : Nat), x]) ∧ ∀ vs, SqA K H a k vs → vs[i]? = some x
  stop := fun i H => ∃ vs : List V, SqA K H a k vs ∧ vs.length = i
theorem turn_en {P : Program} {w : World} {K : PySem.W.Frag} {elts : List Expr} {kk : Nat} {tpos : Pos} (k : Bool) (a e it : Addr) :
    Turn P w K (.Tuple elts kk tpos) (ItEn K k a) [e, it] e (fun i h => (∃ old, IsEnum h e it ((i : Nat) : Int) old) ∧ SeqIt h it a k i ∧ e ≠ it ∧ a ≠ it ∧ e ≠ a) where
  mem := by simp
  obj := fun i h st b hb => by
    obtain ⟨⟨old, he⟩, hi, _⟩ := st
    obtain ⟨o, fs, e1, e2⟩ := hi.ob
    have z : b = e ∨ b = it := by simpa using hb
    rcases z with z | z
    · rw [z]; exact ⟨_, he, fun v q => nomatch q⟩
    · rw [z]; exact ⟨o, e1, fun v q => by rw [e2] at q; cases q⟩
  keep := fun i h h' st kp => by
    obtain ⟨⟨old, he⟩, hi, r⟩ := st
    exact ⟨⟨old, kp e (by simp) _ he⟩, hi.moved fun o q => kp it (by simp) o q, r⟩
  item := by
    intro X hP hw hK hc i pins s σ H E I hf st hg
    subst hP hw hK
    obtain ⟨⟨old, he⟩, hit, hne, hai, hea⟩ := st
    obtain ⟨vs, x, hq, hx⟩ := hg
    obtain ⟨its, rv, p, _⟩ := seq_at I hq
    obtain ⟨u, hu, ru⟩ := rv.get hx
    have lt1 : e < s.heap.objs.size := Heap.lt_size he
    have lt2 : it < s.heap.objs.size := by
      obtain ⟨o, fs, e1, _⟩ := hit.ob
      exact Heap.lt_size e1
    have hil : i < its.toArray.size := by
      have := (List.getElem?_eq_some_iff.mp hu).1
      simpa using this
    refine wpAny_pyNext_enum_itemC (seqDraws (A := X.A.in1) (I.ok.hd hc) it a hai k its.toArray) he ⟨hit, p⟩ hil hne (by simp [hne, hea]) fun y h1 tk hy ho hst hT hsz hk => ?_
    have ey : y = u := by
      have : its.toArray[i]? = some u := by simpa using hu
      rw [this] at hy
      exact (Option.some.inj hy).symm
    subst ey
    refine ⟨_, rfl, wpAny_letOwnedTupleGo_enum (s := { s with heap := h1, toks := tk + 1 }) ho fun h2 he2 sb => ?_⟩
    have hT2 : h2.get? s.heap.objs.size = some { cls := .type "tuple", data := .seq #[.int i tk, y] } := (sb.2 _ (Nat.ne_of_gt lt1)).trans hT
    have nw : ObjOk X.prog X.w (upd H s.heap.objs.size (.tup [.int (i : Nat), x])) h2 s.heap.objs.size (.tup [.int (i : Nat), x]) := ⟨by show 2 ≤ sizeLine; decide, [.int i tk, y], .cons ⟨_, rfl⟩ (.cons ru .nil), ⟨_, hT2, rfl, _, rfl⟩⟩
    have J : Inv X pins σ (upd H s.heap.objs.size (.tup [.int (i : Nat), x])) { s with heap := h2, toks := tk + 1 } :=
      I.turnedNew (ch := [e, it]) (fun b ob hb q => (sb.2 b (fun z => hb (by simp [z]))).trans (hk b ob (fun z => hb (by simp [z])) (fun z => hb (by simp [z])) q)) hf (Nat.le_refl _) nw
    refine ⟨.ref s.heap.objs.size, _, J, rfl, ⟨_, x, rfl, I.hok.fresh (Nat.le_refl _), rfl, fun ws hw => ?_⟩, ⟨⟨y, ?_⟩, hst.1.moved fun o q => (sb.2 it (Ne.symm hne)).trans q, hne, hai, hea⟩, fun b hb => ?_⟩
    · rw [seq_inj I hw hq]; exact hx
    · have e1 : ((i + 1 : Nat) : Int) = (i : Int) + 1 := by omega
      rw [e1]
      exact he2
    · have z : b = e ∨ b = it := by simpa using hb
      have lt : b < s.heap.objs.size := by rcases z with z | z <;> rw [z] <;> assumption
      rw [upd_ne (Nat.ne_of_lt lt)]
      exact (hf b hb).1
  done := by
    intro X hP hw hK hc i pins s σ H E I hf st hg
    subst hP hw hK
    obtain ⟨⟨old, he⟩, hit, hne, hai, hea⟩ := st
    obtain ⟨vs, hq, hx⟩ := hg
    obtain ⟨its, rv, p, _⟩ := seq_at I hq
    obtain ⟨f0, f1, f2, f3, f4, f5⟩ := hf it (by simp)
    have ln := rv.length
    have ez : its.toArray.size = i := by simp; omega
    refine wpAny_pyNext_enum_endD (seqDraws (A := X.A.in1) (I.ok.hd hc) it a hai k its.toArray) he ⟨by rw [ez]; exact hit, p⟩ fun h1 eb => ⟨rfl, I.turned (t' := s.toks) (fun b o hb q => eb b o hb q) f0 f1 f3 f4 f5⟩
  self := fun A i s Q E st h => by
    obtain ⟨⟨_, he⟩, _⟩ := st
    exact wpAny_pyIter_enum he h
set_option maxHeartbeats 8000000 in
theorem meets_enum1 {v : Value} {o : Obj} {G : Heap → Prop} (B : Begins v o G) :
    Meets (Builtin.«enumerate.__new__» ⟨[.type "enumerate", v], []⟩) (fun _ R s => G s.heap ∧ R (.ok (.ret (.ref (s.heap.push o).objs.size))) { s with heap := (s.heap.push o).push { cls := .type "enumerate", data := .fields #[.none, .bool false, .ref s.heap.objs.size, rawInt 0, .none, .none] } }) :=
  .of_wp fun prog w A R s hh => by
    obtain ⟨hp, g, d, tk, os⟩ := s
    obtain ⟨hG, h⟩ := hh
    have hsub := sub_enumerate
    have start : ∀ {A' : Around} {E : Value → Shared → Prop} {Q : Value → Shared → Prop}, Q (.ref hp.objs.size) ⟨hp.push o, g, d, tk, os⟩ → wpAny (model prog w) A' (pyIter v) Q E ⟨hp, g, d, tk, os⟩ :=
      fun z => B.iter prog w _ _ ⟨hp, g, d, tk, os⟩ _ hG z
    wp_walk using start
    refine wpAny_stack_any fun st => wpAny_pure ?_
    split
    · rename_i c _ _ _ _ _
      cases (c == Value.type "enumerate") <;> (wp_walk using start; exact ⟨_, rfl, h⟩)
    · wp_walk using start
      exact ⟨_, rfl, h⟩
theorem enum_start {prog : Program} {w : World} {A : Around} {E : Value → Shared → Prop} {s : Shared} {v : Value} {o : Obj} {G : Heap → Prop} {Q : Value → Shared → Prop} (B : Begins v o G) (h1 : G s.heap)
    (h : ∀ h', IsEnum h' (s.heap.objs.size + 1) s.heap.objs.size 0 .none → h'.get? s.heap.objs.size = some o → (∀ b u, s.heap.get? b = some u → h'.get? b = some u) → Q (.ref (s.heap.objs.size + 1)) { s with heap := h' }) :
    wpAny (model prog w) A (call (.type "enumerate") [v]) Q E s := by
  refine callType_new F.called_enumerate (by decide) (F.typeCall_enumerate_1 _) (F.newCall_enumerate_1 _) (fun obj => F.args_object_init_2 obj _) F.entry_enumerate_new (meets_enum1 B) ⟨h1, ?_⟩
  have hz : (s.heap.push o).objs.size = s.heap.objs.size + 1 := Heap.size_push ..
  have he : IsEnum ((s.heap.push o).push { cls := .type "enumerate", data := .fields #[.none, .bool false, .ref s.heap.objs.size, rawInt 0, .none, .none] }) (s.heap.objs.size + 1) s.heap.objs.size 0 .none := by
    have q := Heap.get?_push_size (s.heap.push o) (o := { cls := .type "enumerate", data := .fields #[.none, .bool false, .ref s.heap.objs.size, rawInt 0, .none, .none] }) rfl
    rw [hz] at q
    exact q
  show _ ∧ _
  rw [hz]
  exact ⟨⟨_, he, rfl⟩, h _ he (Heap.get?_push_of_some _ (Heap.get?_push_size _ B.free)) fun b u x => Heap.get?_push_of_some _ (Heap.get?_push_of_some _ x)⟩

def enumFrom : Nat → List D → List D
  | _, [] => []
  | i, d :: ds => .tup [.int (i : Nat), d] :: enumFrom (i + 1) ds
theorem enumFrom_len : ∀ (ds : List D) (i : Nat), (enumFrom i ds).length = ds.length
  | [], _ => rfl
  | d :: ds, i => by simp [enumFrom, enumFrom_len ds]
theorem enumFrom_get : ∀ (ds : List D) (i j : Nat) (x : D), (enumFrom i ds)[j]? = some x → ∃ d, ds[j]? = some d ∧ x = .tup [.int ((i + j : Nat) : Int), d]
  | [], _, _, _, h => by simp [enumFrom] at h
  | d :: ds, i, 0, x, h => by
    simp [enumFrom] at h
    exact ⟨d, rfl, h.symm⟩
  | d :: ds, i, j + 1, x, h => by
    simp only [enumFrom, List.getElem?_cons_succ] at h
    obtain ⟨e, h1, h2⟩ := enumFrom_get ds (i + 1) j x h
    refine ⟨e, by simpa using h1, ?_⟩
    rw [h2]
    have : i + 1 + j = i + (j + 1) := by omega
    rw [this]
def enumOf (xs : List D) (st : Store) : Option Iter := match xs with
  | [d] => (seqOf d st).map fun it => ⟨it.srcs, enumFrom 0 it.items⟩
  | _ => none
def miOf (f : List D → Store → Option Iter) (a : MA) : MI := fun l st => (a l st).bind fun ds st1 => match f ds st1 with
  | some it => .ok it st1
  | none => .bad
section
variable {X : Cx} {cl : CL} {W : WX}
theorem pair_new {K : PySem.W.Frag} {μ : Nat → Addr} {st : Store} {H : Hp} {T : Addr} {d e : D} {x y : V} (S : SR K cl μ st H) (hT : H T = none) (hd : VR K μ st.nxt H d x) (he : VR K μ st.nxt H e y) :
    SR K cl μ st (upd H T (.tup [x, y])) ∧ Ev K μ st.nxt H μ st.nxt (upd H T (.tup [x, y])) ∧ VR K μ st.nxt (upd H T (.tup [x, y])) (.tup [d, e]) (.ref T) := by
  refine ⟨S.beside hT, Ev.beside hT, ?_⟩
  simp only [VR]
  exact ⟨T, [x, y], rfl, SqT.of upd_same, (VRs.two hd he).ev (Ev.beside hT)⟩
theorem en_it {K : PySem.W.Frag} {μ : Nat → Addr} {st : Store} {H : Hp} {it : Iter} {a : Addr} {k : Bool}
    (hh : ∀ μ' st' H', SR K cl μ' st' H' → Ev K μ st.nxt H μ' st'.nxt H' → SrcOk it.srcs st' → ∃ vs, SqA K H' a k vs ∧ VRs K μ' st'.nxt H' it.items vs) : IterR K cl μ st.nxt H ⟨it.srcs, enumFrom 0 it.items⟩ (ItEn K k a) := fun μ' st' H' S e so => by
  obtain ⟨vs, q1, q2⟩ := hh μ' st' H' S e so
  have ln := q2.length
  refine ⟨fun j d q => ?_, ?_⟩
  · obtain ⟨b, q3, rfl⟩ := enumFrom_get _ _ _ _ q
    obtain ⟨v, h1, h2⟩ := q2.get q3
    refine ⟨⟨vs, v, q1, h1⟩, fun x H2 y => ?_⟩
    obtain ⟨T, z, rfl, hT, rfl, hz⟩ := y
    have := hz vs q1
    rw [h1] at this
    cases this
    obtain ⟨a1, a2, a3⟩ := pair_new (d := .int ((0 + j : Nat) : Int)) (x := .int (j : Nat)) S hT (by simp only [VR]; simp) h2
    exact ⟨a1, a2, a3⟩
  · refine ⟨vs, q1, ?_⟩
    show vs.length = (enumFrom 0 it.items).length
    rw [enumFrom_len]
    exact ln.symm
theorem i_enum {elts : List Expr} {kk : Nat} {tpos : Pos} {e : Expr} {ma : MA} {p pos : Pos} (hm : X.mg "enumerate" = none) (ha : SA X cl W [e] ma) (hg : Gl X "enumerate" := by rfl) (hs : starEach [e] X.env = [(false, eval e X.env)] := by rfl) :
    SI X cl W (.Tuple elts kk tpos) (.Call (.Name "enumerate" p) [e] [] pos) (miOf enumOf ma) := by
  refine ⟨fun pins s σ H R I ⟨μ, st, l, S, L, h⟩ => ?_⟩
  have w : rdA X.K cl W ma σ H (fun xs H1 => ∃ a k vs, xs = [.ref a] ∧ SqA X.K H1 a k vs ∧ R (ItEn X.K k a) H1) := ⟨μ, st, l, S, L, Post.bind h fun ds st1 μ1 H1 vs _ S1 e1 r1 h1 => by
    cases q : enumOf ds st1 with
    | none => rw [q] at h1; exact h1.elim
    | some it =>
      rw [q] at h1
      match ds, r1, q with
      | [d], r1, q =>
        simp only [VRs] at r1
        obtain ⟨v, _, rfl, rd, rfl⟩ := r1
        unfold enumOf at q
        simp only at q
        cases z : seqOf d st1 with
        | none => rw [z] at q; cases q
        | some it0 =>
          rw [z] at q
          cases q
          obtain ⟨a, k, rfl, ⟨ws, hw⟩, hh⟩ := seqOf_ok S1 rd z
          exact ⟨a, k, ws, rfl, hw, h1 μ1 H1 _ S1 Ev.refl (en_it hh)⟩
      | [], _, q => cases q
      | _ :: _ :: _, _, q => cases q⟩
  refine Call_ (ld_blt I hg hm boot_enumerate (PyProof.Rows.callWith_type1 (thn (ha.run pos pins s σ H _ I w) fun us s1 ⟨xs, H1, I1, r1, a, k, vs, ex, hq, q⟩ => ?_) hs rfl))
  subst ex
  rw [Vals.ref1 r1]
  obtain ⟨its, rv, p', la⟩ := seq_at I1 hq
  refine enum_start (seqBegins a k its.toArray) p' fun h' he hit hk => wpAny_pyIter_enum he ?_
  have I2 : Inv X pins σ H1 { s1 with heap := h' } := I1.kept (t' := s1.toks) hk
  refine ⟨s1.heap.objs.size + 1, [s1.heap.objs.size + 1, s1.heap.objs.size], _, _, H1, rfl, I2, turn_en k a (s1.heap.objs.size + 1) s1.heap.objs.size, ⟨⟨.none, he⟩, SeqIt.new hit, Nat.succ_ne_self _, Nat.ne_of_lt la, Nat.ne_of_gt (Nat.lt_succ_of_lt la)⟩, fun b hb => ?_, q⟩
  have z : b = s1.heap.objs.size + 1 ∨ b = s1.heap.objs.size := by simpa using hb
  have le : s1.heap.objs.size ≤ b := by rcases z with z | z <;> rw [z] <;> first | exact Nat.le_succ _ | exact Nat.le_refl _
  exact I1.fpOk le (I1.hok.fresh le)
end

/-! ### zip -/
def ItZp (K : PySem.W.Frag) (k1 k2 : Bool) (a b : Addr) : It where
  go := fun i H => ∃ (vs ws : List V) (x y : V), SqA K H a k1 vs ∧ SqA K H b k2 ws ∧ vs[i]? = some x ∧ ws[i]? = some y
  yld := fun i H v H' => ∃ T x y, v = .ref T ∧ H T = none ∧ H' = upd H T (.tup [x, y]) ∧ (∀ vs, SqA K H a k1 vs → vs[i]? = some x) ∧ ∀ ws, SqA K H b k2 ws → ws[i]? = some y
  stop := fun i H => ∃ vs ws : List V, SqA K H a k1 vs ∧ SqA K H b k2 ws ∧ i ≤ vs.length ∧ i ≤ ws.length ∧ (i = vs.length ∨ i = ws.length)
theorem turn_zp {P : Program} {w : World} {K : PySem.W.Frag} {elts : List Expr} {kk : Nat} {tpos : Pos} {k1 k2 : Bool} {a b z TI TO i1 i2 : Addr} (Z : ZipSep2 z TI TO i1 i2 [i1, a] [i2, b]) :
    Turn P w K (.Tuple elts kk tpos) (ItZp K k1 k2 a b) [z, TI, TO, i1, i2] z (fun i h => IsZip h z TI TO .none ∧ IsTupOf2 h TI (.ref i1) (.ref i2) ∧ (∃ x y, IsTupOf2 h TO x y) ∧ SeqIt h i1 a k1 i ∧ SeqIt h i2 b k2 i ∧ a ≠ i1 ∧ b ≠ i2) where
  mem := by simp
  obj := fun i h st c hc => by
    obtain ⟨hz, hTI, ⟨x, y, hTO⟩, t1, t2, _⟩ := st
    obtain ⟨o1, fs1, e1, d1⟩ := t1.ob
    obtain ⟨o2, fs2, e2, d2⟩ := t2.ob
    have cs : c = z ∨ c = TI ∨ c = TO ∨ c = i1 ∨ c = i2 := by simpa using hc
    rcases cs with q | q | q | q | q <;> rw [q]
    · exact ⟨_, hz, fun v q => nomatch q⟩
    · exact ⟨_, hTI, fun v q => nomatch q⟩
    · exact ⟨_, hTO, fun v q => nomatch q⟩
    · exact ⟨o1, e1, fun v q => by rw [d1] at q; cases q⟩
    · exact ⟨o2, e2, fun v q => by rw [d2] at q; cases q⟩
  keep := fun i h h' st kp => by
    obtain ⟨hz, hTI, ⟨x, y, hTO⟩, t1, t2, r⟩ := st
    exact ⟨kp z (by simp) _ hz, kp TI (by simp) _ hTI, ⟨x, y, kp TO (by simp) _ hTO⟩, t1.moved fun o q => kp i1 (by simp) o q, t2.moved fun o q => kp i2 (by simp) o q, r⟩
  item := by
    intro X hP hw hK hc i pins s σ H E I hf st hg
    subst hP hw hK
    obtain ⟨hz, hTI, ⟨x0, y0, hTO⟩, t1, t2, n1, n2⟩ := st
    obtain ⟨vs, ws, x, y, hqx, hqy, hx, hy⟩ := hg
    obtain ⟨its, rv, p, _⟩ := seq_at I hqx
    obtain ⟨its2, rv2, p2, _⟩ := seq_at I hqy
    obtain ⟨u, hu, ru⟩ := rv.get hx
    obtain ⟨u2, hu2, ru2⟩ := rv2.get hy
    have hil : i < its.toArray.size := by simpa using (List.getElem?_eq_some_iff.mp hu).1
    have hil2 : i < its2.toArray.size := by simpa using (List.getElem?_eq_some_iff.mp hu2).1
    have zl : z < s.heap.objs.size := Heap.lt_size hz
    refine wpAny_pyNext_zipD2_item Z (seqDraws (A := X.A.in1) (I.ok.hd hc) i1 a n1 k1 its.toArray) (seqDraws (A := X.A.in1) (I.ok.hd hc) i2 b n2 k2 its2.toArray) hz hTI hTO ⟨t1, p⟩ ⟨t2, p2⟩ hil hil2 fun y1 y2 h1 tk hy1 hy2 z1 TO1 s1 s2 hT hsz hk => ?_
    have ey : y1 = u := by
      have : its.toArray[i]? = some u := by simpa using hu
      rw [this] at hy1
      exact (Option.some.inj hy1).symm
    have ey2 : y2 = u2 := by
      have : its2.toArray[i]? = some u2 := by simpa using hu2
      rw [this] at hy2
      exact (Option.some.inj hy2).symm
    subst ey ey2
    refine ⟨_, rfl, wpAny_letOwnedTupleGo_zip (s := { s with heap := h1, toks := tk }) z1 fun h2 z2 sb => ?_⟩
    have hT2 : h2.get? s.heap.objs.size = some { cls := .type "tuple", data := .seq #[y1, y2] } := (sb.2 _ (Nat.ne_of_gt zl)).trans hT
    have nw : ObjOk X.prog X.w (upd H s.heap.objs.size (.tup [x, y])) h2 s.heap.objs.size (.tup [x, y]) := ⟨by show 2 ≤ sizeLine; decide, [y1, y2], .cons ru (.cons ru2 .nil), ⟨_, hT2, rfl, _, rfl⟩⟩
    have J : Inv X pins σ (upd H s.heap.objs.size (.tup [x, y])) { s with heap := h2, toks := tk } :=
      I.turnedNew (ch := [z, TI, TO, i1, i2]) (fun c o hb q => (sb.2 c (fun q' => hb (by simp [q']))).trans (hk c o (fun q' => hb (by simp [q'])) (fun q' => hb (by simp [q'])) (fun q' => hb (by simp [q'])) (fun q' => hb (by simp [q'])) q)) hf (Nat.le_refl _) nw
    refine ⟨.ref s.heap.objs.size, _, J, rfl, ⟨_, x, y, rfl, I.hok.fresh (Nat.le_refl _), rfl, fun l hl => ?_, fun l hl => ?_⟩, ⟨z2, ?_, ⟨y1, y2, ?_⟩, ?_, ?_, n1, n2⟩, fun c hcm => ?_⟩
    · rw [seq_inj I hl hqx]; exact hx
    · rw [seq_inj I hl hqy]; exact hy
    · exact (sb.2 _ Z.TIz).trans (hk _ _ Z.TIz Z.TITO Z.TIi1 Z.TIi2 hTI)
    · exact (sb.2 _ Z.TOz).trans TO1
    · exact s1.1.moved fun o q => (sb.2 _ Z.zi1.symm).trans q
    · exact s2.1.moved fun o q => (sb.2 _ Z.zi2.symm).trans q
    · have lt : c < s.heap.objs.size := by
        obtain ⟨o1, _, e1, _⟩ := t1.ob
        obtain ⟨o2, _, e2, _⟩ := t2.ob
        have cs : c = z ∨ c = TI ∨ c = TO ∨ c = i1 ∨ c = i2 := by simpa using hcm
        rcases cs with q | q | q | q | q <;> rw [q]
        · exact zl
        · exact Heap.lt_size hTI
        · exact Heap.lt_size hTO
        · exact Heap.lt_size e1
        · exact Heap.lt_size e2
      rw [upd_ne (Nat.ne_of_lt lt)]
      exact (hf c hcm).1
  done := by
    intro X hP hw hK hc i pins s σ H E I hf st hg
    subst hP hw hK
    obtain ⟨hz, hTI, ⟨x0, y0, hTO⟩, t1, t2, n1, n2⟩ := st
    obtain ⟨vs, ws, hqx, hqy, l1, l2, hend⟩ := hg
    obtain ⟨its, rv, p, _⟩ := seq_at I hqx
    obtain ⟨its2, rv2, p2, _⟩ := seq_at I hqy
    have g1 := rv.length
    have g2 := rv2.length
    refine wpAny_pyNext_zipD2_end Z (seqDraws (A := X.A.in1) (I.ok.hd hc) i1 a n1 k1 its.toArray) (seqDraws (A := X.A.in1) (I.ok.hd hc) i2 b n2 k2 its2.toArray) hz hTI hTO ⟨t1, p⟩ ⟨t2, p2⟩ (by simp; omega) (by simp; omega) (by simp; omega) fun h1 tk hk => ⟨rfl, ?_⟩
    exact I.turnedL (t' := tk) (ch := [z, TI, TO, i1, i2]) (fun c o hb q => hk c o (fun q' => hb (by simp [q'])) (fun q' => hb (by simp [q'])) (fun q' => hb (by simp [q'])) (fun q' => hb (by simp [q'])) q) hf
  self := fun A i s Q E st h => wpAny_pyIter_zip st.1 h

def zipD : List D → List D → List D
  | x :: xs, y :: ys => .tup [x, y] :: zipD xs ys
  | _, _ => []
theorem zipD_len : ∀ (xs ys : List D), (zipD xs ys).length = min xs.length ys.length
  | [], ys => by simp [zipD]
  | x :: xs, [] => by simp [zipD]
  | x :: xs, y :: ys => by simp [zipD, zipD_len xs ys]
theorem zipD_get : ∀ (xs ys : List D) (j : Nat) (d : D), (zipD xs ys)[j]? = some d → ∃ x y, xs[j]? = some x ∧ ys[j]? = some y ∧ d = .tup [x, y]
  | [], ys, j, d, h => by simp [zipD] at h
  | x :: xs, [], j, d, h => by simp [zipD] at h
  | x :: xs, y :: ys, 0, d, h => by
    simp [zipD] at h
    exact ⟨x, y, rfl, rfl, h.symm⟩
  | x :: xs, y :: ys, j + 1, d, h => by
    simp only [zipD, List.getElem?_cons_succ] at h
    obtain ⟨a, b, h1, h2, h3⟩ := zipD_get xs ys j d h
    exact ⟨a, b, by simpa using h1, by simpa using h2, h3⟩
def zipOf (xs : List D) (st : Store) : Option Iter := match xs with
  | [d, e] => (match seqOf d st, seqOf e st with
    | some i1, some i2 => some ⟨i1.srcs ++ i2.srcs, zipD i1.items i2.items⟩
    | _, _ => none)
  | _ => none
section
variable {X : Cx} {cl : CL} {W : WX}
theorem zp_it {K : PySem.W.Frag} {μ : Nat → Addr} {st : Store} {H : Hp} {it1 it2 : Iter} {a b : Addr} {k1 k2 : Bool}
    (h1 : ∀ μ' st' H', SR K cl μ' st' H' → Ev K μ st.nxt H μ' st'.nxt H' → SrcOk it1.srcs st' → ∃ vs, SqA K H' a k1 vs ∧ VRs K μ' st'.nxt H' it1.items vs)
    (h2 : ∀ μ' st' H', SR K cl μ' st' H' → Ev K μ st.nxt H μ' st'.nxt H' → SrcOk it2.srcs st' → ∃ vs, SqA K H' b k2 vs ∧ VRs K μ' st'.nxt H' it2.items vs) :
    IterR K cl μ st.nxt H ⟨it1.srcs ++ it2.srcs, zipD it1.items it2.items⟩ (ItZp K k1 k2 a b) := fun μ' st' H' S e so => by
  obtain ⟨vs, q1, q2⟩ := h1 μ' st' H' S e (fun p hp => so p (List.mem_append_left _ hp))
  obtain ⟨ws, w1, w2⟩ := h2 μ' st' H' S e (fun p hp => so p (List.mem_append_right _ hp))
  have ln := q2.length
  have ln2 := w2.length
  refine ⟨fun j d q => ?_, ?_⟩
  · obtain ⟨x, y, q3, q4, rfl⟩ := zipD_get _ _ _ _ q
    obtain ⟨v, g1, g2⟩ := q2.get q3
    obtain ⟨v', g3, g4⟩ := w2.get q4
    refine ⟨⟨vs, ws, v, v', q1, w1, g1, g3⟩, fun x' H2 y' => ?_⟩
    obtain ⟨T, z1, z2, rfl, hT, rfl, hz1, hz2⟩ := y'
    have t1 := hz1 vs q1
    have t2 := hz2 ws w1
    rw [g1] at t1
    rw [g3] at t2
    cases t1
    cases t2
    exact pair_new S hT g2 g4
  · have z := zipD_len it1.items it2.items
    refine ⟨vs, ws, q1, w1, ?_, ?_, ?_⟩
    · show (zipD it1.items it2.items).length ≤ vs.length; omega
    · show (zipD it1.items it2.items).length ≤ ws.length; omega
    · show (zipD it1.items it2.items).length = vs.length ∨ (zipD it1.items it2.items).length = ws.length; omega
theorem i_zip {elts : List Expr} {kk : Nat} {tpos : Pos} {e e2 : Expr} {ma : MA} {p pos : Pos} (hm : X.mg "zip" = none) (ha : SA X cl W [e, e2] ma) (hg : Gl X "zip" := by rfl)
    (hs : starEach [e, e2] X.env = (false, eval e X.env) :: starEach [e2] X.env := by rfl) (hpl : (backTo pos (starEach [e2] X.env)).any (·.1) = false := by rfl) :
    SI X cl W (.Tuple elts kk tpos) (.Call (.Name "zip" p) [e, e2] [] pos) (miOf zipOf ma) := by
  refine ⟨fun pins s σ H R I ⟨μ, st, l, S, L, h⟩ => ?_⟩
  have w : rdA X.K cl W ma σ H (fun xs H1 => ∃ a k1 vs b k2 ws, xs = [.ref a, .ref b] ∧ SqA X.K H1 a k1 vs ∧ SqA X.K H1 b k2 ws ∧ R (ItZp X.K k1 k2 a b) H1) := ⟨μ, st, l, S, L, Post.bind h fun ds st1 μ1 H1 vs _ S1 e1 r1 h1 => by
    cases q : zipOf ds st1 with
    | none => rw [q] at h1; exact h1.elim
    | some it =>
      rw [q] at h1
      match ds, r1, q with
      | [d, d2], r1, q =>
        simp only [VRs] at r1
        obtain ⟨v, _, rfl, rd, v2, _, rfl, rd2, rfl⟩ := r1
        unfold zipOf at q
        simp only at q
        cases z : seqOf d st1 with
        | none => rw [z] at q; cases q
        | some it0 =>
          cases z2 : seqOf d2 st1 with
          | none => rw [z, z2] at q; cases q
          | some it2 =>
            rw [z, z2] at q
            cases q
            obtain ⟨a, k, rfl, ⟨ws, hw⟩, hh⟩ := seqOf_ok S1 rd z
            obtain ⟨b, k2, rfl, ⟨ws2, hw2⟩, hh2⟩ := seqOf_ok S1 rd2 z2
            exact ⟨a, k, ws, b, k2, ws2, rfl, hw, hw2, h1 μ1 H1 _ S1 Ev.refl (zp_it hh hh2)⟩
      | [], _, q => cases q
      | [_], _, q => cases q
      | _ :: _ :: _ :: _, _, q => cases q⟩
  refine Call_ (ld_blt I hg hm PyProof.Rows.boot_zip (PyProof.Rows.callWith_type1 (thn (ha.run pos pins s σ H _ I w) fun us s1 ⟨xs, H1, I1, r1, a, k1, vs, b, k2, ws, ex, hq, hq2, q⟩ => ?_) hs hpl))
  subst ex
  obtain ⟨u1, u2, rfl, g1, g2⟩ := vals2 r1
  cases g1
  cases g2
  obtain ⟨its, rv, p1, la⟩ := seq_at I1 hq
  obtain ⟨its2, rv2, p2, lb⟩ := seq_at I1 hq2
  refine zip_begins2 (seqBegins a k1 its.toArray) (seqBegins b k2 its2.toArray) p1 p2 fun h' hz hTI hTO h1 h2 hsz hk => wpAny_pyIter_zip hz ?_
  have I2 : Inv X pins σ H1 { s1 with heap := h' } := I1.kept (t' := s1.toks) hk
  refine ⟨s1.heap.objs.size + 4, [s1.heap.objs.size + 4, s1.heap.objs.size + 2, s1.heap.objs.size + 3, s1.heap.objs.size, s1.heap.objs.size + 1], _, _, H1, rfl, I2, turn_zp (zip_sep2 (fp1 := [a]) (fp2 := [b]) (fun c hc => by rw [List.mem_singleton.mp hc]; exact la) (fun c hc => by rw [List.mem_singleton.mp hc]; exact lb)),
    ⟨hz, hTI, ⟨_, _, hTO⟩, SeqIt.new h1, SeqIt.new h2, Nat.ne_of_lt la, Nat.ne_of_lt (Nat.lt_succ_of_lt lb)⟩, fun c hcm => ?_, q⟩
  have cs : c = s1.heap.objs.size + 4 ∨ c = s1.heap.objs.size + 2 ∨ c = s1.heap.objs.size + 3 ∨ c = s1.heap.objs.size ∨ c = s1.heap.objs.size + 1 := by simpa using hcm
  have le : s1.heap.objs.size ≤ c := by rcases cs with z | z | z | z | z <;> rw [z] <;> first | exact Nat.le_add_right _ _ | exact Nat.le_refl _
  exact I1.fpOk le (I1.hok.fresh le)

/-! ### a text -/
def signsOf (x : Str) : List D := x.cps.toList.map fun c => .str ⟨#[c]⟩
def miStr (m : ME) : MI := fun l st => (m l st).bind fun d st1 => match d with
  | .str x => .ok ⟨[], signsOf x⟩ st1
  | _ => .bad
theorem i_str {tg e : Expr} {m : ME} (he : SE X cl W e m) : SI X cl W tg e (miStr m) := PI.weak (pi_str he) fun σ H Q ⟨μ, st, l, S, L, h⟩ => ⟨μ, st, l, S, L, Post.bind h fun d st1 μ1 H1 v _ S1 e1 r1 h1 => by
  cases d with
  | str x =>
    simp only [VR] at r1
    subst r1
    refine ⟨x, rfl, h1 μ1 H1 _ S1 Ev.refl fun μ' st' H' S' e so => ⟨fun j d q => ?_, ?_⟩⟩
    · simp only [signsOf, List.getElem?_map, Option.map_eq_some_iff] at q
      obtain ⟨c, hc, rfl⟩ := q
      have hc' : x.cps[j]? = some c := by simpa using hc
      have hj : j < x.cps.size := (Array.getElem?_eq_some_iff.mp hc').1
      refine ⟨hj, fun y H2 z => ?_⟩
      obtain ⟨rfl, c', hc2, rfl⟩ := z
      rw [hc'] at hc2
      cases hc2
      exact ⟨S', Ev.refl, by simp only [VR]⟩
    · show x.cps.size ≤ (signsOf x).length
      simp [signsOf]
  | _ => exact h1.elim⟩
end
end DV


set_option Elab.async false
set_option linter.all false
set_option maxRecDepth 100000
set_option  maxHeartbeats   8000000
/-! DV, part J: how many unlike keys there are: len(set(x)). -/
namespace DV
open PySem PySem.Spec PyProof.Rows L2

def memK (k : Key) (l : List Key) : Bool := l.any fun x => decide (k = x)
theorem memK_snoc {k j : Key} {l : List Key} : memK k (l ++ [j]) = (memK k l || decide (k = j)) := by
  unfold memK
  simp
theorem setOf_as {prog : Program} {w : World} {h : Heap} {a : Addr} {S S' : Key → Bool} {n n' : Nat} (hS : h.SetOf (mixKind prog w) a S n) (e : ∀ k, S k = S' k) (en : n = n') : h.SetOf (mixKind prog w) a S' n' := by
  obtain rfl : S = S' := funext e
  subst en
  exact hS
/-- so many of the second list are new, seen the first -/
def cntK : List Key → List Key → Nat
  | _, [] => 0
  | seen, k :: r => (if memK k seen then 0 else 1) + cntK (seen ++ [k]) r
abbrev setO0 (led : Bool) : Obj := { cls := .type "set", dict := none, data := .set #[] 0 (.fresh 0 0 led) }
section
variable {prog : Program} {w : World} {A : Around} {E : Value → Shared → Prop} {s : Shared}
theorem seqWalks (hh : A.handled = none) (it a : Addr) (hne : a ≠ it) (k : Bool) (items : Array Value) :
    Walks prog w A it [it, a] [it] items.size (fun i v => items[i]? = some v) (fun i h => SeqIt h it a k i ∧ SeqAt h a k items) := by
  cases k with
  | true => exact Walks.list hh it a hne items
  | false => exact Walks.tuple hh it a hne items
variable {R : Result → Shared → Prop} {I : Addr} {fp wr : List Addr} {G : Array GenState → Array GenState → Prop} {n : Nat} {P : Nat → Value → Prop} {St : Nat → Shared → Prop}
theorem loopKeys (Wk : WalksS prog w A.in1 I fp wr G n P St) (S : Addr) (hSf : S ∉ fp) (ks : List Key) (hsz : ks.length = n) (hn : n + 1 < scanBound) (hval : ∀ i v, P i v → ∃ k, ks[i]? = some k ∧ RelV (kV k) v) :
    ∀ (d i c : Nat) (s : Shared), n - i = d → i ≤ n → St i s → c ≤ i → c + cntK (ks.take i) (ks.drop i) = cntK [] ks → s.heap.SetOf (mixKind prog w) S (fun k' => memK k' (ks.take i)) c →
      (∀ s', Moved (S :: wr) G s s' → s'.heap.SetOf (mixKind prog w) S (fun k' => memK k' ks) (cntK [] ks) → R (.ok (.ret .none)) s') → codeAny (model prog w) A (.builtin "set.update.loop" ⟨[.ref S, .ref I], []⟩) R s := by
  have hSw : S ∉ wr := fun z => hSf (Wk.sub _ z)
  have up : ∀ b ∈ wr, b ∈ S :: wr := fun b z => List.mem_cons_of_mem _ z
  intro d
  induction d with
  | zero =>
    intro i c s hd hi st hc hcnt hS hR
    have e : i = n := by omega
    subst e
    refine codeAny_builtin PyProof.Rows.F.entry_set_update_loop ?_
    rw [Around.under_plainId PyProof.Rows.F.plain_set_update_loop _]
    show wpAny _ A.in1 (pyNext (.ref I) >>= _) _ _ s
    refine wpAny_bind (Wk.done s _ _ st fun s' mv => ?_)
    show wpAny _ A.in1 (ret Value.none) _ _ s'
    refine wpAny_pure (hR s' (mv.mono up) ?_)
    rw [← hsz, List.drop_length] at hcnt
    have ec : c = cntK [] ks := by simpa [cntK] using hcnt
    rw [← hsz, List.take_length, ec] at hS
    obtain ⟨o, es, ep, tb, ho, more⟩ := hS
    exact ⟨o, es, ep, tb, mv.heap S _ hSw ho, more⟩
  | succ d ih =>
    intro i c s hd hi st hc hcnt hS hR
    have lt : i < n := by omega
    refine codeAny_builtin PyProof.Rows.F.entry_set_update_loop ?_
    rw [Around.under_plainId PyProof.Rows.F.plain_set_update_loop _]
    show wpAny _ A.in1 (pyNext (.ref I) >>= _) _ _ s
    refine wpAny_bind (Wk.item i s _ _ lt st fun v s' hP st' mv => ?_)
    obtain ⟨k, hk, rk⟩ := hval i v hP
    have hSm : s'.heap.SetOf (mixKind prog w) S (fun k' => memK k' (ks.take i)) c := by
      obtain ⟨o, es, ep, tb, ho, more⟩ := hS
      exact ⟨o, es, ep, tb, mv.heap S _ hSw ho, more⟩
    show wpAny _ A.in1 (holding [v] (setAdd S v) >>= _) _ _ s'
    refine wpAny_bind (wpAny_holding ?_)
    unfold setAdd
    refine wpAny_holding ?_
    refine wpAny_bind ((mixKind prog w).pyHash (k := k) (kV_is rk) ?_)
    refine wpAny_setAddHashed_of (knd := mixKind prog w) (s := { s' with toks := s'.toks + 1 }) (kV_is rk) (key_scan rk) hSm (by omega) fun h' sb hS2 => ?_
    have et : ks.take (i + 1) = ks.take i ++ [k] := by
      rw [List.take_add_one, hk]
      rfl
    have ed : ks.drop i = k :: ks.drop (i + 1) := by
      have hlt : i < ks.length := by omega
      rw [List.drop_eq_getElem_cons hlt]
      congr 1
      rw [List.getElem?_eq_getElem hlt] at hk
      exact Option.some.inj hk
    have hS3 : h'.SetOf (mixKind prog w) S (fun k' => memK k' (ks.take (i + 1))) (if memK k (ks.take i) then c else c + 1) := by
      refine setOf_as hS2 (fun k' => ?_) rfl
      rw [et, memK_snoc]
    have hc3 : (if memK k (ks.take i) then c else c + 1) + cntK (ks.take (i + 1)) (ks.drop (i + 1)) = cntK [] ks := by
      rw [ed] at hcnt
      rw [et, ← hcnt]
      by_cases z : memK k (ks.take i) = true
      · simp only [cntK, z, if_true]; omega
      · simp only [cntK, z]; simp only [Bool.false_eq_true, if_false]; omega
    refine wpAny_pure ⟨plainId_quiet PyProof.Rows.F.plain_set_update_loop _, ih (i + 1) _ _ (by omega) lt (Wk.frame _ s' _ _ st' (Nat.le_succ _) fun b hb o e => ?_) (by split <;> omega) hc3 hS3 fun s2 mv2 hS4 => ?_⟩
    · rw [sb.2 b fun z => hSf (by rw [← z]; exact hb)]
      exact e
    · refine hR s2 (Moved.trans Wk.gtrans ((mv.mono up).then_heap (Nat.le_succ _) fun b o hb e => ?_) mv2) hS4
      rw [sb.2 b fun z => hb (by rw [z]; exact List.mem_cons_self)]
      exact e
end

section
variable {prog : Program} {w : World} {A : Around} {E : Value → Shared → Prop} {s : Shared}
set_option maxHeartbeats 16000000 in
theorem call_set_keys {l : Addr} {k : Bool} {items : Array Value} (ks : List Key) {Q : Value → Shared → Prop} (hh : A.handled = none) (hl : SeqAt s.heap l k items) (hsz : ks.length = items.size) (hn : items.size + 1 < scanBound) (hval : ∀ (i : Nat) (v : Value), items[i]? = some v → ∃ k : Key, ks[i]? = some k ∧ RelV (kV k) v)
    (h : ∀ (h' : Heap) (tk : Nat), h'.SetOf (mixKind prog w) s.heap.objs.size (fun k' => memK k' ks) (cntK [] ks) → (∀ b o, s.heap.get? b = some o → h'.get? b = some o) → Q (.ref s.heap.objs.size) { s with heap := h', toks := tk }) :
    wpAny (model prog w) A (call (.type "set") [.ref l]) Q E s := by
  obtain ⟨T, od, sl, nn, hol, hsls, hslf, hne⟩ : ∃ (T : String) (od : Option Addr) (sl : Array (Option Value)) (nn : Nat), s.heap.get? l = some { cls := .type T, dict := od, data := .seq items nn, slots := sl } ∧
      isSubtype (.type T) (.type "set") = pure false ∧ isSubtype (.type T) (.type "frozenset") = pure false ∧ (Value.type T == Value.type "dict") = false := by
    cases k with
    | true =>
      obtain ⟨⟨oc, od, dt, sl⟩, h1, h2, n1, h3⟩ := hl
      simp only at h2 h3
      subst h2 h3
      exact ⟨"list", od, sl, n1, h1, PySem.F.sub_list_set, PySem.F.sub_list_frozenset, by decide⟩
    | false =>
      obtain ⟨⟨oc, od, dt, sl⟩, h1, h2, n1, h3⟩ := hl
      simp only at h2 h3
      subst h2 h3
      exact ⟨"tuple", od, sl, n1, h1, F.sub_tuple_set, F.sub_tuple_frozenset, by decide⟩
  obtain ⟨c, tl, hmro⟩ := PySem.F.called_set.mro
  have made := PySem.F.called_set.made
  have subs := PySem.F.called_set.sub
  refine wpAny_call (codeAny_of_tree ?_)
  show wpAny _ _ (callAny (.type "set") _) _ _ _
  refine wpAny_pure ⟨Code.quiet_builtin _ (by decide +kernel), codeAny_builtin PySem.F.entry_type_call ?_⟩
  rw [Around.under_plain (weight_type_call_type "set" [.ref l] []) rfl]
  have g1 := PySem.F.called_set.notType
  have g2 := PySem.F.called_set.canCreate
  have g3 := PySem.F.typeCall_set_1 (.ref l)
  repeat (any_goals (first | assumption | wp_step))
  refine codeAny_mono (PySem.code_set_new_1 (.ref l) (E := E) (Q₁ := fun obj s1 => ∃ led : Bool, obj = .ref s.heap.objs.size ∧ s1 = { s with heap := s.heap.push (setO0 led) }) fun led => ⟨led, rfl, rfl⟩) fun r s1 hr => ?_
  cases r with
  | error e => exact hr
  | ok fl =>
    cases fl with
    | ret obj =>
      obtain ⟨led, rfl, rfl⟩ := hr
      have atS : (s.heap.push (setO0 led)).get? s.heap.objs.size = some (setO0 led) := Heap.get?_push_size _ rfl
      have tyS : Shared.TypeIs { s with heap := s.heap.push (setO0 led) } (.ref s.heap.objs.size) "set" := ⟨_, atS, rfl⟩
      have g4 := PySem.F.called_set.init.lookup
      have g5 := PySem.F.called_set.init.bind (.ref s.heap.objs.size)
      repeat (any_goals (first | assumption | wp_step))
      refine codeAny_mono (codeAny_call_builtin (R := wants (fun r s2 => r = .none ∧ ∃ h' tk, s2 = { s with heap := h', toks := tk } ∧ h'.SetOf (mixKind prog w) s.heap.objs.size (fun k' => memK k' ks) (cntK [] ks) ∧ (∀ b o, s.heap.get? b = some o → h'.get? b = some o)) E)
        PySem.F.called_set.init.plain PySem.F.entry_set_init (PySem.check_set_init_1 tyS ?_)) fun r2 s2 hr2 => ?_
      · have atL : (s.heap.push (setO0 led)).get? l = some { cls := .type T, dict := od, data := .seq items nn, slots := sl } := Heap.get?_push_of_some _ hol
        have hl1 : SeqAt (s.heap.push (setO0 led)) l k items := by
          cases k with
          | true => exact Heap.IsList.push hl _
          | false => exact Heap.IsTuple.push hl _
        unfold Builtin.«set.__init__» noKeywords Builtin.Frozenset.updateFrom
        generalize hPI : pyIter = PI
        wp_walk
        subst hPI
        refine (seqBegins l k items).iter prog w _ _ _ _ hl1 ?_
        refine wpAny_bind (wpAny_runValue ?_)
        have lS : l < s.heap.objs.size := Heap.lt_size hol
        have h3 : A.in1.in1.in1.handled = none := by simp [hh]
        have sz : (s.heap.push (setO0 led)).objs.size = s.heap.objs.size + 1 := Heap.size_push ..
        have nI : l ≠ (s.heap.push (setO0 led)).objs.size := by
          rw [sz]
          exact Nat.ne_of_lt (Nat.lt_succ_of_lt lS)
        have nS : s.heap.objs.size ∉ [(s.heap.push (setO0 led)).objs.size, l] := by
          rw [sz]
          simp only [List.mem_cons, List.not_mem_nil, or_false, not_or]
          exact ⟨Nat.ne_of_lt (Nat.lt_succ_self _), Nat.ne_of_gt lS⟩
        refine loopKeys (seqWalks h3 _ l nI k items).toS s.heap.objs.size nS ks hsz hn hval (items.size - 0) 0 0 _ (by omega) (Nat.zero_le _) ?i0 (Nat.le_refl _) (by simp) ?s0 ?r0
        case i0 =>
          refine ⟨SeqIt.new (Heap.get?_push_size _ (seqBegins l k items).free), ?_⟩
          cases k with
          | true => exact Heap.IsList.push hl1 _
          | false => exact Heap.IsTuple.push hl1 _
        case s0 =>
          have at2 := Heap.get?_push_of_some (seqItO l k) atS
          exact ⟨_, #[], 0, _, at2, ⟨rfl, rfl, rfl⟩, rfl, fun e he => by simp at he, fun k => by simp [memK], by decide, by rfl, rfl⟩
        case r0 =>
          intro s' mv hS'
          obtain ⟨h', g', d', tk', os'⟩ := s'
          have eg : g' = s.gens := mv.gens
          have ed : d' = s.drawn := mv.drawn
          have eo : os' = s.os := mv.os
          subst eg ed eo
          show wpAny _ _ _ _ _ _
          refine wpAny_pure ?_
          show wpAny _ _ (ret Value.none) _ _ _
          refine wpAny_pure ⟨rfl, h', tk', rfl, hS', fun b o e => ?_⟩
          have hb := Heap.lt_size e
          have b1 : b ≠ s.heap.objs.size := Nat.ne_of_lt hb
          have b2 : b ≠ (s.heap.push (setO0 led)).objs.size := by
            rw [sz]
            exact Nat.ne_of_lt (Nat.lt_succ_of_lt hb)
          exact mv.heap b o (by simp only [List.mem_cons, List.not_mem_nil, or_false, not_or]; exact ⟨b1, b2⟩) (Heap.get?_push_of_some _ (Heap.get?_push_of_some _ e))
      · cases r2 with
        | error e => exact hr2
        | ok fl2 =>
          cases fl2 with
          | ret r =>
            obtain ⟨rfl, h', tk, rfl, hS', hk'⟩ := hr2
            repeat (any_goals (first | assumption | wp_step))
            exact h _ _ hS' hk'
          | _ => exact hr2.elim
    | _ => exact hr.elim
end

/-- the keys that a list of things are -/
def keyD : D → Option Key
  | .int i => some (.inl i)
  | .str x => some (.inr x)
  | _ => none
def lenSetD (d : D) (st : Store) : Option (D × Store) := match seqOf d st with
  | some it => (match optL keyD it.items with
    | some ks => if ks.length ≤ 4000 then some (.int (cntK [] ks : Nat), st) else none
    | none => none)
  | none => none
theorem keys_rel {K : PySem.W.Frag} {μ : Nat → Addr} {N : Nat} {H : Hp} : ∀ {ds : List D} {vs : List V} {ks : List Key}, VRs K μ N H ds vs → optL keyD ds = some ks → vs = ks.map kV
  | [], vs, ks, r, h => by
    simp only [optL, Option.some.injEq] at h
    subst h
    simp only [VRs] at r
    exact r
  | d :: ds, vs, ks, r, h => by
    simp only [VRs] at r
    obtain ⟨v, vr, rfl, r1, r2⟩ := r
    unfold optL at h
    cases q : keyD d with
    | none => rw [q] at h; cases h
    | some k =>
      rw [q] at h
      simp only at h
      cases q2 : optL keyD ds with
      | none => rw [q2] at h; cases h
      | some kr =>
        rw [q2] at h
        cases h
        rw [keys_rel r2 q2]
        cases d with
        | int i => cases q; simp only [VR] at r1; rw [r1]; rfl
        | str i => cases q; simp only [VR] at r1; rw [r1]; rfl
        | _ => cases q
theorem vals_at : ∀ {vs : List V} {us : List Value} (i : Nat) (u : Value), Vals vs us → us[i]? = some u → ∃ v, vs[i]? = some v ∧ RelV v u
  | [], _, i, u, .nil, h => by simp at h
  | v :: vs, _, 0, u, .cons r t, h => by
    simp at h
    subst h
    exact ⟨v, rfl, r⟩
  | v :: vs, _, i + 1, u, .cons r t, h => by
    obtain ⟨x, h1, h2⟩ := vals_at i u t (by simpa using h)
    exact ⟨x, by simpa using h1, h2⟩
section
variable {X : Cx} {cl : CL} {W : WX}
theorem s_lenSet {a : Expr} {m : ME} {p p2 q pos : Pos} (hc : X.calm = true) (ha : SE X cl W a m) (hm : X.mg "len" = none) (hm2 : X.mg "set" = none) (hg : Gl X "len" := by rfl) (hg2 : Gl X "set" := by rfl)
    (na : starEach [a] X.env = (false, eval a X.env) :: starEach [] X.env := by rfl) : SE X cl W (.Call (.Name "len" p) [.Call (.Name "set" p2) [a] [] q] [] pos) (m1 lenSetD m) := by
  refine ⟨fun pins s σ H Q I ⟨μ, st, l, S, L, h⟩ => ?_⟩
  have w : rdE X.K cl W m σ H (fun x H1 => ∃ a k ks, x = .ref a ∧ SqA X.K H1 a k (ks.map kV) ∧ ks.length ≤ 4000 ∧ Q (.int (cntK [] ks : Nat)) H1) := ⟨μ, st, l, S, L, Post.bind h fun d st1 μ1 H1 v _ S1 e1 r1 h1 => by
    unfold lenSetD at h1
    cases q : seqOf d st1 with
    | none => rw [q] at h1; exact h1.elim
    | some it =>
      rw [q] at h1
      simp only at h1
      obtain ⟨a, k, ev, _, hh⟩ := seqOf_ok S1 r1 q
      cases q2 : optL keyD it.items with
      | none => rw [q2] at h1; exact h1.elim
      | some ks =>
        rw [q2] at h1
        simp only at h1
        by_cases z : ks.length ≤ 4000
        · rw [if_pos z] at h1
          have so : SrcOk it.srcs st1 := by
            intro p hp
            unfold seqOf at q
            cases d with
            | tup xs => cases q; cases hp
            | rol xs => cases q; cases hp
            | ref m =>
              simp only at q
              cases y : st1.at_ m with
              | none => rw [y] at q; cases q
              | some c =>
                rw [y] at q
                cases c with
                | lst xs =>
                  cases q
                  simp only [List.mem_singleton] at hp
                  subst hp
                  exact y
                | _ => cases q
            | _ => cases q
          obtain ⟨vs, q3, q4⟩ := hh μ1 st1 H1 S1 Ev.refl so
          rw [keys_rel q4 q2] at q3
          exact ⟨a, k, ks, ev, q3, z, h1 μ1 H1 _ S1 Ev.refl (by simp only [VR])⟩
        · rw [if_neg z] at h1; exact h1.elim⟩
  refine Call_ (ld_blt I hg hm boot_len ?_)
  refine callWith_builtin1 (args_cons ?_ rfl) rfl rfl
  refine Call_ (ld_blt I hg2 hm2 boot_set ?_)
  refine callWith_type1 (args_cons (thn (ha.run pins s σ H _ I w) fun v s1 ⟨x, H1, I1, r1, a, k, ks, ex, hq, hz, q1⟩ => args_nil ?_) na) na rfl
  subst ex
  cases r1
  obtain ⟨its, rv, pl, la⟩ := seq_at I1 hq
  have ln : its.toArray.size = ks.length := by rw [List.size_toArray, ← rv.length, List.length_map]
  refine call_set_keys ks (I1.ok.hd hc) pl ln.symm (by rw [ln]; unfold scanBound; omega) (fun i v hv => ?_) fun h' tk hS hk => ?_
  · have hv' : its[i]? = some v := by simpa using hv
    obtain ⟨y, h1, h2⟩ := vals_at i v rv hv'
    rw [List.getElem?_map] at h1
    cases z : ks[i]? with
    | none => rw [z] at h1; cases h1
    | some kk =>
      rw [z] at h1
      cases h1
      exact ⟨kk, rfl, h2⟩
  · refine args_nil ?_
    obtain ⟨o, es, ep, t, ho, hex, hd, _, _, _, hf, hn⟩ := hS
    have I2 : Inv X pins σ H1 { s1 with heap := h', toks := tk } := I1.kept hk
    have hb : cntK [] ks ≤ 4000 := by
      have : ∀ (r seen : List Key), cntK seen r ≤ r.length := fun r => by
        induction r with
        | nil => intro seen; simp [cntK]
        | cons k r ih =>
          intro seen
          have := ih (seen ++ [k])
          simp only [cntK, List.length_cons]
          split <;> omega
      exact Nat.le_trans (this ks []) hz
    exact call_len_set ho hex hd hf (by rw [hn]; omega) ⟨.int (cntK [] ks : Nat), H1, I2.tok _, ⟨_, by rw [hn]⟩, q1⟩
end
end DV


set_option Elab.async false
set_option linter.all false
set_option maxRecDepth 100000
set_option  maxHeartbeats   8000000
/-! DV, part K: fields, properties, objects made, calls with keywords. -/
namespace DV
open PySem PySem.Spec PyProof.Rows L2

/-! ### where an argument comes from -/
inductive Src where
  | p (i : Nat)
  | k (i : Nat)
  | d (i : Nat)
def Src.of {α : Type} (ps ks ds : List α) : Src → Option α
  | .p i => ps[i]?
  | .k i => ks[i]?
  | .d i => ds[i]?
def arr {α : Type} : List Src → List α → List α → List α → List α
  | [], _, _, _ => []
  | x :: r, ps, ks, ds => match x.of ps ks ds with
    | some a => a :: arr r ps ks ds
    | none => arr r ps ks ds
theorem vals_gets {vs : List V} {us : List Value} (h : Vals vs us) (i : Nat) : (∃ v u, vs[i]? = some v ∧ us[i]? = some u ∧ RelV v u) ∨ (vs[i]? = none ∧ us[i]? = none) := by
  have ln := h.length
  cases q : us[i]? with
  | some u =>
    obtain ⟨v, h1, h2⟩ := vals_at i u h q
    exact .inl ⟨v, u, h1, rfl, h2⟩
  | none =>
    refine .inr ⟨?_, rfl⟩
    rw [List.getElem?_eq_none_iff] at q ⊢
    omega
theorem vrs_gets {K : PySem.W.Frag} {μ : Nat → Addr} {N : Nat} {H : Hp} {ds : List D} {vs : List V} (h : VRs K μ N H ds vs) (i : Nat) : (∃ d v, ds[i]? = some d ∧ vs[i]? = some v ∧ VR K μ N H d v) ∨ (ds[i]? = none ∧ vs[i]? = none) := by
  have ln := h.length
  cases q : ds[i]? with
  | some d =>
    obtain ⟨v, h1, h2⟩ := h.get q
    exact .inl ⟨d, v, rfl, h1, h2⟩
  | none =>
    refine .inr ⟨rfl, ?_⟩
    rw [List.getElem?_eq_none_iff] at q ⊢
    omega
theorem Vals.arr : ∀ (ix : List Src) {vs zs ms : List V} {us ws mv : List Value}, Vals vs us → Vals zs ws → Vals ms mv → Vals (arr ix vs zs ms) (arr ix us ws mv)
  | [], _, _, _, _, _, _, _, _, _ => .nil
  | x :: r, vs, zs, ms, us, ws, mv, h1, h2, h3 => by
    have ih := Vals.arr r h1 h2 h3
    have go : (∃ v u, x.of vs zs ms = some v ∧ x.of us ws mv = some u ∧ RelV v u) ∨ (x.of vs zs ms = none ∧ x.of us ws mv = none) := by
      cases x with
      | p i => exact vals_gets h1 i
      | k i => exact vals_gets h2 i
      | d i => exact vals_gets h3 i
    unfold DV.arr
    rcases go with ⟨v, u, e1, e2, r1⟩ | ⟨e1, e2⟩
    · rw [e1, e2]; exact .cons r1 ih
    · rw [e1, e2]; exact ih
theorem VRs.arr {K : PySem.W.Frag} {μ : Nat → Addr} {N : Nat} {H : Hp} : ∀ (ix : List Src) {ds es ms : List D} {vs zs mv : List V}, VRs K μ N H ds vs → VRs K μ N H es zs → VRs K μ N H ms mv → VRs K μ N H (arr ix ds es ms) (arr ix vs zs mv)
  | [], _, _, _, _, _, _, _, _, _ => by simp only [DV.arr, VRs]
  | x :: r, ds, es, ms, vs, zs, mv, h1, h2, h3 => by
    have ih := VRs.arr r h1 h2 h3
    have go : (∃ d v, x.of ds es ms = some d ∧ x.of vs zs mv = some v ∧ VR K μ N H d v) ∨ (x.of ds es ms = none ∧ x.of vs zs mv = none) := by
      cases x with
      | p i => exact vrs_gets h1 i
      | k i => exact vrs_gets h2 i
      | d i => exact vrs_gets h3 i
    unfold DV.arr
    rcases go with ⟨d, v, e1, e2, r1⟩ | ⟨e1, e2⟩
    · rw [e1, e2]; simp only [VRs]; exact ⟨v, _, rfl, r1, ih⟩
    · rw [e1, e2]; exact ih
/-- how a call with n positional values and keywords ks binds: by ix, from these and the defaults dvs -/
def KB (K : PySem.W.Frag) (fd : FuncData) (ps : List Str) (n : Nat) (ks : List Str) (ix : List Src) (dvs : List V) : Prop := ∃ dv : List Value, KBn K fd ps n ks (fun us ws => arr ix us ws dv) (fun vs zs => arr ix vs zs dvs)
/-- keyword-only defaults (ms of them lack), no others -/
theorem kb_of {K : PySem.W.Frag} {x qual : Str} {params : Arguments} {body : List Stmt} {scope : Scope} {kws : List (Str × V)} {f : Addr} {fd : FuncData} {ps : List Str} (F : FunD K x qual params body scope [] kws f fd) (n : Nat) (ks : List Str) (ms : List (Str × V)) (ix : List Src) (hk : kws ≠ []) (hms : ∀ q ∈ ms, q ∈ kws)
    (h : ∀ (D : Addr) (doc pm : Value) (an : Option Addr) (cdv ct : Value) (us mv ws : List Value), us.length = n → mv.length = ms.length → ws.length = ks.length →
      KwChain D ((ms.map (·.1)).zip mv) (bindArgs (PySem.W.fnOf x qual params body scope .none (.ref D) doc pm an cdv ct) ⟨us, ks.zip ws⟩) (ps.zip (arr ix us ws mv))) : KB K fd ps n ks ix (ms.map (·.2)) :=
  F.kbinds0 n ks ms (fun us mz ws => arr ix us ws mz) hk hms (fun r1 r2 r3 => Vals.arr ix r1 r3 r2) h
/-- no defaults -/
theorem kb_plain {K : PySem.W.Frag} {x qual : Str} {st : Stmt} {f : Addr} {fd : FuncData} {ps : List Str} (F : Fun K x qual st f fd) (n : Nat) (ks : List Str) (ix : List Src)
    (h : ∀ (kV doc pm : Value) (an : Option Addr) (cdv ct : Value) (us ws : List Value), us.length = n → ws.length = ks.length → bindArgs (PySem.W.fnOf x qual (defArgs st) (defBody st) (defScope st) .none kV doc pm an cdv ct) ⟨us, ks.zip ws⟩ = pure (ps.zip (arr ix us ws []))) : KB K fd ps n ks ix [] := by
  obtain ⟨oc, od, kV, doc, pm, an, cdv, ct, osl, rfl, lk, hcd⟩ := F.ex
  exact ⟨[], ⟨fun s us ws X l1 l2 => .of_eq (h kV doc pm an cdv ct us ws l1 l2), fun r1 r2 => Vals.arr ix r1 r2 .nil⟩⟩

/-! ### keywords -/
section
variable {X : Cx} {cl : CL} {W : WX} {k n : Nat} {f : Addr} {fd : FuncData} {ps ks : List Str} {F : FD} {x : Str} {p pos : Pos} {e : Expr} {es : List Expr} {kws : List Keyword} {xs ys : MA} {ix : List Src} {dds : List D} {dvs : List V} {kpos : Pos} {nm : Option Str} {me : ME}
abbrev SK (X : Cx) (cl : CL) (W : WX) (kws : List Keyword) (m : MA) : Prop := PK X kws (rdA X.K cl W m)
theorem PK.weak {X : Cx} {kws : List Keyword} {t t' : TA} (h : PK X kws t) (w : ∀ σ H Q, t' σ H Q → t σ H Q) : PK X kws t' := ⟨fun pos pins s σ H Q I q => h.run pos pins s σ H Q I (w σ H Q q)⟩
theorem sk_nil : SK X cl W [] maNil := PK.weak pk_nil fun σ H Q ⟨μ, st, l, S, L, h⟩ => h μ H [] S Ev.refl (by simp only [VRs])
theorem sk_cons (ha : SE X cl W e me) (hr : SK X cl W kws xs) : SK X cl W (⟨nm, e, kpos⟩ :: kws) (maCons me xs) :=
  PK.weak (pk_cons ha hr) fun σ H Q ⟨μ, st, l, S, L, h⟩ => ⟨μ, st, l, S, L, Post.bind h fun x st1 μ1 H1 v _ S1 e1 r1 h1 =>
    ⟨μ1, st1, l, S1, L.ev e1, Post.bind h1 fun ys st2 μ2 H2 vs _ S2 e2 r2 h2 => h2 μ2 H2 (v :: vs) S2 Ev.refl (by simp only [VRs]; exact ⟨v, vs, rfl, r1.ev e2, r2⟩)⟩⟩
/-- f(e, .., k = v, ..) -/
def mCallK (F : FD) (n m : Nat) (ix : List Src) (dds : List D) (a b : MA) : ME := fun l st => (a l st).bind fun ds st1 => (b l st1).bind fun es st2 => if ds.length = n ∧ es.length = m then F (arr ix ds es dds) st2 else .bad
theorem run_kw {pins : List (Addr × Obj)} {σ : L2.St} {H : Hp} {s : Shared} {Q : VK} {us ws : List Value} {vs zs : List V} (G : FnS X.prog X.w X.K X.mg X.base cl k f fd ps F) (hr : RoomG k X.A) (tk : Takes X W) (hb : KB X.K fd ps n ks ix dvs) (I : Inv X pins σ H s)
    (r : Vals vs us) (rz : Vals zs ws) (l1 : vs.length = n) (l2 : zs.length = ks.length) (h : spF X.K cl F (arr ix vs zs dvs) H Q (WE W σ)) : wpAny (model X.prog X.w) X.A (call (.ref f) us (ks.zip ws)) (EP X pins σ Q) X.xe s := by
  obtain ⟨dv, hb⟩ := hb
  refine wpAny_call (codeAny_mono (run_g (args := ⟨us, ks.zip ws⟩) G hr tk I (fun _ => hb.to s us ws I.kIn (r.length.symm.trans l1) (rz.length.symm.trans l2)) (hb.rel r rz) h) fun r s' hq => ?_)
  cases r with
  | error e => exact hq
  | ok fl =>
    cases fl with
    | ret u => exact hq
    | next => exact hq
    | brk => exact hq
    | cont => exact hq
theorem s_callK (G : FnS X.prog X.w X.K X.mg X.base cl k f fd ps F) (hr : RoomG k X.A) (tk : Takes X W) (hm : X.mg x = some (.ref f)) (hk : PySem.W.keepIn X.K (.ref f) = true) (hb : KB X.K fd ps n ks ix dvs) (hD : Dfl X.K dds dvs) (ha : SA X cl W (e :: es) xs) (hkw : SK X cl W kws ys)
    (hg : Gl X x := by rfl) (hall : (backToKw pos (keywordEach kws X.env)).all (·.1.isSome) = true := by rfl) (hks : (backToKw pos (keywordEach kws X.env)).filterMap (·.1) = ks := by rfl) (hdb : (x == ("__debug__" : Str)) = false := by decide)
    (he : starEach (e :: es) X.env = (false, eval e X.env) :: starEach es X.env := by rfl) (hpl : ((backTo pos (starEach (e :: es) X.env)).any (·.1) || (backToKw pos (keywordEach kws X.env)).any (·.1.isNone)) = false := by rfl) :
    SE X cl W (.Call (.Name x p) (e :: es) kws pos) (mCallK F n ks.length ix dds xs ys) := by
  refine ⟨fun pins s σ H Q I ⟨μ, st, l, S, L, h⟩ => ?_⟩
  refine wpAny_Call_Name_kw (ld_glob I hg hm ?_ hdb)
  have w : rdA X.K cl W xs σ H fun vs H1 => rdA X.K cl W ys σ H1 fun zs H2 => vs.length = n ∧ zs.length = ks.length ∧ spF X.K cl F (arr ix vs zs dvs) H2 Q (WE W σ) :=
    ⟨μ, st, l, S, L, Post.bind h fun ds st1 μ1 H1 vs _ S1 e1 r1 h1 => ⟨μ1, st1, l, S1, L.ev e1, Post.bind h1 fun es st2 μ2 H2 zs _ S2 e2 r2 h2 => by
      by_cases z : ds.length = n ∧ es.length = ks.length
      · rw [if_pos z] at h2
        exact ⟨r1.length.symm.trans z.1, r2.length.symm.trans z.2, μ2, st2, _, S2, VRs.arr ix (r1.ev e2) r2 (hD _ _ _), h2⟩
      · rw [if_neg z] at h2; exact h2.elim⟩⟩
  refine PySem.W.callWith_KW (h₀ := X.base) I.ok.mod.kin hk hall (thn (ha.run pos pins s σ H _ I w) fun us s1 ⟨vs, H1, I1, r, q⟩ => ?_) hpl he
  refine thn (hkw.run pos pins s1 σ H1 _ I1 q) fun ws s2 ⟨zs, H2, I2, rz, l1, l2, q2⟩ => ⟨I2.kIn, ?_⟩
  rw [hks]
  exact run_kw G hr tk hb I2 r rz l1 l2 q2
/-- f(k = v, ..) -/
theorem s_callK0 (G : FnS X.prog X.w X.K X.mg X.base cl k f fd ps F) (hr : RoomG k X.A) (tk : Takes X W) (hm : X.mg x = some (.ref f)) (hk : PySem.W.keepIn X.K (.ref f) = true) (hb : KB X.K fd ps 0 ks ix dvs) (hD : Dfl X.K dds dvs) (hkw : SK X cl W kws ys)
    (hg : Gl X x := by rfl) (hall : (backToKw pos (keywordEach kws X.env)).all (·.1.isSome) = true := by rfl) (hks : (backToKw pos (keywordEach kws X.env)).filterMap (·.1) = ks := by rfl) (hdb : (x == ("__debug__" : Str)) = false := by decide)
    (hpl : ((backTo pos (starEach [] X.env)).any (·.1) || (backToKw pos (keywordEach kws X.env)).any (·.1.isNone)) = false := by rfl) :
    SE X cl W (.Call (.Name x p) [] kws pos) (mCallK F 0 ks.length ix dds maNil ys) := by
  refine ⟨fun pins s σ H Q I ⟨μ, st, l, S, L, h⟩ => ?_⟩
  refine wpAny_Call_Name_kw (ld_glob I hg hm ?_ hdb)
  have w : rdA X.K cl W ys σ H fun zs H2 => zs.length = ks.length ∧ spF X.K cl F (arr ix [] zs dvs) H2 Q (WE W σ) :=
    ⟨μ, st, l, S, L, Post.bind (k := fun es st2 => if ([] : List D).length = 0 ∧ es.length = ks.length then F (arr ix [] es dds) st2 else .bad) h fun es st2 μ2 H2 zs _ S2 e2 r2 h2 => by
      by_cases z : ([] : List D).length = 0 ∧ es.length = ks.length
      · rw [if_pos z] at h2
        exact ⟨r2.length.symm.trans z.2, μ2, st2, _, S2, VRs.arr ix (by simp only [VRs]) r2 (hD _ _ _), h2⟩
      · rw [if_neg z] at h2; exact h2.elim⟩
  refine PySem.W.callWith_KW0 (h₀ := X.base) I.ok.mod.kin hk hall ?_ hpl
  refine thn (hkw.run pos pins s σ H _ I w) fun ws s2 ⟨zs, H2, I2, rz, l2, q2⟩ => ⟨I2.kIn, ?_⟩
  rw [hks]
  exact run_kw (us := []) G hr tk hb I2 .nil rz rfl l2 q2
end

/-! ### an object made -/
theorem RoomG.in1 {k : Nat} {A : Around} (r : RoomG (k + 1) A) : RoomG k A.in1 := ⟨r.room.in1, r.g⟩
theorem make_guards {A : Around} {C : Addr} {us : List Value} {kw : List (Str × Value)} : (A.under (.builtin "type.__call__" ⟨.ref C :: us, kw⟩)).guards = A.guards := by
  first | rfl | simp [Around.under, Code.weight, Code.isCreation, Code.isGuard, Code.isCaller, Code.frames, Code.isFrame, guardIds]
theorem RoomG.make {k : Nat} {A : Around} (r : RoomG (k + 1) A) (C : Addr) (us : List Value) (kw : List (Str × Value)) : RoomG k (A.under (.builtin "type.__call__" ⟨.ref C :: us, kw⟩)) := ⟨r.room.make C us kw, make_guards.trans r.g⟩
/-- a new instance of class c, then F on it -/
def mkIns (c : Nat) (F : FD) (g : D → List D) (st : Store) : Res D := (F (g (.ref st.nxt)) (st.new (.ins c []))).bind fun d st' => match d with
  | .non => .ok (.ref st.nxt) st'
  | _ => .bad
section
variable {X : Cx} {cl : CL} {W : WX} {k n c : Nat} {f : Addr} {fd : FuncData} {ps ks : List Str} {F : FD} {x : Str} {p pos : Pos} {e : Expr} {es : List Expr} {kws : List Keyword} {xs ys : MA} {ix : List Src} {dds : List D} {dvs : List V}
theorem run_mk {pins : List (Addr × Obj)} {σ : L2.St} {H : Hp} {s : Shared} {Q : VK} {us ws : List Value} {vs zs : List V} {μ : Nat → Addr} {st : Store} {ds es : List D} (M : Mk X.K (cl c) f) (G : FnS X.prog X.w X.K X.mg X.base cl k f fd ps F) (hr : RoomG (k + 1) X.A) (tk : Takes X W)
    (hb : KB X.K fd ps (n + 1) ks ix dvs) (hD : Dfl X.K dds dvs) (I : Inv X pins σ H s) (r : Vals vs us) (rz : Vals zs ws) (l1 : vs.length = n) (l2 : zs.length = ks.length) (S : SR X.K cl μ st H) (rv : VRs X.K μ st.nxt H ds vs) (re : VRs X.K μ st.nxt H es zs)
    (h : Post X.K cl (VR X.K) μ st.nxt H Q (WE W σ) (mkIns c F (fun d => arr ix (d :: ds) es dds) st)) : wpAny (model X.prog X.w) X.A (call (.ref (cl c)) us (ks.zip ws)) (EP X pins σ Q) X.xe s := by
  obtain ⟨dv, hb⟩ := hb
  have f0 : H (s.heap.objs.size + 1) = none := I.hok.fresh (Nat.le_succ _)
  have f1 : H s.heap.objs.size = none := I.hok.fresh (Nat.le_refl _)
  have ne : s.heap.objs.size + 1 ≠ s.heap.objs.size := Nat.succ_ne_self _
  have f2 : upd H s.heap.objs.size (.own (s.heap.objs.size + 1)) (s.heap.objs.size + 1) = none := by
    rw [upd_ne ne]
    exact f0
  have I2 := Inv.made (C := cl c) I
  have S1 : SR X.K cl μ st (upd H s.heap.objs.size (.own (s.heap.objs.size + 1))) := S.beside f1
  have S2 : SR X.K cl (ext μ st.nxt (s.heap.objs.size + 1)) (st.new (.ins c [])) (upd (upd H s.heap.objs.size (.own (s.heap.objs.size + 1))) (s.heap.objs.size + 1) (.ins (cl c) s.heap.objs.size [])) :=
    S1.mk_new f2 ⟨s.heap.objs.size, [], upd_same, rfl, by simp only [List.map, VRs]⟩
  have e2 : Ev X.K μ st.nxt H (ext μ st.nxt (s.heap.objs.size + 1)) (st.nxt + 1) (upd (upd H s.heap.objs.size (.own (s.heap.objs.size + 1))) (s.heap.objs.size + 1) (.ins (cl c) s.heap.objs.size [])) := (Ev.beside f1).trans (Ev.new f2)
  have rn : VR X.K (ext μ st.nxt (s.heap.objs.size + 1)) (st.nxt + 1) (upd (upd H s.heap.objs.size (.own (s.heap.objs.size + 1))) (s.heap.objs.size + 1) (.ins (cl c) s.heap.objs.size [])) (.ref st.nxt) (.ref (s.heap.objs.size + 1)) := by
    simp only [VR]
    exact ⟨Nat.lt_succ_self _, by rw [ext_same]⟩
  have sp : spF X.K cl F (arr ix (.ref (s.heap.objs.size + 1) :: vs) zs dvs) (upd (upd H s.heap.objs.size (.own (s.heap.objs.size + 1))) (s.heap.objs.size + 1) (.ins (cl c) s.heap.objs.size [])) (fun v H2 => v = .non ∧ Q (.ref (s.heap.objs.size + 1)) H2) (WE W σ) := by
    have rr : VRs X.K (ext μ st.nxt (s.heap.objs.size + 1)) (st.nxt + 1) (upd (upd H s.heap.objs.size (.own (s.heap.objs.size + 1))) (s.heap.objs.size + 1) (.ins (cl c) s.heap.objs.size [])) (.ref st.nxt :: ds) (.ref (s.heap.objs.size + 1) :: vs) := by
      simp only [VRs]
      exact ⟨_, vs, rfl, rn, rv.ev e2⟩
    refine ⟨_, st.new (.ins c []), arr ix (.ref st.nxt :: ds) es dds, S2, VRs.arr ix rr (re.ev e2) (hD _ _ _), ?_⟩
    refine Post.bind (Post.mono e2 h) fun d st3 μ3 H3 v _ S3 e3 r3 h3 => ?_
    cases d with
    | non =>
      simp only [VR] at r3
      exact ⟨r3, h3 μ3 H3 _ S3 Ev.refl (rn.ev e3)⟩
    | _ => exact h3.elim
  have r1 : Vals (V.ref (s.heap.objs.size + 1) :: vs) (Value.ref (s.heap.objs.size + 1) :: us) := .cons rfl r
  have n1 : (Value.ref (s.heap.objs.size + 1) :: us).length = n + 1 := by rw [List.length_cons, ← r.length, l1]
  refine wpAny_call (make_map (f := f) I.kIn M.makes M.init (beq_iff_eq.mp M.fn) (codeAny_mono (G.run _ X.stack _ _ ⟨Value.ref (s.heap.objs.size + 1) :: us, ks.zip ws⟩ _ _ _ (WE W σ) (hr.make (cl c) us (ks.zip ws)) (I2.env0.make (cl c) us (ks.zip ws))
    (hb.to _ (Value.ref (s.heap.objs.size + 1) :: us) ws I2.kIn n1 (rz.length.symm.trans l2)) (hb.rel r1 rz) sp) fun rr s' hq => ?_))
  cases rr with
  | error er => exact passAt tk σ pins _ _ er s' I2 hq
  | ok fl =>
    cases fl with
    | ret u =>
      obtain ⟨v, H', I3, rv, ev, q3⟩ := I2.after hq
      subst ev
      exact ⟨rv, ⟨V.ref (s.heap.objs.size + 1), H', I3, rfl, q3⟩⟩
    | next => exact hq.elim
    | brk => exact hq.elim
    | cont => exact hq.elim
def mMake (c : Nat) (F : FD) (n m : Nat) (ix : List Src) (dds : List D) (a b : MA) : ME := fun l st => (a l st).bind fun ds st1 => (b l st1).bind fun es st2 => if ds.length = n ∧ es.length = m then mkIns c F (fun d => arr ix (d :: ds) es dds) st2 else .bad
/-- C(e, .., k = v, ..) -/
theorem s_makeK (M : Mk X.K (cl c) f) (G : FnS X.prog X.w X.K X.mg X.base cl k f fd ps F) (hr : RoomG (k + 1) X.A) (tk : Takes X W) (hm : X.mg x = some (.ref (cl c))) (hb : KB X.K fd ps (n + 1) ks ix dvs) (hD : Dfl X.K dds dvs) (ha : SA X cl W (e :: es) xs) (hkw : SK X cl W kws ys)
    (hg : Gl X x := by rfl) (hall : (backToKw pos (keywordEach kws X.env)).all (·.1.isSome) = true := by rfl) (hks : (backToKw pos (keywordEach kws X.env)).filterMap (·.1) = ks := by rfl) (hdb : (x == ("__debug__" : Str)) = false := by decide)
    (he : starEach (e :: es) X.env = (false, eval e X.env) :: starEach es X.env := by rfl) (hpl : ((backTo pos (starEach (e :: es) X.env)).any (·.1) || (backToKw pos (keywordEach kws X.env)).any (·.1.isNone)) = false := by rfl) :
    SE X cl W (.Call (.Name x p) (e :: es) kws pos) (mMake c F n ks.length ix dds xs ys) := by
  refine ⟨fun pins s σ H Q I ⟨μ, st, l, S, L, h⟩ => ?_⟩
  refine wpAny_Call_Name_kw (ld_glob I hg hm ?_ hdb)
  have w : rdA X.K cl W xs σ H fun vs H1 => rdA X.K cl W ys σ H1 fun zs H2 => vs.length = n ∧ zs.length = ks.length ∧ ∃ μ st ds es, SR X.K cl μ st H2 ∧ VRs X.K μ st.nxt H2 ds vs ∧ VRs X.K μ st.nxt H2 es zs ∧ Post X.K cl (VR X.K) μ st.nxt H2 Q (WE W σ) (mkIns c F (fun d => arr ix (d :: ds) es dds) st) :=
    ⟨μ, st, l, S, L, Post.bind h fun ds st1 μ1 H1 vs _ S1 e1 r1 h1 => ⟨μ1, st1, l, S1, L.ev e1, Post.bind h1 fun es st2 μ2 H2 zs _ S2 e2 r2 h2 => by
      by_cases z : ds.length = n ∧ es.length = ks.length
      · rw [if_pos z] at h2
        exact ⟨r1.length.symm.trans z.1, r2.length.symm.trans z.2, μ2, st2, _, _, S2, r1.ev e2, r2, h2⟩
      · rw [if_neg z] at h2; exact h2.elim⟩⟩
  refine PySem.W.callWith_KW (h₀ := X.base) I.ok.mod.kin M.kp hall (thn (ha.run pos pins s σ H _ I w) fun us s1 ⟨vs, H1, I1, r, q⟩ => ?_) hpl he
  refine thn (hkw.run pos pins s1 σ H1 _ I1 q) fun ws s2 ⟨zs, H2, I2, rz, l1, l2, μ2, st2, ds, es, S2, rv, re, q2⟩ => ⟨I2.kIn, ?_⟩
  rw [hks]
  exact run_mk M G hr tk hb hD I2 r rz l1 l2 S2 rv re q2
end

/-! ### fields -/
def putA {α : Type} (f : Str) (v : α) : List (Str × α) → List (Str × α)
  | [] => [(f, v)]
  | (g, x) :: r => if g = f then (g, v) :: r else (g, x) :: putA f v r
theorem putA_rel {K : PySem.W.Frag} {μ : Nat → Addr} {N : Nat} {H : Hp} {f : Str} {d : D} {v : V} (hd : VR K μ N H d v) : ∀ {fs : List (Str × D)} {ps : List (Str × V)}, ps.map (·.1) = fs.map (·.1) → VRs K μ N H (fs.map (·.2)) (ps.map (·.2)) →
    (putF f v ps).map (·.1) = (putA f d fs).map (·.1) ∧ VRs K μ N H ((putA f d fs).map (·.2)) ((putF f v ps).map (·.2))
  | [], [], _, _ => by
    simp only [putF, putA, List.map, VRs]
    exact ⟨trivial, v, [], rfl, hd, rfl⟩
  | (g, x) :: fs, (g', y) :: ps, h1, h2 => by
    simp only [List.map_cons, List.cons.injEq] at h1
    obtain ⟨rfl, h1⟩ := h1
    simp only [List.map_cons, VRs] at h2
    obtain ⟨v0, r0, e0, a0, b0⟩ := h2
    simp only [List.cons.injEq] at e0
    obtain ⟨rfl, rfl⟩ := e0
    unfold putF putA
    by_cases z : g' = f
    · rw [if_pos z, if_pos z]
      simp only [List.map_cons, VRs]
      exact ⟨by rw [h1], v, _, rfl, hd, b0⟩
    · rw [if_neg z, if_neg z]
      obtain ⟨i1, i2⟩ := putA_rel hd h1 b0
      simp only [List.map_cons, VRs]
      exact ⟨by rw [i1], y, _, rfl, a0, i2⟩
  | [], _ :: _, h1, _ => by simp at h1
  | _ :: _, [], h1, _ => by simp at h1
theorem lookA_rel {K : PySem.W.Frag} {μ : Nat → Addr} {N : Nat} {H : Hp} {f : Str} {d : D} : ∀ {fs : List (Str × D)} {ps : List (Str × V)}, ps.map (·.1) = fs.map (·.1) → VRs K μ N H (fs.map (·.2)) (ps.map (·.2)) → fs.lookup f = some d → ∃ v, ps.lookup f = some v ∧ VR K μ N H d v
  | [], [], _, _, h => by simp [List.lookup] at h
  | (g, x) :: fs, (g', y) :: ps, h1, h2, h => by
    simp only [List.map_cons, List.cons.injEq] at h1
    obtain ⟨rfl, h1⟩ := h1
    simp only [List.map_cons, VRs] at h2
    obtain ⟨v0, r0, e0, a0, b0⟩ := h2
    simp only [List.cons.injEq] at e0
    obtain ⟨rfl, rfl⟩ := e0
    simp only [List.lookup] at h ⊢
    cases z : f == g' with
    | true =>
      rw [z] at h
      cases h
      exact ⟨y, rfl, a0⟩
    | false =>
      rw [z] at h
      exact lookA_rel h1 b0 h
  | [], _ :: _, h1, _, _ => by simp at h1
  | _ :: _, [], h1, _, _ => by simp at h1
def fldD (c : Nat) (f : Str) : F1 := fun d st => match d with
  | .ref r => (match st.at_ r with
    | some (.ins c' fs) => if c' = c then (fs.lookup f).map fun x => (x, st) else none
    | _ => none)
  | _ => none
def mFld (c : Nat) (f : Str) (m : ME) : ME := m1 (fldD c f) m
/-- o.f = e -/
def msFld (c : Nat) (f : Str) (mo mv : ME) : MS := fun l st => (mv l st).toS l fun v st1 => (mo l st1).toS l fun o st2 => match o with
  | .ref r => (match st2.at_ r with
    | some (.ins c' fs) => if c' = c ∧ fs.length < 1000 then .nx l (st2.put r (.ins c (putA f v fs))) else .bad
    | _ => .bad)
  | _ => .bad
def mProp (c : Nat) (F : FD) (m : ME) : ME := fun l st => (m l st).bind fun d st1 => match d with
  | .ref r => (match st1.at_ r with
    | some (.ins c' fs) => if c' = c then (match F [.ref r] st1 with
      | .ok x st2 => .ok x st2
      | _ => .bad) else .bad
    | _ => .bad)
  | _ => .bad
section
variable {X : Cx} {cl : CL} {W : WX} {c k : Nat} {f : Str} {e o v : Expr} {m mo mv : ME} {pos pos' : Pos} {p g : Addr} {fd : FuncData} {ps : List Str} {F : FD} {x : Str}
theorem s_fld (cc : Cls X.K (cl c)) (na : NoAttr X.K (cl c) f) (he : SE X cl W e m) (hb : attributeBase e f X.env (eval e X.env) = eval e X.env := by rfl) : SE X cl W (.Attribute e f pos) (mFld c f m) := s_pe (pe_fld he hb) fun σ H Q ⟨μ, st, l, S, L, h⟩ =>
  ⟨μ, st, l, S, L, Post.bind h fun d st1 μ1 H1 v _ S1 e1 r1 h1 => by
    unfold fldD at h1
    cases d with
    | ref r =>
      simp only [VR] at r1
      obtain ⟨hr, rfl⟩ := r1
      simp only at h1
      cases z : st1.at_ r with
      | none => rw [z] at h1; exact h1.elim
      | some cell =>
        rw [z] at h1
        cases cell with
        | ins c' fs =>
          simp only at h1
          by_cases y : c' = c
          · subst y
            rw [if_pos rfl] at h1
            obtain ⟨dx, qs, g1, g2, g3⟩ := S1.get z
            cases w : fs.lookup f with
            | none => rw [w] at h1; exact h1.elim
            | some d =>
              rw [w] at h1
              obtain ⟨u, h2, h3⟩ := lookA_rel g2 g3 w
              exact ⟨_, _, dx, qs, u, rfl, g1, cc, na, h2, h1 μ1 H1 u S1 Ev.refl h3⟩
          · rw [if_neg y] at h1; exact h1.elim
        | _ => exact h1.elim
    | _ => exact h1.elim⟩
theorem ss_fld (cc : Cls X.K (cl c)) (na : NoAttr X.K (cl c) f) (ho : SE X cl W o mo) (hv : SE X cl W v mv) (hs : swapsWith v (some (.Attribute o f pos')) pos.line X.env = pure false := by rfl) : SS X cl W (.Assign [.Attribute o f pos'] v pos) (msFld c f mo mv) :=
  PS.weak (ps_fld ho hv hs) fun E σ H ⟨μ, st, l, S, L, h⟩ => ⟨μ, st, l, S, L, PostS.bind h L fun d st1 μ1 H1 y _ S1 e1 r1 h1 => ⟨μ1, st1, l, S1, L.ev e1, PostS.bind h1 (L.ev e1) fun ob st2 μ2 H2 z _ S2 e2 r2 h2 => by
    cases ob with
    | ref r =>
      simp only [VR] at r2
      obtain ⟨hr, rfl⟩ := r2
      simp only at h2
      cases zz : st2.at_ r with
      | none => rw [zz] at h2; exact h2.elim
      | some cell =>
        rw [zz] at h2
        cases cell with
        | ins c' fs =>
          simp only at h2
          by_cases yy : c' = c ∧ fs.length < 1000
          · rw [if_pos yy] at h2
            obtain ⟨rfl, hl⟩ := yy
            obtain ⟨dx, qs, g1, g2, g3⟩ := S2.get zz
            have ln : qs.length = fs.length := by have := congrArg List.length g2; simpa using this
            obtain ⟨i1, i2⟩ := putA_rel (f := f) (r1.ev e2) g2 g3
            have ob : CellOk X.K cl μ2 st2.nxt (upd H2 (μ2 r) (.ins (cl c') dx (putF f y qs))) (μ2 r) (.ins c' (putA f d fs)) := ⟨dx, _, upd_same, i1, i2.ev0 (Ev0.off g1 trivial)⟩
            obtain ⟨S', e'⟩ := S2.put_ (c := .ins c' (putA f d fs)) hr ob
            exact ⟨_, _, dx, qs, rfl, g1, cc, na, by rw [ln]; exact hl, h2 μ2 _ σ S' e' ((L.ev (e1.trans e2)).ev e')⟩
          · rw [if_neg yy] at h2; exact h2.elim
        | _ => exact h2.elim
    | _ => exact h2.elim⟩⟩
theorem s_prop (cc : Cls X.K (cl c)) (hp : PropOf X.K (cl c) f p g) (G : FnS X.prog X.w X.K X.mg X.base cl k g fd ps F) (hr : RoomG (k + 1) X.A) (hb : Binds X.K fd ps []) (he : SE X cl W e m) (hab : attributeBase e f X.env (eval e X.env) = eval e X.env := by rfl) : SE X cl W (.Attribute e f pos) (mProp c F m) := by
  refine ⟨fun pins s σ H Q I ⟨μ, st, l, S, L, h⟩ => ?_⟩
  have w : rdE X.K cl W m σ H fun x H1 => ∃ a dx qs, x = .ref a ∧ H1 a = some (.ins (cl c) dx qs) ∧ spF X.K cl F [.ref a] H1 Q (fun _ _ _ => False) := ⟨μ, st, l, S, L, Post.bind h fun d st1 μ1 H1 v _ S1 e1 r1 h1 => by
    cases d with
    | ref r =>
      have r1' := r1
      simp only [VR] at r1
      obtain ⟨hr, rfl⟩ := r1
      simp only at h1
      cases z : st1.at_ r with
      | none => rw [z] at h1; exact h1.elim
      | some cell =>
        rw [z] at h1
        cases cell with
        | ins c' fs =>
          simp only at h1
          by_cases y : c' = c
          · subst y
            rw [if_pos rfl] at h1
            obtain ⟨dx, qs, g1, g2, g3⟩ := S1.get z
            refine ⟨_, dx, qs, rfl, g1, μ1, st1, [.ref r], S1, VRs.one r1', ?_⟩
            cases q : F [.ref r] st1 with
            | ok x st2 => rw [q] at h1; exact h1
            | exc c2 fs2 st2 => rw [q] at h1; exact h1.elim
            | bad => rw [q] at h1; exact h1.elim
          · rw [if_neg y] at h1; exact h1.elim
        | _ => exact h1.elim
    | _ => exact h1.elim⟩
  refine attr_of hab (thn (he.run pins s σ H _ I w) fun u s1 ⟨x, H1, I1, rx, a, dx, fs, ex, ea, q⟩ => ?_)
  subst ex
  obtain rfl : u = Value.ref a := rx
  obtain ⟨mA, O, _, _, _, _⟩ := ins_get I1.hok ea
  obtain ⟨od, J, _⟩ := O.look
  obtain ⟨rest, hrec⟩ := hp.rec_
  have hl : ([Value.ref a] : List Value).length = ps.length := by
    obtain ⟨μ2, st2, ds, S2, rv, hq⟩ := q
    rw [← G.len ds st2 hq.nb, rv.length]
    rfl
  have hc : (PySem.W.clsIn X.K (cl c)).isSome = true := by
    obtain ⟨cd, hc, _⟩ := PySem.W.any_some cc.hd
    rw [hc]
    rfl
  have I2 := I1.tok (s1.toks + 1)
  refine PySem.W.get_bind I1.kIn J (PySem.W.plainGet_of (cc.get f)).1 (PySem.W.findObj_data hc hp.at_ hp.get hp.tak) (PySem.W.plainGet_of (cc.get f)).2 (wpAny_call (PySem.W.prop_get (s := { s1 with toks := s1.toks + 1 }) I1.kIn hrec ?_))
  refine codeAny_mono (G.run X.A.in1 X.stack { s1 with toks := s1.toks + 1 } H1 ⟨[.ref a], []⟩ [.ref a] [.ref a] Q (fun _ _ _ => False) hr.in1 I2.env0.in1 (by simpa using hb { s1 with toks := s1.toks + 1 } [.ref a] I2.kIn (by simpa using hl)) (.cons rfl .nil) q) fun r s' hq => ?_
  cases r with
  | error er =>
    obtain ⟨a1, B, H', cls, d, h⟩ := hq
    exact h.2.2.2.2.2.2.2.elim
  | ok fl =>
    cases fl with
    | ret u =>
      obtain ⟨v, H', I3, rv, q3⟩ := I2.after hq
      show wpAny _ _ (handedOut u) _ _ _
      rw [PySem.W.handedOut_of (handed_of rv)]
      exact wpAny_pure ⟨v, H', I3, rv, q3⟩
    | next => exact hq.elim
    | brk => exact hq.elim
    | cont => exact hq.elim
/-- a raise that is not reached -/
def msNever : MS := fun _ _ => .bad
theorem ss_never {st : Stmt} : SS X cl W st msNever := PS.weak ps_never fun E σ H ⟨μ, st, l, S, L, h⟩ => h.elim
end
end DV


set_option Elab.async false
set_option linter.all false
set_option maxRecDepth 100000
set_option  maxHeartbeats   8000000
/-! DV, part L: what the top has written, in one word; defs by names; the end of a law. -/
namespace DV
open PySem PySem.Spec PyProof.Rows L2 He

/-! ### written values -/
/-- a value that stands in the written part -/
def Wr (K : PySem.W.Frag) (d : D) (v : V) : Prop := ∀ μ N H, VR K μ N H d v
mutual
theorem datB_ok {K : PySem.W.Frag} : ∀ {d : D} {u : Value}, datB K d u = true → ∃ v, RelV v u ∧ Wr K d v
  | .non, u, h => by
    cases u <;> simp only [datB] at h <;> first | cases h | skip
    exact ⟨.non, rfl, fun _ _ _ => by simp only [VR]⟩
  | .bl b, u, h => by
    cases u <;> simp only [datB] at h <;> first | cases h | skip
    exact ⟨.bl b, by rw [eq_of_beq h]; rfl, fun _ _ _ => by simp only [VR]⟩
  | .int i, u, h => by
    cases u <;> simp only [datB] at h <;> first | cases h | skip
    rename_i j t
    have e := of_decide_eq_true h
    subst e
    exact ⟨.int i, ⟨t, rfl⟩, fun _ _ _ => by simp only [VR]⟩
  | .str x, u, h => by
    cases u <;> simp only [datB] at h <;> first | cases h | skip
    rename_i y t
    have e := of_decide_eq_true h
    subst e
    exact ⟨.str x, ⟨t, rfl⟩, fun _ _ _ => by simp only [VR]⟩
  | .tup ds, u, h => by
    cases u <;> simp only [datB] at h <;> first | cases h | skip
    rename_i a
    cases q : K.lookup a with
    | none => rw [q] at h; cases h
    | some o =>
      obtain ⟨oc, od, dt, sl⟩ := o
      rw [q] at h
      cases oc with
      | type c =>
        cases dt with
        | seq its n =>
          obtain ⟨h1, h2⟩ := ba (show (decide (c = "tuple") && (decide (its.size ≤ sizeLine) && datsB K ds its.toList)) = true from h)
          obtain ⟨h3, h4⟩ := ba h2
          obtain ⟨vs, r, wr⟩ := datsB_ok h4
          refine ⟨.ref a, rfl, fun μ N H => ?_⟩
          simp only [VR]
          exact ⟨a, vs, rfl, .inr ⟨_, its, n, q, congrArg Value.type (of_decide_eq_true h1), rfl, of_decide_eq_true h3, r⟩, wr μ N H⟩
        | _ => cases h
      | _ => cases dt <;> cases h
  | .ref _, u, h => by simp only [datB] at h; cases h
  | .rol _, u, h => by simp only [datB] at h; cases h
  | .cst _, u, h => by simp only [datB] at h; cases h
theorem datsB_ok {K : PySem.W.Frag} : ∀ {ds : List D} {us : List Value}, datsB K ds us = true → ∃ vs, Vals vs us ∧ ∀ μ N H, VRs K μ N H ds vs
  | [], us, h => by
    cases us with
    | nil => exact ⟨[], .nil, fun _ _ _ => by simp only [VRs]⟩
    | cons u us => simp only [datsB] at h; cases h
  | d :: ds, us, h => by
    cases us with
    | nil => simp only [datsB] at h; cases h
    | cons u us =>
      simp only [datsB] at h
      obtain ⟨h1, h2⟩ := ba h
      obtain ⟨v, r, w⟩ := datB_ok h1
      obtain ⟨vs, r2, w2⟩ := datsB_ok h2
      exact ⟨v :: vs, .cons r r2, fun μ N H => by simp only [VRs]; exact ⟨v, vs, rfl, w μ N H, w2 μ N H⟩⟩
end

/-! ### the facts -/
section
variable {K : PySem.W.Frag} {h : Heap} {mg : Str → Option Value}
theorem fx_glo (X : K.In h) (G : h.Ns mainGlobals mg) {x : Str} (c : (Fx.glo x).ok K = true) : mg x = some (.ref (ga K x)) ∧ PySem.W.keepIn K (.ref (ga K x)) = true := ⟨PySem.W.mg_of X G (eqO_ok (ba c).1), (ba c).2⟩
theorem fx_free (X : K.In h) (G : h.Ns mainGlobals mg) {x : Str} (c : (Fx.free x).ok K = true) : mg x = none := PySem.W.mg_none_of X G (eqO_ok c)
theorem fx_dat (X : K.In h) (G : h.Ns mainGlobals mg) {x : Str} {d : D} (c : (Fx.dat x d).ok K = true) : ∃ u v, mg x = some u ∧ RelV v u ∧ Wr K d v := by
  have c2 : (match PySem.W.nsIn K mainGlobals x with
    | some (some u) => datB K d u
    | _ => false) = true := c
  cases e : PySem.W.nsIn K mainGlobals x with
  | none => rw [e] at c2; cases c2
  | some o =>
    rw [e] at c2
    cases o with
    | none => cases c2
    | some u =>
      obtain ⟨v, r, w⟩ := datB_ok c2
      exact ⟨u, v, PySem.W.mg_of X G e, r, w⟩
theorem fx_cls {x : Str} (c : (Fx.cls x).ok K = true) : ClsA K (ga K x) := by
  obtain ⟨c1, c⟩ := ba c
  obtain ⟨c2, c⟩ := ba c
  obtain ⟨c3, c⟩ := ba c
  obtain ⟨c4, c5⟩ := ba c
  exact ⟨cls_ok c1, eqO_ok c2, eqO_ok c3, of_decide_eq_true c4, of_decide_eq_true c5⟩
theorem fx_noat {x f : Str} (c : (Fx.noat x f).ok K = true) : NoAttr K (ga K x) f := eqO_ok c
theorem fx_prop {x f : Str} (c : (Fx.prop x f).ok K = true) : PropOf K (ga K x) f (ma K (ga K x) f) (pgA K x f) := by
  obtain ⟨c1, c⟩ := ba c
  obtain ⟨c2, c⟩ := ba c
  obtain ⟨c3, c4⟩ := ba c
  refine ⟨eqO_ok c1, eqO_ok c2, of_decide_eq_true c3, ?_⟩
  unfold pgA
  cases q : PySem.W.recIn K (ma K (ga K x) f) "property" with
  | none => rw [q] at c4; cases c4
  | some l =>
    rw [q] at c4
    cases l with
    | nil => cases c4
    | cons g r =>
      cases g with
      | ref g => exact ⟨r, rfl⟩
      | _ => cases c4
theorem fx_mkr {x : Str} (c : (Fx.mkr x).ok K = true) : Mk K (ga K x) (ma K (ga K x) "__init__") := mkr_ok c
theorem fx_isi {x : Str} {bs : List String} (c : (Fx.isi x bs).ok K = true) : PySem.W.kitOne K (.ref (ga K x)) (.ref (ga K x)) = some true ∧ ∀ m ∈ bs, PySem.W.kitOne K (.type m) (.ref (ga K x)) = some false := by
  obtain ⟨c1, c2⟩ := ba c
  exact ⟨of_decide_eq_true c1, fun m hm => of_decide_eq_true (List.all_eq_true.mp c2 m hm)⟩
end
section
variable {fx : List Fx} {fn : List DefA} {K : PySem.W.Frag}
theorem SaysV.fact (c : SaysV fx fn K) (i : Nat) {f : Fx} (h : fx[i]? = some f := by rfl) : f.ok K = true := by
  have z := (ba (show ((fx.all fun f => f.ok K) && fn.all fun d => d.ok K) = true from congrArg (fun z : He.AlD => z.1) c)).1
  exact List.all_eq_true.mp z f (List.mem_of_getElem? h)
theorem SaysV.def_ (c : SaysV fx fn K) (i : Nat) {d : DefA} (h : fn[i]? = some d := by rfl) : ∃ fd, FunD K d.name d.qual d.params d.body d.scope (d.dvs K) (d.kws K) (d.at_ K) fd := by
  have z := (ba (show ((fx.all fun f => f.ok K) && fn.all fun d => d.ok K) = true from congrArg (fun z : He.AlD => z.1) c)).2
  have e : (fn.map (fun d => He5.fnA K (d.at_ K)))[i]? = (fn.map He5.DefA.val)[i]? := congrArg (fun z : He.AlD => z.2[i]?) c
  rw [List.getElem?_map, List.getElem?_map, h] at e
  exact He5.DefA.funD (Option.some.inj e) (List.all_eq_true.mp z d (List.mem_of_getElem? h))
end
/-- the facts at a heap -/
structure Tx (fx : List Fx) (fn : List DefA) (K : PySem.W.Frag) (mg : Str → Option Value) : Prop where
  says : SaysV fx fn K
  heap : ∃ h : Heap, K.In h ∧ h.Ns mainGlobals mg
section
variable {fx : List Fx} {fn : List DefA} {K : PySem.W.Frag} {mg : Str → Option Value}
theorem Tx.glo (T : Tx fx fn K mg) (i : Nat) {x : Str} (h : fx[i]? = some (.glo x) := by rfl) : mg x = some (.ref (ga K x)) := by
  obtain ⟨hp, X, G⟩ := T.heap
  exact (fx_glo X G (T.says.fact i h)).1
theorem Tx.kp (T : Tx fx fn K mg) (i : Nat) {x : Str} (h : fx[i]? = some (.glo x) := by rfl) : PySem.W.keepIn K (.ref (ga K x)) = true := by
  obtain ⟨hp, X, G⟩ := T.heap
  exact (fx_glo X G (T.says.fact i h)).2
theorem Tx.free (T : Tx fx fn K mg) (i : Nat) {x : Str} (h : fx[i]? = some (.free x) := by rfl) : mg x = none := by
  obtain ⟨hp, X, G⟩ := T.heap
  exact fx_free X G (T.says.fact i h)
theorem Tx.dat (T : Tx fx fn K mg) (i : Nat) {x : Str} {d : D} (h : fx[i]? = some (.dat x d) := by rfl) : ∃ u v, mg x = some u ∧ RelV v u ∧ Wr K d v := by
  obtain ⟨hp, X, G⟩ := T.heap
  exact fx_dat X G (T.says.fact i h)
theorem Tx.cls (T : Tx fx fn K mg) (i : Nat) {x : Str} (h : fx[i]? = some (.cls x) := by rfl) : ClsA K (ga K x) := fx_cls (T.says.fact i h)
theorem Tx.noat (T : Tx fx fn K mg) (i : Nat) {x f : Str} (h : fx[i]? = some (.noat x f) := by rfl) : NoAttr K (ga K x) f := fx_noat (T.says.fact i h)
theorem Tx.prop (T : Tx fx fn K mg) (i : Nat) {x f : Str} (h : fx[i]? = some (.prop x f) := by rfl) : PropOf K (ga K x) f (ma K (ga K x) f) (pgA K x f) := fx_prop (T.says.fact i h)
theorem Tx.mkr (T : Tx fx fn K mg) (i : Nat) {x : Str} (h : fx[i]? = some (.mkr x) := by rfl) : Mk K (ga K x) (ma K (ga K x) "__init__") := fx_mkr (T.says.fact i h)
theorem Tx.meth (T : Tx fx fn K mg) (i : Nat) {x m : Str} (h : fx[i]? = some (.meth x m) := by rfl) : Meth K (ga K x) m (ma K (ga K x) m) := meth_ok (T.says.fact i h)
theorem Tx.isi (T : Tx fx fn K mg) (i j : Nat) {cl : CL} {c : Nat} {x : Str} {bs : List String} (e : cl c = ga K x := by rfl) (h : fx[i]? = some (.isi x bs) := by rfl) (h2 : fx[j]? = some (.cls x) := by rfl) : IsiOk K cl (.ref (cl c)) (fOwn c bs) := by
  obtain ⟨h3, h4⟩ := fx_isi (T.says.fact i h)
  rw [← e] at h3 h4
  exact isi_own (by rw [e]; exact T.cls j h2) h4 h3
end
/-- a module's constant, by its fact -/
theorem s_dat {X : Cx} {cl : CL} {W : WX} {x : Str} {d : D} {p : Pos} (e : ∃ u v, X.mg x = some u ∧ RelV v u ∧ Wr X.K d v) (hg : Gl X x := by rfl) (hd : (x == ("__debug__" : Str)) = false := by decide) : SE X cl W (.Name x p) (mC d) := by
  obtain ⟨u, v, hm, r, w⟩ := e
  exact s_glob hg hm r w hd

/-! ### a def by its names -/
structure GD (P : Program) (w : World) (K : PySem.W.Frag) (mg : Str → Option Value) (base : Heap) (cl : CL) (k : Nat) (f : Addr) (x qual : Str) (st : Stmt) (kws : List (Str × V)) (ps : List Str) (F : FD) : Prop where
  ex : ∃ fd, FnS P w K mg base cl k f fd ps F ∧ FunD K x qual (defArgs st) (defBody st) (defScope st) [] kws f fd
theorem funA_of {K : PySem.W.Frag} {x qual : Str} {st : Stmt} {dvs : List V} {kws : List (Str × V)} {f : Addr} {fd : FuncData} (F : FunD K x qual (defArgs st) (defBody st) (defScope st) dvs kws f fd) : FunA K x qual st f fd := by
  obtain ⟨oc, od, dV, kV, doc, pm, an, cdv, ct, osl, e, lk, c, _⟩ := F.ex
  exact ⟨⟨oc, od, dV, kV, doc, pm, an, cdv, ct, osl, e, lk, c⟩, F.kp⟩
theorem gd_of {P : Program} {w : World} {K : PySem.W.Frag} {mg : Str → Option Value} {base : Heap} {cl : CL} {x qual : Str} {st : Stmt} {kws : List (Str × V)} {f : Addr} {N ps : List Str} {k len n : Nat} {mb : MS} (e : ∃ fd, FunD K x qual (defArgs st) (defBody st) (defScope st) [] kws f fd) (S : FnScope N ps (defScope st)) (hn : ps.length = n) (hl : N.length = len)
    (hbody : ∀ (cdv : Value) (A : Around) (outer : List Env) (s : Shared) (H : Hp) (E : XK), RoomG k (A.deeper (envOfC qual (defScope st) s.heap.objs.size f cdv)) →
      Takes (cxD P w K mg base N qual st f cdv A outer s H E) (fun cls d _ H => E cls d H) →
      SSs (cxD P w K mg base N qual st f cdv A outer s H E) cl (fun cls d _ H => E cls d H) (defBody st) mb) : GD P w K mg base cl (k + 1) f x qual st kws ps (mDef n len mb) := by
  obtain ⟨fd, F⟩ := e
  exact ⟨fd, fn_s (funA_of F) S hn hl hbody, F⟩
/-- f(e, ..), every parameter is given -/
theorem s_cal {X : Cx} {cl : CL} {W : WX} {e : Expr} {es : List Expr} {xs : MA} {k : Nat} {x qual : Str} {st : Stmt} {kws : List (Str × V)} {ps : List Str} {F : FD} {p pos : Pos} (G : GD X.prog X.w X.K X.mg X.base cl k (ga X.K x) x qual st kws ps F) (hr : RoomG k X.A) (tk : Takes X W) (hm : X.mg x = some (.ref (ga X.K x)))
    (ha : SA X cl W (e :: es) xs) (hb : ∀ (kV doc pm : Value) (an : Option Addr) (cdv ct : Value) (us : List Value), us.length = ps.length → bindArgs (PySem.W.fnOf x qual (defArgs st) (defBody st) (defScope st) .none kV doc pm an cdv ct) ⟨us, []⟩ = pure (ps.zip us)) (hg : Gl X x := by rfl)
    (hdb : (x == ("__debug__" : Str)) = false := by decide) (he : starEach (e :: es) X.env = (false, eval e X.env) :: starEach es X.env := by rfl) (hpl : (backTo pos (starEach es X.env)).any (·.1) = false := by rfl) :
    SE X cl W (.Call (.Name x p) (e :: es) [] pos) (mCall F [] xs) := by
  obtain ⟨fd, G, D⟩ := G.ex
  exact s_call G hr tk hm D.kp (D.bindsN hb) .nil dfl_nil ha hg hdb he hpl
/-- f(e, ..), keyword-only defaults stand in -/
theorem s_calD {X : Cx} {cl : CL} {W : WX} {e : Expr} {es : List Expr} {xs : MA} {k : Nat} {x qual : Str} {st : Stmt} {kws : List (Str × V)} {ps : List Str} {F : FD} {p pos : Pos} {dds : List D} (n : Nat) (G : GD X.prog X.w X.K X.mg X.base cl k (ga X.K x) x qual st kws ps F) (hr : RoomG k X.A) (tk : Takes X W) (hm : X.mg x = some (.ref (ga X.K x)))
    (hD : Dfl X.K dds (kws.map (·.2))) (ha : SA X cl W (e :: es) xs) (hk : kws ≠ []) (hn : n + kws.length = ps.length)
    (h : ∀ (D : Addr) (doc pm : Value) (an : Option Addr) (cdv ct : Value) (us ks : List Value), us.length = n → ks.length = kws.length →
      KwChain D ((kws.map (·.1)).zip ks) (bindArgs (PySem.W.fnOf x qual (defArgs st) (defBody st) (defScope st) .none (.ref D) doc pm an cdv ct) ⟨us, []⟩) (ps.zip (us ++ ks))) (hg : Gl X x := by rfl)
    (hdb : (x == ("__debug__" : Str)) = false := by decide) (he : starEach (e :: es) X.env = (false, eval e X.env) :: starEach es X.env := by rfl) (hpl : (backTo pos (starEach es X.env)).any (·.1) = false := by rfl) :
    SE X cl W (.Call (.Name x p) (e :: es) [] pos) (mCall F dds xs) := by
  obtain ⟨fd, G, D⟩ := G.ex
  obtain ⟨ds, hv, hb⟩ := D.binds0 n hk hn h
  exact s_call G hr tk hm D.kp hb hv hD ha hg hdb he hpl
theorem kb_gd {K : PySem.W.Frag} {x qual : Str} {st : Stmt} {kws : List (Str × V)} {f : Addr} {fd : FuncData} {ps : List Str} (F : FunD K x qual (defArgs st) (defBody st) (defScope st) [] kws f fd) (n : Nat) (ks : List Str) (ms : List (Str × V)) (ix : List Src) (hk : kws ≠ []) (hms : ∀ q ∈ ms, q ∈ kws)
    (h : ∀ (D : Addr) (doc pm : Value) (an : Option Addr) (cdv ct : Value) (us mv ws : List Value), us.length = n → mv.length = ms.length → ws.length = ks.length →
      KwChain D ((ms.map (·.1)).zip mv) (bindArgs (PySem.W.fnOf x qual (defArgs st) (defBody st) (defScope st) .none (.ref D) doc pm an cdv ct) ⟨us, ks.zip ws⟩) (ps.zip (arr ix us ws mv))) : KB K fd ps n ks ix (ms.map (·.2)) := kb_of F n ks ms ix hk hms h

/-! ### the end -/
def spL (K : PySem.W.Frag) (cl : CL) (F : FD) : Prop := ∀ ns : List Int, ns.length ≤ 63 → ∃ st', F [.rol (ns.map D.int)] ⟨0, fun _ => none⟩ = .ok (.bl true) st'
theorem ints_vr {K : PySem.W.Frag} {μ : Nat → Addr} {N : Nat} {H : Hp} : ∀ ns : List Int, VRs K μ N H (ns.map D.int) (ns.map V.int)
  | [] => by simp only [List.map, VRs]
  | n :: r => by
    simp only [List.map_cons, VRs]
    exact ⟨.int n, r.map V.int, rfl, by simp only [VR], ints_vr r⟩
end DV


set_option Elab.async false
set_option linter.all false
set_option maxRecDepth 100000
set_option  maxHeartbeats   8000000
/-! DV, part M: the end of a law: from what its function is to what the row asks. -/
namespace DV
open PySem PySem.Spec PyProof.Rows L2 He

/-- what may be tracked at first: the script, the tables -/
def Onl (ts : List Addr) (H : Hp) : Prop := ∀ b, H b = none ∨ b ∈ ts ∧ H b = some (.tbl #[]) ∨ ∃ ob xs, H b = some (.frz ob (.lst xs))
theorem rol_of {ts : List Addr} {K : PySem.W.Frag} {H : Hp} {a : Addr} {vs : List V} (o : Onl ts H) (h : SqL K H a vs) : RoL K H a vs := by
  rcases h with (h | ⟨u, h⟩) | h
  · rcases o a with z | ⟨_, z⟩ | ⟨ob, xs, z⟩ <;> (rw [h] at z; cases z)
  · exact .inl ⟨u, h⟩
  · exact .inr h
theorem roomG_caller {k : Nat} (r : Room k callerA) : RoomG k callerA := ⟨r, rfl⟩
/-- the tables that a proof tells stand empty among cs -/
def TabsIn (cl : CL) (cs : List (Addr × Addr)) : Prop := ∀ t ∈ cl.tabs, ∃ q ∈ cs, t.1 = q.2
/-- the built-ins as a base sees them -/
abbrev TBs (base : Heap) (mg : Str → Option Value) (cs : List (Addr × Addr)) : Prop := ∀ q ∈ cs, LamX.TabB base mg q.1 q.2
/-- the law's def, called by the claim -/
theorem called {P : Program} {w : World} {K : PySem.W.Frag} {mg mb : Str → Option Value} {cl : CL} {k : Nat} {fa a : Addr} {fd : FuncData} {x : Str} {F : FD} {t : Shared} {vs : List Value} {ns : List Int} {cs : List (Addr × Addr)}
    (KX : K.In t.heap) (hN : t.heap.Ns mainGlobals mg) (hB : t.heap.Ns builtinsNs mb) (hBB : ∀ x : Str, x ≠ "__name__" → mb x = bootBuiltins x) (noLim : t.heap.NoLimit) (hG : t.gens = #[])
    (tabs0 : ∀ q ∈ cs, t.heap.get? q.2 = some { cls := .none, data := .fields #[] }) (tabsK : ∀ q ∈ cs, K.lookup q.2 = none) (heads : ∀ q ∈ cs, PySem.W.CodeHd t.heap q.1 q.2) (cP : ∀ μ N H, cl.P K μ N H) (cT : TabsIn cl cs)
    (blt : ∃ (bm : Addr) (ob : Obj), mg "__builtins__" = some (.ref bm) ∧ bm ≠ builtinsNs ∧ t.heap.get? bm = some ob ∧ ob.cls = .type "module" ∧ ob.dict = some builtinsNs ∧ ob.data = .plain)
    (at_a : t.heap.get? a = some { cls := .type "list", data := .seq vs.toArray }) (areInts : IntsAre vs ns) (hl : ns.length ≤ 63) (room : Room k callerA)
    (fun_ : ∀ base : Heap, K.In base → base.Ns mainGlobals mg → TBs base mg cs → FnS P w K mg base cl k fa fd [x] F) (binds : ∀ (s : Shared) (u : Value), BindsTo s fd ⟨[u], []⟩ [(x, u)])
    (law : ∃ st', F [.rol (ns.map D.int)] ⟨0, fun _ => none⟩ = .ok (.bl true) st') :
    codeAny (model P w) callerA (.call (.ref fa) ⟨[.ref a], []⟩) (fun r s' => r = .ok (.ret (.bool true)) ∧ OldK t.heap s'.heap ∧ s'.os = t.os ∧ AllBare s'.gens) t := by
  have rv := vals_ints areInts
  have lz : ns.length ≤ sizeLine := Nat.le_trans hl (by decide)
  have tabAt : ∀ b : Addr, b ∈ cs.map (·.2) → t.heap.get? b = some { cls := .none, data := .fields #[] } := fun b m => by
    obtain ⟨q, hq, rfl⟩ := List.mem_map.mp m
    exact tabs0 q hq
  have aNo : a ∉ cs.map (·.2) := fun m => by
    have e := tabAt a m
    rw [at_a] at e
    have e2 : Data.seq vs.toArray _ = Data.fields #[] := congrArg Obj.data (Option.some.inj e)
    cases e2
  have main : ∀ H : Hp, Onl (cs.map (·.2)) H → (∀ q ∈ cs, H q.2 = some (.tbl #[])) → SqL K H a (ns.map V.int) → HOk P w H t.heap → (∀ b, H b ≠ none → b = a ∨ b ∈ cs.map (·.2)) → (H a ≠ none → K.lookup a = none) →
      codeAny (model P w) callerA (.call (.ref fa) ⟨[.ref a], []⟩) (fun r s' => r = .ok (.ret (.bool true)) ∧ OldK t.heap s'.heap ∧ s'.os = t.os ∧ AllBare s'.gens) t := by
    intro H only tabH sq hok onlyA notK
    have loose : ∀ {b : Addr} {o : Obj}, t.heap.get? b = some o → (∀ ws m, o.data ≠ .seq ws m) → o.data ≠ .fields #[] → H b = none := by
      intro b o e d1 d2
      cases q : H b with
      | none => rfl
      | some u =>
        rcases onlyA b (by rw [q]; simp) with z | z
        · subst z
          rw [at_a] at e
          cases e
          exact absurd rfl (d1 _ _)
        · rw [tabAt b z] at e
          cases e
          exact absurd rfl d2
    have free : ∀ {b : Addr} {o : Obj} {es : Array DictEntry} {ep : Nat}, t.heap.get? b = some o → o.data = .dict es ep → H b = none := by
      intro b o es ep e d
      refine loose e (fun ws m z => ?_) fun z => ?_ <;> (rw [d] at z; cases z)
    have ns_ : ∀ {b : Addr} {m : Str → Option Value}, t.heap.Ns b m → (hidT t.heap H).Ns b m := by
      intro b m n
      obtain ⟨o, es, ep, e, d, r⟩ := n
      exact ⟨o, es, ep, hidT_get e (free e d), d, r⟩
    have kb : K.In (hidT t.heap H) := by
      intro b o e
      refine hidT_get (KX b o e) ?_
      cases q : H b with
      | none => rfl
      | some u =>
        rcases onlyA b (by rw [q]; simp) with z | z
        · subst z
          rw [notK (by rw [q]; simp)] at e
          cases e
        · obtain ⟨y, hy, rfl⟩ := List.mem_map.mp z
          rw [tabsK y hy] at e
          cases e
    have md : Mod K mg (hidT t.heap H) := by
      obtain ⟨mc, l1, l2⟩ := noLim
      exact ⟨kb, ns_ hN, ⟨mb, ns_ hB, hBB⟩, ⟨mc, ns_ l1, l2⟩⟩
    have tb : TBs (hidT t.heap H) mg cs := by
      intro y hy
      have ty := tabs0 y hy
      refine ⟨?_, ?_, fun z => ?_⟩
      · obtain ⟨co, us, file, tf, flags, tg, inF, text, tt, c1, r1, r2, r3, rest⟩ := heads y hy
        refine ⟨co, us, file, tf, flags, tg, inF, text, tt, hidT_get c1 (loose c1 (fun ws m z => ?_) fun z => ?_), r1, r2, r3, rest⟩
        · rw [r2] at z; cases z
        · rw [r2] at z; cases z; simp at r3
      · obtain ⟨bm, ob, b1, b2, b3, b4, b5, b6⟩ := blt
        have g1 : bm ≠ mainGlobals := by
          rintro rfl
          obtain ⟨o, es, ep, e, d, _⟩ := hN
          rw [e] at b3
          cases b3
          rw [d] at b6
          cases b6
        have g2 : bm ≠ y.2 := by
          rintro rfl
          rw [ty] at b3
          cases b3
          cases b6
        refine ⟨bm, ob, b1, b2, g1, g2, hidT_get b3 (loose b3 (fun ws m z => ?_) fun z => ?_), b4, b5, b6⟩ <;> (rw [b6] at z; cases z)
      · obtain ⟨o, es, ep, e, d, _⟩ := hN
        rw [z, ty] at e
        cases e
        cases d
    have ev : Env0 P w K mg (hidT t.heap H) callerA [] t H := ⟨rfl, md, fun b o e => of_hidT e, Nat.le_of_eq (hidT_size _ _), trivial, fun b hb => absurd (show b ∈ ([] : List Addr) from hb) (by simp), hok, .of_eq hG⟩
    have sr : SR K cl (fun _ => 0) ⟨0, fun _ => none⟩ H := ⟨fun m n h => absurd h (Nat.not_lt_zero _), fun n h => absurd h (Nat.not_lt_zero _), fun _ _ => rfl, cP _ _ _, fun y hy => by
      obtain ⟨q, hq, e⟩ := cT y hy
      rw [e]
      exact NdefX.TabN.nil (tabH q hq)⟩
    have rd : VRs K (fun _ => 0) 0 H [.rol (ns.map D.int)] [.ref a] := by
      simp only [VRs, VR]
      exact ⟨.ref a, [], rfl, ⟨a, ns.map V.int, rfl, rol_of only sq, ints_vr ns⟩, rfl⟩
    have sp : spF K cl F [.ref a] H (fun v _ => v = .bl true) (fun _ _ _ => False) := by
      obtain ⟨st', law⟩ := law
      refine ⟨_, _, _, sr, rd, ?_⟩
      rw [law]
      exact fun μ' H' v _ _ r => by simpa only [VR] using r
    refine codeAny_mono ((fun_ _ kb (ns_ hN) tb).run callerA [] t H ⟨[.ref a], []⟩ [.ref a] [.ref a] _ _ (roomG_caller room) ev (binds t (.ref a)) (.cons rfl .nil) sp) fun r s' h => ?_
    cases r with
    | error er =>
      obtain ⟨a1, B, H', cls, d, h⟩ := h
      exact h.2.2.2.2.2.2.2.elim
    | ok fl =>
      cases fl with
      | ret u =>
        obtain ⟨v, H', os, bare, un, hok', r', q⟩ := h
        obtain rfl : v = .bl true := q
        obtain rfl : u = Value.bool true := r'
        have same : ∀ b o, b ∉ cs.map (·.2) → t.heap.get? b = some o → s'.heap.get? b = some o := fun b o nb e => by
          cases q : H b with
          | none => exact un.keep b o e q (by intro z; exact absurd (show b ∈ ([] : List Addr) from z) (by simp)) (by simp)
          | some u =>
            rcases only b with z | ⟨z, _⟩ | ⟨ob, xs, z⟩
            · rw [q] at z; cases z
            · exact absurd z nb
            · obtain ⟨e1, _⟩ := hok b _ z
              obtain ⟨e2, _⟩ := hok' b _ (un.frzs b ob _ z)
              rw [e] at e1
              cases e1
              exact e2
        have grow : ∀ y ∈ cs, ∃ more : Array Value, s'.heap.get? y.2 = some { cls := .none, data := .fields more } := fun y hy => by
          obtain ⟨more, z⟩ := un.tbls y.2 #[] (tabH y hy)
          exact ⟨_, hok' y.2 _ z⟩
        refine ⟨rfl, ⟨fun b o e => ?_, fun b o e => ?_⟩, os, bare⟩
        · by_cases m : b ∈ cs.map (·.2)
          · obtain ⟨y, hy, rfl⟩ := List.mem_map.mp m
            obtain ⟨more, gm⟩ := grow y hy
            rw [tabs0 y hy] at e
            cases e
            exact .inr (.inl ⟨((heads y hy).tab (tabs0 y hy)).isCodeTable, rfl, #[], more, rfl, by simpa using gm⟩)
          · exact .inl (same b o m e)
        · by_cases m : b ∈ cs.map (·.2)
          · obtain ⟨y, hy, rfl⟩ := List.mem_map.mp m
            obtain ⟨more, gm⟩ := grow y hy
            exact ⟨_, gm⟩
          · exact ⟨o, same b o m e⟩
      | next => exact h.elim
      | brk => exact h.elim
      | cont => exact h.elim
  have tabM : ∀ q ∈ cs, q.2 ∈ cs.map (·.2) := fun q hq => List.mem_map.mpr ⟨q, hq, rfl⟩
  cases hk : K.lookup a with
  | some o =>
    have e := KX a o hk
    rw [at_a] at e
    cases e
    refine main (fun b => if b ∈ cs.map (·.2) then some (.tbl #[]) else none) (fun b => ?_) (fun q hq => if_pos (tabM q hq)) (.inr ⟨_, vs.toArray, _, hk, rfl, rfl, rfl, by rw [List.size_toArray, areInts.length]; exact lz, by simpa using rv⟩) (fun b u z => ?_) (fun b z => ?_) fun z => absurd (show (if a ∈ cs.map (·.2) then some (HO.tbl #[]) else none) = none from if_neg aNo) z
    · by_cases m : b ∈ cs.map (·.2)
      · exact .inr (.inl ⟨m, if_pos m⟩)
      · exact .inl (if_neg m)
    · by_cases m : b ∈ cs.map (·.2)
      · cases (if_pos m).symm.trans z
        exact tabAt b m
      · exact nomatch ((if_neg m).symm.trans z)
    · by_cases m : b ∈ cs.map (·.2)
      · exact .inr m
      · exact absurd (if_neg m) z
  | none =>
    refine main (fun b => if b = a then some (.frz { cls := .type "list", data := .seq vs.toArray } (.lst (ns.map V.int))) else if b ∈ cs.map (·.2) then some (.tbl #[]) else none) (fun b => ?_) (fun q hq => (if_neg (fun z => aNo (by rw [← z]; exact tabM q hq))).trans (if_pos (tabM q hq))) (.inl (.inr ⟨_, if_pos rfl⟩)) (fun b u z => ?_) (fun b z => ?_) fun _ => hk
    · by_cases y : b = a
      · exact .inr (.inr ⟨_, _, if_pos y⟩)
      · by_cases m : b ∈ cs.map (·.2)
        · exact .inr (.inl ⟨m, (if_neg y).trans (if_pos m)⟩)
        · exact .inl ((if_neg y).trans (if_neg m))
    · by_cases y : b = a
      · have z' := (if_pos y).symm.trans z
        cases z'
        subst y
        exact ⟨at_a, by rw [List.length_map]; exact lz, vs, _, rv, at_a⟩
      · have z1 := (if_neg y).symm.trans z
        by_cases m : b ∈ cs.map (·.2)
        · cases (if_pos m).symm.trans z1
          exact tabAt b m
        · exact nomatch ((if_neg m).symm.trans z1)
    · by_cases y : b = a
      · exact .inl y
      · by_cases m : b ∈ cs.map (·.2)
        · exact .inr m
        · exact absurd ((if_neg y).trans (if_neg m)) z
/-- the goal behind the head -/
theorem walkG {l : PySem.W.OpenLaw} {k : Nat} {q : Program} {loose : List Str} {XP : (Str → Option Value) → Heap → Prop} {YP : World → Heap → Prop} {d : DefRec} {x : Str} {F : FD} (hn : l.most = some 63) (hdf : d.params.defaults = []) (room : Room k callerA)
    (G : ∀ (w : World) (mg : Str → Option Value) (fa : Addr) (h : Heap), YP w h → h.Ns mainGlobals mg → mg d.name = some (.ref fa) →
      ∃ (K : PySem.W.Frag) (cl : CL) (fd : FuncData) (cs : List (Addr × Addr)), K.In h ∧ (∀ y ∈ cs, h.get? y.2 = some { cls := .none, data := .fields #[] }) ∧ (∀ y ∈ cs, K.lookup y.2 = none) ∧ (∀ y ∈ cs, PySem.W.CodeHd h y.1 y.2) ∧ (∀ μ N H, cl.P K μ N H) ∧ TabsIn cl cs ∧
        (∀ (s : Shared) (u : Value), BindsTo s fd ⟨[u], []⟩ [(x, u)]) ∧ ∀ base : Heap, K.In base → base.Ns mainGlobals mg → TBs base mg cs → FnS l.prog w K mg base cl k fa fd [x] F)
    (law : ∀ ns : List Int, ns.length ≤ 63 → ∃ st', F [.rol (ns.map D.int)] ⟨0, fun _ => none⟩ = .ok (.bl true) st') : PySem.W.WalkO q loose XP YP l.row.toRowW d [] (fun f vs => PySem.call f vs) := by
  refine Att.attach_call hn hdf fun w s₀ t mg mb fa o pm cd doc a vs ns Gr Y ho hd hcd hmg hobj hints hlen hg => ?_
  obtain ⟨K, cl, fd, cs, KX, c1, c2, c3, c4, c5, hb, hF⟩ := G w mg fa _ Y Gr.T.g hmg
  exact called KX Gr.T.g Gr.T.b Gr.T.builtins Gr.T.nolimit hg c1 c2 c3 c4 c5 Gr.T.bmain hobj hints hlen room hF hb (law ns hlen)

/-! ### a chain of three -/
def mChain3 (f g h : F2) (a b c d : ME) : ME := fun l st => (a l st).bind fun x st1 => (b l st1).bind fun y st2 => (Res.ofO (f x y st2)).bind fun z st3 => (toB z st3).bind fun k st4 =>
  if k then (c l st4).bind fun w st5 => (Res.ofO (g y w st5)).bind fun z2 st6 => (toB z2 st6).bind fun k2 st7 => if k2 then (d l st7).bind fun u st8 => Res.ofO (h w u st8) else .ok (.bl false) st7 else .ok (.bl false) st4
theorem s_chain3 {X : Cx} {cl : CL} {W : WX} {a b c d : Expr} {ma mb mc md : ME} {pos : Pos} {o1 o2 o3 : CmpOp} {f g h : F2} (h1 : OpS X cl (compareOp o1) f) (h2 : OpS X cl (compareOp o2) g) (h3 : OpS X cl (compareOp o3) h)
    (ha : SE X cl W a ma) (hb : SE X cl W b mb) (hc : SE X cl W c mc) (hd : SE X cl W d md) (hm : lastMarks [o1, o2, o3] [b, c, d] = false := by with_unfolding_all rfl) : SE X cl W (.Compare a [o1, o2, o3] [b, c, d] pos) (mChain3 f g h ma mb mc md) := by
  refine ⟨fun pins s σ H Q I ⟨μ, st, l, S, L, q⟩ => ?_⟩
  let R4 : V → V → Hp → VK → Prop := fun x y H1 Q1 => rdO X.K cl h x y H1 Q1
  let T3 : V → Hp → Prop := fun y H1 => rdE X.K cl W mc σ H1 fun w H2 => rdO X.K cl g y w H2 fun z H3 => ∃ k, z = .bl k ∧ (if k = true then rdE X.K cl W md σ H3 (fun u H4 => rdO X.K cl h w u H4 Q) else Q (.bl false) H3)
  have want : rdE X.K cl W ma σ H fun x H1 => rdE X.K cl W mb σ H1 fun y H2 => rdO X.K cl f x y H2 fun z H3 => ∃ k, z = .bl k ∧ (if k = true then T3 y H3 else Q (.bl false) H3) := by
    refine ⟨μ, st, l, S, L, Post.bind q fun x st1 μ1 H1 v _ S1 e1 r1 q1 => ⟨μ1, st1, l, S1, L.ev e1, Post.bind q1 fun y st2 μ2 H2 w _ S2 e2 r2 q2 => ⟨μ2, st2, x, y, S2, r1.ev e2, r2, ?_⟩⟩⟩
    refine Post.ofO (W := WE W σ) (Post.bind q2 fun z st3 μ3 H3 u _ S3 e3 r3 q3 => ?_)
    cases z with
    | bl k =>
      simp only [VR] at r3
      refine ⟨k, r3, ?_⟩
      cases k with
      | true =>
        refine ⟨μ3, st3, l, S3, L.ev (e1.trans (e2.trans e3)), Post.bind q3 fun w2 st5 μ5 H5 wv _ S5 e5 r5 q5 => ⟨μ5, st5, y, w2, S5, r2.ev (e3.trans e5), r5, ?_⟩⟩
        refine Post.ofO (W := WE W σ) (Post.bind q5 fun z2 st6 μ6 H6 u6 _ S6 e6 r6 q6 => ?_)
        cases z2 with
        | bl k2 =>
          simp only [VR] at r6
          refine ⟨k2, r6, ?_⟩
          cases k2 with
          | true => exact ⟨μ6, st6, l, S6, L.ev (e1.trans (e2.trans (e3.trans (e5.trans e6)))), Post.bind q6 fun u st8 μ8 H8 uv _ S8 e8 r8 q8 => ⟨μ8, st8, w2, u, S8, r5.ev (e6.trans e8), r8, Post.ofO q8⟩⟩
          | false => exact q6 μ6 H6 (.bl false) S6 Ev.refl (by simp only [VR])
        | _ => exact q6.elim
      | false => exact q3 μ3 H3 (.bl false) S3 Ev.refl (by simp only [VR])
    | _ => exact q3.elim
  refine Compare_chain (thn (ha.run pins s σ H _ I want) fun v s1 ⟨x, H1, I1, r1, q1⟩ => chain_link (thn (hb.run pins s1 σ H1 _ I1 q1) fun u s2 ⟨y, H2, I2, r2, q2⟩ =>
    thn (h1 pins s2 σ H2 x y v u _ I2 r1 r2 q2) fun d s3 ⟨z, H3, I3, r3, k, e, q3⟩ => ?_)) hm
  subst e
  cases r3
  refine wpAny_truthy_bool ?_
  cases k with
  | false => exact ite_ff ⟨.bl false, H3, I3, rfl, q3⟩
  | true =>
    refine ite_tt (chain_link (thn (hc.run pins s3 σ H3 _ I3 q3) fun w s4 ⟨wv, H4, I4, r4, q4⟩ => thn (h2 pins s4 σ H4 y wv u w _ I4 r2 r4 q4) fun d5 s5 ⟨z5, H5, I5, r5, k5, e5, q5⟩ => ?_))
    subst e5
    cases r5
    refine wpAny_truthy_bool ?_
    cases k5 with
    | false => exact ite_ff ⟨.bl false, H5, I5, rfl, q5⟩
    | true => exact ite_tt (chain_last (thn (hd.run pins s5 σ H5 _ I5 q5) fun w6 s6 ⟨z6, H6, I6, r6, q6⟩ => h3 pins s6 σ H6 wv z6 w w6 Q I6 r4 r6 q6))
end DV


set_option Elab.async false
set_option linter.all false
set_option maxRecDepth 100000
set_option  maxHeartbeats   8000000
/-! DV, part R: methods of own classes. -/
namespace DV
open PySem PySem.Spec PyProof.Rows L2 He

/-- o.m(e, .., k = v, ..), o an instance of class c without a field m -/
def mMeth (c : Nat) (name : Str) (F : FD) (n m : Nat) (ix : List Src) (dds : List D) (mo : ME) (a b : MA) : ME := fun l st => (mo l st).bind fun o st1 => match o with
  | .ref r => (match st1.at_ r with
    | some (.ins c' fs) => if c' = c ∧ fs.lookup name = none then (a l st1).bind fun ds st2 => (b l st2).bind fun es st3 => if ds.length = n ∧ es.length = m then F (arr ix (.ref r :: ds) es dds) st3 else .bad else .bad
    | _ => .bad)
  | _ => .bad
theorem lookN_rel {f : Str} : ∀ {fs : List (Str × D)} {ps : List (Str × V)}, ps.map (·.1) = fs.map (·.1) → fs.lookup f = none → ps.lookup f = none
  | [], [], _, _ => rfl
  | (g, x) :: fs, (g', y) :: ps, h1, h => by
    simp only [List.map_cons, List.cons.injEq] at h1
    obtain ⟨rfl, h1⟩ := h1
    simp only [List.lookup] at h ⊢
    cases z : f == g' with
    | true => rw [z] at h; cases h
    | false =>
      rw [z] at h
      exact lookN_rel h1 h
  | [], _ :: _, h1, _ => by simp at h1
  | _ :: _, [], h1, _ => by simp at h1
section
variable {X : Cx} {cl : CL} {W : WX} {k n c : Nat} {f : Addr} {fd : FuncData} {ps ks : List Str} {F : FD} {name : Str} {apos pos : Pos} {o e : Expr} {es : List Expr} {kws : List Keyword} {mo : ME} {xs ys : MA} {ix : List Src} {dds : List D} {dvs : List V}
theorem w_meth {σ : L2.St} {H : Hp} {Q : VK} (hb : KB X.K fd ps (n + 1) ks ix dvs) (hD : Dfl X.K dds dvs) (h : rdE X.K cl W (mMeth c name F n ks.length ix dds mo xs ys) σ H Q) :
    rdE X.K cl W mo σ H fun x H1 => ∃ a dx qs, x = .ref a ∧ H1 a = some (.ins (cl c) dx qs) ∧ qs.lookup name = none ∧ rdA X.K cl W xs σ H1 fun vs H2 => rdA X.K cl W ys σ H2 fun zs H3 => vs.length = n ∧ zs.length = ks.length ∧ spF X.K cl F (arr ix (.ref a :: vs) zs dvs) H3 Q (WE W σ) := by
  obtain ⟨μ, st, l, S, L, h⟩ := h
  refine ⟨μ, st, l, S, L, Post.bind h fun d st1 μ1 H1 v _ S1 e1 r1 h1 => ?_⟩
  cases d with
  | ref r =>
    have r1' := r1
    simp only [VR] at r1
    obtain ⟨hr, rfl⟩ := r1
    simp only at h1
    cases z : st1.at_ r with
    | none => rw [z] at h1; exact h1.elim
    | some cell =>
      rw [z] at h1
      cases cell with
      | ins c' fs =>
        simp only at h1
        by_cases y : c' = c ∧ fs.lookup name = none
        · rw [if_pos y] at h1
          obtain ⟨rfl, y2⟩ := y
          obtain ⟨dx, qs, g1, g2, g3⟩ := S1.get z
          refine ⟨_, dx, qs, rfl, g1, lookN_rel g2 y2, μ1, st1, l, S1, L.ev e1, Post.bind h1 fun ds st2 μ2 H2 vs _ S2 e2 r2 h2 => ⟨μ2, st2, l, S2, L.ev (e1.trans e2), Post.bind h2 fun es st3 μ3 H3 zs _ S3 e3 r3 h3 => ?_⟩⟩
          by_cases w : ds.length = n ∧ es.length = ks.length
          · rw [if_pos w] at h3
            refine ⟨r2.length.symm.trans w.1, r3.length.symm.trans w.2, μ3, st3, _, S3, VRs.arr ix ?_ r3 (hD _ _ _), h3⟩
            simp only [VRs]
            exact ⟨_, vs, rfl, r1'.ev (e2.trans e3), r2.ev e3⟩
          · rw [if_neg w] at h3; exact h3.elim
        · rw [if_neg y] at h1; exact h1.elim
      | _ => exact h1.elim
  | _ => exact h1.elim
theorem run_meth {pins : List (Addr × Obj)} {σ : L2.St} {H : Hp} {s : Shared} {Q : VK} {us ws : List Value} {vs zs : List V} {a : Addr} (G : FnS X.prog X.w X.K X.mg X.base cl k f fd ps F) (hr : RoomG k X.A) (tk : Takes X W) (hb : KB X.K fd ps (n + 1) ks ix dvs) (I : Inv X pins σ H s)
    (r : Vals vs us) (rz : Vals zs ws) (l1 : vs.length = n) (l2 : zs.length = ks.length) (h : spF X.K cl F (arr ix (.ref a :: vs) zs dvs) H Q (WE W σ)) : wpAny (model X.prog X.w) X.A (call (.ref f) (.ref a :: us) (ks.zip ws)) (EP X pins σ Q) X.xe s :=
  run_kw (us := .ref a :: us) (vs := .ref a :: vs) G hr tk hb I (.cons rfl r) rz (by simp [l1]) l2 h
theorem s_meth {pl : Sem Bool} (ho : SE X cl W o mo) (cc : Cls X.K (cl c)) (hm : Meth X.K (cl c) name f) (G : FnS X.prog X.w X.K X.mg X.base cl k f fd ps F) (hr : RoomG k X.A) (tk : Takes X W) (hb : KB X.K fd ps (n + 1) ks ix dvs) (hD : Dfl X.K dds dvs) (ha : SA X cl W (e :: es) xs) (hkw : SK X cl W kws ys)
    (hall : (backToKw pos (keywordEach kws X.env)).all (·.1.isSome) = true := by rfl) (hks : (backToKw pos (keywordEach kws X.env)).filterMap (·.1) = ks := by rfl)
    (he : starEach (e :: es) X.env = (false, eval e X.env) :: starEach es X.env := by rfl) (hpl : ((backTo pos (starEach (e :: es) X.env)).any (·.1) || (backToKw pos (keywordEach kws X.env)).any (·.1.isNone)) = false := by rfl)
    (ht : eval (.Call (.Attribute o name apos) (e :: es) kws pos) X.env = (do
      let ov ← eval o X.env
      standAt apos.atName
      let (f, first) ← holding [ov] (getMethod ov name pl)
      callWith pos f first (backTo pos (starEach (e :: es) X.env)) (backToKw pos (keywordEach kws X.env))) := by rfl) :
    SE X cl W (.Call (.Attribute o name apos) (e :: es) kws pos) (mMeth c name F n ks.length ix dds mo xs ys) := by
  refine ⟨fun pins s σ H Q I q => ?_⟩
  refine PySem.W.methodCall_KW (pl := pl) (thn (ho.run pins s σ H _ I (w_meth hb hD q)) fun u s1 ⟨x, H1, I1, rx, a, dx, qs, ex, ea, ln, q1⟩ => ?_) ht
  subst ex
  obtain rfl : u = Value.ref a := rx
  refine getmeth_ok I1 ea cc hm ln ?_
  refine PySem.W.callWith_KW (first := [.ref a]) (h₀ := X.base) I.ok.mod.kin hm.kp hall (thn (ha.run pos pins s1 σ H1 _ I1 q1) fun us s2 ⟨vs, H2, I2, r, q2⟩ => ?_) hpl he
  refine thn (hkw.run pos pins s2 σ H2 _ I2 q2) fun ws s3 ⟨zs, H3, I3, rz, l1, l2, q3⟩ => ⟨I3.kIn, ?_⟩
  rw [hks]
  exact run_meth G hr tk hb I3 r rz l1 l2 q3
theorem s_meth0 {pl : Sem Bool} (ho : SE X cl W o mo) (cc : Cls X.K (cl c)) (hm : Meth X.K (cl c) name f) (G : FnS X.prog X.w X.K X.mg X.base cl k f fd ps F) (hr : RoomG k X.A) (tk : Takes X W) (hb : KB X.K fd ps (0 + 1) ks ix dvs) (hD : Dfl X.K dds dvs) (hkw : SK X cl W kws ys)
    (hall : (backToKw pos (keywordEach kws X.env)).all (·.1.isSome) = true := by rfl) (hks : (backToKw pos (keywordEach kws X.env)).filterMap (·.1) = ks := by rfl)
    (hpl : ((backTo pos (starEach [] X.env)).any (·.1) || (backToKw pos (keywordEach kws X.env)).any (·.1.isNone)) = false := by rfl)
    (ht : eval (.Call (.Attribute o name apos) [] kws pos) X.env = (do
      let ov ← eval o X.env
      standAt apos.atName
      let (f, first) ← holding [ov] (getMethod ov name pl)
      callWith pos f first (backTo pos (starEach [] X.env)) (backToKw pos (keywordEach kws X.env))) := by rfl) :
    SE X cl W (.Call (.Attribute o name apos) [] kws pos) (mMeth c name F 0 ks.length ix dds mo maNil ys) := by
  refine ⟨fun pins s σ H Q I q => ?_⟩
  refine PySem.W.methodCall_KW (pl := pl) (thn (ho.run pins s σ H _ I (w_meth hb hD q)) fun u s1 ⟨x, H1, I1, rx, a, dx, qs, ex, ea, ln, q1⟩ => ?_) ht
  subst ex
  obtain rfl : u = Value.ref a := rx
  refine getmeth_ok I1 ea cc hm ln ?_
  have q2 : rdA X.K cl W ys σ H1 fun zs H3 => zs.length = ks.length ∧ spF X.K cl F (arr ix [.ref a] zs dvs) H3 Q (WE W σ) := by
    obtain ⟨μ, st, l, S, L, h⟩ := q1
    obtain ⟨μ2, st2, l2, S2, L2, h2⟩ := h μ H1 [] S Ev.refl (by simp only [VRs])
    exact ⟨μ2, st2, l2, S2, L2, by simpa using h2⟩
  refine PySem.W.callWith_KW0 (first := [.ref a]) (h₀ := X.base) I.ok.mod.kin hm.kp hall ?_ hpl
  refine thn (hkw.run pos pins s1 σ H1 _ I1 q2) fun ws s3 ⟨zs, H3, I3, rz, l2, q3⟩ => ⟨I3.kIn, ?_⟩
  rw [hks]
  exact run_meth (us := []) (vs := []) G hr tk hb I3 .nil rz rfl l2 q3
end
end DV


set_option Elab.async false
set_option linter.all false
set_option maxRecDepth 100000
set_option  maxHeartbeats   8000000
/-! DV, part S: sorted(set(x)) of ints. -/
namespace DV
open PySem PySem.Spec PyProof.Rows L2

/-! ### ascending, each once -/
def insI (x : Int) : List Int → List Int
  | [] => [x]
  | y :: r => if x < y then x :: y :: r else if x = y then y :: r else y :: insI x r
def sddI (xs : List Int) : List Int := xs.foldr insI []
theorem mem_insI {x k : Int} : ∀ {l : List Int}, k ∈ insI x l ↔ k = x ∨ k ∈ l
  | [] => by simp [insI]
  | y :: r => by
    unfold insI
    split
    · simp
    · split
      · rename_i h
        subst h
        simp
      · simp only [List.mem_cons, mem_insI (l := r)]
        constructor
        · rintro (h | h | h)
          · exact .inr (.inl h)
          · exact .inl h
          · exact .inr (.inr h)
        · rintro (h | h | h)
          · exact .inr (.inl h)
          · exact .inl h
          · exact .inr (.inr h)
theorem up_insI {x : Int} : ∀ {l : List Int}, l.Pairwise (· < ·) → (insI x l).Pairwise (· < ·)
  | [], _ => by simp [insI]
  | y :: r, h => by
    have h' := List.pairwise_cons.mp h
    unfold insI
    split
    · rename_i q
      exact List.pairwise_cons.mpr ⟨fun z hz => by
        rcases List.mem_cons.mp hz with e | e
        · rw [e]; exact q
        · exact Int.lt_trans q (h'.1 z e), h⟩
    · split
      · exact h
      · refine List.pairwise_cons.mpr ⟨fun z hz => ?_, up_insI h'.2⟩
        rcases mem_insI.mp hz with e | e
        · rw [e]; omega
        · exact h'.1 z e
theorem mem_sddI {k : Int} : ∀ {xs : List Int}, k ∈ sddI xs ↔ k ∈ xs
  | [] => by simp [sddI]
  | x :: xs => by
    have ih := mem_sddI (k := k) (xs := xs)
    show k ∈ insI x (sddI xs) ↔ _
    rw [mem_insI, ih, List.mem_cons]
theorem up_sddI : ∀ (xs : List Int), (sddI xs).Pairwise (· < ·)
  | [] => List.Pairwise.nil
  | x :: xs => up_insI (up_sddI xs)
theorem up_same : ∀ {a b : List Int}, a.Pairwise (· < ·) → b.Pairwise (· < ·) → (∀ k, k ∈ a ↔ k ∈ b) → a = b
  | [], [], _, _, _ => rfl
  | [], y :: b, _, _, h => absurd ((h y).mpr (by simp)) (by simp)
  | x :: a, [], _, _, h => absurd ((h x).mp (by simp)) (by simp)
  | x :: a, y :: b, ha, hb, h => by
    have ha' := List.pairwise_cons.mp ha
    have hb' := List.pairwise_cons.mp hb
    have e : x = y := by
      have h1 := (h x).mp (by simp)
      have h2 := (h y).mpr (by simp)
      rcases List.mem_cons.mp h1 with q | q
      · exact q
      · rcases List.mem_cons.mp h2 with q2 | q2
        · exact q2.symm
        · have := hb'.1 x q
          have := ha'.1 y q2
          omega
    subst e
    congr 1
    refine up_same ha'.2 hb'.2 fun k => ?_
    constructor
    · intro hk
      rcases List.mem_cons.mp ((h k).mp (List.mem_cons_of_mem _ hk)) with q | q
      · have := ha'.1 k hk
        omega
      · exact q
    · intro hk
      rcases List.mem_cons.mp ((h k).mpr (List.mem_cons_of_mem _ hk)) with q | q
      · have := hb'.1 k hk
        omega
      · exact q

section
variable {prog : Program} {w : World} {A : Around} {E : Value → Shared → Prop} {s : Shared}
abbrev setO1 (w : World) : Obj := { cls := .type "set", dict := none, data := .set #[] 0 (.fresh 0 0 (!w.params.followText "set-order")) }
set_option maxHeartbeats 16000000 in
theorem call_set_ints {l : Addr} {k : Bool} {items : Array Value} (ns : List Int) {Q : Value → Shared → Prop} (hh : A.handled = none) (hl : SeqAt s.heap l k items) (hsz : ns.length = items.size) (hn : ns.length + 1 < scanBound) (hval : ∀ (i : Nat) (v : Value), items[i]? = some v → ∃ k t, ns[i]? = some k ∧ v = .int k t)
    (h : ∀ (h' : Heap) (tk c : Nat), SetR w h' s.heap.objs.size (fun j => decide (j ∈ ns)) c → c ≤ ns.length → (∀ b o, s.heap.get? b = some o → h'.get? b = some o) → Q (.ref s.heap.objs.size) { s with heap := h', toks := tk }) :
    wpAny (model prog w) A (call (.type "set") [.ref l]) Q E s := by
  obtain ⟨T, od, sl, nn, hol, hsls, hslf, hne⟩ : ∃ (T : String) (od : Option Addr) (sl : Array (Option Value)) (nn : Nat), s.heap.get? l = some { cls := .type T, dict := od, data := .seq items nn, slots := sl } ∧
      isSubtype (.type T) (.type "set") = pure false ∧ isSubtype (.type T) (.type "frozenset") = pure false ∧ (Value.type T == Value.type "dict") = false := by
    cases k with
    | true =>
      obtain ⟨⟨oc, od, dt, sl⟩, h1, h2, n1, h3⟩ := hl
      simp only at h2 h3
      subst h2 h3
      exact ⟨"list", od, sl, n1, h1, PySem.F.sub_list_set, PySem.F.sub_list_frozenset, by decide⟩
    | false =>
      obtain ⟨⟨oc, od, dt, sl⟩, h1, h2, n1, h3⟩ := hl
      simp only at h2 h3
      subst h2 h3
      exact ⟨"tuple", od, sl, n1, h1, F.sub_tuple_set, F.sub_tuple_frozenset, by decide⟩
  obtain ⟨c, tl, hmro⟩ := PySem.F.called_set.mro
  have made := PySem.F.called_set.made
  have subs := PySem.F.called_set.sub
  refine wpAny_call (codeAny_of_tree ?_)
  show wpAny _ _ (callAny (.type "set") _) _ _ _
  refine wpAny_pure ⟨Code.quiet_builtin _ (by decide +kernel), codeAny_builtin PySem.F.entry_type_call ?_⟩
  rw [Around.under_plain (weight_type_call_type "set" [.ref l] []) rfl]
  have g1 := PySem.F.called_set.notType
  have g2 := PySem.F.called_set.canCreate
  have g3 := PySem.F.typeCall_set_1 (.ref l)
  repeat (any_goals (first | assumption | wp_step))
  refine codeAny_mono (code_set_led1 (.ref l) (E := E) (Q₁ := fun obj s1 => obj = .ref s.heap.objs.size ∧ s1 = { s with heap := s.heap.push (setO1 w) }) ⟨rfl, rfl⟩) fun r s1 hr => ?_
  cases r with
  | error e => exact hr
  | ok fl =>
    cases fl with
    | ret obj =>
      obtain ⟨rfl, rfl⟩ := hr
      have atS : (s.heap.push (setO1 w)).get? s.heap.objs.size = some (setO1 w) := Heap.get?_push_size _ rfl
      have tyS : Shared.TypeIs { s with heap := s.heap.push (setO1 w) } (.ref s.heap.objs.size) "set" := ⟨_, atS, rfl⟩
      have g4 := PySem.F.called_set.init.lookup
      have g5 := PySem.F.called_set.init.bind (.ref s.heap.objs.size)
      repeat (any_goals (first | assumption | wp_step))
      refine codeAny_mono (codeAny_call_builtin (R := wants (fun r s2 => r = .none ∧ ∃ h' tk c, s2 = { s with heap := h', toks := tk } ∧ SetR w h' s.heap.objs.size (fun j => decide (j ∈ ns)) c ∧ c ≤ ns.length ∧ (∀ b o, s.heap.get? b = some o → h'.get? b = some o)) E)
        PySem.F.called_set.init.plain PySem.F.entry_set_init (PySem.check_set_init_1 tyS ?_)) fun r2 s2 hr2 => ?_
      · have atL : (s.heap.push (setO1 w)).get? l = some { cls := .type T, dict := od, data := .seq items nn, slots := sl } := Heap.get?_push_of_some _ hol
        have hl1 : SeqAt (s.heap.push (setO1 w)) l k items := by
          cases k with
          | true => exact Heap.IsList.push hl _
          | false => exact Heap.IsTuple.push hl _
        unfold Builtin.«set.__init__» noKeywords Builtin.Frozenset.updateFrom
        generalize hPI : pyIter = PI
        wp_walk
        subst hPI
        refine (seqBegins l k items).iter prog w _ _ _ _ hl1 ?_
        refine wpAny_bind (wpAny_runValue ?_)
        have lS : l < s.heap.objs.size := Heap.lt_size hol
        have h3 : A.in1.in1.in1.handled = none := by simp [hh]
        have sz : (s.heap.push (setO1 w)).objs.size = s.heap.objs.size + 1 := Heap.size_push ..
        have nI : l ≠ (s.heap.push (setO1 w)).objs.size := by
          rw [sz]
          exact Nat.ne_of_lt (Nat.lt_succ_of_lt lS)
        have nS : s.heap.objs.size ∉ [(s.heap.push (setO1 w)).objs.size, l] := by
          rw [sz]
          simp only [List.mem_cons, List.not_mem_nil, or_false, not_or]
          exact ⟨Nat.ne_of_lt (Nat.lt_succ_self _), Nat.ne_of_gt lS⟩
        refine set_update_ints (seqWalks h3 _ l nI k items).toS s.heap.objs.size nS ns hsz.symm hn hval (items.size - 0) 0 _ (by omega) (Nat.zero_le _) ?i0 ?s0 ?r0
        case i0 =>
          refine ⟨SeqIt.new (Heap.get?_push_size _ (seqBegins l k items).free), ?_⟩
          cases k with
          | true => exact Heap.IsList.push hl1 _
          | false => exact Heap.IsTuple.push hl1 _
        case s0 =>
          have at2 := Heap.get?_push_of_some (seqItO l k) atS
          exact ⟨0, Nat.le_refl 0, setR_new_at at2⟩
        case r0 =>
          intro s' c' mv hc' hS'
          obtain ⟨h', g', d', tk', os'⟩ := s'
          have eg : g' = s.gens := mv.gens
          have ed : d' = s.drawn := mv.drawn
          have eo : os' = s.os := mv.os
          subst eg ed eo
          show wpAny _ _ _ _ _ _
          refine wpAny_pure ?_
          show wpAny _ _ (ret Value.none) _ _ _
          refine wpAny_pure ⟨rfl, h', tk', c', rfl, hS', by omega, fun b o e => ?_⟩
          have hb := Heap.lt_size e
          have b1 : b ≠ s.heap.objs.size := Nat.ne_of_lt hb
          have b2 : b ≠ (s.heap.push (setO1 w)).objs.size := by
            rw [sz]
            exact Nat.ne_of_lt (Nat.lt_succ_of_lt hb)
          exact mv.heap b o (by simp only [List.mem_cons, List.not_mem_nil, or_false, not_or]; exact ⟨b1, b2⟩) (Heap.get?_push_of_some _ (Heap.get?_push_of_some _ e))
      · cases r2 with
        | error e => exact hr2
        | ok fl2 =>
          cases fl2 with
          | ret r =>
            obtain ⟨rfl, h', tk, c', rfl, hS', hc', hk'⟩ := hr2
            repeat (any_goals (first | assumption | wp_step))
            exact h _ _ _ hS' hc' hk'
          | _ => exact hr2.elim
    | _ => exact hr.elim
end
def intD1 : D → Option Int
  | .int i => some i
  | _ => none
def sortSetD (d : D) (st : Store) : Option (D × Store) := match seqOf d st with
  | some it => (match optL intD1 it.items with
    | some ns => if ns.length < 64 then some (.ref st.nxt, st.new (.lst ((sddI ns).map D.int))) else none
    | none => none)
  | none => none
theorem ints_rel {K : PySem.W.Frag} {μ : Nat → Addr} {N : Nat} {H : Hp} : ∀ {ds : List D} {vs : List V} {ns : List Int}, VRs K μ N H ds vs → optL intD1 ds = some ns → vs = ns.map V.int
  | [], vs, ns, r, h => by
    simp only [optL, Option.some.injEq] at h
    subst h
    simp only [VRs] at r
    exact r
  | d :: ds, vs, ns, r, h => by
    simp only [VRs] at r
    obtain ⟨v, vr, rfl, r1, r2⟩ := r
    unfold optL at h
    cases q : intD1 d with
    | none => rw [q] at h; cases h
    | some k =>
      rw [q] at h
      simp only at h
      cases q2 : optL intD1 ds with
      | none => rw [q2] at h; cases h
      | some kr =>
        rw [q2] at h
        cases h
        rw [ints_rel r2 q2]
        cases d with
        | int i => cases q; simp only [VR] at r1; rw [r1]; rfl
        | _ => cases q
theorem ints_vrs {K : PySem.W.Frag} {μ : Nat → Addr} {N : Nat} {H : Hp} : ∀ (ns : List Int), VRs K μ N H (ns.map D.int) (ns.map V.int)
  | [] => by simp only [List.map, VRs]
  | n :: r => by
    simp only [List.map_cons, VRs]
    exact ⟨.int n, r.map V.int, rfl, by simp only [VR], ints_vrs r⟩
theorem seq_src {d : D} {st : Store} {it : Iter} (q : seqOf d st = some it) : SrcOk it.srcs st := by
  intro p hp
  unfold seqOf at q
  cases d with
  | tup xs => cases q; cases hp
  | rol xs => cases q; cases hp
  | ref m =>
    simp only at q
    cases y : st.at_ m with
    | none => rw [y] at q; cases q
    | some c =>
      rw [y] at q
      cases c with
      | lst xs =>
        cases q
        simp only [List.mem_singleton] at hp
        subst hp
        exact y
      | _ => cases q
  | _ => cases q
section
variable {X : Cx} {cl : CL} {W : WX}
theorem s_sortSet {a : Expr} {m : ME} {p p2 q pos : Pos} (hc : X.calm = true) (ha : SE X cl W a m) (hm : X.mg "sorted" = none) (hm2 : X.mg "set" = none) (hg : Gl X "sorted" := by rfl) (hg2 : Gl X "set" := by rfl) (hb : bootBuiltins "sorted" = some (.builtin "sorted") := by rfl)
    (na : starEach [a] X.env = (false, eval a X.env) :: starEach [] X.env := by rfl) : SE X cl W (.Call (.Name "sorted" p) [.Call (.Name "set" p2) [a] [] q] [] pos) (m1 sortSetD m) := by
  refine ⟨fun pins s σ H Q I ⟨μ, st, l, S, L, h⟩ => ?_⟩
  have w : rdE X.K cl W m σ H (fun x H1 => ∃ a k ns, x = .ref a ∧ SqA X.K H1 a k (ns.map V.int) ∧ ns.length < 64 ∧ ∀ p, H1 p = none → Q (.ref p) (upd H1 p (.lst ((sddI ns).map V.int)))) := ⟨μ, st, l, S, L, Post.bind h fun d st1 μ1 H1 v _ S1 e1 r1 h1 => by
    unfold sortSetD at h1
    cases q : seqOf d st1 with
    | none => rw [q] at h1; exact h1.elim
    | some it =>
      rw [q] at h1
      simp only at h1
      obtain ⟨a, k, ev, _, hh⟩ := seqOf_ok S1 r1 q
      cases q2 : optL intD1 it.items with
      | none => rw [q2] at h1; exact h1.elim
      | some ns =>
        rw [q2] at h1
        simp only at h1
        by_cases z : ns.length < 64
        · rw [if_pos z] at h1
          obtain ⟨vs, q3, q4⟩ := hh μ1 st1 H1 S1 Ev.refl (seq_src q)
          rw [ints_rel q4 q2] at q3
          refine ⟨a, k, ns, ev, q3, z, fun p hp => h1 (ext μ1 st1.nxt p) _ (.ref p) (S1.new_lst hp (ints_vrs (sddI ns))) (Ev.new hp) ?_⟩
          simp only [VR]
          exact ⟨Nat.lt_succ_self _, by rw [ext_same]⟩
        · rw [if_neg z] at h1; exact h1.elim⟩
  refine Call_ (ld_blt I hg hm hb ?_)
  refine callWith_builtin1 (args_cons ?_ rfl) rfl rfl
  refine Call_ (ld_blt I hg2 hm2 boot_set ?_)
  refine callWith_type1 (args_cons (thn (ha.run pins s σ H _ I w) fun v s1 ⟨x, H1, I1, r1, a, k, ns, ex, hq, hz, q1⟩ => args_nil ?_) na) na rfl
  subst ex
  cases r1
  obtain ⟨its, rv, pl, la⟩ := seq_at I1 hq
  have ln : its.toArray.size = ns.length := by rw [List.size_toArray, ← rv.length, List.length_map]
  refine call_set_ints ns (I1.ok.hd hc) pl ln.symm (by unfold scanBound; omega) (fun i v hv => ?_) fun h' tk c hS hc' hk => ?_
  · have hv' : its[i]? = some v := by simpa using hv
    obtain ⟨y, h1, h2⟩ := vals_at i v rv hv'
    rw [List.getElem?_map] at h1
    cases z : ns[i]? with
    | none => rw [z] at h1; cases h1
    | some kk =>
      rw [z] at h1
      cases h1
      obtain ⟨t, h2⟩ := h2
      exact ⟨kk, t, rfl, h2⟩
  · refine args_nil ?_
    have I2 : Inv X pins σ H1 { s1 with heap := h', toks := tk } := I1.kept hk
    refine sorted_set hS (I1.ok.hd hc) (by omega) fun s' p out c2 ms k2 g2 o2 hp hg hi hs hmem hl => ?_
    have e : ms = sddI ns := up_same hs (up_sddI ns) fun k => by rw [hmem, mem_sddI]; simp
    have hlen : (ms.map V.int).length ≤ sizeLine := by rw [List.length_map, hl, sizeLine_eq]; omega
    have hn : H1 p = none := I2.hok.fresh hp
    have J : Inv X pins σ (upd H1 p (.lst (ms.map V.int))) { s1 with heap := s'.heap, gens := s'.gens, drawn := s'.drawn, toks := s'.toks } :=
      Inv.call (s := { s1 with heap := h', toks := tk }) (ch := []) I2 (Un.laid k2 hp hn) (I2.hok.laid k2 hp ⟨hlen, out.toList, c2, vals_of_ints hi, hg⟩) (by rw [g2]; exact I2.bare) (fun _ z => nomatch z)
    have e2 : s' = { s1 with heap := s'.heap, gens := s'.gens, drawn := s'.drawn, toks := s'.toks } := by
      cases s'
      cases s1
      simp only at o2 ⊢
      rw [o2]
    rw [e2]
    refine ⟨.ref p, _, J, rfl, ?_⟩
    rw [e]
    exact q1 p hn
end
end DV


set_option Elab.async false
set_option linter.all false
set_option maxRecDepth 100000
set_option  maxHeartbeats   8000000
/-! DV, part T: len of a thing that may be an instance of an own class. -/
namespace DV
open PySem PySem.Spec PyProof.Rows L2

def mLenX (c : Nat) (F : FD) (m : ME) : ME := fun l st => (m l st).bind fun d st1 => match d with
  | .ref r => (match st1.at_ r with
    | some (.ins c' fs) => if c' = c then (match F [.ref r] st1 with
      | .ok (.int i) st2 => if 0 ≤ i ∧ i < 2 ^ 63 then .ok (.int i) st2 else .bad
      | _ => .bad) else .bad
    | _ => Res.ofO (lenD (.ref r) st1))
  | d => Res.ofO (lenD d st1)
/-- what len asks of such a call's end -/
def lenEnd (Q : Value → Shared → Prop) (v : Value) (t : Shared) : Prop := ∃ (i : Int) (k : Tok), v = .int i k ∧ 0 ≤ i ∧ i < 2 ^ 63 ∧ ∀ u, Q (.int i u) { t with toks := t.toks + 1 }
theorem len_own {prog : Program} {w : World} {A : Around} {E : Value → Shared → Prop} {s : Shared} {K : PySem.W.Frag} {x C f : Addr} {ox : Obj} {od : Option Obj} {Q : Value → Shared → Prop} (hK : K.In s.heap) (I : PySem.W.InstAt s.heap x ox C od)
    (at_ : PySem.W.findIn K (.ref C) "__len__" = some (some (.ref f))) (isf : PySem.W.isFn K (.ref f) = true) (run : wpAny (model prog w) A.in1 (call (.ref f) [.ref x]) (lenEnd Q) E s) : wpAny (model prog w) A (call (.builtin "len") [.ref x]) Q E s := by
  refine Calls.call_function_entry kind_len plain_len entry_len (args_len1 _) ?_
  unfold Builtin.«len»
  refine wpAny_bind (m := oneArg "len" _) (wpAny_pure ?_)
  refine wpAny_bind (m := callSpecial? (.ref x) (Str.ofString "__len__")) (PySem.W.special_fn hK I at_ (beq_iff_eq.mp isf) (wpAny_mono run (fun r t ht => ?_) fun _ _ y => y))
  obtain ⟨i, k, rfl, i0, i1, q⟩ := ht
  refine wpAny_bind (wpAny_holding (wpAny_pure ?_))
  refine wpAny_bind (wpAny_letGo ?_)
  show wpAny _ _ (if i < 0 then _ else _) _ _ _
  rw [if_neg (by omega)]
  show wpAny _ _ (if i ≥ 2 ^ 63 then _ else _) _ _ _
  rw [if_neg (by omega)]
  exact wpAny_bind (wpAny_mkInt (wpAny_pure ⟨_, rfl, q _⟩))
section
variable {X : Cx} {cl : CL} {W : WX} {k c : Nat} {f : Addr} {fd : FuncData} {ps : List Str} {F : FD} {e : Expr} {m : ME} {p pos : Pos}
theorem s_lenX (mt : Meth X.K (cl c) "__len__" f) (G : FnS X.prog X.w X.K X.mg X.base cl k f fd ps F) (hr : RoomG (k + 1) X.A) (hb : Binds X.K fd ps []) (he : SE X cl W e m) (hm : X.mg "len" = none) (hg : Gl X "len" := by rfl)
    (na : starEach [e] X.env = (false, eval e X.env) :: starEach [] X.env := by rfl) : SE X cl W (.Call (.Name "len" p) [e] [] pos) (mLenX c F m) := by
  refine ⟨fun pins s σ H Q I ⟨μ, st, l, S, L, h⟩ => ?_⟩
  have w : rdE X.K cl W m σ H (fun x H1 => (∃ a dx qs, x = .ref a ∧ H1 a = some (.ins (cl c) dx qs) ∧ spF X.K cl F [.ref a] H1 (fun v H2 => ∃ i : Int, v = .int i ∧ 0 ≤ i ∧ i < 2 ^ 63 ∧ Q (.int i) H2) (fun _ _ _ => False)) ∨
      (∃ μ st d, SR X.K cl μ st H1 ∧ VR X.K μ st.nxt H1 d x ∧ PostO X.K cl (VR X.K) μ st.nxt H1 Q (lenD d st))) := ⟨μ, st, l, S, L, Post.bind h fun d st1 μ1 H1 v _ S1 e1 r1 h1 => by
    cases d with
    | ref r =>
      have r1' := r1
      simp only [VR] at r1
      obtain ⟨hrr, rfl⟩ := r1
      simp only at h1
      cases z : st1.at_ r with
      | none => rw [z] at h1; exact .inr ⟨μ1, st1, _, S1, r1', Post.ofO h1⟩
      | some cell =>
        rw [z] at h1
        cases cell with
        | ins c' fs =>
          simp only at h1
          by_cases y : c' = c
          · subst y
            rw [if_pos rfl] at h1
            obtain ⟨dx, qs, g1, g2, g3⟩ := S1.get z
            refine .inl ⟨_, dx, qs, rfl, g1, μ1, st1, [.ref r], S1, VRs.one r1', ?_⟩
            cases q : F [.ref r] st1 with
            | ok x st2 =>
              rw [q] at h1
              cases x with
              | int i =>
                simp only at h1
                by_cases b : 0 ≤ i ∧ i < 2 ^ 63
                · rw [if_pos b] at h1
                  intro μ' H' v s' e' r'
                  have rv := r'
                  simp only [VR] at rv
                  exact ⟨i, rv, b.1, b.2, by rw [← rv]; exact h1 μ' H' v s' e' r'⟩
                · rw [if_neg b] at h1; exact h1.elim
              | _ => exact h1.elim
            | exc c2 fs2 st2 => rw [q] at h1; exact h1.elim
            | bad => rw [q] at h1; exact h1.elim
          · rw [if_neg y] at h1; exact h1.elim
        | lst xs => exact .inr ⟨μ1, st1, _, S1, r1', Post.ofO h1⟩
        | dic xs => exact .inr ⟨μ1, st1, _, S1, r1', Post.ofO h1⟩
    | _ => exact .inr ⟨μ1, st1, _, S1, r1, Post.ofO h1⟩⟩
  refine Call_ (ld_blt I hg hm boot_len ?_)
  refine callWith_builtin1 (args_cons (thn (he.run pins s σ H _ I w) fun u s1 ⟨x, H1, I1, rx, q⟩ => args_nil ?_) na) na rfl
  rcases q with ⟨a, dx, qs, rfl, ea, q⟩ | ⟨μ2, st2, d, S2, rd, q⟩
  · obtain rfl : u = Value.ref a := rx
    obtain ⟨mA, O, _, _, _, _⟩ := ins_get I1.hok ea
    obtain ⟨od, J, _⟩ := O.look
    have hl : ([Value.ref a] : List Value).length = ps.length := by
      obtain ⟨μ2, st2, ds, S2, rv, hq⟩ := q
      rw [← G.len ds st2 hq.nb, rv.length]
      rfl
    refine len_own I1.kIn J mt.at_ mt.fn (wpAny_call (codeAny_mono (G.run X.A.in1 X.stack s1 H1 ⟨[.ref a], []⟩ [.ref a] [.ref a] _ (fun _ _ _ => False) hr.in1 I1.env0.in1 (by simpa using hb s1 [.ref a] I1.kIn (by simpa using hl)) (.cons rfl .nil) q) fun r s' hq => ?_))
    cases r with
    | error er =>
      obtain ⟨a1, B, H', cls, d, h⟩ := hq
      exact h.2.2.2.2.2.2.2.elim
    | ok fl =>
      cases fl with
      | ret u =>
        obtain ⟨v, H', I3, rv, i, ev, i0, i1, q3⟩ := I1.after hq
        subst ev
        obtain ⟨t, rfl⟩ := rv
        exact ⟨i, t, rfl, i0, i1, fun u => ⟨.int i, H', I3.tok _, ⟨u, rfl⟩, q3⟩⟩
      | next => exact hq.elim
      | brk => exact hq.elim
      | cont => exact hq.elim
  · exact c_len pins s1 σ H1 [x] [u] Q I1 (.cons rx .nil) ⟨μ2, st2, [d], S2, VRs.one rd, q⟩
end
end DV


set_option linter.all false
set_option  maxHeartbeats   4000000
/-! DV, part U: the grid of borders, by itself. A place between two neighbours of a rising list. -/
namespace DV
theorem grid_at : ∀ (xs : List Int) (p x : Int), (p :: xs).Pairwise (· < ·) → p ≤ x → (∃ w ∈ xs, x < w) →
    ∃ a b, (a, b) ∈ (p :: xs).zip xs ∧ a ≤ x ∧ x < b ∧ p ≤ a ∧ ∀ z ∈ p :: xs, (z ≤ x ↔ z ≤ a)
  | [], p, x, _, _, ⟨w, hw, _⟩ => by simp at hw
  | q :: r, p, x, hs, hp, ⟨w, hw, hx⟩ => by
    have hs' := List.pairwise_cons.mp hs
    have hq : p < q := hs'.1 q (by simp)
    by_cases h : x < q
    · refine ⟨p, q, by simp, hp, h, Int.le_refl _, fun z hz => ?_⟩
      rcases List.mem_cons.mp hz with rfl | hz
      · exact ⟨fun _ => Int.le_refl _, fun _ => hp⟩
      · have hqz : q ≤ z := by
          rcases List.mem_cons.mp hz with rfl | hz
          · exact Int.le_refl _
          · exact Int.le_of_lt ((List.pairwise_cons.mp hs'.2).1 z hz)
        constructor <;> intro <;> omega
    · have hr : ∃ w ∈ r, x < w := by
        rcases List.mem_cons.mp hw with rfl | hw
        · exact absurd hx h
        · exact ⟨w, hw, hx⟩
      obtain ⟨a, b, hm, h1, h2, h3, h4⟩ := grid_at r q x hs'.2 (by omega) hr
      refine ⟨a, b, by simp only [List.zip_cons_cons]; exact List.mem_cons_of_mem _ hm, h1, h2, by omega, fun z hz => ?_⟩
      rcases List.mem_cons.mp hz with rfl | hz
      · constructor <;> intro <;> omega
      · exact h4 z hz
theorem zip_tail_mem {xs : List Int} {a b : Int} (h : (a, b) ∈ xs.zip xs.tail) : a ∈ xs ∧ b ∈ xs := by
  have := List.of_mem_zip h
  exact ⟨this.1, List.mem_of_mem_tail this.2⟩
theorem zip_tail_lt : ∀ {xs : List Int} {a b : Int}, xs.Pairwise (· < ·) → (a, b) ∈ xs.zip xs.tail → a < b
  | [], _, _, _, h => by simp at h
  | [p], _, _, _, h => by simp at h
  | p :: q :: r, a, b, hs, h => by
    have hs' := List.pairwise_cons.mp hs
    simp only [List.tail_cons, List.zip_cons_cons, List.mem_cons, Prod.mk.injEq] at h
    rcases h with ⟨rfl, rfl⟩ | h
    · exact hs'.1 _ (by simp)
    · exact zip_tail_lt (xs := q :: r) hs'.2 (by simpa using h)
end DV


set_option Elab.async false
set_option linter.all false
set_option maxRecDepth 100000
set_option  maxHeartbeats   4000000
/-! DV, part V: xs[::-1], of lists and tuples. -/
namespace HT
open PySem PySem.Spec PyProof.Rows
section
variable {prog : Program} {w : World} {A : Around} {E : Value → Shared → Prop} {s : Shared}
theorem adjust_rev (n : Nat) : Builtin.Slice.sliceAdjust none none (-1) (n : Int) = ((n : Int) - 1, -1) := by
  unfold Builtin.Slice.sliceAdjust
  rfl
theorem places_rev (n : Nat) : Builtin.Slice.slicePlaces ((n : Int) - 1) (-1) (-1) = n := by
  unfold Builtin.Slice.slicePlaces
  have h1 : ¬ ((-1 : Int) > 0) := by omega
  simp only [h1, if_false]
  cases n with
  | zero => rfl
  | succ m =>
    have : (-1 : Int) < ((m + 1 : Nat) : Int) - 1 := by omega
    simp only [this, if_true]
    simp
    try omega
theorem fm_congr {α β : Type} {f g : α → Option β} : ∀ {l : List α}, (∀ x ∈ l, f x = g x) → l.filterMap f = l.filterMap g
  | [], _ => rfl
  | x :: l, h => by
    rw [List.filterMap_cons, List.filterMap_cons, h x (by simp), fm_congr fun y hy => h y (List.mem_cons_of_mem _ hy)]
theorem rev_run (xs : Array Value) : ((List.range xs.size).filterMap fun (m : Nat) => xs[(((xs.size : Int) - 1) + (m : Int) * -1).toNat]?) = xs.toList.reverse := by
  have e : ∀ m ∈ List.range xs.size, xs[(((xs.size : Int) - 1) + (m : Int) * -1).toNat]? = xs.toList.reverse[m]? := fun m hm => by
    have := List.mem_range.mp hm
    have q : (((xs.size : Int) - 1) + (m : Int) * -1).toNat = xs.size - 1 - m := by omega
    rw [q, List.getElem?_reverse (by simpa using this)]
    simp
  have e1 : ((List.range xs.size).filterMap fun (m : Nat) => xs[(((xs.size : Int) - 1) + (m : Int) * -1).toNat]?) = (List.range xs.size).filterMap fun m => xs.toList.reverse[m]? := by
    exact fm_congr e
  rw [e1]
  have l : xs.size = xs.toList.reverse.length := by simp
  rw [l]
  generalize xs.toList.reverse = ys
  induction ys with
  | nil => rfl
  | cons y ys ih =>
    rw [List.length_cons, List.range_succ_eq_map, List.filterMap_cons, List.filterMap_map]
    simp only [List.getElem?_cons_zero]
    congr 1
theorem getItem_tuple_rev {t sl : Addr} {items : Array Value} {vs : Value} {Q : Value → Shared → Prop} (ht : IsTup s.heap t items) (hs : s.heap.IsSliceOf sl .none .none vs) (ps : IsPart vs (some (-1)))
    (h : Q (.ref s.heap.objs.size) { s with heap := s.heap.push { cls := .type "tuple", data := .seq items.toList.reverse.toArray } })
    (hsz : items.size ≤ sizeLine) : wpAny (model prog w) A (getItem (.ref t) (.ref sl)) Q E s := by
  have htake : sizeOk (.seq items.toList.reverse.toArray) := by
    show items.toList.reverse.toArray.size ≤ sizeLine
    rw [List.size_toArray, List.length_reverse, Array.length_toList]
    exact hsz
  obtain ⟨os, hos, hcs, hds⟩ := id hs
  have hTs : s.TypeIs (.ref sl) "slice" := ⟨os, hos, hcs⟩
  have ap : ∀ {A' : Around} {E' : Value → Shared → Prop} {Q : Int × Int × Nat → Shared → Prop}, Q ((items.size : Int) - 1, -1, items.size) s → wpAny (model prog w) A' (Builtin.Slice.sliceApplied (.ref sl) (pure (items.size : Int))) Q E' s := fun {A' E' Q} h => by
    unfold Builtin.Slice.sliceApplied Builtin.Slice.sliceFields
    refine wpAny_bind (wpAny_bind (wpAny_field hos hds (x := .none) rfl (wpAny_bind (wpAny_field hos hds (x := .none) rfl (wpAny_bind (wpAny_field hos hds (x := vs) rfl (wpAny_pure ?_)))))))
    refine wpAny_bind (slicePart_ ps ?_)
    show wpAny _ _ (if ((-1 : Int) == 0) = true then _ else _) _ _ s
    rw [if_neg (by decide)]
    refine wpAny_bind (slicePart_ .none (wpAny_bind (slicePart_ .none (wpAny_bind (wpAny_pure ?_)))))
    show wpAny _ _ (match Builtin.Slice.sliceAdjust none none (-1) (items.size : Int) with | (lo, hi) => pure (lo, (-1 : Int), Builtin.Slice.slicePlaces lo hi (-1))) _ _ s
    rw [adjust_rev]
    show wpAny _ _ (pure ((items.size : Int) - 1, (-1 : Int), Builtin.Slice.slicePlaces ((items.size : Int) - 1) (-1) (-1))) _ _ s
    rw [places_rev]
    exact wpAny_pure h
  unfold getItem
  try with_reducible refine wpAny_holding ?_
  first | refine wpAny_bind (wpAny_pure ?_) | skip
  refine wpAny_bind (wpAny_sequenceKey ht.typeIs (by decide) ?_)
  refine wpAny_bind (wpAny_callSpecial?_slot (name := Str.ofString "__getitem__") ht.typeIs PyProof.Rows.slot_tuple_getitem
    (wpAny_call_entry PyProof.Rows.slot_tuple_getitem ht.typeIs entry_tuple_getitem ?_ (args_tuple_getitem _ _)))
  show wpAny _ _ (Builtin.Tuple.tupleItemsOf (.ref t) >>= _) _ _ s
  refine wpAny_bind (tupleItemsOf_ ht ?_)
  refine wpAny_bind (wpAny_typeOf hTs ?_)
  rw [if_pos (by decide)]
  refine wpAny_bind (ap ?_)
  have hno : ¬ ((((items.size : Int) - 1) == 0 && (-1 : Int) == 1 && items.size == items.size) = true) := by
    intro q
    rw [Bool.and_eq_true, Bool.and_eq_true] at q
    exact absurd q.1.2 (by decide)
  show wpAny _ _ (if ((((items.size : Int) - 1) == 0 && (-1 : Int) == 1 && items.size == items.size) = true) then _ else _) _ _ s
  rw [if_neg hno, rev_run]
  first
    | exact wpAny_bind (m := Builtin.Tuple.tupleExact _) (wpAny_newObj_type (wpAny_pure ⟨_, rfl, wpAny_pure h⟩) htake)
    | exact wpAny_bind (m := Builtin.Tuple.tupleExact _) (wpAny_newObj_type (wpAny_bind (wpAny_pure (wpAny_pure ⟨_, rfl, wpAny_pure h⟩))) htake)
    | exact wpAny_bind (wpAny_bind (m := Builtin.Tuple.tupleExact _) (wpAny_newObj_type (wpAny_pure (wpAny_pure ⟨_, rfl, wpAny_pure h⟩)) htake))
    | exact wpAny_bind (wpAny_bind (m := Builtin.Tuple.tupleExact _) (wpAny_newObj_type (wpAny_pure ⟨_, rfl, wpAny_pure h⟩) htake))
end
end HT
namespace DV
open PySem PySem.Spec PyProof.Rows L2
section
variable {X : Cx} {cl : CL} {W : WX}
def fRev (x : D) (st : Store) : Option (D × Store) := match x with
  | .tup (y :: ys) => some (.tup (y :: ys).reverse, st)
  | .rol xs => some (.ref st.nxt, st.new (.lst xs.reverse))
  | .ref m => (match st.at_ m with
    | some (.lst xs) => some (.ref st.nxt, st.new (.lst xs.reverse))
    | _ => none)
  | _ => none
theorem s_rev {e : Expr} {m : ME} {k : Nat} {p1 p2 p3 pos : Pos} (he : SE X cl W e m) : SE X cl W (.Subscript e (.Slice none none (some (.UnaryOp .USub (.Constant (.int 1) k p1) p2)) p3) pos) (m1 fRev m) := by
  refine ⟨fun pins s σ H Q I ⟨μ, st, l, S, L, h⟩ => ?_⟩
  have w : rdE X.K cl W m σ H (fun x H1 => (∃ a xs, x = .ref a ∧ SqL X.K H1 a xs ∧ ∀ p, H1 p = none → Q (.ref p) (upd H1 p (.lst xs.reverse))) ∨ (∃ a xs, x = .ref a ∧ SqT X.K H1 a xs ∧ ∀ p, H1 p = none → Q (.ref p) (upd H1 p (.tup xs.reverse)))) := ⟨μ, st, l, S, L, Post.bind h fun d st1 μ1 H1 v _ S1 e1 r1 h1 => by
    unfold fRev at h1
    cases d with
    | tup xs =>
      cases xs with
      | nil => exact h1.elim
      | cons y ys =>
        simp only [VR] at r1
        obtain ⟨p, vs, rfl, s1, t1⟩ := r1
        exact .inr ⟨p, vs, rfl, s1, fun a ha => h1 μ1 _ _ (S1.beside ha) (Ev.beside ha) (by simp only [VR]; exact ⟨a, _, rfl, SqT.of upd_same, t1.rev.ev (Ev.beside ha)⟩)⟩
    | rol xs =>
      simp only [VR] at r1
      obtain ⟨p, vs, rfl, s1, t1⟩ := r1
      exact .inl ⟨p, vs, rfl, s1.sq, fun a ha => h1 _ _ _ (S1.new_lst ha t1.rev) (Ev.new ha) (by simp only [VR]; exact ⟨Nat.lt_succ_self _, by rw [ext_same]⟩)⟩
    | ref m =>
      simp only [VR] at r1
      obtain ⟨hm, rfl⟩ := r1
      simp only at h1
      cases z : st1.at_ m with
      | none => rw [z] at h1; exact h1.elim
      | some c =>
        rw [z] at h1
        cases c with
        | lst xs =>
          obtain ⟨vs, g1, t1⟩ := S1.get z
          exact .inl ⟨μ1 m, vs, rfl, SqL.of g1, fun a ha => h1 _ _ _ (S1.new_lst ha t1.rev) (Ev.new ha) (by simp only [VR]; exact ⟨Nat.lt_succ_self _, by rw [ext_same]⟩)⟩
        | _ => exact h1.elim
    | _ => exact h1.elim⟩
  refine Subscript_ (thn (he.run pins s σ H _ I w) fun v s1 ⟨x, H1, I1, r1, q1⟩ => ?_)
  have hst : PO X (some (.UnaryOp .USub (.Constant (.int 1) k p1) p2)) (tPart (tUn (rU fun i => .int (-i)) (tC (.int 1)))) := po_some (pe_un un_neg pe_int)
  refine wpAny_Slice (thn (po_none.run pins s1 σ H1 (fun o H2 => o = none ∧ H2 = H1) I1 ⟨rfl, rfl⟩) fun vl s2 ⟨lo, H2, I2, pl, el, e2⟩ => ?_)
  subst el e2
  refine thn (po_none.run pins s2 σ H2 (fun o H3 => o = none ∧ H3 = H2) I2 ⟨rfl, rfl⟩) fun vu s3 ⟨u, H3, I3, pu, eu, e3⟩ => ?_
  subst eu e3
  refine thn (hst.run pins s3 σ H3 (fun o H4 => o = some (-1) ∧ H4 = H3) I3 ⟨1, rfl, -1, rfl, rfl, rfl⟩) fun vs s4 ⟨o, H4, I4, ps, eo, e4⟩ => ?_
  subst eo e4
  have I5 : Inv X pins σ H4 { s4 with heap := s4.heap.push { cls := .type "slice", data := .fields #[vl, vu, vs] } } := I4.kept (t' := s4.toks) fun b ob q => Heap.get?_push_of_some _ q
  rcases q1 with ⟨a, xs, ex, hx, q⟩ | ⟨a, xs, ex, hx, q⟩
  · subst ex
    cases r1
    obtain ⟨its, r, ht, hz⟩ := I5.list hx
    have hlen := r.length
    show wpAny (model X.prog X.w) X.A (subscriptTail e (.Slice none none (some (.UnaryOp .USub (.Constant (.int 1) k p1) p2)) p3) (.ref a) (.ref s4.heap.objs.size)) (EP X pins σ Q) X.xe { s4 with heap := s4.heap.push { cls := .type "slice", data := .fields #[vl, vu, vs] } }
    refine tail_any (ops := [.ref a, .ref s4.heap.objs.size]) ht.isList.typeIs (PySem.slot_list_getitem.lookup) ?_ (by with_unfolding_all rfl)
    refine wpAny_getItem_list_slice ht.isList (Heap.IsSliceOf.new _ vl vu vs) pl pu ps (by decide) ?_ (by rw [List.size_toArray]; omega)
    rw [PySem.W.krv_pick]
    refine ⟨.ref _, _, I5.laid (t' := s4.toks) (o := .lst xs.reverse) (fun b ob q => Heap.get?_push_of_some _ q) (Nat.le_refl _) ?_, rfl, q _ (I5.hok.fresh (Nat.le_refl _))⟩
    exact ⟨by rw [List.length_reverse]; exact hz, _, 0, r.reverse, Heap.get?_push_size _ rfl⟩
  · subst ex
    cases r1
    obtain ⟨its, r, ht, hz⟩ := I5.tuple hx
    have hlen := r.length
    cases pl
    cases pu
    show wpAny (model X.prog X.w) X.A (subscriptTail e (.Slice none none (some (.UnaryOp .USub (.Constant (.int 1) k p1) p2)) p3) (.ref a) (.ref s4.heap.objs.size)) (EP X pins σ Q) X.xe { s4 with heap := s4.heap.push { cls := .type "slice", data := .fields #[.none, .none, vs] } }
    refine tail_any (ops := [.ref a, .ref s4.heap.objs.size]) ht.typeIs (PyProof.Rows.slot_tuple_getitem.lookup) ?_ (by with_unfolding_all rfl)
    refine HT.getItem_tuple_rev ht (Heap.IsSliceOf.new _ .none .none vs) ps ?_ (by rw [List.size_toArray]; omega)
    refine ⟨.ref _, _, I5.laid (t' := s4.toks) (o := .tup xs.reverse) (fun b ob q => Heap.get?_push_of_some _ q) (Nat.le_refl _) ?_, rfl, q _ (I5.hok.fresh (Nat.le_refl _))⟩
    exact ⟨by rw [List.length_reverse]; exact hz, _, by simpa using r.reverse, IsTup.new _ _⟩
end
@[simp] theorem ev_fRev (x : D) (st : Store) : fRev x st = (match x with
  | .tup (y :: ys) => some (.tup (y :: ys).reverse, st)
  | .rol xs => some (.ref st.nxt, st.new (.lst xs.reverse))
  | .ref m => (match st.at_ m with
    | some (.lst xs) => some (.ref st.nxt, st.new (.lst xs.reverse))
    | _ => none)
  | _ => none) := rfl
end DV


set_option Elab.async false
set_option linter.all false
set_option maxRecDepth 100000
set_option  maxHeartbeats   4000000
/-! DV, part W: a def within a def that is handed to another def, which calls it. -/
namespace DV
open PySem PySem.Spec PyProof.Rows L2 NdefX

/-- what stays -/
structure PP where
  P : PySem.W.Frag → (Nat → Addr) → Nat → Hp → Prop
  up : ∀ {K : PySem.W.Frag} {μ : Nat → Addr} {N : Nat} {H : Hp} {μ' : Nat → Addr} {N' : Nat} {H' : Hp}, Ev0 K μ N H μ' N' H' → P K μ N H → P K μ' N' H'
def PP.all : PP := ⟨fun _ _ _ _ => True, fun _ _ => trivial⟩
def PP.and (p q : PP) : PP := ⟨fun K μ N H => p.P K μ N H ∧ q.P K μ N H, fun e h => ⟨p.up e h.1, q.up e h.2⟩⟩
abbrev CL.of (a : Nat → Addr) (T : List NTab) (p : PP) : CL := ⟨a, p.P, p.up, T⟩
section
variable {K : PySem.W.Frag} {a : Nat → Addr} {T : List NTab} {p q : PP} {μ μ1 : Nat → Addr} {N N1 : Nat} {H H1 : Hp} {st : Store}
theorem CellOk.re {b : Addr} {c : Cell} (h : CellOk K (CL.of a T p) μ N H b c) : CellOk K (CL.of a T q) μ N H b c := by
  cases c with
  | lst xs => exact h
  | dic kvs => exact h
  | ins c fs => exact h
theorem SR.re (S : SR K (CL.of a T p) μ st H) (h : q.P K μ st.nxt H) : SR K (CL.of a T q) μ st H :=
  ⟨S.inj, fun n hn => let ⟨c, h1, h2⟩ := S.cell n hn; ⟨c, h1, h2.re⟩, S.out, h, S.tb⟩
theorem XR.re {c : Nat} {fs : List (Str × D)} {cls : Value} {d : Option Addr} (h : XR K (CL.of a T p) μ N H c fs cls d) : XR K (CL.of a T q) μ N H c fs cls d := h
theorem Post.re {α β : Type} {rel : (Nat → Addr) → Nat → Hp → α → β → Prop} {Q : β → Hp → Prop} {W : XK} {r : Res α} (hpq : ∀ μ N H, q.P K μ N H → p.P K μ N H) (h : Post K (CL.of a T p) rel μ N H Q W r) : Post K (CL.of a T q) rel μ N H Q W r := by
  cases r with
  | ok x st' => exact fun μ' H' b S e q => h μ' H' b (S.re (hpq _ _ _ S.pp)) e q
  | exc c fs st' => exact fun μ' H' cls d S e x => h μ' H' cls d (S.re (hpq _ _ _ S.pp)) e x
  | bad => exact h
theorem PostS.re {E : Ends} {W : WX} {r : RS} (hpq : ∀ μ N H, q.P K μ N H → p.P K μ N H) (h : PostS K (CL.of a T p) μ N H E W r) : PostS K (CL.of a T q) μ N H E W r := by
  cases r with
  | nx l st' => exact fun μ' H' σ' S e L => h μ' H' σ' (S.re (hpq _ _ _ S.pp)) e L
  | rt d st' => exact fun μ' H' v S e r => h μ' H' v (S.re (hpq _ _ _ S.pp)) e r
  | bk l st' => exact fun μ' H' σ' S e L => h μ' H' σ' (S.re (hpq _ _ _ S.pp)) e L
  | ct l st' => exact fun μ' H' σ' S e L => h μ' H' σ' (S.re (hpq _ _ _ S.pp)) e L
  | exc c fs l st' => exact fun μ' H' σ' cls d S e L x => h μ' H' σ' cls d (S.re (hpq _ _ _ S.pp)) e L x
  | bad => exact h
end
/-- the function F stands at f, its code object too -/
def ppF (f : Addr) (F : NF) : PP := ⟨fun _ _ _ H => H f = some (FnO f F) ∧ H F.c = some (LamX.CodeO F.c F.qual), fun e h => ⟨e.ex _ _ h.1, e.ex _ _ h.2⟩⟩
/-- the captured values -/
def ppW (ws : List D) (wv : List V) : PP := ⟨fun K μ N H => VRs K μ N H ws wv, fun e h => h.ev0 e⟩

/-! ### the def statement -/
open Classical in
noncomputable def msDefR (i : Nat) (m : Addr → MS) : MS := fun l st => if h : ∃ r, ∀ f, m f (l.set i (some (.cst (.ref f)))) st = r then Classical.choose h else .bad
theorem msDefR_eq {i : Nat} {m : Addr → MS} {l : Loc} {st : Store} {r : RS} (h : ∀ f, m f (l.set i (some (.cst (.ref f)))) st = r) : msDefR i m l st = r := by
  have e : ∃ r, ∀ f, m f (l.set i (some (.cst (.ref f)))) st = r := ⟨r, h⟩
  unfold msDefR
  rw [dif_pos e]
  exact (Classical.choose_spec e 0).symm.trans (h 0)
section
variable {X : Cx} {a : Nat → Addr} {T : List NTab} {p : PP} {W : WX}
theorem ss_ndef {st : Stmt} {rest : List Stmt} {nm : Nat → Nat → Str} {c P : Addr} {name : Str} {pos : Pos} {i : Nat} {m : Addr → MS} (hst : st = .FunctionDef name (C8.fnArgs st) (C8.fnBody st) [] none [] (C8.fnScope st) none name pos) (TB : LamX.TabB X.base X.mg c P) (hcode : X.env.code = .ref c) (hm : (P, nm) ∈ T) (hn : nm pos.line pos.col = X.env.qual ++ name)
    (hu : ∀ t ∈ T, t.1 = P → t.2 = nm) (hfree : ∀ y ∈ (C8.fnScope st).names, y.2 = .free → X.env.scope.names.lookup y.1 = some .cell ∨ X.env.scope.names.lookup y.1 = some .free) (hd0 : (C8.fnArgs st).defaults = []) (hk0 : (C8.fnArgs st).kw_defaults = []) (ha : annTrees (C8.fnArgs st) none X.env = [])
    (hN : X.N.Nodup) (hi : X.N[i]? = some name) (hx : L2.Loc X.env.scope name) (hf : X.fn name = true ∨ X.env.scope.names.lookup name = some .local)
    (hrest : ∀ f c', SSs X (CL.of a T (p.and (ppF f (NF.of st name (X.env.qual ++ name) (cloFrom X.env.cells (C8.fnScope st).names []) c')))) W rest (m f)) : SSs X (CL.of a T p) W (st :: rest) (msDefR i m) := by
  let tR : TS := fun D σ H => ∃ f c', rdS X.K (CL.of a T (p.and (ppF f (NF.of st name (X.env.qual ++ name) (cloFrom X.env.cells (C8.fnScope st).names []) c')))) W (m f) D σ H
  have hR : PSs X rest tR := ⟨fun pins s σ H D I ⟨f, c', h⟩ => (hrest f c').run pins s σ H D I h⟩
  refine PSs.weak (pss_cons (ps_ndefMS hst TB hcode hm hn hu hfree hd0 hk0 ha hN hi hx hf) hR) fun D σ H ⟨μ, t, l, S, L, h⟩ => ?_
  refine ⟨S.tb, fun f c' H1 eN back T1 f0 f1 c1 => ?_⟩
  have e : Ev X.K μ t.nxt H μ t.nxt H1 := by
    refine ⟨⟨Nat.le_refl _, fun _ _ => rfl, fun q vs z => ?_, fun q vs z => ?_, fun q φ z => eN _ _ z (fun _ y => by cases y)⟩, fun b o z _ nt => eN _ _ z nt, fun n h1 h2 => absurd h2 (by omega), fun b z y => z (back b y)⟩
    · rcases z with (z | ⟨u, z⟩) | z
      · exact .inl (.inl (eN _ _ z (fun _ y => by cases y)))
      · exact .inl (.inr ⟨u, eN _ _ z (fun _ y => by cases y)⟩)
      · exact .inr z
    · rcases z with ⟨u, z⟩ | z
      · exact .inl ⟨u, eN _ _ z (fun _ y => by cases y)⟩
      · exact .inr z
  have S1 : SR X.K (CL.of a T p) μ t H1 := by
    refine ⟨S.inj, fun n hn => ?_, S.out, p.up e.toEv0 S.pp, T1⟩
    obtain ⟨cc, h1, h2⟩ := S.cell n hn
    refine ⟨cc, h1, h2.ev e ?_⟩
    obtain ⟨o, ho, hc⟩ := h2.there
    rw [ho]
    exact eN _ _ ho (fun ps y => by subst y; exact hc)
  refine ⟨f, c', μ, t, l.set i (some (.cst (.ref f))), S1.re ⟨S1.pp, f1, c1⟩, ?_, ?_⟩
  · exact (L.ev e).set i (by simp only [VR])
  · have g : PostS X.K (CL.of a T p) μ t.nxt H1 D W (msDefR i m l t) := PostS.mono e h
    by_cases z : ∃ r, ∀ f, m f (l.set i (some (.cst (.ref f)))) t = r
    · obtain ⟨r, hr⟩ := z
      rw [msDefR_eq hr] at g
      rw [hr f]
      exact PostS.re (fun _ _ _ y => y.1) g
    · unfold msDefR at g
      rw [dif_neg z] at g
      exact g.elim
end

/-! ### the promise of a nested def -/
structure NfS (P : Program) (w : World) (K : PySem.W.Frag) (mg : Str → Option Value) (base : Heap) (a : Nat → Addr) (T : List NTab) (k : Nat) (f : Addr) (F : NF) (ps fr : List Str) (Fn : FD) : Prop where
  len : ∀ ds st, Fn ds st ≠ .bad → ds.length = ps.length + fr.length
  run : ∀ (p : PP) (A : Around) (outer : List Env) (s : Shared) (H : Hp) (us : List Value) (vs wv : List V) (Q : VK) (E : XK), RoomG k A → Env0 P w K mg base A outer s H → H f = some (FnO f F) → H F.c = some (LamX.CodeO F.c F.qual) →
    CellsAt F.cl fr (wv.map some) s.heap H → Vals vs us → spF K (CL.of a T p) Fn (vs ++ wv) H Q E → codeAny (model P w) A (.call (.ref f) ⟨us, []⟩) (CR (L2.CX P w) outer P w H s Q E) s
theorem spF_len {K : PySem.W.Frag} {cl : CL} {F : FD} {vs : List V} {H : Hp} {Q : VK} {E : XK} (h : spF K cl F vs H Q E) {n : Nat} (hl : ∀ ds st, F ds st ≠ .bad → ds.length = n) : vs.length = n := by
  obtain ⟨μ, st, ds, S, rv, h⟩ := h
  rw [← rv.length]
  exact hl ds st h.nb
section
variable {P : Program} {w : World} {K : PySem.W.Frag} {mg : Str → Option Value} {base : Heap} {a : Nat → Addr} {T : List NTab}
theorem nfs_of {N ps fr : List Str} {F : NF} {f : Addr} {k len n : Nat} {mb : MS} (S : NScope N ps fr F.scope) (hb : ∀ (doc pm ctv : Value) (us : List Value), us.length = ps.length → bindArgs (F.fd doc pm ctv) ⟨us, []⟩ = pure (ps.zip us)) (hn : ps.length + fr.length = n) (hl : N.length = len)
    (hbody : ∀ (p : PP) (A : Around) (outer : List Env) (s : Shared) (H : Hp) (E : XK), RoomG k (A.deeper (envF F f s.heap.objs.size)) → Takes (ncx (L2.CX P w) P w K mg base N F f A outer s H E) (fun cls d _ H => E cls d H) →
      SSs (ncx (L2.CX P w) P w K mg base N F f A outer s H E) (CL.of a T p) (fun cls d _ H => E cls d H) F.body mb) : NfS P w K mg base a T (k + 1) f F ps fr (mDef n len mb) := by
  have hlen : ∀ ds st, mDef n len mb ds st ≠ .bad → ds.length = ps.length + fr.length := fun ds t h => by
    unfold mDef at h
    by_cases z : ds.length = n
    · rw [z, hn]
    · rw [if_neg z] at h; exact absurd rfl h
  refine ⟨hlen, fun p A outer s H us vs wv Q E hr e0 hf hc C r hsp => ?_⟩
  have hall := spF_len hsp hlen
  have clen := C.len
  rw [List.length_map] at clen
  have hlv : vs.length = ps.length := by rw [List.length_append, clen] at hall; omega
  have noLim : s.heap.NoLimit := e0.mod.nolimit.keeps fun b o e => (e0.bs b o e).1
  obtain ⟨od, sl, doc, pm, ctv, ho⟩ := fnO_at e0.hok hf
  have hr1 : RoomG k (A.deeper (envF F f s.heap.objs.size)) := ⟨hr.room.deeper _, hr.g⟩
  refine codeAny_call_function hr.room.depth ho rfl S.co S.gen rfl (codeO_at e0.hok hc) ?_
  rw [hb doc pm ctv us (by rw [← r.length]; exact hlv)]
  refine wpAny_pure (wpAny_newFunctionEnv S.nocell (fun ⟨y, _⟩ hy => S.par y (List.of_mem_zip hy).1) (fun g hns hsb => ⟨noLim.fresh _ hsb, ?_⟩) S.kind)
  refine codeAny_func ?_
  have keepG : ∀ b o, s.heap.get? b = some o → g.get? b = some o := fun b o e => hsb.extBut b o (Nat.ne_of_lt (Heap.lt_size e)) (Heap.get?_push_of_some _ e)
  have body := hbody p A outer s H E hr1 (takes_of rfl rfl rfl rfl)
  have I : Inv (ncx (L2.CX P w) P w K mg base N F f A outer s H E) [] (startF N vs (wv.map some)) H { s with heap := g, toks := s.toks + (ps.zip us).length } := inv_startN S hr.room.hd e0 hlv r C hns keepG
  have want : rdS K (CL.of a T p) (fun cls d _ H => E cls d H) mb { nx := fun _ H' => Q .non H', rt := Q } (startF N vs (wv.map some)) H := by
    obtain ⟨μ, t, ds, SS, rv, h⟩ := hsp
    refine ⟨μ, t, ds.map some ++ List.replicate (len - n) none, SS, ?_, ?_⟩
    · have st := rv.start hl
      have e1 : L2.start N (vs ++ wv) = startF N vs (wv.map some) := by
        unfold L2.start startF
        rw [List.map_append, List.append_assoc, List.length_append, List.length_map, Nat.sub_add_eq]
      rw [e1, rv.length, hall, hn] at st
      exact st
    · unfold mDef at h
      have z : ds.length = n := by rw [rv.length, hall, hn]
      rw [if_pos z] at h
      cases q : mb (ds.map some ++ List.replicate (len - n) none) t with
      | rt d st' => rw [q] at h; exact h
      | nx l st' =>
        rw [q] at h
        exact fun μ' H' σ' s e _ => h μ' H' .non s e (by simp only [VR])
      | exc c fs l st' =>
        rw [q] at h
        exact fun μ' H' σ' cls d s e _ x => h μ' H' cls d s e x
      | bk l st' => rw [q] at h; exact h.elim
      | ct l st' => rw [q] at h; exact h.elim
      | bad => rw [q] at h; exact h.elim
  refine wpAny_mono (body.run [] _ (startF N vs (wv.map some)) H _ I want) (fun fl t2 hs => ?_) fun _ _ hs => hs
  cases fl with
  | ret u =>
    obtain ⟨v, σ', H', J, rv, q⟩ := hs
    exact ⟨v, H', J.os, J.bare, J.base, J.hok, rv, q⟩
  | next =>
    obtain ⟨σ', H', J, q⟩ := hs
    exact ⟨V.non, H', J.os, J.bare, J.base, J.hok, rfl, q⟩
  | brk => exact hs.elim fun _ h => h.elim fun _ h => h.2.elim
  | cont => exact hs.elim fun _ h => h.elim fun _ h => h.2.elim
end

/-! ### the function in a frame that has it as a value -/
/-- in X the function at f does what Fd tells -/
structure CloP (X : Cx) (cl : CL) (k : Nat) (f : Addr) (n : Nat) (Fd : FD) : Prop where
  len : ∀ ds st, Fd ds st ≠ .bad → ds.length = n
  at_ : ∀ μ N H, cl.P X.K μ N H → ∃ F, H f = some (FnO f F)
  run : ∀ (pins : List (Addr × Obj)) (σ : L2.St) (H : Hp) (s : Shared) (us : List Value) (vs : List V) (Q : VK) (E : XK), RoomG k X.A → Inv X pins σ H s → Vals vs us → spF X.K cl Fd vs H Q E →
    codeAny (model X.prog X.w) X.A (.call (.ref f) ⟨us, []⟩) (CR (L2.CX X.prog X.w) X.stack X.prog X.w H s Q E) s
theorem CloP.of {X : Cx} {a : Nat → Addr} {T : List NTab} {p : PP} {k : Nat} {f : Addr} {F : NF} {ps fr : List Str} {Fn : FD} {ws : List D} {wv : List V} (G : NfS X.prog X.w X.K X.mg X.base a T k f F ps fr Fn) (hp : ∀ μ N H, p.P X.K μ N H → (ppF f F).P X.K μ N H ∧ (ppW ws wv).P X.K μ N H) (hw : wv.length = fr.length)
    (C : CellsAt F.cl fr (wv.map some) X.s_0.heap X.H_0) (nf : ∀ y c, F.cl.lookup y = some c → c ∉ X.fs) (hx : X.ex = []) : CloP X (CL.of a T p) k f ps.length (fun ds st => if ws.length = fr.length then Fn (ds ++ ws) st else .bad) where
  len := fun ds st h => by
    by_cases z : ws.length = fr.length
    · simp only [z, if_true] at h
      have := G.len _ _ h
      rw [List.length_append, z] at this
      omega
    · simp only [z, if_false] at h
      exact absurd rfl h
  at_ := fun μ N H h => ⟨F, (hp μ N H h).1.1⟩
  run := fun pins σ H s us vs Q E hr I r ⟨μ, st, ds, S, rv, h⟩ => by
    by_cases z : ws.length = fr.length
    · simp only [z, if_true] at h
      have hp1 := hp _ _ _ S.pp
      exact G.run p X.A X.stack s H us vs wv Q E hr I.env0 hp1.1.1 hp1.1.2 (C.later nf (fun y c _ => by rw [hx]; simp) I) r ⟨μ, st, ds ++ ws, S, rv.append hp1.2, h⟩
    · simp only [z, if_false] at h
      exact h.elim
/-- f(..), f a name whose value is the function -/
def mCallC (i : Nat) (f : Addr) (Fd : FD) (xs : MA) : ME := fun l st => match l[i]? with
  | some (some (.cst (.ref g))) => if g = f then (xs l st).bind Fd else .bad
  | _ => .bad
section
variable {X : Cx} {cl : CL} {W : WX} {e : Expr} {es : List Expr} {xs : MA} {k j n i : Nat} {f : Addr} {Fd : FD} {x : Str} {p pos : Pos}
theorem s_callC (C : CloP X cl k f n Fd) (hr : RoomG k X.A) (tk : Takes X W) (ha : SA X cl W (e :: es) xs) (hN : X.N[i]? = some x := by rfl) (hv : Vis X.env.scope x := by first | exact Or.inl rfl | exact Or.inr (Or.inl rfl) | exact Or.inr (Or.inr rfl))
    (hd : (x == ("__debug__" : Str)) = false := by decide) (hcd : (x == ("__classdict__" : Str)) = false := by decide) (he : starEach (e :: es) X.env = (false, eval e X.env) :: starEach es X.env := by rfl) (hpl : (backTo pos (starEach es X.env)).any (·.1) = false := by rfl) :
    SE X cl W (.Call (.Name x p) (e :: es) [] pos) (mCallC i f Fd xs) := by
  refine ⟨fun pins s σ H Q I ⟨μ, st, l, S, L, h⟩ => ?_⟩
  unfold mCallC at h
  cases q : l[i]? with
  | none => rw [q] at h; exact h.elim
  | some o =>
    rw [q] at h
    cases o with
    | none => exact h.elim
    | some d =>
      cases d with
      | cst v =>
        cases v with
        | ref g =>
          simp only at h
          by_cases hg : g = f
          · subst hg
            rw [if_pos rfl] at h
            obtain ⟨v, hs, rv⟩ := L.2 i _ q
            simp only [VR] at rv
            subst rv
            refine wpAny_Call_Name_kw (thn ((pe_var (pos := p) hN hv hd hcd).run pins s σ H (fun v H1 => v = .ref g ∧ H1 = H) I ⟨.ref g, hs, rfl, rfl⟩) fun u s1 ⟨v, H1, I1, r1, q1⟩ => ?_)
            obtain ⟨ev, eH⟩ := q1
            subst ev
            rw [eH] at I1
            obtain rfl : u = Value.ref g := r1
            obtain ⟨F, hF⟩ := C.at_ _ _ _ S.pp
            have want : rdA X.K cl W xs σ H fun vs H2 => (∃ F, H2 g = some (FnO g F)) ∧ spF X.K cl Fd vs H2 Q (WE W σ) :=
              ⟨μ, st, l, S, L, Post.bind h fun ds st2 μ2 H2 vs _ S2 e2 r2 h2 => ⟨C.at_ _ _ _ S2.pp, μ2, st2, ds, S2, r2, h2⟩⟩
            refine PySem.W.callWith_F (first := []) (fnAt_of I1 hF) (thn (ha.run pos pins s1 σ H _ I1 want) fun us s2 ⟨vs, H2, I2, r, ⟨F2, hF2⟩, h2⟩ => ⟨fnAt_of I2 hF2, ?_⟩) he hpl
            show wpAny _ _ (call (.ref g) us) _ _ _
            refine wpAny_call (codeAny_mono (C.run pins σ H2 s2 us vs Q (WE W σ) hr I2 r h2) fun r s' hq => ?_)
            cases r with
            | error e => exact passAt tk σ pins H2 s2 e s' I2 hq
            | ok fl =>
              cases fl with
              | ret u => exact I2.after hq
              | next => exact hq.elim
              | brk => exact hq.elim
              | cont => exact hq.elim
          · rw [if_neg hg] at h; exact h.elim
        | _ => exact h.elim
      | _ => exact h.elim
end
end DV


set_option Elab.async false
set_option linter.all false
set_option maxRecDepth 100000
set_option  maxHeartbeats   4000000
/-! DV, part X: a def that gets a function and calls it; the call that hands it one. -/
namespace DV
open PySem PySem.Spec PyProof.Rows L2 NdefX

theorem NfS.mono {P : Program} {w : World} {K : PySem.W.Frag} {mg : Str → Option Value} {base : Heap} {a : Nat → Addr} {T : List NTab} {j k : Nat} {f : Addr} {F : NF} {ps fr : List Str} {Fn : FD} (G : NfS P w K mg base a T j f F ps fr Fn) (h : j ≤ k) : NfS P w K mg base a T k f F ps fr Fn :=
  ⟨G.len, fun p A outer s H us vs wv Q E hr => G.run p A outer s H us vs wv Q E (hr.mono h)⟩
/-- the function with what it captured -/
def fdC (Fn : FD) (ws : List D) : FD := fun ds st => Fn (ds ++ ws) st
theorem CloP.ofC {X : Cx} {a : Nat → Addr} {T : List NTab} {p : PP} {k : Nat} {f : Addr} {F : NF} {ps fr : List Str} {Fn : FD} {ws : List D} {wv : List V} (G : NfS X.prog X.w X.K X.mg X.base a T k f F ps fr Fn) (hp : ∀ μ N H, p.P X.K μ N H → (ppF f F).P X.K μ N H ∧ (ppW ws wv).P X.K μ N H) (hw : wv.length = fr.length) (hw2 : ws.length = fr.length)
    (C : CellsAt F.cl fr (wv.map some) X.s_0.heap X.H_0) (nf : ∀ y c, F.cl.lookup y = some c → c ∉ X.fs) (hx : X.ex = []) : CloP X (CL.of a T p) k f ps.length (fdC Fn ws) := by
  have q := CloP.of G hp hw C nf hx
  have e : (fun ds st => if ws.length = fr.length then Fn (ds ++ ws) st else Res.bad) = fdC Fn ws := by
    funext ds st
    rw [if_pos hw2]
    rfl
  rw [e] at q
  exact q
/-- the def at g, given a function at f that does what Fd tells, does what G f Fd tells -/
structure FnH (P : Program) (w : World) (K : PySem.W.Frag) (mg : Str → Option Value) (base : Heap) (a : Nat → Addr) (T : List NTab) (k j : Nat) (g : Addr) (fd : FuncData) (ps : List Str) (n : Nat) (G : Addr → FD → FD) : Prop where
  len : ∀ f Fd ds st, G f Fd ds st ≠ .bad → ds.length = ps.length
  run : ∀ (p : PP) (f : Addr) (F : NF) (ps' fr : List Str) (Fn : FD) (ws : List D) (wv : List V), NfS P w K mg base a T j f F ps' fr Fn → ps'.length = n → (∀ μ N H, p.P K μ N H → (ppF f F).P K μ N H ∧ (ppW ws wv).P K μ N H) → wv.length = fr.length → ws.length = fr.length →
    ∀ (A : Around) (outer : List Env) (s : Shared) (H : Hp) (args : Args) (us : List Value) (vs : List V) (Q : VK) (E : XK), RoomG k A → Env0 P w K mg base A outer s H → CellsAt F.cl fr (wv.map some) s.heap H → (∀ y c, F.cl.lookup y = some c → c ∉ frs outer) →
      BindsTo s fd args (ps.zip us) → Vals vs us → spF K (CL.of a T p) (G f (fdC Fn ws)) vs H Q E → codeAny (model P w) A (.call (.ref g) args) (CR (L2.CX P w) outer P w H s Q E) s
section
variable {P : Program} {w : World} {K : PySem.W.Frag} {mg : Str → Option Value} {base : Heap} {a : Nat → Addr} {T : List NTab}
theorem fnh_of {x qual : Str} {st : Stmt} {g : Addr} {fd : FuncData} {N ps : List Str} {k j len n np : Nat} {mb : Addr → FD → MS} (F : FunA K x qual st g fd) (S : FnScope N ps (defScope st)) (hn : ps.length = n) (hl : N.length = len)
    (hbody : ∀ (p : PP) (f : Addr) (Fd : FD) (cdv : Value) (A : Around) (outer : List Env) (s : Shared) (H : Hp) (E : XK), CloP (cxD P w K mg base N qual st g cdv A outer s H E) (CL.of a T p) j f np Fd → RoomG k (A.deeper (envOfC qual (defScope st) s.heap.objs.size g cdv)) →
      Takes (cxD P w K mg base N qual st g cdv A outer s H E) (fun cls d _ H => E cls d H) →
      SSs (cxD P w K mg base N qual st g cdv A outer s H E) (CL.of a T p) (fun cls d _ H => E cls d H) (defBody st) (mb f Fd)) : FnH P w K mg base a T (k + 1) j g fd ps np (fun f Fd => mDef n len (mb f Fd)) := by
  obtain ⟨oc, od, dV, kV, doc, pm, an, cdv, ct, osl, efd, lk, hcd⟩ := F.ex
  have hlen : ∀ f Fd ds st, mDef n len (mb f Fd) ds st ≠ .bad → ds.length = ps.length := fun f Fd ds t h => by
    unfold mDef at h
    by_cases z : ds.length = n
    · rw [z, hn]
    · rw [if_neg z] at h; exact absurd rfl h
  refine ⟨hlen, fun p f NFf ps' fr Fn ws wv NN hnp hp hw hw2 A outer s H args us vs Q E hr e0 C nf hb r ⟨μ, t, ds, SS, rv, h⟩ => ?_⟩
  subst efd
  have hvl : vs.length = ps.length := by rw [← rv.length]; exact hlen _ _ ds t h.nb
  have kin0 : K.In s.heap := e0.mod.kin.keeps fun b o e => (e0.bs b o e).1
  have nolim : s.heap.NoLimit :=
    e0.mod.nolimit.keeps fun b o e => (e0.bs b o e).1
  have binds : ∀ y ∈ ps.zip us, (defScope st).names.lookup y.1 = some .local ∨ ((defScope st).names.lookup y.1 = some .cell ∧ ((cellsFrom (s.heap.objs.size + 1) (defScope st).names []).lookup y.1).isSome = true) := by
    rintro ⟨n, v⟩ hy
    rcases S.par n (List.of_mem_zip hy).1 with c | c
    · exact .inl c
    · exact .inr ⟨c, PySem.W.cellsFrom_some _ _ _ (.inl c)⟩
  have hr1 : RoomG k (A.deeper (envOfC qual (defScope st) s.heap.objs.size g cdv)) := ⟨hr.room.deeper _, hr.g⟩
  have clo : CloP (cxD P w K mg base N qual st g cdv A outer s H E) (CL.of a T p) j f np (fdC Fn ws) := by
    rw [← hnp]
    exact CloP.ofC (X := cxD P w K mg base N qual st g cdv A outer s H E) NN hp hw hw2 C nf rfl
  refine codeAny_call_function hr.room.depth (kin0 _ _ lk) rfl S.co S.gen rfl
    (PySem.W.codeRec_of kin0 hcd) (hb _ _ _ _ ?_)
  refine wpAny_newFunctionEnv_cells S.kind binds fun env1 henv t1 icc => ?_
  subst henv
  refine ⟨nolim.keeps icc.toInCall.keep, codeAny_func ?_⟩
  have body := hbody p f (fdC Fn ws) cdv A outer s H E clo hr1 (takes_of rfl rfl rfl rfl)
  have I0 : Inv (cxD P w K mg base N qual st g cdv A outer s H E) [] (L2.start N vs) H t1 :=
    inv_start S hr.room.hd e0 hvl r icc
  have want : rdS K (CL.of a T p) (fun cls d _ H => E cls d H) (mb f (fdC Fn ws)) { nx := fun _ H' => Q .non H', rt := Q } (L2.start N vs) H := by
    refine ⟨μ, t, _, SS, rv.start hl, ?_⟩
    unfold mDef at h
    have z : ds.length = n := by rw [rv.length, hvl, hn]
    rw [if_pos z] at h
    rw [z]
    cases q : mb f (fdC Fn ws) (ds.map some ++ List.replicate (len - n) none) t with
    | rt d st' => rw [q] at h; exact h
    | nx l st' =>
      rw [q] at h
      exact fun μ' H' σ' s e _ => h μ' H' .non s e (by simp only [VR])
    | exc c fs l st' =>
      rw [q] at h
      exact fun μ' H' σ' cls d s e _ x => h μ' H' cls d s e x
    | bk l st' => rw [q] at h; exact h.elim
    | ct l st' => rw [q] at h; exact h.elim
    | bad => rw [q] at h; exact h.elim
  refine wpAny_mono (body.run [] t1 (L2.start N vs) H _ I0 want) (fun fl t2 hs => ?_) fun _ _ hs => hs
  cases fl with
  | ret u =>
    obtain ⟨v, σ', H', J, rv, q⟩ := hs
    exact ⟨v, H', J.os, J.bare, J.base, J.hok, rv, q⟩
  | next =>
    obtain ⟨σ', H', J, q⟩ := hs
    exact ⟨V.non, H', J.os, J.bare, J.base, J.hok, rfl, q⟩
  | brk => exact hs.elim fun _ h => h.elim fun _ h => h.2.elim
  | cont => exact hs.elim fun _ h => h.elim fun _ h => h.2.elim
end

/-! ### the call -/
/-- the values of some names -/
def slots (l : Loc) : List Nat → Option (List D)
  | [] => some []
  | j :: r => match l[j]? with
    | some (some d) => (match slots l r with
      | some ds => some (d :: ds)
      | none => none)
    | _ => none
theorem slots_vr {K : PySem.W.Frag} {μ : Nat → Addr} {N : Nat} {H : Hp} {l : Loc} {σ : L2.St} (L : LR K μ N H l σ) : ∀ {js : List Nat} {ws : List D}, slots l js = some ws → ∃ wv, js.map (slotAt σ) = wv.map some ∧ VRs K μ N H ws wv
  | [], ws, h => by
    cases h
    exact ⟨[], rfl, by simp only [VRs]⟩
  | j :: r, ws, h => by
    unfold slots at h
    cases q : l[j]? with
    | none => rw [q] at h; cases h
    | some o =>
      rw [q] at h
      cases o with
      | none => cases h
      | some d =>
        cases q2 : slots l r with
        | none => simp only [q2] at h; cases h
        | some ds =>
          simp only [q2] at h
          cases h
          obtain ⟨v, hv, rv⟩ := L.2 j d q
          obtain ⟨wv, e, rw_⟩ := slots_vr L q2
          refine ⟨v :: wv, ?_, ?_⟩
          · rw [List.map_cons, List.map_cons, e, slotAt_of hv]
          · simp only [VRs]
            exact ⟨v, wv, rfl, rv, rw_⟩
theorem slots_len {l : Loc} : ∀ {js : List Nat} {ws : List D}, slots l js = some ws → ws.length = js.length
  | [], ws, h => by cases h; rfl
  | j :: r, ws, h => by
    unfold slots at h
    cases q : l[j]? with
    | none => rw [q] at h; cases h
    | some o =>
      rw [q] at h
      cases o with
      | none => cases h
      | some d =>
        cases q2 : slots l r with
        | none => simp only [q2] at h; cases h
        | some ds =>
          simp only [q2] at h
          cases h
          rw [List.length_cons, List.length_cons, slots_len q2]
/-- g(.., f), f a function made here: its captured names stand at js -/
def mCallH (f : Addr) (q : Nat) (js : List Nat) (G : Addr → FD → FD) (Fn : FD) (xs : MA) : ME := fun l st => (xs l st).bind fun ds st1 => match ds[q]? with
  | some (.cst (.ref g)) => if g = f then (match slots l js with
    | some ws => G f (fdC Fn ws) ds st1
    | none => .bad) else .bad
  | _ => .bad
section
variable {X : Cx} {a : Nat → Addr} {T : List NTab} {p : PP} {W : WX} {e : Expr} {es : List Expr} {xs : MA} {k j n q : Nat} {f g : Addr} {fd : FuncData} {ps ps' fr : List Str} {G : Addr → FD → FD} {Fn : FD} {F : NF} {js : List Nat} {x : Str} {sc : Scope} {pp pos : Pos}
theorem s_callH (GH : FnH X.prog X.w X.K X.mg X.base a T k j g fd ps n G) (NN : NfS X.prog X.w X.K X.mg X.base a T j f F ps' fr Fn) (hp : ∀ μ N H, p.P X.K μ N H → (ppF f F).P X.K μ N H) (hr : RoomG k X.A) (tk : Takes X W) (hm : X.mg x = some (.ref g)) (hk : PySem.W.keepIn X.K (.ref g) = true) (hb : Binds X.K fd ps [])
    (ha : SA X (CL.of a T p) W (e :: es) xs) (hn : ps'.length = n) (hcl : F.cl = cloFrom X.env.cells sc.names []) (hfree : ∀ y ∈ sc.names, y.2 = .free → X.env.scope.names.lookup y.1 = some .cell ∨ X.env.scope.names.lookup y.1 = some .free) (hfr : ∀ y ∈ fr, (y, NameKind.free) ∈ sc.names)
    (hjs : js.map (fun j => X.N[j]?) = fr.map some) (hfn : ∀ y, X.fn y = true) (hg : Gl X x := by rfl)
    (hdb : (x == ("__debug__" : Str)) = false := by decide) (he : starEach (e :: es) X.env = (false, eval e X.env) :: starEach es X.env := by rfl) (hpl : (backTo pos (starEach es X.env)).any (·.1) = false := by rfl) :
    SE X (CL.of a T p) W (.Call (.Name x pp) (e :: es) [] pos) (mCallH f q js G Fn xs) := by
  refine ⟨fun pins s σ H Q I ⟨μ, st, l, S, L, h⟩ => ?_⟩
  refine wpAny_Call_Name_kw (ld_glob I hg hm ?_ hdb)
  have want : rdA X.K (CL.of a T p) W xs σ H fun vs H1 => ∃ ws wv, js.map (slotAt σ) = wv.map some ∧ ws.length = js.length ∧ spF X.K (CL.of a T (p.and (ppW ws wv))) (G f (fdC Fn ws)) vs H1 Q (WE W σ) := by
    refine ⟨μ, st, l, S, L, Post.bind h fun d st1 μ1 H1 vs _ S1 e1 r1 h1 => ?_⟩
    cases q1 : d[q]? with
    | none => rw [q1] at h1; exact h1.elim
    | some o =>
      rw [q1] at h1
      cases o with
      | cst v =>
        cases v with
        | ref g1 =>
          simp only at h1
          by_cases z : g1 = f
          · rw [if_pos z] at h1
            cases q2 : slots l js with
            | none => rw [q2] at h1; exact h1.elim
            | some ws =>
              rw [q2] at h1
              obtain ⟨wv, ew, rw_⟩ := slots_vr (L.ev e1) q2
              exact ⟨ws, wv, ew, slots_len q2, μ1, st1, d, S1.re ⟨S1.pp, rw_⟩, r1, Post.re (fun _ _ _ y => y.1) h1⟩
          · rw [if_neg z] at h1; exact h1.elim
        | _ => exact h1.elim
      | _ => exact h1.elim
  refine PySem.W.callWith_K (h₀ := X.base) I.ok.mod.kin hk (thn (ha.run pos pins s σ H _ I want) fun us s1 hh => ?_) he hpl
  obtain ⟨vs, H1, I1, r, ws, wv, ew, lw, hsp⟩ := hh
  refine ⟨I1.kIn, ?_⟩
  have jl : js.length = fr.length := by
    have z := congrArg List.length hjs
    rwa [List.length_map, List.length_map] at z
  have wl : wv.length = fr.length := by
    have z := congrArg List.length ew
    rw [List.length_map, List.length_map] at z
    rw [← z, jl]
  have C := cells_of I1 (Caps.made I1.ok hfree hfr hjs)
  rw [ew, ← hcl] at C
  have hf : ∀ y ∈ sc.names, y.2 = .free → ∃ c, X.env.cells.lookup y.1 = some c := fun y hy e => (hfree y hy e).elim (fun z => I1.ok.has _ (.inl z)) fun z => I1.ok.has _ (.inr z)
  have nf : ∀ y c, F.cl.lookup y = some c → c ∉ frs X.stack := fun y c e hc => by
    rw [hcl] at e
    have e2 := clo_cm hf e
    rcases List.mem_cons.mp (I1.stkSub c hc) with z | z
    · exact I1.cne y c e2 z
    · obtain ⟨_, o, ho, _⟩ := I1.ok.funs.mem z
      have := I1.ok.cab y c (hfn y) e2
      exact absurd (Heap.lt_size ho) (Nat.not_lt_of_le this)
  have hl : us.length = ps.length := by
    obtain ⟨μ, st, ds, S, rv, h⟩ := hsp
    rw [← r.length, ← rv.length]
    exact GH.len _ _ ds st h.nb
  have hb0 := hb s1 us I1.kIn (by rw [List.append_nil]; exact hl)
  rw [List.append_nil] at hb0
  refine wpAny_call (codeAny_mono (GH.run (p.and (ppW ws wv)) f F ps' fr Fn ws wv NN hn (fun μ N H y => ⟨hp _ _ _ y.1, y.2⟩) wl (by rw [lw, jl]) X.A X.stack s1 H1 ⟨us, []⟩ us vs Q (WE W σ) hr I1.env0 C nf hb0 r hsp) fun r s' hq => ?_)
  cases r with
  | error e => exact passAt tk σ pins H1 s1 e s' I1 hq
  | ok fl =>
    cases fl with
    | ret u => exact I1.after hq
    | next => exact hq.elim
    | brk => exact hq.elim
    | cont => exact hq.elim
end
end DV


set_option Elab.async false
set_option linter.all false
set_option maxRecDepth 100000
set_option  maxHeartbeats   4000000
/-! DV, part Y: the hook with tables; defs that make functions. -/
namespace DV
open PySem PySem.Spec PyProof.Rows L2 NdefX He

/-- the tables: code, table -/
def csOf (K : PySem.W.Frag) (tf : List Defn) : List (Addr × Addr) := tf.map (cT K)

/-! ### a def that knows its code object -/
section
variable {P : Program} {w : World} {K : PySem.W.Frag} {mg : Str → Option Value} {base : Heap} {cl : CL}
theorem gd_ofC {x qual : Str} {st : Stmt} {kws : List (Str × V)} {N ps : List Str} {k len n : Nat} {mb : MS} (e : ∃ fd, FunD K x qual (defArgs st) (defBody st) (defScope st) [] kws (ga K x) fd) (S : FnScope N ps (defScope st)) (hn : ps.length = n) (hl : N.length = len)
    (hbody : ∀ (A : Around) (outer : List Env) (s : Shared) (H : Hp) (E : XK), RoomG k (A.deeper (envOfC qual (defScope st) s.heap.objs.size (ga K x) (.ref (codeOf K (x, none))))) →
      Takes (cxD P w K mg base N qual st (ga K x) (.ref (codeOf K (x, none))) A outer s H E) (fun cls d _ H => E cls d H) →
      SSs (cxD P w K mg base N qual st (ga K x) (.ref (codeOf K (x, none))) A outer s H E) cl (fun cls d _ H => E cls d H) (defBody st) mb) : GD P w K mg base cl (k + 1) (ga K x) x qual st kws ps (mDef n len mb) := by
  obtain ⟨fd, F⟩ := e
  refine ⟨fd, ?_, F⟩
  obtain ⟨oc, od, dV, kV, doc, pm, an, cdv, ct, osl, efd, lk, hcd, _⟩ := F.ex
  have hc : cdv = .ref (codeOf K (x, none)) := by
    unfold codeOf fAd
    simp only [lk]
    subst efd
    cases cdv with
    | ref c => rfl
    | _ => cases hcd
  subst hc
  have hlen : ∀ ds st, mDef n len mb ds st ≠ .bad → ds.length = ps.length := fun ds t h => by
    unfold mDef at h
    by_cases z : ds.length = n
    · rw [z, hn]
    · rw [if_neg z] at h; exact absurd rfl h
  refine ⟨hlen, fun A outer s H args us vs Q E hr e0 hb r ⟨μ, t, ds, SS, rv, h⟩ => ?_⟩
  subst efd
  have hvl : vs.length = ps.length := by rw [← rv.length]; exact hlen ds t h.nb
  have kin0 : K.In s.heap := e0.mod.kin.keeps fun b o e => (e0.bs b o e).1
  have nolim : s.heap.NoLimit :=
    e0.mod.nolimit.keeps fun b o e => (e0.bs b o e).1
  have binds : ∀ y ∈ ps.zip us, (defScope st).names.lookup y.1 = some .local ∨ ((defScope st).names.lookup y.1 = some .cell ∧ ((cellsFrom (s.heap.objs.size + 1) (defScope st).names []).lookup y.1).isSome = true) := by
    rintro ⟨n, v⟩ hy
    rcases S.par n (List.of_mem_zip hy).1 with c | c
    · exact .inl c
    · exact .inr ⟨c, PySem.W.cellsFrom_some _ _ _ (.inl c)⟩
  have hr1 : RoomG k (A.deeper (envOfC qual (defScope st) s.heap.objs.size (ga K x) (.ref (codeOf K (x, none))))) := ⟨hr.room.deeper _, hr.g⟩
  refine codeAny_call_function hr.room.depth (kin0 _ _ lk) rfl S.co S.gen rfl
    (PySem.W.codeRec_of kin0 hcd) (hb _ _ _ _ ?_)
  refine wpAny_newFunctionEnv_cells S.kind binds fun env1 henv t1 icc => ?_
  subst henv
  refine ⟨nolim.keeps icc.toInCall.keep, codeAny_func ?_⟩
  have body := hbody A outer s H E hr1 (takes_of rfl rfl rfl rfl)
  have I0 : Inv (cxD P w K mg base N qual st (ga K x) (.ref (codeOf K (x, none))) A outer s H E) [] (L2.start N vs) H t1 :=
    inv_start S hr.room.hd e0 hvl r icc
  have want : rdS K cl (fun cls d _ H => E cls d H) mb { nx := fun _ H' => Q .non H', rt := Q } (L2.start N vs) H := by
    refine ⟨μ, t, _, SS, rv.start hl, ?_⟩
    unfold mDef at h
    have z : ds.length = n := by rw [rv.length, hvl, hn]
    rw [if_pos z] at h
    rw [z]
    cases q : mb (ds.map some ++ List.replicate (len - n) none) t with
    | rt d st' => rw [q] at h; exact h
    | nx l st' =>
      rw [q] at h
      exact fun μ' H' σ' s e _ => h μ' H' .non s e (by simp only [VR])
    | exc c fs l st' =>
      rw [q] at h
      exact fun μ' H' σ' cls d s e _ x => h μ' H' cls d s e x
    | bk l st' => rw [q] at h; exact h.elim
    | ct l st' => rw [q] at h; exact h.elim
    | bad => rw [q] at h; exact h.elim
  refine wpAny_mono (body.run [] t1 (L2.start N vs) H _ I0 want) (fun fl t2 hs => ?_) fun _ _ hs => hs
  cases fl with
  | ret u =>
    obtain ⟨v, σ', H', J, rv, q⟩ := hs
    exact ⟨v, H', J.os, J.bare, J.base, J.hok, rv, q⟩
  | next =>
    obtain ⟨σ', H', J, q⟩ := hs
    exact ⟨V.non, H', J.os, J.bare, J.base, J.hok, rfl, q⟩
  | brk => exact hs.elim fun _ h => h.elim fun _ h => h.2.elim
  | cont => exact hs.elim fun _ h => h.elim fun _ h => h.2.elim
end
/-- a def that gets a function -/
structure GH (P : Program) (w : World) (K : PySem.W.Frag) (mg : Str → Option Value) (base : Heap) (a : Nat → Addr) (T : List NTab) (k j : Nat) (f : Addr) (x qual : Str) (st : Stmt) (ps : List Str) (n : Nat) (G : Addr → FD → FD) : Prop where
  ex : ∃ fd, FnH P w K mg base a T k j f fd ps n G ∧ FunD K x qual (defArgs st) (defBody st) (defScope st) [] [] f fd
theorem gh_of {P : Program} {w : World} {K : PySem.W.Frag} {mg : Str → Option Value} {base : Heap} {a : Nat → Addr} {T : List NTab} {x qual : Str} {st : Stmt} {g : Addr} {N ps : List Str} {k j len n np : Nat} {mb : Addr → FD → MS} (e : ∃ fd, FunD K x qual (defArgs st) (defBody st) (defScope st) [] [] g fd) (S : FnScope N ps (defScope st)) (hn : ps.length = n) (hl : N.length = len)
    (hbody : ∀ (p : PP) (f : Addr) (Fd : FD) (cdv : Value) (A : Around) (outer : List Env) (s : Shared) (H : Hp) (E : XK), CloP (cxD P w K mg base N qual st g cdv A outer s H E) (CL.of a T p) j f np Fd → RoomG k (A.deeper (envOfC qual (defScope st) s.heap.objs.size g cdv)) →
      Takes (cxD P w K mg base N qual st g cdv A outer s H E) (fun cls d _ H => E cls d H) →
      SSs (cxD P w K mg base N qual st g cdv A outer s H E) (CL.of a T p) (fun cls d _ H => E cls d H) (defBody st) (mb f Fd)) : GH P w K mg base a T (k + 1) j g x qual st ps np (fun f Fd => mDef n len (mb f Fd)) := by
  obtain ⟨fd, F⟩ := e
  exact ⟨fd, fnh_of (funA_of F) S hn hl hbody, F⟩
end DV


set_option Elab.async false
set_option linter.all false
set_option maxRecDepth 100000
set_option  maxHeartbeats   8000000
/-! DV, part Z: enumerate(zip(a, b)): the zip's tuple stays out while the next one is made. -/
namespace DV
open PySem PySem.Spec PyProof.Rows L2

/-- a zip, whatever it knows of its tuple -/
def zipObj (f0 : Value) (f1 : Bool) (TI TO : Addr) : Obj := { cls := .type "zip", dict := none, data := .fields #[f0, .bool f1, .bool false, .ref TI, .ref TO], slots := #[] }
def ZipSt (h : Heap) (z TI TO : Addr) : Prop := ∃ f0 f1, h.get? z = some (zipObj f0 f1 TI TO) ∧ (f0 = .none ∨ ∃ T : Nat, f0 = rawInt T)
theorem ZipSt.moved {h h' : Heap} {z TI TO : Addr} (s : ZipSt h z TI TO) (hk : ∀ o, h.get? z = some o → h'.get? z = some o) : ZipSt h' z TI TO := by
  obtain ⟨f0, f1, e, r⟩ := s
  exact ⟨f0, f1, hk _ e, r⟩
theorem may_alive {prog : Program} {w : World} {A : Around} {E : Value → Shared → Prop} {s : Shared} {a : Addr} {Q : Option Obj → Shared → Prop} (h : Q (s.heap.get? a) s) : wpAny (model prog w) A (loadIfAlive a) Q E s :=
  fun _ _ _ => h
section
variable {prog : Program} {w : World} {A : Around} {E : Value → Shared → Prop} {s : Shared} {z TI TO i1 i2 : Addr} {fp1 fp2 : List Addr} {n1 n2 i : Nat} {P1 P2 : Nat → Value → Prop} {St1 St2 : Nat → Heap → Prop} {a1 a2 : Value}
/-- what the tuple's look says: free, or held and told -/
theorem zip_look {Q : Bool → Shared → Prop} (hz : ZipSt s.heap z TI TO) (hF : Q true s)
    (hH : ∀ h', ZipSt h' z TI TO → Heap.SameBut z s.heap h' → Q false { s with heap := h' }) : wpAny (model prog w) A (Builtin.SmallTypes.ownedTupleIsFree (.ref z)) Q E s := by
  obtain ⟨f0, f1, hz, r⟩ := hz
  unfold Builtin.SmallTypes.ownedTupleIsFree
  rcases r with rfl | ⟨T, rfl⟩
  · exact wpAny_bind (wpAny_field hz rfl (x := .none) rfl (wpAny_pure hF))
  · refine wpAny_bind (wpAny_field hz rfl (x := rawInt T) rfl ?_)
    show wpAny _ _ (loadIfAlive ((T : Int).toNat) >>= _) _ _ _
    rw [Int.toNat_natCast]
    refine wpAny_bind (may_alive ?_)
    cases e : s.heap.get? T with
    | none =>
      simp only [Option.isNone_none, if_true]
      exact wpAny_pure hF
    | some o =>
      simp only [Option.isNone_some, Bool.false_eq_true, if_false]
      refine wpAny_bind (wpAny_field hz rfl (x := .bool f1) rfl ?_)
      cases f1 with
      | true =>
        rw [if_neg (show ¬ ((Value.bool true != Value.bool true) = true) from Bool.false_ne_true)]
        exact wpAny_pure (hH s.heap ⟨_, _, hz, .inr ⟨T, rfl⟩⟩ (Heap.SameBut.refl _ _))
      | false =>
        rw [if_pos (show (Value.bool false != Value.bool true) = true from rfl)]
        exact wpAny_bind (wpAny_setField_rec hz (by simp) fun h1 hz1 hs1 => wpAny_pure (hH h1 ⟨_, _, hz1, .inr ⟨T, rfl⟩⟩ hs1))
theorem zipA_item {Q : Value → Shared → Prop} (S : ZipSep2 z TI TO i1 i2 fp1 fp2) (D1 : Draws prog w A i1 fp1 n1 P1 St1) (D2 : Draws prog w A i2 fp2 n2 P2 St2)
    (hz : ZipSt s.heap z TI TO) (hTI : IsTupOf2 s.heap TI (.ref i1) (.ref i2)) (hTO : ∃ a1 a2, IsTupOf2 s.heap TO a1 a2) (st1 : St1 i s.heap) (st2 : St2 i s.heap) (hlt1 : i < n1) (hlt2 : i < n2)
    (hQ : ∀ x1 x2 h' tk, P1 i x1 → P2 i x2 → ZipSt h' z TI TO → (∃ a1 a2, IsTupOf2 h' TO a1 a2) → St1 (i + 1) h' → St2 (i + 1) h' → IsTupOf2 h' s.heap.objs.size x1 x2 → h'.objs.size = s.heap.objs.size + 1 →
      (∀ c o, c ≠ z → c ≠ TO → c ≠ i1 → c ≠ i2 → s.heap.get? c = some o → h'.get? c = some o) → Q (.ref s.heap.objs.size) { s with heap := h', toks := tk }) :
    wpAny (model prog w) A (Builtin.«zip.__next__» ⟨[.ref z], []⟩) (fun fin s' => ∃ v, fin = .done (.ret v) ∧ Q v s') E s := by
  obtain ⟨hp, g, d, tk0, os⟩ := s
  obtain ⟨a1, a2, hTO⟩ := hTO
  have zst := hz
  obtain ⟨f0, f1, hz, hf0⟩ := hz
  show wpAny _ _ (field (.ref z) 2 >>= _) _ _ _
  refine wpAny_bind (wpAny_field hz rfl (x := .bool false) rfl ?_)
  show wpAny _ _ (field (.ref z) 3 >>= _) _ _ _
  refine wpAny_bind (wpAny_field hz rfl (x := .ref TI) rfl ?_)
  refine wpAny_bind (wpAny_seqItems hTI rfl ?_)
  show wpAny _ _ (Builtin.SmallTypes.ownedTupleIsFree (.ref z) >>= _) _ _ _
  refine wpAny_bind (zip_look zst ?_ fun g0 zs0 hs0 => ?_)
  · simp only [if_true]
    refine wpAny_bind (wpAny_rule ?_)
    refine wpAny_bind (wpAny_field hz rfl (x := .ref TO) rfl ?_)
    refine wpAny_bind (wpAny_setField_rec hz (by simp) fun g0 hz0 hs0 => ?_)
    replace hz0 : g0.get? z = some (zipObj .ellipsis f1 TI TO) := hz0
    replace hs0 : Heap.SameBut z hp g0 := hs0
    refine wpAny_bind ?_
    simp only [List.zipIdx_cons, List.zipIdx_nil, List.forIn_cons, List.forIn_nil]
    refine wpAny_bind (wpAny_bind (wpAny_onRaise ?_))
    show wpAny _ _ (Builtin.SmallTypes.nextOf (.ref i1) >>= _) _ _ ⟨g0, g, d, tk0, os⟩
    refine wpAny_bind (D1.item i _ _ _ hlt1 (D1.over st1 hs0 S.zf1) fun x1 p1 tk1 hx1 sn1 hp1 => wpAny_pure ?_)
    replace hp1 : Heap.SameBut i1 g0 p1 := hp1
    have hU1 : IsTupOf2 p1 TO a1 a2 := hp1.extBut _ _ S.Ti1 (hs0.extBut _ _ S.TOz hTO)
    refine wpAny_bind (wpAny_seqItems (s := ⟨p1, g, d, tk1, os⟩) hU1 rfl ?_)
    refine wpAny_bind (updateSeq_IsTupOf2 (s := ⟨p1, g, d, tk1, os⟩) hU1 fun g1 hT1 hs1 => ?_)
    replace hT1 : IsTupOf2 g1 TO x1 a2 := hT1
    replace hs1 : Heap.SameBut TO p1 g1 := hs1
    refine wpAny_bind (wpAny_letGo (wpAny_pure ?_))
    refine wpAny_bind (wpAny_bind (wpAny_onRaise ?_))
    show wpAny _ _ (Builtin.SmallTypes.nextOf (.ref i2) >>= _) _ _ ⟨g1, g, d, tk1, os⟩
    refine wpAny_bind (D2.item i _ _ _ hlt2 (D2.over (D2.over (D2.over st2 hs0 S.zf2) hp1 S.sep1_2) hs1 S.Tf2) fun x2 p2 tk2 hx2 sn2 hp2 => wpAny_pure ?_)
    replace hp2 : Heap.SameBut i2 g1 p2 := hp2
    have hU2 : IsTupOf2 p2 TO x1 a2 := hp2.extBut _ _ S.Ti2 hT1
    refine wpAny_bind (wpAny_seqItems (s := ⟨p2, g, d, tk2, os⟩) hU2 rfl ?_)
    refine wpAny_bind (updateSeq_IsTupOf2 (s := ⟨p2, g, d, tk2, os⟩) hU2 fun g2 hT2 hs2 => ?_)
    replace hT2 : IsTupOf2 g2 TO x1 x2 := hT2
    replace hs2 : Heap.SameBut TO p2 g2 := hs2
    refine wpAny_bind (wpAny_letGo (wpAny_pure (wpAny_pure ?_)))
    refine wpAny_bind (wpAny_seqItems (s := ⟨g2, g, d, tk2, os⟩) hT2 rfl ?_)
    refine wpAny_bind (wpAny_newTuple ?_)
    have hsz : g2.objs.size = hp.objs.size := by rw [hs2.1, hp2.1, hs1.1, hp1.1, hs0.1]
    have hzz : g2.get? z = some (zipObj .ellipsis f1 TI TO) := (hs2.extBut _ _ S.TOz.symm (hp2.extBut _ _ S.zi2 (hs1.extBut _ _ S.TOz.symm (hp1.extBut _ _ S.zi1 hz0))))
    have hkk : ∀ c o, c ≠ z → c ≠ TO → c ≠ i1 → c ≠ i2 → hp.get? c = some o → g2.get? c = some o := fun c o cz cT c1 c2 e =>
      (hs2.extBut _ _ cT (hp2.extBut _ _ c2 (hs1.extBut _ _ cT (hp1.extBut _ _ c1 (hs0.extBut _ _ cz e)))))
    have hj1 : St1 (i + 1) g2 := (D1.over (D1.over (D1.over sn1 hs1 S.Tf1) hp2 S.sep2_1) hs2 S.Tf1)
    have hj2 : St2 (i + 1) g2 := (D2.over sn2 hs2 S.Tf2)
    have hzlt : z < g2.objs.size := Heap.lt_size hzz
    show wpAny _ _ (Builtin.SmallTypes.ownedTupleHandOut (.ref z) (.ref g2.objs.size) >>= _) _ _ ⟨g2.push { cls := .type "tuple", data := .seq #[x1, x2] }, g, d, tk2, os⟩
    refine wpAny_bind ?_
    unfold Builtin.SmallTypes.ownedTupleHandOut
    have hz6 : (g2.push { cls := .type "tuple", data := .seq #[x1, x2] }).get? z = some (zipObj .ellipsis f1 TI TO) := Heap.get?_push_of_some _ hzz
    refine wpAny_bind (wpAny_setField_rec hz6 (by simp) fun h7 hz7 hs7 => ?_)
    replace hz7 : h7.get? z = some (zipObj (rawInt g2.objs.size) f1 TI TO) := hz7
    refine wpAny_setField_rec hz7 (by simp) fun h8 hz8 hs8 => ?_
    replace hz8 : h8.get? z = some (zipObj (rawInt g2.objs.size) false TI TO) := hz8
    replace hs7 : Heap.SameBut z (g2.push { cls := .type "tuple", data := .seq #[x1, x2] }) h7 := hs7
    replace hs8 : Heap.SameBut z h7 h8 := hs8
    have up : ∀ c o, c ≠ z → g2.get? c = some o → h8.get? c = some o := fun c o c1 e => hs8.extBut _ _ c1 (hs7.extBut _ _ c1 (Heap.get?_push_of_some _ e))
    have hT8 : IsTupOf2 h8 g2.objs.size x1 x2 := hs8.extBut _ _ (Nat.ne_of_gt hzlt) (hs7.extBut _ _ (Nat.ne_of_gt hzlt) (Heap.get?_push_size _ rfl))
    have hze : h8.objs.size = g2.objs.size + 1 := by rw [hs8.1, hs7.1, Heap.size_push]
    rw [hsz] at hz8 hT8 hze
    refine wpAny_pure ⟨_, rfl, ?_⟩
    show Q (.ref g2.objs.size) ⟨h8, g, d, tk2, os⟩
    rw [hsz]
    exact hQ x1 x2 h8 tk2 hx1 hx2 ⟨_, _, hz8, .inr ⟨_, rfl⟩⟩ ⟨_, _, up _ _ S.TOz hT2⟩ (D1.frame _ _ _ hj1 fun b hb o e => up b o (fun q => S.zf1 (q ▸ hb)) e) (D2.frame _ _ _ hj2 fun b hb o e => up b o (fun q => S.zf2 (q ▸ hb)) e) hT8 hze fun c o cz cT c1 c2 e => up c o cz (hkk c o cz cT c1 c2 e)
  · replace hs0 : Heap.SameBut z hp g0 := hs0
    simp only [Bool.false_eq_true, if_false]
    refine wpAny_bind ?_
    rw [← Array.forIn_toList]
    simp only [List.forIn_cons, List.forIn_nil]
    refine wpAny_bind (wpAny_bind (wpAny_holding ?_))
    show wpAny _ _ (Builtin.SmallTypes.nextOf (.ref i1) >>= _) _ _ ⟨g0, g, d, tk0, os⟩
    refine wpAny_bind (D1.item i _ _ _ hlt1 (D1.over st1 hs0 S.zf1) fun x1 p1 tk1 hx1 sn1 hp1 => wpAny_pure ?_)
    replace hp1 : Heap.SameBut i1 g0 p1 := hp1
    refine wpAny_pure ?_
    refine wpAny_bind (wpAny_bind (wpAny_holding ?_))
    show wpAny _ _ (Builtin.SmallTypes.nextOf (.ref i2) >>= _) _ _ ⟨p1, g, d, tk1, os⟩
    refine wpAny_bind (D2.item i _ _ _ hlt2 (D2.over (D2.over st2 hs0 S.zf2) hp1 S.sep1_2) fun x2 p2 tk2 hx2 sn2 hp2 => wpAny_pure ?_)
    replace hp2 : Heap.SameBut i2 p1 p2 := hp2
    refine wpAny_pure (wpAny_pure ?_)
    show wpAny _ _ (newTuple [x1, x2] >>= _) _ _ ⟨p2, g, d, tk2, os⟩
    refine wpAny_bind (wpAny_newTuple ?_)
    have hsz : p2.objs.size = hp.objs.size := by rw [hp2.1, hp1.1, hs0.1]
    have hz3 : ZipSt p2 z TI TO := zs0.moved fun o e => hp2.extBut _ _ S.zi2 (hp1.extBut _ _ S.zi1 e)
    have hk : ∀ c o, c ≠ z → c ≠ i1 → c ≠ i2 → hp.get? c = some o → p2.get? c = some o := fun c o c1 c2 c3 e => hp2.extBut _ _ c3 (hp1.extBut _ _ c2 (hs0.extBut _ _ c1 e))
    have hj1 : St1 (i + 1) p2 := D1.over sn1 hp2 S.sep2_1
    have hT2 : IsTupOf2 p2 TO a1 a2 := hp2.extBut _ _ S.Ti2 (hp1.extBut _ _ S.Ti1 (hs0.extBut _ _ S.TOz hTO))
    refine wpAny_pure ⟨_, rfl, ?_⟩
    show Q (.ref p2.objs.size) ⟨p2.push { cls := .type "tuple", data := .seq #[x1, x2] }, g, d, tk2, os⟩
    have hp3 : IsTupOf2 (p2.push { cls := .type "tuple", data := .seq #[x1, x2] }) p2.objs.size x1 x2 := Heap.get?_push_size _ rfl
    have hz4 : (p2.push { cls := .type "tuple", data := .seq #[x1, x2] }).objs.size = p2.objs.size + 1 := Heap.size_push ..
    rw [hsz] at hp3 hz4 ⊢
    exact hQ x1 x2 _ tk2 hx1 hx2 (hz3.moved fun o e => Heap.get?_push_of_some _ e) ⟨_, _, Heap.get?_push_of_some _ hT2⟩ (D1.frame _ _ _ hj1 fun b hb o e => Heap.get?_push_of_some _ e) (D2.frame _ _ _ sn2 fun b hb o e => Heap.get?_push_of_some _ e) hp3 hz4 fun c o c1 c2 c3 c4 e => Heap.get?_push_of_some _ (hk c o c1 c3 c4 e)
theorem zipA_end {Q : Fin → Shared → Prop} (S : ZipSep2 z TI TO i1 i2 fp1 fp2) (D1 : Draws prog w A i1 fp1 n1 P1 St1) (D2 : Draws prog w A i2 fp2 n2 P2 St2)
    (hz : ZipSt s.heap z TI TO) (hTI : IsTupOf2 s.heap TI (.ref i1) (.ref i2)) (hTO : ∃ a1 a2, IsTupOf2 s.heap TO a1 a2) (st1 : St1 i s.heap) (st2 : St2 i s.heap) (hle1 : i ≤ n1) (hle2 : i ≤ n2) (hend : i = n1 ∨ i = n2)
    (hE : ∀ h' tk e, (∀ c o, c ≠ z → c ≠ TO → c ≠ i1 → c ≠ i2 → s.heap.get? c = some o → h'.get? c = some o) → (∃ o, h'.get? e = some o ∧ o.cls = .type "StopIteration") → E (.ref e) { s with heap := h', toks := tk }) :
    wpAny (model prog w) A (Builtin.«zip.__next__» ⟨[.ref z], []⟩) Q E s := by
  obtain ⟨hp, g, d, tk0, os⟩ := s
  obtain ⟨a1, a2, hTO⟩ := hTO
  have zst := hz
  obtain ⟨f0, f1, hz, hf0⟩ := hz
  show wpAny _ _ (field (.ref z) 2 >>= _) _ _ _
  refine wpAny_bind (wpAny_field hz rfl (x := .bool false) rfl ?_)
  show wpAny _ _ (field (.ref z) 3 >>= _) _ _ _
  refine wpAny_bind (wpAny_field hz rfl (x := .ref TI) rfl ?_)
  refine wpAny_bind (wpAny_seqItems hTI rfl ?_)
  show wpAny _ _ (Builtin.SmallTypes.ownedTupleIsFree (.ref z) >>= _) _ _ _
  refine wpAny_bind (zip_look zst ?_ fun g0 zs0 hs0 => ?_)
  · simp only [if_true]
    refine wpAny_bind (wpAny_rule ?_)
    refine wpAny_bind (wpAny_field hz rfl (x := .ref TO) rfl ?_)
    refine wpAny_bind (wpAny_setField_rec hz (by simp) fun g0 hz0 hs0 => ?_)
    replace hz0 : g0.get? z = some (zipObj .ellipsis f1 TI TO) := hz0
    replace hs0 : Heap.SameBut z hp g0 := hs0
    refine wpAny_bind ?_
    simp only [List.zipIdx_cons, List.zipIdx_nil, List.forIn_cons, List.forIn_nil]
    refine wpAny_bind (wpAny_bind (wpAny_onRaise ?_))
    show wpAny _ _ (Builtin.SmallTypes.nextOf (.ref i1) >>= _) _ _ ⟨g0, g, d, tk0, os⟩
    by_cases hlt1 : i < n1
    · refine wpAny_bind (D1.item i _ _ _ hlt1 (D1.over st1 hs0 S.zf1) fun x1 p1 tk1 hx1 sn1 hp1 => wpAny_pure ?_)
      replace hp1 : Heap.SameBut i1 g0 p1 := hp1
      have hU1 : IsTupOf2 p1 TO a1 a2 := hp1.extBut _ _ S.Ti1 (hs0.extBut _ _ S.TOz hTO)
      refine wpAny_bind (wpAny_seqItems (s := ⟨p1, g, d, tk1, os⟩) hU1 rfl ?_)
      refine wpAny_bind (updateSeq_IsTupOf2 (s := ⟨p1, g, d, tk1, os⟩) hU1 fun g1 hT1 hs1 => ?_)
      replace hT1 : IsTupOf2 g1 TO x1 a2 := hT1
      replace hs1 : Heap.SameBut TO p1 g1 := hs1
      refine wpAny_bind (wpAny_letGo (wpAny_pure ?_))
      have hi2 : i = n2 := by omega
      refine wpAny_bind (wpAny_bind (wpAny_onRaise ?_))
      show wpAny _ _ (Builtin.SmallTypes.nextOf (.ref i2) >>= _) _ _ ⟨g1, g, d, tk1, os⟩
      refine wpAny_bind (D2.done ⟨g1, g, d, tk1, os⟩ _ _ (by rw [← hi2]; exact (D2.over (D2.over (D2.over st2 hs0 S.zf2) hp1 S.sep1_2) hs1 S.Tf2)) fun q e hq he => ?_)
      replace hq : Heap.ExtBut i2 g1 q := hq
      obtain ⟨oe, hoe, hce⟩ := he
      replace hoe : q.get? e = some oe := hoe
      have hzq : q.get? z = some (zipObj .ellipsis f1 TI TO) := hq _ _ S.zi2 (hs1.extBut _ _ S.TOz.symm (hp1.extBut _ _ S.zi1 hz0))
      have hez : e ≠ z := fun x => by subst x; rw [hzq] at hoe; cases hoe; simp [zipObj] at hce
      refine wpAny_setField_rec (s := ⟨q, g, d, tk1, os⟩) hzq (by simp) fun q' _ hq' => ?_
      replace hq' : Heap.SameBut z q q' := hq'
      exact hE q' tk1 e (fun c o cz cT c1 c2 x => hq'.extBut _ _ cz (hq _ _ c2 (hs1.extBut _ _ cT (hp1.extBut _ _ c1 (hs0.extBut _ _ cz x))))) ⟨oe, hq'.extBut _ _ hez hoe, hce⟩
    · have hi1 : i = n1 := by omega
      refine wpAny_bind (D1.done ⟨g0, g, d, tk0, os⟩ _ _ (by rw [← hi1]; exact (D1.over st1 hs0 S.zf1)) fun q e hq he => ?_)
      replace hq : Heap.ExtBut i1 g0 q := hq
      obtain ⟨oe, hoe, hce⟩ := he
      replace hoe : q.get? e = some oe := hoe
      have hzq : q.get? z = some (zipObj .ellipsis f1 TI TO) := hq _ _ S.zi1 hz0
      have hez : e ≠ z := fun x => by subst x; rw [hzq] at hoe; cases hoe; simp [zipObj] at hce
      refine wpAny_setField_rec (s := ⟨q, g, d, tk0, os⟩) hzq (by simp) fun q' _ hq' => ?_
      replace hq' : Heap.SameBut z q q' := hq'
      exact hE q' tk0 e (fun c o cz cT c1 c2 x => hq'.extBut _ _ cz (hq _ _ c1 (hs0.extBut _ _ cz x))) ⟨oe, hq'.extBut _ _ hez hoe, hce⟩
  · replace hs0 : Heap.SameBut z hp g0 := hs0
    simp only [Bool.false_eq_true, if_false]
    refine wpAny_bind ?_
    rw [← Array.forIn_toList]
    simp only [List.forIn_cons, List.forIn_nil]
    refine wpAny_bind (wpAny_bind (wpAny_holding ?_))
    show wpAny _ _ (Builtin.SmallTypes.nextOf (.ref i1) >>= _) _ _ ⟨g0, g, d, tk0, os⟩
    by_cases hlt1 : i < n1
    · refine wpAny_bind (D1.item i _ _ _ hlt1 (D1.over st1 hs0 S.zf1) fun x1 p1 tk1 hx1 sn1 hp1 => wpAny_pure ?_)
      replace hp1 : Heap.SameBut i1 g0 p1 := hp1
      have hi2 : i = n2 := by omega
      refine wpAny_pure ?_
      refine wpAny_bind (wpAny_bind (wpAny_holding ?_))
      show wpAny _ _ (Builtin.SmallTypes.nextOf (.ref i2) >>= _) _ _ ⟨p1, g, d, tk1, os⟩
      refine wpAny_bind (D2.done ⟨p1, g, d, tk1, os⟩ _ _ (by rw [← hi2]; exact D2.over (D2.over st2 hs0 S.zf2) hp1 S.sep1_2) fun q e hq he => ?_)
      replace hq : Heap.ExtBut i2 p1 q := hq
      exact hE q tk1 e (fun c o cz cT c1 c2 x => hq _ _ c2 (hp1.extBut _ _ c1 (hs0.extBut _ _ cz x))) he
    · have hi1 : i = n1 := by omega
      refine wpAny_bind (D1.done ⟨g0, g, d, tk0, os⟩ _ _ (by rw [← hi1]; exact (D1.over st1 hs0 S.zf1)) fun q e hq he => ?_)
      replace hq : Heap.ExtBut i1 g0 q := hq
      exact hE q tk0 e (fun c o cz cT c1 c2 x => hq _ _ c1 (hs0.extBut _ _ cz x)) he
/-! ### next of the zip, asked from within -/
theorem nextZ_item {Q : Value → Shared → Prop} (S : ZipSep2 z TI TO i1 i2 fp1 fp2) (D1 : Draws prog w A.in1 i1 fp1 n1 P1 St1) (D2 : Draws prog w A.in1 i2 fp2 n2 P2 St2)
    (hz : ZipSt s.heap z TI TO) (hTI : IsTupOf2 s.heap TI (.ref i1) (.ref i2)) (hTO : ∃ a1 a2, IsTupOf2 s.heap TO a1 a2) (st1 : St1 i s.heap) (st2 : St2 i s.heap) (hlt1 : i < n1) (hlt2 : i < n2)
    (hQ : ∀ x1 x2 h' tk, P1 i x1 → P2 i x2 → ZipSt h' z TI TO → (∃ a1 a2, IsTupOf2 h' TO a1 a2) → St1 (i + 1) h' → St2 (i + 1) h' → IsTupOf2 h' s.heap.objs.size x1 x2 → h'.objs.size = s.heap.objs.size + 1 →
      (∀ c o, c ≠ z → c ≠ TO → c ≠ i1 → c ≠ i2 → s.heap.get? c = some o → h'.get? c = some o) → Q (.ref s.heap.objs.size) { s with heap := h', toks := tk }) :
    wpAny (model prog w) A (Builtin.SmallTypes.nextOf (.ref z)) Q E s := by
  have hT : s.TypeIs (.ref z) "zip" := by
    obtain ⟨f0, f1, e, _⟩ := hz
    exact ⟨_, e, rfl⟩
  unfold Builtin.SmallTypes.nextOf
  exact wpAny_bind (wpAny_callSpecial?_slot (name := Str.ofString "__next__") hT F.slot_zip_next
    (wpAny_call_entry F.slot_zip_next hT F.entry_zip_next
      (zipA_item S D1 D2 hz hTI hTO st1 st2 hlt1 hlt2 fun x1 x2 h' tk b1 b2 b3 b4 b5 b6 b7 b8 b9 => wpAny_pure (hQ x1 x2 h' tk b1 b2 b3 b4 b5 b6 b7 b8 b9)) (F.args_zip_next_1 _)))
theorem nextZ_end {Q : Value → Shared → Prop} (S : ZipSep2 z TI TO i1 i2 fp1 fp2) (D1 : Draws prog w A.in1 i1 fp1 n1 P1 St1) (D2 : Draws prog w A.in1 i2 fp2 n2 P2 St2)
    (hz : ZipSt s.heap z TI TO) (hTI : IsTupOf2 s.heap TI (.ref i1) (.ref i2)) (hTO : ∃ a1 a2, IsTupOf2 s.heap TO a1 a2) (st1 : St1 i s.heap) (st2 : St2 i s.heap) (hle1 : i ≤ n1) (hle2 : i ≤ n2) (hend : i = n1 ∨ i = n2)
    (hE : ∀ h' tk e, (∀ c o, c ≠ z → c ≠ TO → c ≠ i1 → c ≠ i2 → s.heap.get? c = some o → h'.get? c = some o) → (∃ o, h'.get? e = some o ∧ o.cls = .type "StopIteration") → E (.ref e) { s with heap := h', toks := tk }) :
    wpAny (model prog w) A (Builtin.SmallTypes.nextOf (.ref z)) Q E s := by
  have hT : s.TypeIs (.ref z) "zip" := by
    obtain ⟨f0, f1, e, _⟩ := hz
    exact ⟨_, e, rfl⟩
  unfold Builtin.SmallTypes.nextOf
  exact wpAny_bind (wpAny_callSpecial?_slot (name := Str.ofString "__next__") hT F.slot_zip_next
    (wpAny_call_entry F.slot_zip_next hT F.entry_zip_next (zipA_end S D1 D2 hz hTI hTO st1 st2 hle1 hle2 hend fun h' tk e hk he => hE h' tk e hk he) (F.args_zip_next_1 _)))
/-! ### enumerate over it -/
structure EnZ (e z TI TO i1 i2 : Addr) (fp1 fp2 : List Addr) : Prop where
  z : e ≠ z
  TI : e ≠ TI
  TO : e ≠ TO
  i1 : e ≠ i1
  i2 : e ≠ i2
  f1 : e ∉ fp1
  f2 : e ∉ fp2
theorem enumZ_item {Q : Value → Shared → Prop} {e : Addr} {c : Int} {old : Value} (B : EnZ e z TI TO i1 i2 fp1 fp2) (S : ZipSep2 z TI TO i1 i2 fp1 fp2) (D1 : Draws prog w A.in1 i1 fp1 n1 P1 St1) (D2 : Draws prog w A.in1 i2 fp2 n2 P2 St2)
    (he : IsEnum s.heap e z c old) (hz : ZipSt s.heap z TI TO) (hTI : IsTupOf2 s.heap TI (.ref i1) (.ref i2)) (hTO : ∃ a1 a2, IsTupOf2 s.heap TO a1 a2) (st1 : St1 i s.heap) (st2 : St2 i s.heap) (hlt1 : i < n1) (hlt2 : i < n2)
    (hQ : ∀ x1 x2 h' tk, P1 i x1 → P2 i x2 → IsEnumOut h' e z (c + 1) (.ref s.heap.objs.size) (s.heap.objs.size + 1) → ZipSt h' z TI TO → (∃ a1 a2, IsTupOf2 h' TO a1 a2) → St1 (i + 1) h' → St2 (i + 1) h' → IsTupOf2 h' s.heap.objs.size x1 x2 →
      h'.get? (s.heap.objs.size + 1) = some { cls := .type "tuple", data := .seq #[.int c tk, .ref s.heap.objs.size] } → h'.objs.size = s.heap.objs.size + 2 →
      (∀ b o, b ≠ e → b ≠ z → b ≠ TO → b ≠ i1 → b ≠ i2 → s.heap.get? b = some o → h'.get? b = some o) → Q (.ref (s.heap.objs.size + 1)) { s with heap := h', toks := tk + 1 }) :
    wpAny (model prog w) A (Builtin.«enumerate.__next__» ⟨[.ref e], []⟩) (fun fin s' => ∃ v, fin = .done (.ret v) ∧ Q v s') E s := by
  obtain ⟨hp, g, d, tk0, os⟩ := s
  show wpAny _ _ (field (.ref e) 2 >>= _) _ _ _
  refine wpAny_bind (wpAny_field he rfl (x := .ref z) rfl ?_)
  refine wpAny_bind (nextZ_item S D1 D2 hz hTI hTO st1 st2 hlt1 hlt2 fun x1 x2 h1 tk p1 p2 hz1 hTO1 sn1 sn2 hT1 hsz1 hk1 => ?_)
  replace hT1 : IsTupOf2 h1 hp.objs.size x1 x2 := hT1
  replace hsz1 : h1.objs.size = hp.objs.size + 1 := hsz1
  have hel : e < hp.objs.size := Heap.lt_size he
  have he1 : IsEnum h1 e z c old := hk1 e _ B.z B.TO B.i1 B.i2 he
  show wpAny _ _ (field (.ref e) 3 >>= _) _ _ ⟨h1, g, d, tk, os⟩
  refine wpAny_bind (wpAny_field he1 rfl (x := rawInt c) rfl ?_)
  show wpAny _ _ (field (.ref e) 4 >>= _) _ _ ⟨h1, g, d, tk, os⟩
  refine wpAny_bind (wpAny_field he1 rfl (x := .none) rfl ?_)
  show wpAny _ _ (mkInt c >>= _) _ _ ⟨h1, g, d, tk, os⟩
  refine wpAny_bind (wpAny_mkInt ?_)
  show wpAny _ _ (setField (.ref e) 3 (rawInt (c + 1)) >>= _) _ _ ⟨h1, g, d, tk + 1, os⟩
  refine wpAny_bind (wpAny_setField_rec he1 (by simp) fun h2 he2 hs2 => ?_)
  replace hs2 : Heap.SameBut e h1 h2 := hs2
  replace he2 : IsEnum h2 e z (c + 1) old := he2
  show wpAny _ _ (setField (.ref e) 4 .none >>= _) _ _ ⟨h2, g, d, tk + 1, os⟩
  refine wpAny_bind (wpAny_setField_rec he2 (by simp) fun h3 he3 hs3 => ?_)
  replace hs3 : Heap.SameBut e h2 h3 := hs3
  replace he3 : IsEnum h3 e z (c + 1) old := he3
  show wpAny _ _ (newTuple [.int c tk, .ref hp.objs.size] >>= _) _ _ ⟨h3, g, d, tk + 1, os⟩
  refine wpAny_bind (wpAny_newTuple ?_)
  have he4 : IsEnum (h3.push { cls := .type "tuple", data := .seq #[.int c tk, .ref hp.objs.size] }) e z (c + 1) old := Heap.get?_push_of_some _ he3
  generalize hh4 : h3.push { cls := .type "tuple", data := .seq #[.int c tk, .ref hp.objs.size] } = h4 at he4
  have hsz : h3.objs.size = hp.objs.size + 1 := by rw [hs3.1, hs2.1, hsz1]
  have ht4 : h4.get? (hp.objs.size + 1) = some { cls := .type "tuple", data := .seq #[.int c tk, .ref hp.objs.size] } := by rw [← hh4, ← hsz]; exact Heap.get?_push_size _ rfl
  have hz4 : h4.objs.size = hp.objs.size + 2 := by rw [← hh4, Heap.size_push, hsz]
  have kp4 : ∀ b o, b ≠ e → h1.get? b = some o → h4.get? b = some o := fun b o hbe hb => by
    rw [← hh4]; exact Heap.get?_push_of_some _ (hs3.extBut b o hbe (hs2.extBut b o hbe hb))
  show wpAny _ _ (Builtin.SmallTypes.ownedTupleIsFree (.ref e) >>= _) _ _ ⟨h4, g, d, tk + 1, os⟩
  rw [hsz]
  clear hh4 he3 hs3 he2 hs2 hsz h3 h2
  refine wpAny_bind ?_
  · unfold Builtin.SmallTypes.ownedTupleIsFree
    refine wpAny_bind (wpAny_field he4 rfl (x := .none) rfl (wpAny_pure ?_))
    simp only [if_true]
    refine wpAny_bind (wpAny_rule ?_)
    refine wpAny_bind (wpAny_field he4 rfl (x := old) rfl ?_)
    refine wpAny_bind (wpAny_setField_rec he4 (by simp) fun h5 he5 hs5 => ?_)
    replace hs5 : Heap.SameBut e h4 h5 := hs5
    replace he5 : IsEnum h5 e z (c + 1) (.ref hp.objs.size) := he5
    show wpAny _ _ (Builtin.SmallTypes.ownedTupleHandOut (.ref e) (.ref (hp.objs.size + 1)) >>= _) _ _ ⟨h5, g, d, tk + 1, os⟩
    refine wpAny_bind ?_
    · unfold Builtin.SmallTypes.ownedTupleHandOut
      refine wpAny_bind (wpAny_setField_rec he5 (by simp) fun h6 he6 hs6 => ?_)
      replace hs6 : Heap.SameBut e h5 h6 := hs6
      replace he6 : IsEnumOut h6 e z (c + 1) (.ref hp.objs.size) (hp.objs.size + 1) := he6
      refine wpAny_setField_rec he6 (by simp) fun h7 he7 hs7 => ?_
      replace hs7 : Heap.SameBut e h6 h7 := hs7
      replace he7 : IsEnumOut h7 e z (c + 1) (.ref hp.objs.size) (hp.objs.size + 1) := he7
      have up : ∀ b o, b ≠ e → h4.get? b = some o → h7.get? b = some o := fun b o hbe x => hs7.extBut b o hbe (hs6.extBut b o hbe (hs5.extBut b o hbe x))
      have up1 : ∀ b o, b ≠ e → h1.get? b = some o → h7.get? b = some o := fun b o hbe x => up b o hbe (kp4 b o hbe x)
      refine wpAny_bind (wpAny_letGo (wpAny_pure ⟨_, rfl, hQ x1 x2 h7 tk p1 p2 he7 (hz1.moved fun o q => up1 _ _ B.z.symm q) ?_ (D1.frame _ _ _ sn1 fun b hb o q => up1 _ _ (fun y => B.f1 (y ▸ hb)) q) (D2.frame _ _ _ sn2 fun b hb o q => up1 _ _ (fun y => B.f2 (y ▸ hb)) q) (up1 _ _ (Nat.ne_of_gt hel) hT1) (up _ _ (Nat.ne_of_gt (Nat.lt_succ_of_lt hel)) ht4) ?_ fun b o b1 b2 b3 b4 b5 q => up1 b o b1 (hk1 b o b2 b3 b4 b5 q)⟩))
      · obtain ⟨y1, y2, q⟩ := hTO1
        exact ⟨y1, y2, up1 _ _ B.TO.symm q⟩
      · rw [hs7.1, hs6.1, hs5.1, hz4]
theorem pyNext_enumZ_item {Q : Option Value → Shared → Prop} {e : Addr} {c : Int} {old : Value} (B : EnZ e z TI TO i1 i2 fp1 fp2) (S : ZipSep2 z TI TO i1 i2 fp1 fp2) (D1 : Draws prog w A.in1.in1 i1 fp1 n1 P1 St1) (D2 : Draws prog w A.in1.in1 i2 fp2 n2 P2 St2)
    (he : IsEnum s.heap e z c old) (hz : ZipSt s.heap z TI TO) (hTI : IsTupOf2 s.heap TI (.ref i1) (.ref i2)) (hTO : ∃ a1 a2, IsTupOf2 s.heap TO a1 a2) (st1 : St1 i s.heap) (st2 : St2 i s.heap) (hlt1 : i < n1) (hlt2 : i < n2)
    (hQ : ∀ x1 x2 h' tk, P1 i x1 → P2 i x2 → IsEnumOut h' e z (c + 1) (.ref s.heap.objs.size) (s.heap.objs.size + 1) → ZipSt h' z TI TO → (∃ a1 a2, IsTupOf2 h' TO a1 a2) → St1 (i + 1) h' → St2 (i + 1) h' → IsTupOf2 h' s.heap.objs.size x1 x2 →
      h'.get? (s.heap.objs.size + 1) = some { cls := .type "tuple", data := .seq #[.int c tk, .ref s.heap.objs.size] } → h'.objs.size = s.heap.objs.size + 2 →
      (∀ b o, b ≠ e → b ≠ z → b ≠ TO → b ≠ i1 → b ≠ i2 → s.heap.get? b = some o → h'.get? b = some o) → Q (some (.ref (s.heap.objs.size + 1))) { s with heap := h', toks := tk + 1 }) :
    wpAny (model prog w) A (pyNext (.ref e)) Q E s := by
  have hT : s.TypeIs (.ref e) "enumerate" := ⟨_, he, rfl⟩
  unfold pyNext
  exact wpAny_bind (wpAny_attempt (wpAny_callSpecial?_slot (name := Str.ofString "__next__") hT F.slot_enumerate_next
    (wpAny_call_entry F.slot_enumerate_next hT F.entry_enumerate_next
      (enumZ_item B S D1 D2 he hz hTI hTO st1 st2 hlt1 hlt2 fun x1 x2 h' tk b1 b2 b3 b4 b5 b6 b7 b8 b9 b10 b11 => wpAny_pure (hQ x1 x2 h' tk b1 b2 b3 b4 b5 b6 b7 b8 b9 b10 b11)) (F.args_enumerate_next_1 _))))
theorem pyNext_enumZ_end {Q : Option Value → Shared → Prop} {e : Addr} {c : Int} {old : Value} (S : ZipSep2 z TI TO i1 i2 fp1 fp2) (D1 : Draws prog w A.in1.in1 i1 fp1 n1 P1 St1) (D2 : Draws prog w A.in1.in1 i2 fp2 n2 P2 St2)
    (he : IsEnum s.heap e z c old) (hz : ZipSt s.heap z TI TO) (hTI : IsTupOf2 s.heap TI (.ref i1) (.ref i2)) (hTO : ∃ a1 a2, IsTupOf2 s.heap TO a1 a2) (st1 : St1 i s.heap) (st2 : St2 i s.heap) (hle1 : i ≤ n1) (hle2 : i ≤ n2) (hend : i = n1 ∨ i = n2)
    (hQ : ∀ h' tk, (∀ b o, b ≠ z → b ≠ TO → b ≠ i1 → b ≠ i2 → s.heap.get? b = some o → h'.get? b = some o) → Q none { s with heap := h', toks := tk }) : wpAny (model prog w) A (pyNext (.ref e)) Q E s := by
  have hT : s.TypeIs (.ref e) "enumerate" := ⟨_, he, rfl⟩
  unfold pyNext
  refine wpAny_bind (wpAny_attempt (wpAny_callSpecial?_slot (name := Str.ofString "__next__") hT F.slot_enumerate_next
    (wpAny_call_entry F.slot_enumerate_next hT F.entry_enumerate_next ?_ (F.args_enumerate_next_1 _))))
  show wpAny _ _ (field (.ref e) 2 >>= _) _ _ _
  refine wpAny_bind (wpAny_field he rfl (x := .ref z) rfl ?_)
  refine wpAny_bind (nextZ_end S D1 D2 hz hTI hTO st1 st2 hle1 hle2 hend fun h' tk x hk hx' => ?_)
  obtain ⟨o, ho, hc⟩ := hx'
  refine wpAny_bind (wpAny_isInstance (T := "StopIteration") (b := true) ⟨o, ho, hc⟩ isSubtype_stop ?_)
  exact wpAny_pure (hQ _ _ hk)
end
end DV


set_option Elab.async false
set_option linter.all false
set_option maxRecDepth 100000
set_option  maxHeartbeats   8000000
/-! DV, part Zb: enumerate(zip(a, b)), walked. -/
namespace DV
open PySem PySem.Spec PyProof.Rows L2

def ItEZ (K : PySem.W.Frag) (k1 k2 : Bool) (a b : Addr) : It where
  go := fun i H => ∃ (vs ws : List V) (x y : V), SqA K H a k1 vs ∧ SqA K H b k2 ws ∧ vs[i]? = some x ∧ ws[i]? = some y
  yld := fun i H v H' => ∃ T U x y, v = .ref U ∧ H T = none ∧ upd H T (.tup [x, y]) U = none ∧ H' = upd (upd H T (.tup [x, y])) U (.tup [.int (i : Nat), .ref T]) ∧ (∀ vs, SqA K H a k1 vs → vs[i]? = some x) ∧ ∀ ws, SqA K H b k2 ws → ws[i]? = some y
  stop := fun i H => ∃ vs ws : List V, SqA K H a k1 vs ∧ SqA K H b k2 ws ∧ i ≤ vs.length ∧ i ≤ ws.length ∧ (i = vs.length ∨ i = ws.length)
theorem turn_ez {P : Program} {w : World} {K : PySem.W.Frag} {elts : List Expr} {kk : Nat} {tpos : Pos} {k1 k2 : Bool} {a b e z TI TO i1 i2 : Addr} (Z : ZipSep2 z TI TO i1 i2 [i1, a] [i2, b]) (B : EnZ e z TI TO i1 i2 [i1, a] [i2, b]) :
    Turn P w K (.Tuple elts kk tpos) (ItEZ K k1 k2 a b) [e, z, TI, TO, i1, i2] e (fun i h => (∃ old, IsEnum h e z ((i : Nat) : Int) old) ∧ ZipSt h z TI TO ∧ IsTupOf2 h TI (.ref i1) (.ref i2) ∧ (∃ x y, IsTupOf2 h TO x y) ∧ SeqIt h i1 a k1 i ∧ SeqIt h i2 b k2 i ∧ a ≠ i1 ∧ b ≠ i2) where
  mem := by simp
  obj := fun i h st c hc => by
    obtain ⟨⟨old, he⟩, ⟨f0, f1, hz, _⟩, hTI, ⟨x, y, hTO⟩, t1, t2, _⟩ := st
    obtain ⟨o1, fs1, e1, d1⟩ := t1.ob
    obtain ⟨o2, fs2, e2, d2⟩ := t2.ob
    have cs : c = e ∨ c = z ∨ c = TI ∨ c = TO ∨ c = i1 ∨ c = i2 := by simpa using hc
    rcases cs with q | q | q | q | q | q <;> rw [q]
    · exact ⟨_, he, fun v q => nomatch q⟩
    · exact ⟨_, hz, fun v q => nomatch q⟩
    · exact ⟨_, hTI, fun v q => nomatch q⟩
    · exact ⟨_, hTO, fun v q => nomatch q⟩
    · exact ⟨o1, e1, fun v q => by rw [d1] at q; cases q⟩
    · exact ⟨o2, e2, fun v q => by rw [d2] at q; cases q⟩
  keep := fun i h h' st kp => by
    obtain ⟨⟨old, he⟩, hz, hTI, ⟨x, y, hTO⟩, t1, t2, r⟩ := st
    exact ⟨⟨old, kp e (by simp) _ he⟩, hz.moved fun o q => kp z (by simp) o q, kp TI (by simp) _ hTI, ⟨x, y, kp TO (by simp) _ hTO⟩, t1.moved fun o q => kp i1 (by simp) o q, t2.moved fun o q => kp i2 (by simp) o q, r⟩
  item := by
    intro X hP hw hK hc i pins s σ H E I hf st hg
    subst hP hw hK
    obtain ⟨⟨old, he⟩, hz, hTI, hTO, t1, t2, n1, n2⟩ := st
    obtain ⟨vs, ws, x, y, hqx, hqy, hx, hy⟩ := hg
    obtain ⟨its, rv, p, _⟩ := seq_at I hqx
    obtain ⟨its2, rv2, p2, _⟩ := seq_at I hqy
    obtain ⟨u, hu, ru⟩ := rv.get hx
    obtain ⟨u2, hu2, ru2⟩ := rv2.get hy
    have hil : i < its.toArray.size := by simpa using (List.getElem?_eq_some_iff.mp hu).1
    have hil2 : i < its2.toArray.size := by simpa using (List.getElem?_eq_some_iff.mp hu2).1
    have el : e < s.heap.objs.size := Heap.lt_size he
    have lt : ∀ c ∈ [e, z, TI, TO, i1, i2], c < s.heap.objs.size := fun c hcm => by
      obtain ⟨o1, _, e1, _⟩ := t1.ob
      obtain ⟨o2, _, e2, _⟩ := t2.ob
      obtain ⟨f0, f1, hz0, _⟩ := hz
      obtain ⟨x0, y0, hTO0⟩ := hTO
      have cs : c = e ∨ c = z ∨ c = TI ∨ c = TO ∨ c = i1 ∨ c = i2 := by simpa using hcm
      rcases cs with q | q | q | q | q | q <;> rw [q]
      · exact el
      · exact Heap.lt_size hz0
      · exact Heap.lt_size hTI
      · exact Heap.lt_size hTO0
      · exact Heap.lt_size e1
      · exact Heap.lt_size e2
    refine pyNext_enumZ_item B Z (seqDraws (A := X.A.in1.in1) (I.ok.hd hc) i1 a n1 k1 its.toArray) (seqDraws (A := X.A.in1.in1) (I.ok.hd hc) i2 b n2 k2 its2.toArray) he hz hTI hTO ⟨t1, p⟩ ⟨t2, p2⟩ hil hil2 fun y1 y2 h1 tk hy1 hy2 ho hz1 hTO1 s1 s2 hT hU hsz hk => ?_
    have ey : y1 = u := by
      have : its.toArray[i]? = some u := by simpa using hu
      rw [this] at hy1
      exact (Option.some.inj hy1).symm
    have ey2 : y2 = u2 := by
      have : its2.toArray[i]? = some u2 := by simpa using hu2
      rw [this] at hy2
      exact (Option.some.inj hy2).symm
    subst ey ey2
    refine ⟨_, rfl, wpAny_letOwnedTupleGo_enum (s := { s with heap := h1, toks := tk + 1 }) ho fun h2 he2 sb => ?_⟩
    replace sb : Heap.SameBut e h1 h2 := sb
    have hT2 : h2.get? s.heap.objs.size = some { cls := .type "tuple", data := .seq #[y1, y2] } := (sb.2 _ (Nat.ne_of_gt el)).trans hT
    have hU2 : h2.get? (s.heap.objs.size + 1) = some { cls := .type "tuple", data := .seq #[.int i tk, .ref s.heap.objs.size] } := (sb.2 _ (Nat.ne_of_gt (Nat.lt_succ_of_lt el))).trans hU
    -- ahead: the heap with the inner tuple alone
    have nw1 : ObjOk X.prog X.w (upd H s.heap.objs.size (.tup [x, y])) (s.heap.push { cls := .type "tuple", data := .seq #[y1, y2] }) s.heap.objs.size (.tup [x, y]) :=
      ⟨by show 2 ≤ sizeLine; decide, [y1, y2], .cons ru (.cons ru2 .nil), ⟨_, Heap.get?_push_size _ rfl, rfl, _, rfl⟩⟩
    have J1 : Inv X pins σ (upd H s.heap.objs.size (.tup [x, y])) { s with heap := s.heap.push { cls := .type "tuple", data := .seq #[y1, y2] }, toks := s.toks } :=
      I.turnedNew (ch := [e, z, TI, TO, i1, i2]) (fun c o _ q => Heap.get?_push_of_some _ q) hf (Nat.le_refl _) nw1
    have hf1 : ∀ c ∈ [e, z, TI, TO, i1, i2], FpOk X pins (upd H s.heap.objs.size (.tup [x, y])) c := fun c hcm => by
      have q := hf c hcm
      exact ⟨by rw [upd_ne (Nat.ne_of_lt (lt c hcm))]; exact q.1, q.2⟩
    have nU : upd H s.heap.objs.size (.tup [x, y]) (s.heap.objs.size + 1) = none := by
      rw [upd_ne (Nat.succ_ne_self _)]
      exact I.hok.fresh (Nat.le_succ _)
    have nw2 : ObjOk X.prog X.w (upd (upd H s.heap.objs.size (.tup [x, y])) (s.heap.objs.size + 1) (.tup [.int (i : Nat), .ref s.heap.objs.size])) h2 (s.heap.objs.size + 1) (.tup [.int (i : Nat), .ref s.heap.objs.size]) :=
      ⟨by show 2 ≤ sizeLine; decide, [.int i tk, .ref s.heap.objs.size], .cons ⟨tk, rfl⟩ (.cons rfl .nil), ⟨_, hU2, rfl, _, rfl⟩⟩
    have J : Inv X pins σ (upd (upd H s.heap.objs.size (.tup [x, y])) (s.heap.objs.size + 1) (.tup [.int (i : Nat), .ref s.heap.objs.size])) { s with heap := h2, toks := tk + 1 } := by
      refine J1.turnedNew (t' := tk + 1) (h' := h2) (ch := [e, z, TI, TO, i1, i2]) (fun c o hb q => ?_) hf1 (Nat.le_of_eq (Heap.size_push ..)) nw2
      have q : (s.heap.push { cls := .type "tuple", data := .seq #[y1, y2] }).get? c = some o := q
      rcases Heap.get?_push_cases q with ⟨e1, e2⟩ | q2
      · rw [e1, e2]
        exact hT2
      · exact (sb.2 c (fun q' => hb (by simp [q']))).trans (hk c o (fun q' => hb (by simp [q'])) (fun q' => hb (by simp [q'])) (fun q' => hb (by simp [q'])) (fun q' => hb (by simp [q'])) (fun q' => hb (by simp [q'])) q2)
    refine ⟨.ref (s.heap.objs.size + 1), _, J, rfl, ⟨_, _, x, y, rfl, I.hok.fresh (Nat.le_refl _), nU, rfl, fun l hl => ?_, fun l hl => ?_⟩, ⟨⟨.ref s.heap.objs.size, ?_⟩, hz1.moved fun o q => (sb.2 _ B.z.symm).trans q, ?_, ?_, s1.1.moved fun o q => (sb.2 _ B.i1.symm).trans q, s2.1.moved fun o q => (sb.2 _ B.i2.symm).trans q, n1, n2⟩, fun c hcm => ?_⟩
    · rw [seq_inj I hl hqx]; exact hx
    · rw [seq_inj I hl hqy]; exact hy
    · have e1 : ((i + 1 : Nat) : Int) = (i : Int) + 1 := by omega
      rw [e1]
      exact he2
    · exact (sb.2 _ B.TI.symm).trans (hk _ _ B.TI.symm Z.TIz Z.TITO Z.TIi1 Z.TIi2 hTI)
    · obtain ⟨x0, y0, q⟩ := hTO1
      exact ⟨x0, y0, (sb.2 _ B.TO.symm).trans q⟩
    · have l := lt c hcm
      rw [upd_ne (Nat.ne_of_lt (Nat.lt_succ_of_lt l)), upd_ne (Nat.ne_of_lt l)]
      exact (hf c hcm).1
  done := by
    intro X hP hw hK hc i pins s σ H E I hf st hg
    subst hP hw hK
    obtain ⟨⟨old, he⟩, hz, hTI, hTO, t1, t2, n1, n2⟩ := st
    obtain ⟨vs, ws, hqx, hqy, l1, l2, hend⟩ := hg
    obtain ⟨its, rv, p, _⟩ := seq_at I hqx
    obtain ⟨its2, rv2, p2, _⟩ := seq_at I hqy
    have g1 := rv.length
    have g2 := rv2.length
    refine pyNext_enumZ_end Z (seqDraws (A := X.A.in1.in1) (I.ok.hd hc) i1 a n1 k1 its.toArray) (seqDraws (A := X.A.in1.in1) (I.ok.hd hc) i2 b n2 k2 its2.toArray) he hz hTI hTO ⟨t1, p⟩ ⟨t2, p2⟩ (by simp; omega) (by simp; omega) (by simp; omega) fun h1 tk hk => ⟨rfl, ?_⟩
    exact I.turnedL (t' := tk) (ch := [e, z, TI, TO, i1, i2]) (fun c o hb q => hk c o (fun q' => hb (by simp [q'])) (fun q' => hb (by simp [q'])) (fun q' => hb (by simp [q'])) (fun q' => hb (by simp [q'])) q) hf
  self := fun A i s Q E st h => by
    obtain ⟨⟨_, he⟩, _⟩ := st
    exact wpAny_pyIter_enum he h
set_option maxHeartbeats 8000000 in
theorem meets_enumZ {z TI TO : Addr} {f0 : Value} :
    Meets (Builtin.«enumerate.__new__» ⟨[.type "enumerate", .ref z], []⟩) (fun _ R s => IsZip s.heap z TI TO f0 ∧ R (.ok (.ret (.ref s.heap.objs.size))) { s with heap := s.heap.push { cls := .type "enumerate", data := .fields #[.none, .bool false, .ref z, rawInt 0, .none, .none] } }) :=
  .of_wp fun prog w A R s hh => by
    obtain ⟨hp, g, d, tk, os⟩ := s
    obtain ⟨hG, h⟩ := hh
    have hsub := sub_enumerate
    have start : ∀ {A' : Around} {E : Value → Shared → Prop} {Q : Value → Shared → Prop}, Q (.ref z) ⟨hp, g, d, tk, os⟩ → wpAny (model prog w) A' (pyIter (.ref z)) Q E ⟨hp, g, d, tk, os⟩ :=
      fun q => wpAny_pyIter_zip (s := ⟨hp, g, d, tk, os⟩) hG q
    wp_walk using start
    refine wpAny_stack_any fun st => wpAny_pure ?_
    split
    · rename_i c _ _ _ _ _
      cases (c == Value.type "enumerate") <;> (wp_walk using start; exact ⟨_, rfl, h⟩)
    · wp_walk using start
      exact ⟨_, rfl, h⟩
theorem enumZ_start {prog : Program} {w : World} {A : Around} {E : Value → Shared → Prop} {s : Shared} {z TI TO : Addr} {f0 : Value} {Q : Value → Shared → Prop} (hz : IsZip s.heap z TI TO f0)
    (h : ∀ h', IsEnum h' s.heap.objs.size z 0 .none → (∀ b u, s.heap.get? b = some u → h'.get? b = some u) → Q (.ref s.heap.objs.size) { s with heap := h' }) :
    wpAny (model prog w) A (call (.type "enumerate") [.ref z]) Q E s := by
  refine callType_new F.called_enumerate (by decide) (F.typeCall_enumerate_1 _) (F.newCall_enumerate_1 _) (fun obj => F.args_object_init_2 obj _) F.entry_enumerate_new meets_enumZ ⟨hz, ?_⟩
  have he : IsEnum (s.heap.push { cls := .type "enumerate", data := .fields #[.none, .bool false, .ref z, rawInt 0, .none, .none] }) s.heap.objs.size z 0 .none := Heap.get?_push_size _ rfl
  exact ⟨⟨_, he, rfl⟩, h _ he fun b u x => Heap.get?_push_of_some _ x⟩

def enumZOf (xs : List D) (st : Store) : Option Iter := match zipOf xs st with
  | some it => some ⟨it.srcs, enumFrom 0 it.items⟩
  | none => none
section
variable {X : Cx} {cl : CL} {W : WX}
theorem ez_it {K : PySem.W.Frag} {μ : Nat → Addr} {st : Store} {H : Hp} {it1 it2 : Iter} {a b : Addr} {k1 k2 : Bool}
    (h1 : ∀ μ' st' H', SR K cl μ' st' H' → Ev K μ st.nxt H μ' st'.nxt H' → SrcOk it1.srcs st' → ∃ vs, SqA K H' a k1 vs ∧ VRs K μ' st'.nxt H' it1.items vs)
    (h2 : ∀ μ' st' H', SR K cl μ' st' H' → Ev K μ st.nxt H μ' st'.nxt H' → SrcOk it2.srcs st' → ∃ vs, SqA K H' b k2 vs ∧ VRs K μ' st'.nxt H' it2.items vs) :
    IterR K cl μ st.nxt H ⟨it1.srcs ++ it2.srcs, enumFrom 0 (zipD it1.items it2.items)⟩ (ItEZ K k1 k2 a b) := fun μ' st' H' S e so => by
  obtain ⟨vs, q1, q2⟩ := h1 μ' st' H' S e (fun p hp => so p (List.mem_append_left _ hp))
  obtain ⟨ws, w1, w2⟩ := h2 μ' st' H' S e (fun p hp => so p (List.mem_append_right _ hp))
  have ln := q2.length
  have ln2 := w2.length
  refine ⟨fun j d q => ?_, ?_⟩
  · obtain ⟨d0, q0, rfl⟩ := enumFrom_get _ _ _ _ q
    obtain ⟨x, y, q3, q4, rfl⟩ := zipD_get _ _ _ _ q0
    obtain ⟨v, g1, g2⟩ := q2.get q3
    obtain ⟨v', g3, g4⟩ := w2.get q4
    refine ⟨⟨vs, ws, v, v', q1, w1, g1, g3⟩, fun x' H2 y' => ?_⟩
    obtain ⟨T, U, z1, z2, rfl, hT, hU, rfl, hz1, hz2⟩ := y'
    have t1 := hz1 vs q1
    have t2 := hz2 ws w1
    rw [g1] at t1
    rw [g3] at t2
    cases t1
    cases t2
    obtain ⟨S1, e1, r1⟩ := pair_new S hT g2 g4
    obtain ⟨S2, e2, r2⟩ := pair_new (d := .int ((0 + j : Nat) : Int)) (x := .int (j : Nat)) S1 hU (by simp only [VR]; simp) r1
    exact ⟨S2, e1.trans e2, r2⟩
  · have z := zipD_len it1.items it2.items
    have zz := enumFrom_len (zipD it1.items it2.items) 0
    refine ⟨vs, ws, q1, w1, ?_, ?_, ?_⟩
    · show (enumFrom 0 (zipD it1.items it2.items)).length ≤ vs.length; omega
    · show (enumFrom 0 (zipD it1.items it2.items)).length ≤ ws.length; omega
    · show (enumFrom 0 (zipD it1.items it2.items)).length = vs.length ∨ (enumFrom 0 (zipD it1.items it2.items)).length = ws.length; omega
theorem i_enumZ {elts : List Expr} {kk : Nat} {tpos : Pos} {e e2 : Expr} {ma : MA} {p p2 pos pos2 : Pos} (hm : X.mg "enumerate" = none) (hm2 : X.mg "zip" = none) (ha : SA X cl W [e, e2] ma) (hg : Gl X "enumerate" := by rfl) (hg2 : Gl X "zip" := by rfl)
    (hs1 : starEach [.Call (.Name "zip" p2) [e, e2] [] pos2] X.env = [(false, eval (.Call (.Name "zip" p2) [e, e2] [] pos2) X.env)] := by rfl)
    (hs : starEach [e, e2] X.env = (false, eval e X.env) :: starEach [e2] X.env := by rfl) (hpl : (backTo pos2 (starEach [e2] X.env)).any (·.1) = false := by rfl) :
    SI X cl W (.Tuple elts kk tpos) (.Call (.Name "enumerate" p) [.Call (.Name "zip" p2) [e, e2] [] pos2] [] pos) (miOf enumZOf ma) := by
  refine ⟨fun pins s σ H R I ⟨μ, st, l, S, L, h⟩ => ?_⟩
  have w : rdA X.K cl W ma σ H (fun xs H1 => ∃ a k1 vs b k2 ws, xs = [.ref a, .ref b] ∧ SqA X.K H1 a k1 vs ∧ SqA X.K H1 b k2 ws ∧ R (ItEZ X.K k1 k2 a b) H1) := ⟨μ, st, l, S, L, Post.bind h fun ds st1 μ1 H1 vs _ S1 e1 r1 h1 => by
    cases q0 : enumZOf ds st1 with
    | none => rw [q0] at h1; exact h1.elim
    | some it =>
      rw [q0] at h1
      match ds, r1, q0 with
      | [d, d2], r1, q0 =>
        simp only [VRs] at r1
        obtain ⟨v, _, rfl, rd, v2, _, rfl, rd2, rfl⟩ := r1
        unfold enumZOf zipOf at q0
        simp only at q0
        cases z : seqOf d st1 with
        | none => rw [z] at q0; cases q0
        | some it0 =>
          cases z2 : seqOf d2 st1 with
          | none => rw [z, z2] at q0; cases q0
          | some it2 =>
            rw [z, z2] at q0
            cases q0
            obtain ⟨a, k, rfl, ⟨ws, hw⟩, hh⟩ := seqOf_ok S1 rd z
            obtain ⟨b, k2, rfl, ⟨ws2, hw2⟩, hh2⟩ := seqOf_ok S1 rd2 z2
            exact ⟨a, k, ws, b, k2, ws2, rfl, hw, hw2, h1 μ1 H1 _ S1 Ev.refl (ez_it hh hh2)⟩
      | [], _, q0 => cases q0
      | [_], _, q0 => cases q0
      | _ :: _ :: _ :: _, _, q0 => cases q0⟩
  refine Call_ (ld_blt I hg hm boot_enumerate (PyProof.Rows.callWith_type1 ?_ hs1 rfl))
  rw [hs1]
  show wpAny _ _ (spliced [(false, eval (.Call (.Name "zip" p2) [e, e2] [] pos2) X.env)]) _ _ s
  refine Calls.spliced_cons ?_
  refine Call_ (ld_blt I hg2 hm2 PyProof.Rows.boot_zip (PyProof.Rows.callWith_type1 (thn (ha.run pos2 pins s σ H _ I w) fun us s1 ⟨xs, H1, I1, r1, a, k1, vs, b, k2, ws, ex, hq, hq2, q⟩ => ?_) hs hpl))
  subst ex
  obtain ⟨u1, u2, rfl, g1, g2⟩ := vals2 r1
  cases g1
  cases g2
  obtain ⟨its, rv, p1, la⟩ := seq_at I1 hq
  obtain ⟨its2, rv2, p2', lb⟩ := seq_at I1 hq2
  refine zip_begins2 (seqBegins a k1 its.toArray) (seqBegins b k2 its2.toArray) p1 p2' fun h' hz hTI hTO h1 h2 hsz hk => Calls.spliced_nil ?_
  refine enumZ_start (s := { s1 with heap := h' }) hz fun h'' he hk2 => wpAny_pyIter_enum he ?_
  have I2 : Inv X pins σ H1 { s1 with heap := h'' } := I1.kept (t' := s1.toks) fun b o z => hk2 b o (hk b o z)
  have hsz' : ({ s1 with heap := h' } : Shared).heap.objs.size = s1.heap.objs.size + 5 := hsz
  rw [hsz'] at he ⊢
  have Z := zip_sep2 (N := s1.heap.objs.size) (fp1 := [a]) (fp2 := [b]) (fun c hc => by rw [List.mem_singleton.mp hc]; exact la) (fun c hc => by rw [List.mem_singleton.mp hc]; exact lb)
  have B : EnZ (s1.heap.objs.size + 5) (s1.heap.objs.size + 4) (s1.heap.objs.size + 2) (s1.heap.objs.size + 3) s1.heap.objs.size (s1.heap.objs.size + 1) [s1.heap.objs.size, a] [s1.heap.objs.size + 1, b] := by
    have la' : a < s1.heap.objs.size := la
    have lb' : b < s1.heap.objs.size := lb
    refine ⟨?_, ?_, ?_, ?_, ?_, ?_, ?_⟩
    · exact (show (s1.heap.objs.size + 5 : Nat) ≠ s1.heap.objs.size + 4 by omega)
    · exact (show (s1.heap.objs.size + 5 : Nat) ≠ s1.heap.objs.size + 2 by omega)
    · exact (show (s1.heap.objs.size + 5 : Nat) ≠ s1.heap.objs.size + 3 by omega)
    · exact (show (s1.heap.objs.size + 5 : Nat) ≠ s1.heap.objs.size by omega)
    · exact (show (s1.heap.objs.size + 5 : Nat) ≠ s1.heap.objs.size + 1 by omega)
    · intro hm0
      rcases List.mem_cons.mp hm0 with z | z
      · exact absurd (show (s1.heap.objs.size + 5 : Nat) = s1.heap.objs.size from z) (by omega)
      · have := List.mem_singleton.mp z
        exact absurd (show (s1.heap.objs.size + 5 : Nat) = a from this) (Nat.ne_of_gt (Nat.lt_of_lt_of_le la' (Nat.le_add_right _ _)))
    · intro hm0
      rcases List.mem_cons.mp hm0 with z | z
      · exact absurd (show (s1.heap.objs.size + 5 : Nat) = s1.heap.objs.size + 1 from z) (by omega)
      · have := List.mem_singleton.mp z
        exact absurd (show (s1.heap.objs.size + 5 : Nat) = b from this) (Nat.ne_of_gt (Nat.lt_of_lt_of_le lb' (Nat.le_add_right _ _)))
  refine ⟨s1.heap.objs.size + 5, [s1.heap.objs.size + 5, s1.heap.objs.size + 4, s1.heap.objs.size + 2, s1.heap.objs.size + 3, s1.heap.objs.size, s1.heap.objs.size + 1], _, _, H1, rfl, I2, turn_ez Z B,
    ⟨⟨.none, he⟩, ⟨_, _, hk2 _ _ hz, .inl rfl⟩, hk2 _ _ hTI, ⟨_, _, hk2 _ _ hTO⟩, (SeqIt.new h1).moved fun o q => hk2 _ _ q, (SeqIt.new h2).moved fun o q => hk2 _ _ q, Nat.ne_of_lt la, Nat.ne_of_lt (Nat.lt_succ_of_lt lb)⟩, fun c hcm => ?_, q⟩
  have cs : c = s1.heap.objs.size + 5 ∨ c = s1.heap.objs.size + 4 ∨ c = s1.heap.objs.size + 2 ∨ c = s1.heap.objs.size + 3 ∨ c = s1.heap.objs.size ∨ c = s1.heap.objs.size + 1 := by simpa using hcm
  have le : s1.heap.objs.size ≤ c := by rcases cs with z | z | z | z | z | z <;> rw [z] <;> first | exact Nat.le_add_right _ _ | exact Nat.le_refl _
  exact I1.fpOk le (I1.hok.fresh le)
end
end DV


set_option Elab.async false
set_option linter.all false
set_option maxRecDepth 100000
set_option  maxHeartbeats   8000000
/-! DV, part P: min of a list of tuples of ints. -/
namespace DV
open PySem PySem.Spec PyProof.Rows L2

def intD? : D → Option Int
  | .int i => some i
  | _ => none
def tupI : D → Option (List Int)
  | .tup ds => optL intD? ds
  | _ => none
def lexLtI : List Int → List Int → Bool
  | [], [] => false
  | [], _ :: _ => true
  | _ :: _, [] => false
  | x :: xs, y :: ys => if x = y then lexLtI xs ys else decide (x < y)
theorem lexAt_lt {ns ms : List Int} : ∀ (k i : Nat), min ns.length ms.length - i = k → i ≤ min ns.length ms.length →
    Ob.lexAt (fun j => decide (ns.getD j 0 = ms.getD j 0)) (fun j => decide (ns.getD j 0 < ms.getD j 0)) (decide (ns.length < ms.length)) i k = lexLtI (ns.drop i) (ms.drop i)
  | 0, i, hk, hi => by
    rw [Ob.lexAt_zero]
    by_cases h : ns.length < ms.length
    · rw [decide_eq_true h, List.drop_of_length_le (show ns.length ≤ i by omega), List.drop_eq_getElem_cons (show i < ms.length by omega)]
      rfl
    · rw [decide_eq_false h, List.drop_of_length_le (show ms.length ≤ i by omega)]
      cases ns.drop i <;> rfl
  | k + 1, i, hk, hi => by
    have h1 : i < ns.length := by omega
    have h2 : i < ms.length := by omega
    have ih := lexAt_lt (ns := ns) (ms := ms) k (i + 1) (by omega) (by omega)
    have g1 : ns.getD i 0 = ns[i] := by simp [h1]
    have g2 : ms.getD i 0 = ms[i] := by simp [h2]
    rw [Ob.lexAt_succ, List.drop_eq_getElem_cons h1, List.drop_eq_getElem_cons h2, ih]
    show (if decide (ns.getD i 0 = ms.getD i 0) = true then _ else decide (ns.getD i 0 < ms.getD i 0)) = _
    rw [g1, g2]
    simp only [lexLtI, decide_eq_true_eq]
/-- the first of the least of some tuples of ints -/
def minT (d : D) (st : Store) : Option (D × Store) := match seqOf d st with
  | some it => (match optL tupI it.items with
    | some nss => (match it.items[argBest (fun i j => lexLtI (nss.getD i []) (nss.getD j [])) (nss.length - 1)]? with
      | some d => some (d, st)
      | none => none)
    | none => none)
  | none => none
theorem ints_of {K : PySem.W.Frag} {μ : Nat → Addr} {N : Nat} {H : Hp} : ∀ {ds : List D} {vs : List V} {ns : List Int}, VRs K μ N H ds vs → optL intD? ds = some ns → vs = ns.map V.int
  | [], vs, ns, r, h => by
    simp only [optL, Option.some.injEq] at h
    subst h
    simp only [VRs] at r
    exact r
  | d :: ds, vs, ns, r, h => by
    simp only [VRs] at r
    obtain ⟨v, vr, rfl, r1, r2⟩ := r
    unfold optL at h
    cases d with
    | int i =>
      simp only [intD?] at h
      cases q : optL intD? ds with
      | none => rw [q] at h; cases h
      | some nr =>
        rw [q] at h
        cases h
        simp only [VR] at r1
        subst r1
        rw [ints_of r2 q]
        rfl
    | _ => simp only [intD?] at h; cases h
theorem opt_get {α β : Type} {f : α → Option β} : ∀ {xs : List α} {ys : List β} {i : Nat} {y : β}, optL f xs = some ys → ys[i]? = some y → ∃ x, xs[i]? = some x ∧ f x = some y
  | [], ys, i, y, h, g => by
    simp only [optL, Option.some.injEq] at h
    subst h
    simp at g
  | x :: xs, ys, i, y, h, g => by
    unfold optL at h
    cases q : f x with
    | none => rw [q] at h; cases h
    | some z =>
      rw [q] at h
      simp only at h
      cases q2 : optL f xs with
      | none => rw [q2] at h; cases h
      | some zs =>
        rw [q2] at h
        cases h
        cases i with
        | zero =>
          simp at g
          subst g
          exact ⟨x, rfl, q⟩
        | succ i => exact opt_get (i := i) q2 (by simpa using g)
theorem opt_len {α β : Type} {f : α → Option β} : ∀ {xs : List α} {ys : List β}, optL f xs = some ys → ys.length = xs.length
  | [], ys, h => by
    simp only [optL, Option.some.injEq] at h
    subst h
    rfl
  | x :: xs, ys, h => by
    unfold optL at h
    cases q : f x with
    | none => rw [q] at h; cases h
    | some z =>
      rw [q] at h
      simp only at h
      cases q2 : optL f xs with
      | none => rw [q2] at h; cases h
      | some zs =>
        rw [q2] at h
        cases h
        simp [opt_len q2]
theorem vrs_at {K : PySem.W.Frag} {μ : Nat → Addr} {N : Nat} {H : Hp} : ∀ {ds : List D} {vs : List V} {i : Nat} {d : D}, VRs K μ N H ds vs → ds[i]? = some d → ∃ v, vs[i]? = some v ∧ VR K μ N H d v
  | [], vs, i, d, _, h => by simp at h
  | d :: ds, vs, i, e, r, h => by
    simp only [VRs] at r
    obtain ⟨v, vr, rfl, r1, r2⟩ := r
    cases i with
    | zero =>
      simp at h
      subst h
      exact ⟨v, rfl, r1⟩
    | succ i => exact vrs_at (i := i) r2 (by simpa using h)
section
variable {X : Cx} {cl : CL}
theorem src_of {d : D} {st : Store} {it : Iter} (q : seqOf d st = some it) : SrcOk it.srcs st := by
  intro p hp
  unfold seqOf at q
  cases d with
  | tup xs => cases q; cases hp
  | rol xs => cases q; cases hp
  | ref m =>
    simp only at q
    cases y : st.at_ m with
    | none => rw [y] at q; cases q
    | some c =>
      rw [y] at q
      cases c with
      | lst xs =>
        cases q
        simp only [List.mem_singleton] at hp
        subst hp
        exact y
      | _ => cases q
  | _ => cases q
theorem iter_seqW {prog : Program} {w : World} {A : Around} {E : Value → Shared → Prop} {s : Shared} {l : Addr} {k : Bool} {vs : Array Value} {Q : Value → Shared → Prop} (hh : A.handled = none) (hl : SeqAt s.heap l k vs)
    (h : ∀ (s2 : Shared) (St : Nat → Shared → Prop) (o : Obj), s2 = { s with heap := s.heap.push o } →
      WalksS prog w A s.heap.objs.size [s.heap.objs.size, l] [s.heap.objs.size] (fun a b => b = a) vs.size (fun i v => vs[i]? = some v) St → St 0 s2 → (∀ b ∈ [s.heap.objs.size, l], b < s2.heap.objs.size) → (∀ b o, s.heap.get? b = some o → b ∉ [s.heap.objs.size]) → (∀ b o, s.heap.get? b = some o → s2.heap.get? b = some o) → Q (.ref s.heap.objs.size) s2) :
    wpAny (model prog w) A (pyIter (.ref l)) Q E s := by
  cases k with
  | true => exact PySem.W.iter_listW hh hl fun s2 e W st h1 h2 h3 => h s2 _ _ e W st h1 h2 h3
  | false => exact PySem.W.iter_tupleW hh hl fun s2 e W st h1 h2 h3 => h s2 _ _ e W st h1 h2 h3
theorem c_minT {kk : Nat} (hr : RoomG kk X.A) : CallS X cl (.builtin "min") (f1 minT) := c_one fun pins s σ H x us Q μ st d I r S rd h => by
  unfold minT at h
  cases q : seqOf d st with
  | none => rw [q] at h; exact h.elim
  | some it =>
    rw [q] at h
    simp only at h
    obtain ⟨a, k, ev, _, hh⟩ := seqOf_ok S rd q
    cases q2 : optL tupI it.items with
    | none => rw [q2] at h; exact h.elim
    | some nss =>
      rw [q2] at h
      simp only at h
      cases q3 : it.items[argBest (fun i j => lexLtI (nss.getD i []) (nss.getD j [])) (nss.length - 1)]? with
      | none => rw [q3] at h; exact h.elim
      | some dm =>
        rw [q3] at h
        obtain ⟨vs, hq, rv⟩ := hh μ st H S Ev.refl (src_of q)
        subst ev
        rw [Vals.ref1 r]
        obtain ⟨its, rl, pl, la⟩ := seq_at I hq
        have ln : nss.length = its.length := by rw [opt_len q2, rv.length, rl.length]
        have hpos : 0 < its.length := by
          rw [← ln, opt_len q2]
          exact Nat.lt_of_le_of_lt (Nat.zero_le _) (List.getElem?_eq_some_iff.mp q3).1
        -- each item is a tuple of its ints
        have at_ : ∀ (i : Nat) (u : Value), its[i]? = some u → ∃ (p : Addr) (us' : List Value), u = .ref p ∧ nss[i]? = some (nss.getD i []) ∧ IntsAre us' (nss.getD i []) ∧ s.heap.IsTuple p us'.toArray := fun i u hu => by
          have hi := (List.getElem?_eq_some_iff.mp hu).1
          have e1 : nss[i]? = some (nss.getD i []) := by
            rw [List.getElem?_eq_getElem (by omega)]
            simp [show i < nss.length by omega]
          obtain ⟨di, g1, g2⟩ := opt_get q2 e1
          obtain ⟨vi, g3, g4⟩ := vrs_at rv g1
          obtain ⟨v', h1, h2⟩ := vals_at i u rl hu
          rw [g3] at h1
          cases h1
          cases di with
          | tup ds =>
            simp only [tupI] at g2
            simp only [VR] at g4
            obtain ⟨p, ws, rfl, ht, r2⟩ := g4
            rw [ints_of r2 g2] at ht
            obtain ⟨us', r3, p3, _⟩ := I.tuple ht
            exact ⟨p, us', h2, e1, Vals.ints r3, p3⟩
          | _ => simp only [tupI] at g2; cases g2
        refine PySem.call_min_walkH (iter_seqW (A := X.A.in1) hr.room.hd pl fun s2 St o e W st0 hfp hw hk => ?_)
        refine ⟨_, _, _, _, _, _, _, s.heap, fun i j => lexLtI (nss.getD i []) (nss.getD j []), rfl, W, st0, hfp, by simpa using hpos, hw, hk, ?_, fun v s' hP m => ?_⟩
        · intro i j vi vj s3 Q3 E3 hkp hi hj hQ
          obtain ⟨p1, u1, rfl, _, i1, t1⟩ := at_ i vi (by simpa using hi)
          obtain ⟨p2, u2, rfl, _, i2, t2⟩ := at_ j vj (by simpa using hj)
          have t1' : s3.heap.IsTuple p1 u1.toArray := by
            obtain ⟨ob, eo, rest⟩ := t1
            exact ⟨ob, hkp _ _ eo, rest⟩
          have t2' : s3.heap.IsTuple p2 u2.toArray := by
            obtain ⟨ob, eo, rest⟩ := t2
            exact ⟨ob, hkp _ _ eo, rest⟩
          have a1 : u1.toArray.size = (nss.getD i []).length := by rw [List.size_toArray]; exact i1.length
          have a2 : u2.toArray.size = (nss.getD j []).length := by rw [List.size_toArray]; exact i2.length
          have at1 : ∀ x (h1 : x < u1.toArray.size), ∃ t, u1.toArray[x] = .int ((nss.getD i []).getD x 0) t := fun x h1 => PyProof.Rows.IntsAre.int_at i1 _ _ (by simp at h1; simp [h1])
          have at2 : ∀ x (h1 : x < u2.toArray.size), ∃ t, u2.toArray[x] = .int ((nss.getD j []).getD x 0) t := fun x h1 => PyProof.Rows.IntsAre.int_at i2 _ _ (by simp at h1; simp [h1])
          have R := Ob.RcOp.tuples_lt (A := X.A.in1) (s := s3) (e := fun x => decide ((nss.getD i []).getD x 0 = (nss.getD j []).getD x 0)) (r := fun x => decide ((nss.getD i []).getD x 0 < (nss.getD j []).getD x 0)) t1' t2' (by have := hr.hu; show X.A.units + 1 < _; omega) (fun x h1 h2 => by
            obtain ⟨t, et⟩ := at1 x h1
            obtain ⟨t', et'⟩ := at2 x h2
            rw [et, et']
            have z : ((nss.getD i []).getD x 0 == (nss.getD j []).getD x 0) = decide ((nss.getD i []).getD x 0 = (nss.getD j []).getD x 0) := by
              by_cases y : (nss.getD i []).getD x 0 = (nss.getD j []).getD x 0
              · rw [decide_eq_true y]; exact beq_iff_eq.mpr y
              · rw [decide_eq_false y]; exact beq_eq_false_iff_ne.mpr y
            rw [← z]
            exact SeqAt.EqAt.int_int _ _ _ _) (fun x h1 h2 _ => by
            obtain ⟨t, et⟩ := at1 x h1
            obtain ⟨t', et'⟩ := at2 x h2
            rw [et, et']
            exact Ob.RcOp.lt_int _ _ _ _)
          rw [a1, a2, lexAt_lt _ 0 (by omega) (Nat.zero_le _)] at R
          simp only [List.drop_zero] at R
          exact R _ _ _ _ hQ
        · have e2 : its.toArray.size - 1 = nss.length - 1 := by rw [List.size_toArray, ln]
          rw [e2] at hP
          have hv : its[argBest (fun i j => lexLtI (nss.getD i []) (nss.getD j [])) (nss.length - 1)]? = some v := by simpa using hP
          obtain ⟨h', tk, rfl, hk'⟩ := PySem.W.moved_old e rfl m
          obtain ⟨vi, g3, g4⟩ := vrs_at rv q3
          obtain ⟨v', h1, h2⟩ := vals_at _ v rl hv
          rw [g3] at h1
          cases h1
          exact ⟨vi, H, I.kept hk', h2, h μ H vi S Ev.refl g4⟩
end
/-! ### a, b, c = x, y, z -/
def msPar3 (i j k : Nat) (m : MA) : MS := fun l st => (m l st).toS l fun ds st1 => match ds with
  | [x, y, z] => .nx (((l.set i (some x)).set j (some y)).set k (some z)) st1
  | _ => .bad
section
variable {X : Cx} {cl : CL} {W : WX} {xs : MA} {pos : Pos}
theorem ss_par3 (i j k : Nat) {x y z : Str} {a b c : Expr} {px py pz pt : Pos} {kt k2 pt2} (hc : X.calm = true) (hN : X.N.Nodup) (ha : SA X cl W [a, b, c] xs) (hi : X.N[i]? = some x := by rfl) (hj : X.N[j]? = some y := by rfl) (hk : X.N[k]? = some z := by rfl) (hij : i ≠ j := by decide) (hik : i ≠ k := by decide) (hjk : j ≠ k := by decide)
    (hx : X.env.scope.names.lookup x = some .local := by rfl) (hy : X.env.scope.names.lookup y = some .local := by rfl) (hz : X.env.scope.names.lookup z = some .local := by rfl)
    (hw : swappedStores [.Tuple [.Name x px, .Name y py, .Name z pz] kt pt] (.Tuple [a, b, c] k2 pt2) X.env = pure (some [x, y, z]) := by rfl)
    (hs : swapsWithSole [.Tuple [.Name x px, .Name y py, .Name z pz] kt pt] (.Tuple [a, b, c] k2 pt2) pos.line X.env = pure false := by rfl) :
    SS X cl W (.Assign [.Tuple [.Name x px, .Name y py, .Name z pz] kt pt] (.Tuple [a, b, c] k2 pt2) pos) (msPar3 i j k xs) := PS.weak (ps_par3 (i := i) (j := j) (l := k) hc hN hi hj hk hij hik hjk hx hy hz ha hw hs) fun E σ H ⟨μ, st, l, S, L, h⟩ =>
  ⟨μ, st, l, S, L, PostS.bind h L fun ds st1 μ1 H1 vs _ S1 e1 r1 h1 => by
    match ds, r1, h1 with
    | [d1, d2, d3], r1, h1 =>
      simp only [VRs] at r1
      obtain ⟨v, _, rfl, r, w, _, rfl, r', u, _, rfl, r'', rfl⟩ := r1
      exact ⟨v, w, u, rfl, h1 μ1 H1 _ S1 Ev.refl ((((L.ev e1).set i r).set j r').set k r'')⟩
    | [], _, h1 => exact h1.elim
    | [_], _, h1 => exact h1.elim
    | [_, _], _, h1 => exact h1.elim
    | _ :: _ :: _ :: _ :: _, _, h1 => exact h1.elim⟩
end
@[simp] theorem ev_msPar3 (i j k : Nat) (m : MA) (l : Loc) (st : Store) : msPar3 i j k m l st = ((m l st).toS l fun ds st1 => match ds with
  | [x, y, z] => .nx (((l.set i (some x)).set j (some y)).set k (some z)) st1
  | _ => .bad) := rfl
end DV


set_option Elab.async false
set_option linter.all false
set_option maxRecDepth 100000
set_option  maxHeartbeats   8000000
/-! Defs that many laws have, as functions. -/
namespace G
open DV PySem L2
noncomputable section
/-- _law_dip(_law_jar_here, _law_many): 0 _law_jar_here, 1 _law_many, 2 _law_digit, 3 _law_seed -/
def F_law_dip : FD := mDef 2 4 (msSeq (msSub (m2 fAdd (m2 fIx (mVar 0) (mC (.int 2))) (mC (.int 1))) (mVar 0) (mC (.int 2)))
  (msSeq (msIf (tB_ (m2 fGt (m2 fIx (mVar 0) (mC (.int 0))) (mC (.int 0))))
  (msSeq (msAsg (m2 fMod (mL (f1 intD) (maCons (m2 fIx (mVar 0) (mC (.int 0))) maNil)) (mVar 1)) (tgName 2))
  (msSeq (msSub (m2 fFdiv (mL (f1 intD) (maCons (m2 fIx (mVar 0) (mC (.int 0))) maNil)) (mVar 1)) (mVar 0) (mC (.int 0)))
  (msRet (mVar 2))))
  msNil)
  (msSeq (msAsg (mL (f1 intD) (maCons (m2 fIx (mVar 0) (mC (.int 1))) maNil)) (tgName 3))
  (msSeq (msSub (m2 fMod (mL (f1 intD) (maCons (m2 fAdd (m2 fAdd (m2 fMul (mVar 3) (mC (.int 48271))) (m2 fMul (m2 fIx (mVar 0) (mC (.int 2))) (mC (.int 40503)))) (mC (.int 17))) maNil)) (mC (.int 2147483629))) (mVar 0) (mC (.int 1)))
  (msRet (m2 fMod (mL (f1 intD) (maCons (m2 fFdiv (m2 fIx (mVar 0) (mC (.int 1))) (mC (.int 4096))) maNil)) (mVar 1)))))))
/-- _law_rect(_law_jar_here, _law_wide, _law_high): 0 _law_jar_here, 1 _law_wide, 2 _law_high, 3 _law_left, 4 _law_top -/
def F_law_rect : FD := mDef 3 5 (msSeq (msPar 3 4 (maCons (mCall F_law_dip [] (maCons (mVar 0) (maCons (mVar 1) maNil))) (maCons (mCall F_law_dip [] (maCons (mVar 0) (maCons (mVar 2) maNil))) maNil)))
  (msRet (mTup (maCons (mVar 3) (maCons (mVar 4) (maCons (m2 fAdd (m2 fAdd (mVar 3) (mC (.int 1))) (mCall F_law_dip [] (maCons (mVar 0) (maCons (m2 fSub (mVar 1) (mVar 3)) maNil)))) (maCons (m2 fAdd (m2 fAdd (mVar 4) (mC (.int 1))) (mCall F_law_dip [] (maCons (mVar 0) (maCons (m2 fSub (mVar 2) (mVar 4)) maNil)))) maNil)))))))
/-- _law_pick(_law_jar_here, _law_menu): 0 _law_jar_here, 1 _law_menu, 2 _law_at -/
def F_law_pick : FD := mDef 2 3 (msSeq (msAsg (mCall F_law_dip [] (maCons (mVar 0) (maCons (mL (f1 lenD) (maCons (mVar 1) maNil)) maNil))) (tgName 2))
  (msRet (m2 fIx (mVar 1) (mVar 2))))
/-- _law_model(_law_jar_here, _law_most, _law_wide, _law_high): 0 _law_jar_here, 1 _law_most, 2 _law_wide, 3 _law_high, 4 _law_inks, 5 _law_firm, 6 _law_across, 7 _law_down, 8 _law_rows, 9 _law_k, 10 _law_rect_here, 11 _law_ink -/
def law_model_T1 : MT := (tB_ (m2 fEq (mCall F_law_dip [] (maCons (mVar 0) (maCons (mC (.int 3)) maNil))) (mC (.int 0))))
def law_model_L1 : MS := (msSeq (msAsg (mIf (tB_ (m2 fEq (mCall F_law_dip [] (maCons (mVar 0) (maCons (mC (.int 3)) maNil))) (mC (.int 0)))) (mTup (maCons (mC (.int 0)) (maCons (mC (.int 0)) (maCons (mVar 6) (maCons (mVar 7) maNil))))) (mCall F_law_rect [] (maCons (mVar 0) (maCons (mVar 6) (maCons (mVar 7) maNil))))) (tgName 10))
  (msExpr (mM "list" fAppend (mVar 8) (maCons (mTup (maCons (mCall F_law_pick [] (maCons (mVar 0) (maCons (mVar 4) maNil))) (maCons (mVar 10) (maCons (mCall F_law_pick [] (maCons (mVar 0) (maCons (mLst (maCons (mC (.str "stays")) (maCons (mC (.str "wiped")) (maCons (mC (.str "back")) (maCons (mC (.str "back")) maNil))))) maNil))) maNil)))) maNil))))
def F_law_model : FD := mDef 4 12 (msSeq (msAsg (mSl (mLst (maCons (mC (.str "sky")) (maCons (mC (.str "a")) (maCons (mC (.str "bird2")) maNil)))) moNone (moSome (m2 fAdd (mC (.int 1)) (mCall F_law_dip [] (maCons (mVar 0) (maCons (mC (.int 3)) maNil)))))) (tgName 4))
  (msSeq (msAsg (mL (f1 tupleD) (maCons (mLc (miSeq (mLst (maCons (mC (.str "a")) (maCons (mC (.str "bird2")) (maCons (mC (.str "sky")) (maCons (mC (.str "zz")) maNil)))))) (tgName 11) law_model_T1 (mVar 11) [11]) maNil)) (tgName 5))
  (msSeq (msPar 6 7 (maCons (m2 fAdd (mC (.int 1)) (mCall F_law_dip [] (maCons (mVar 0) (maCons (mVar 2) maNil)))) (maCons (m2 fAdd (mC (.int 1)) (mCall F_law_dip [] (maCons (mVar 0) (maCons (mVar 3) maNil)))) maNil)))
  (msSeq (msAsg (mLst maNil) (tgName 8))
  (msSeq (msFor (miRng rng1 (maCons (m2 fAdd (mC (.int 1)) (mCall F_law_dip [] (maCons (mVar 0) (maCons (mVar 1) maNil)))) maNil)) (tgName 9)
  law_model_L1)
  (msRet (mTup (maCons (mVar 6) (maCons (mVar 7) (maCons (mL (f1 tupleD) (maCons (mVar 8) maNil)) (maCons (mVar 5) maNil)))))))))))
/-- _law_dots(_law_model_here): 0 _law_model_here, 1 _law_found, 2 _law_y, 3 _law_x -/
def law_dots_C1 : ME := (mTup (maCons (mVar 3) (maCons (mVar 2) maNil)))
def law_dots_L1 : MS := (msAsg (m2 fAdd (mVar 1) (mLc (miRng rng1 (maCons (m2 fIx (mVar 0) (mC (.int 0))) maNil)) (tgName 3) tYes_ law_dots_C1 [3])) (tgName 1))
def F_law_dots : FD := mDef 1 4 (msSeq (msAsg (mLst maNil) (tgName 1))
  (msSeq (msFor (miRng rng1 (maCons (m2 fIx (mVar 0) (mC (.int 1))) maNil)) (tgName 2)
  law_dots_L1)
  (msRet (mVar 1))))
/-- _law_patterns(_law_firm): 0 _law_firm, 1 _law_found, 2 _law_ink, 3 _law_longer, 4 _law_each, 5 _law_full, 6 _law_hole -/
def law_patterns_L1 : MS := (msSeq (msAsg (mL (f1 dictD) (maCons (mVar 4) maNil)) (tgName 5))
  (msSeq (msSub (m2 fAdd (mL (f1 lenD) (maCons (mVar 4) maNil)) (mC (.int 1))) (mVar 5) (mVar 2))
  (msSeq (msAsg (mL (f1 dictD) (maCons (mVar 4) maNil)) (tgName 6))
  (msSeq (msSub (mC .non) (mVar 6) (mVar 2))
  (msAsg (m2 fAdd (mVar 3) (mIf (tB_ (m2 fIn (mVar 2) (mVar 0))) (mLst (maCons (mVar 5) maNil)) (mLst (maCons (mVar 5) (maCons (mVar 6) maNil))))) (tgName 3))))))
def law_patterns_L2 : MS := (msSeq (msAsg (mLst maNil) (tgName 3))
  (msSeq (msFor (miSeq (mVar 1)) (tgName 4)
  law_patterns_L1)
  (msAsg (mVar 3) (tgName 1))))
def F_law_patterns : FD := mDef 1 7 (msSeq (msAsg (mLst (maCons mDnew maNil)) (tgName 1))
  (msSeq (msFor (miSeq (mLst (maCons (mC (.str "sky")) (maCons (mC (.str "a")) (maCons (mC (.str "bird2")) maNil))))) (tgName 2)
  law_patterns_L2)
  (msRet (mVar 1))))
/-- _law_in(_law_rect_here, _law_dot): 0 _law_rect_here, 1 _law_dot -/
def F_law_in : FD := mDef 2 2 (msRet (mAnd (m2 fNotN (mVar 0) (mC .non)) (mAnd (mChain fLe fLt (m2 fIx (mVar 0) (mC (.int 0))) (m2 fIx (mVar 1) (mC (.int 0))) (m2 fIx (mVar 0) (mC (.int 2)))) (mChain fLe fLt (m2 fIx (mVar 0) (mC (.int 1))) (m2 fIx (mVar 1) (mC (.int 1))) (m2 fIx (mVar 0) (mC (.int 3)))))))
/-- _law_play(_law_model_here, _law_dot, _law_inks, _law_who, _law_there): 0 _law_model_here, 1 _law_dot, 2 _law_inks, 3 _law_who, 4 _law_there, 5 _law_found, 6 _law_ink, 7 _law_rect_here, 8 _law_doom, 9 _law_kept, 10 _law_inside -/
def law_play_L1 : MS := (msSeq (msPar 9 10 (maCons (mVar 4) (maCons (mCall F_law_in [] (maCons (mVar 7) (maCons (mVar 1) maNil))) maNil)))
  (msSeq (msAsg (mIf (tAnd_ (tB_ (mVar 10)) (tB_ (m2 fNotN (m2 fIx (mVar 2) (mVar 6)) (mC .non)))) (m2 fIx (mVar 2) (mVar 6)) (mVar 4)) (tgName 4))
  (msSeq (msExpr (mM "list" fAppend (mVar 5) (maCons (mVar 4) maNil)))
  (msSeq (msIf (tAnd_ (tB_ (m2 fEq (mVar 8) (mC (.str "back")))) (tB_ (m2 fIn (mVar 3) (mLst (maCons (mC (.str "keeps")) (maCons (mC (.str "wipes")) maNil))))))
  (msAsg (mIf (tB_ (m2 fEq (mVar 3) (mC (.str "keeps")))) (mC (.str "stays")) (mC (.str "wiped"))) (tgName 8))
  msNil)
  (msIf (tAnd_ (tB_ (m2 fEq (mVar 8) (mC (.str "wiped")))) (tOr_ (tB_ (mVar 10)) (tB_ (m2 fEq (mVar 3) (mC (.str "blanks"))))))
  (msAsg (mC .non) (tgName 4))
  (msIf (tB_ (m2 fEq (mVar 8) (mC (.str "back"))))
  (msAsg (mVar 9) (tgName 4))
  msNil))))))
def F_law_play : FD := mDef 5 11 (msSeq (msAsg (mLst maNil) (tgName 5))
  (msSeq (msFor (miSeq (m2 fIx (mVar 0) (mC (.int 2)))) (tgTup 3 (tgCons (tgName 6) (tgCons (tgName 7) (tgCons (tgName 8) tgNil))))
  law_play_L1)
  (msRet (mTup (maCons (mVar 5) (maCons (mVar 4) maNil))))))
/-- _law_is_beginning(_law_model_here, _law_at): 0 _law_model_here, 1 _law_at, 2 _law_rest, 3 _law_dot, 4 _law_inks, 5 _law_whole -/
def law_is_beginning_L1 : MS := (msSeq (msAsg (m2 fIx (mCall F_law_play [] (maCons (mVar 0) (maCons (mVar 3) (maCons (mVar 4) (maCons (mC (.str "full")) (maCons (mC .non) maNil)))))) (mC (.int 0))) (tgName 5))
  (msIf (tB_ (m2 fNe (m2 fIx (mCall F_law_play [] (maCons (mVar 2) (maCons (mVar 3) (maCons (mVar 4) (maCons (mC (.str "full")) (maCons (mC .non) maNil)))))) (mC (.int 0))) (mSl (mVar 5) (moSome (mVar 1)) moNone)))
  (msRet (mC (.bl false)))
  msNil))
def law_is_beginning_L2 : MS := (msFor (miSeq (mCall F_law_patterns [] (maCons (m2 fIx (mVar 0) (mC (.int 3))) maNil))) (tgName 4)
  law_is_beginning_L1)
def F_law_is_beginning : FD := mDef 2 6 (msSeq (msAsg (mTup (maCons (m2 fIx (mVar 0) (mC (.int 0))) (maCons (m2 fIx (mVar 0) (mC (.int 1))) (maCons (mSl (m2 fIx (mVar 0) (mC (.int 2))) (moSome (mVar 1)) moNone) (maCons (m2 fIx (mVar 0) (mC (.int 3))) maNil))))) (tgName 2))
  (msSeq (msFor (miSeq (mCall F_law_dots [] (maCons (mVar 0) maNil))) (tgName 3)
  law_is_beginning_L2)
  (msRet (mC (.bl true)))))
/-- is_integer(value): 0 value -/
def F_is_integer : FD := mDef 1 1 (msRet (mAnd (mIsi (fTy "int") (mVar 0)) (mNot (mIsi (fTy "bool") (mVar 0)))))
/-- is_within(value, low, high): 0 value, 1 low, 2 high -/
def F_is_within : FD := mDef 3 3 (msRet (mAnd (mCall F_is_integer [] (maCons (mVar 0) maNil)) (mChain fLe fLe (mVar 1) (mVar 0) (mVar 2))))
/-- check_size(size): 0 size -/
def F_check_size : FD := mDef 1 1 (msIf (tNot_ (tB_ (mCall F_is_within [] (maCons (mVar 0) (maCons (mC (.int 1)) (maCons (mC (.int 1000000000000)) maNil))))))
  msNever
  msNil)
/-- is_name(value): 0 value, 1 sign -/
def is_name_C1 : ME := (mOr (m2 fIn (mVar 1) (mC (.str "abcdefghijklmnopqrstuvwxyz"))) (m2 fIn (mVar 1) (mC (.str "0123456789"))))
def F_is_name : FD := mDef 1 2 (msSeq (msIf (tOr_ (tNot_ (tB_ (mIsi (fTy "str") (mVar 0)))) (tOr_ (tNot_ (tB_ (mChain fLe fLe (mC (.int 1)) (mL (f1 lenD) (maCons (mVar 0) maNil)) (mC (.int 8))))) (tB_ (m2 fNin (m2 fIx (mVar 0) (mC (.int 0))) (mC (.str "abcdefghijklmnopqrstuvwxyz"))))))
  (msRet (mC (.bl false)))
  msNil)
  (msRet (mAnd (m2 fNin (mVar 0) (mC (.tup [(.str "screen"), (.str "solid"), (.str "beat")]))) (mL (f1 (allD true)) (maCons (mLc (miStr (mVar 0)) (tgName 1) tYes_ is_name_C1 [1]) maNil)))))
/-- is_part(value, width, height): 0 value, 1 width, 2 height, 3 left, 4 top, 5 right, 6 bottom, 7 edge -/
def is_part_C1 : ME := (mCall F_is_integer [] (maCons (mVar 7) maNil))
def F_is_part : FD := mDef 3 8 (msSeq (msIf (tOr_ (tNot_ (tB_ (mIsi (fTy "tuple") (mVar 0)))) (tOr_ (tB_ (m2 fNe (mL (f1 lenD) (maCons (mVar 0) maNil)) (mC (.int 4)))) (tNot_ (tB_ (mL (f1 (allD true)) (maCons (mLc (miSeq (mVar 0)) (tgName 7) tYes_ is_part_C1 [7]) maNil))))))
  (msRet (mC (.bl false)))
  msNil)
  (msSeq (msAsg (mVar 0) (tgTup 4 (tgCons (tgName 3) (tgCons (tgName 4) (tgCons (tgName 5) (tgCons (tgName 6) tgNil))))))
  (msRet (mAnd (mChain3 fLe fLt fLe (mC (.int 0)) (mVar 3) (mVar 5) (mVar 1)) (mChain3 fLe fLt fLe (mC (.int 0)) (mVar 4) (mVar 6) (mVar 2))))))
/-- is_word(value, words): 0 value, 1 words -/
def F_is_word : FD := mDef 2 2 (msRet (mAnd (mIsi (fTy "str") (mVar 0)) (m2 fIn (mVar 0) (mVar 1))))
/-- is_frame(value, width, height): 0 value, 1 width, 2 height -/
def F_is_frame : FD := mDef 3 3 (msSeq (msIf (tOr_ (tNot_ (tB_ (mIsi (fTy "tuple") (mVar 0)))) (tB_ (m2 fNe (mL (f1 lenD) (maCons (mVar 0) maNil)) (mC (.int 3)))))
  (msRet (mC (.bl false)))
  msNil)
  (msRet (mAnd (mCall F_is_name [] (maCons (m2 fIx (mVar 0) (mC (.int 0))) maNil)) (mAnd (mCall F_is_part [] (maCons (m2 fIx (mVar 0) (mC (.int 1))) (maCons (mVar 1) (maCons (mVar 2) maNil)))) (mCall F_is_word [] (maCons (m2 fIx (mVar 0) (mC (.int 2))) (maCons (mC (.tup [(.str "stays"), (.str "wiped"), (.str "back")])) maNil)))))))
/-- check_solid(solid): 0 solid, 1 index, 2 name -/
def check_solid_L1 : MS := (msIf (tOr_ (tB_ (m2 fEq (mVar 1) (mC (.int 8)))) (tOr_ (tNot_ (tB_ (mCall F_is_name [] (maCons (mVar 2) maNil)))) (tAnd_ (tB_ (m2 fGt (mVar 1) (mC (.int 0)))) (tB_ (m2 fGe (m2 fIx (mVar 0) (m2 fSub (mVar 1) (mC (.int 1)))) (mVar 2))))))
  msNever
  msNil)
def F_check_solid : FD := mDef 1 3 (msSeq (msIf (tNot_ (tB_ (mIsi (fTy "tuple") (mVar 0))))
  msNever
  msNil)
  (msFor (miOf enumOf (maCons (mVar 0) maNil)) (tgTup 2 (tgCons (tgName 1) (tgCons (tgName 2) tgNil)))
  check_solid_L1))
/-- __init__(self, width, height, frames, solid): 0 self, 1 width, 2 height, 3 frames, 4 solid, 5 index, 6 frame -/
def Film_init_L1 : MS := (msIf (tOr_ (tB_ (m2 fEq (mVar 5) (mC (.int 8)))) (tNot_ (tB_ (mCall F_is_frame [] (maCons (mVar 6) (maCons (mVar 1) (maCons (mVar 2) maNil)))))))
  msNever
  msNil)
def F_Film_init : FD := mDef 5 7 (msSeq (msExpr (mCall F_check_size [] (maCons (mVar 1) maNil)))
  (msSeq (msExpr (mCall F_check_size [] (maCons (mVar 2) maNil)))
  (msSeq (msIf (tOr_ (tNot_ (tB_ (mIsi (fTy "tuple") (mVar 3)))) (tB_ (m2 fEq (mVar 3) (mTup maNil))))
  msNever
  msNil)
  (msSeq (msFor (miOf enumOf (maCons (mVar 3) maNil)) (tgTup 2 (tgCons (tgName 5) (tgCons (tgName 6) tgNil)))
  Film_init_L1)
  (msSeq (msExpr (mCall F_check_solid [] (maCons (mVar 4) maNil)))
  (msFld 0 "all" (mVar 0) (mTup (maCons (mVar 1) (maCons (mVar 2) (maCons (mVar 3) (maCons (mVar 4) maNil)))))))))))
/-- _law_made(_law_model_here): 0 _law_model_here -/
def F_law_made : FD := mDef 1 1 (msRet (mMake 0 F_Film_init 3 1 [.p 0, .p 1, .p 2, .p 3, .k 0] [] (maCons (m2 fIx (mVar 0) (mC (.int 0))) (maCons (m2 fIx (mVar 0) (mC (.int 1))) (maCons (m2 fIx (mVar 0) (mC (.int 2))) maNil))) (maCons (m2 fIx (mVar 0) (mC (.int 3))) maNil)))
/-- check_film(value): 0 value -/
def F_check_film : FD := mDef 1 1 (msIf (tNot_ (tB_ (mIsi (fOwn 0 ["NoneType", "bool", "int", "str", "tuple", "list", "dict"]) (mVar 0))))
  msNever
  msNil)
/-- frames(self): 0 self -/
def F_Film_frames : FD := mDef 1 1 (msRet (m2 fIx (mFld 0 "all" (mVar 0)) (mC (.int 2))))
/-- __len__(self): 0 self -/
def F_Film_len : FD := mDef 1 1 (msRet (mL (f1 lenD) (maCons (mProp 0 F_Film_frames (mVar 0)) maNil)))
/-- check_index(film, index): 0 film, 1 index -/
def F_check_index : FD := mDef 2 2 (msIf (tNot_ (tB_ (mCall F_is_within [] (maCons (mVar 1) (maCons (mC (.int 0)) (maCons (m2 fSub (mLenX 0 F_Film_len (mVar 0)) (mC (.int 1))) maNil))))))
  msNever
  msNil)
/-- width(self): 0 self -/
def F_Film_width : FD := mDef 1 1 (msRet (m2 fIx (mFld 0 "all" (mVar 0)) (mC (.int 0))))
/-- height(self): 0 self -/
def F_Film_height : FD := mDef 1 1 (msRet (m2 fIx (mFld 0 "all" (mVar 0)) (mC (.int 1))))
/-- solid(self): 0 self -/
def F_Film_solid : FD := mDef 1 1 (msRet (m2 fIx (mFld 0 "all" (mVar 0)) (mC (.int 3))))
/-- with_frames(self, frames): 0 self, 1 frames -/
def F_Film_with_frames : FD := mDef 2 2 (msRet (mMake 0 F_Film_init 3 1 [.p 0, .p 1, .p 2, .p 3, .k 0] [] (maCons (mProp 0 F_Film_width (mVar 0)) (maCons (mProp 0 F_Film_height (mVar 0)) (maCons (mL (f1 tupleD) (maCons (mVar 1) maNil)) maNil))) (maCons (mProp 0 F_Film_solid (mVar 0)) maNil)))
/-- cut(self, begin, end): 0 self, 1 begin, 2 end -/
def F_Film_cut : FD := mDef 3 3 (msSeq (msExpr (mCall F_check_index [] (maCons (mVar 0) (maCons (mVar 1) maNil))))
  (msSeq (msIf (tNot_ (tB_ (mCall F_is_within [] (maCons (mVar 2) (maCons (m2 fAdd (mVar 1) (mC (.int 1))) (maCons (mLenX 0 F_Film_len (mVar 0)) maNil))))))
  msNever
  msNil)
  (msRet (mMeth 0 "with_frames" F_Film_with_frames 1 0 [.p 0, .p 1] [] (mVar 0) (maCons (mSl (mProp 0 F_Film_frames (mVar 0)) (moSome (mVar 1)) (moSome (mVar 2))) maNil) maNil))))
/-- borders_of(width, height, parts): 0 width, 1 height, 2 parts, 3 across, 4 down, 5 part -/
def borders_of_C1 : ME := (m2 fIx (mVar 5) (mC (.int 0)))
def borders_of_C2 : ME := (m2 fIx (mVar 5) (mC (.int 2)))
def borders_of_C3 : ME := (m2 fIx (mVar 5) (mC (.int 1)))
def borders_of_C4 : ME := (m2 fIx (mVar 5) (mC (.int 3)))
def F_borders_of : FD := mDef 3 6 (msSeq (msAsg (m2 fAdd (m2 fAdd (mLst (maCons (mC (.int 0)) (maCons (mVar 0) maNil))) (mLc (miSeq (mVar 2)) (tgName 5) tYes_ borders_of_C1 [5])) (mLc (miSeq (mVar 2)) (tgName 5) tYes_ borders_of_C2 [5])) (tgName 3))
  (msSeq (msAsg (m2 fAdd (m2 fAdd (mLst (maCons (mC (.int 0)) (maCons (mVar 1) maNil))) (mLc (miSeq (mVar 2)) (tgName 5) tYes_ borders_of_C3 [5])) (mLc (miSeq (mVar 2)) (tgName 5) tYes_ borders_of_C4 [5])) (tgName 4))
  (msRet (mTup (maCons (mL (f1 tupleD) (maCons (m1 sortSetD (mVar 3)) maNil)) (maCons (mL (f1 tupleD) (maCons (m1 sortSetD (mVar 4)) maNil)) maNil))))))
/-- cells_of(width, height, parts): 0 width, 1 height, 2 parts, 3 across, 4 down, 5 found, 6 top, 7 bottom, 8 left, 9 right -/
def cells_of_L1 : MS := (msExpr (mM "list" fAppend (mVar 5) (maCons (mTup (maCons (mVar 8) (maCons (mVar 6) (maCons (mVar 9) (maCons (mVar 7) maNil))))) maNil)))
def cells_of_L2 : MS := (msFor (miOf zipOf (maCons (mVar 3) (maCons (mSl (mVar 3) (moSome (mC (.int 1))) moNone) maNil))) (tgTup 2 (tgCons (tgName 8) (tgCons (tgName 9) tgNil)))
  cells_of_L1)
def F_cells_of : FD := mDef 3 10 (msSeq (msAsg (mCall F_borders_of [] (maCons (mVar 0) (maCons (mVar 1) (maCons (mVar 2) maNil)))) (tgTup 2 (tgCons (tgName 3) (tgCons (tgName 4) tgNil))))
  (msSeq (msAsg (mLst maNil) (tgName 5))
  (msSeq (msFor (miOf zipOf (maCons (mVar 4) (maCons (mSl (mVar 4) (moSome (mC (.int 1))) moNone) maNil))) (tgTup 2 (tgCons (tgName 6) (tgCons (tgName 7) tgNil)))
  cells_of_L2)
  (msRet (mVar 5)))))
/-- parts_in(film): 0 film, 1 picture, 2 part, 3 fate -/
def F_parts_in : FD := mDef 1 4 (msRet (mLc (miSeq (mProp 0 F_Film_frames (mVar 0))) (tgTup 3 (tgCons (tgName 1) (tgCons (tgName 2) (tgCons (tgName 3) tgNil)))) tYes_ (mVar 2) [1, 2, 3]))
/-- cells_in(film): 0 film -/
def F_cells_in : FD := mDef 1 1 (msRet (mCall F_cells_of [] (maCons (mProp 0 F_Film_width (mVar 0)) (maCons (mProp 0 F_Film_height (mVar 0)) (maCons (mCall F_parts_in [] (maCons (mVar 0) maNil)) maNil)))))
/-- over(top, bottom, solid): 0 top, 1 bottom, 2 solid, 3 found, 4 name -/
def over_L1 : MS := (msSeq (msIf (tAnd_ (tB_ (m2 fNe (mVar 3) (mLst maNil))) (tB_ (m2 fIn (m2 fIx (mVar 3) (m1 fNeg (mC (.int 1)))) (mVar 2))))
  msBreak
  msNil)
  (msIf (tB_ (m2 fNin (mVar 4) (mVar 3)))
  (msExpr (mM "list" fAppend (mVar 3) (maCons (mVar 4) maNil)))
  msNil))
def F_over : FD := mDef 3 5 (msSeq (msAsg (mL (f1 listD) (maCons (mVar 0) maNil)) (tgName 3))
  (msSeq (msFor (miSeq (mVar 1)) (tgName 4)
  over_L1)
  (msRet (mL (f1 tupleD) (maCons (mVar 3) maNil)))))
/-- laid(row, stand, solid): 0 row, 1 stand, 2 solid, 3 found -/
def F_laid : FD := mDef 3 4 (msSeq (msAsg (mCall F_over [] (maCons (mVar 0) (maCons (m2 fIx (mVar 1) (mC (.int 0))) (maCons (mVar 2) maNil)))) (tgName 3))
  (msRet (mTup (maCons (mVar 3) (maCons (mOr (m2 fIx (mVar 1) (mC (.int 1))) (mAnd (m2 fNe (mVar 3) (mTup maNil)) (m2 fIn (m2 fIx (mVar 3) (m1 fNeg (mC (.int 1)))) (mVar 2)))) maNil)))))
/-- played_fate(player, fate): 0 player, 1 fate -/
def F_played_fate : FD := mDef 2 2 (msSeq (msIf (tAnd_ (tB_ (m2 fEq (mVar 1) (mC (.str "back")))) (tB_ (m2 fIn (mVar 0) (mTup (maCons (mC (.str "keeps")) (maCons (mC (.str "wipes")) maNil))))))
  (msRet (mIf (tB_ (m2 fEq (mVar 0) (mC (.str "keeps")))) (mC (.str "stays")) (mC (.str "wiped"))))
  msNil)
  (msRet (mVar 1)))
/-- played(film, covers, player, stand): 0 film, 1 covers, 2 player, 3 stand, 4 seen_there, 5 covered, 6 picture, 7 part, 8 fate, 9 shown -/
def played_L1 : MS := (msSeq (msAsg (mIf (tB_ (mVar 5)) (mCall F_laid [] (maCons (mTup (maCons (mVar 6) maNil)) (maCons (mVar 3) (maCons (mProp 0 F_Film_solid (mVar 0)) maNil)))) (mVar 3)) (tgName 9))
  (msSeq (msExpr (mM "list" fAppend (mVar 4) (maCons (mVar 9) maNil)))
  (msSeq (msAsg (mCall F_played_fate [] (maCons (mVar 2) (maCons (mVar 8) maNil))) (tgName 8))
  (msIf (tAnd_ (tB_ (m2 fEq (mVar 8) (mC (.str "wiped")))) (tOr_ (tB_ (mVar 5)) (tB_ (m2 fEq (mVar 2) (mC (.str "blanks"))))))
  (msAsg (mC (.tup [(.tup []), (.bl true)])) (tgName 3))
  (msIf (tB_ (m2 fNe (mVar 8) (mC (.str "back"))))
  (msAsg (mVar 9) (tgName 3))
  msNil)))))
def F_played : FD := mDef 4 10 (msSeq (msAsg (mLst maNil) (tgName 4))
  (msSeq (msFor (miOf zipOf (maCons (mVar 1) (maCons (mProp 0 F_Film_frames (mVar 0)) maNil))) (tgTup 2 (tgCons (tgName 5) (tgCons (tgTup 3 (tgCons (tgName 6) (tgCons (tgName 7) (tgCons (tgName 8) tgNil)))) tgNil)))
  played_L1)
  (msRet (mTup (maCons (mVar 4) (maCons (mVar 3) maNil))))))
/-- holds(part, spot): 0 part, 1 spot -/
def F_holds : FD := mDef 2 2 (msRet (mAnd (m2 fNotN (mVar 0) (mC .non)) (mAnd (mChain fLe fLt (m2 fIx (mVar 0) (mC (.int 0))) (m2 fIx (mVar 1) (mC (.int 0))) (m2 fIx (mVar 0) (mC (.int 2)))) (mChain fLe fLt (m2 fIx (mVar 0) (mC (.int 1))) (m2 fIx (mVar 1) (mC (.int 1))) (m2 fIx (mVar 0) (mC (.int 3)))))))
/-- covers_at(film, spot): 0 film, 1 spot, 2 part -/
def covers_at_C1 : ME := (mCall F_holds [] (maCons (mVar 2) (maCons (mVar 1) maNil)))
def F_covers_at : FD := mDef 2 3 (msRet (mLc (miSeq (mCall F_parts_in [] (maCons (mVar 0) maNil))) (tgName 2) tYes_ covers_at_C1 [2]))
/-- sights(film, cell): 0 film, 1 cell -/
def F_sights : FD := mDef 2 2 (msRet (m2 fIx (mCall F_played [] (maCons (mVar 0) (maCons (mCall F_covers_at [] (maCons (mVar 0) (maCons (mSl (mVar 1) moNone (moSome (mC (.int 2)))) maNil))) (maCons (mC (.str "full")) (maCons (mC (.tup [(.tup []), (.bl true)])) maNil))))) (mC (.int 0))))
/-- shows_rest(film, begin): 0 film, 1 begin, 2 rest, 3 cell -/
def shows_rest_C1 : ME := (m2 fEq (mCall F_sights [] (maCons (mVar 2) (maCons (mVar 3) maNil))) (mSl (mCall F_sights [] (maCons (mVar 0) (maCons (mVar 3) maNil))) (moSome (mVar 1)) moNone))
def F_shows_rest : FD := mDef 2 4 (msSeq (msAsg (mMeth 0 "cut" F_Film_cut 2 0 [.p 0, .p 1, .p 2] [] (mVar 0) (maCons (mVar 1) (maCons (mLenX 0 F_Film_len (mVar 0)) maNil)) maNil) (tgName 2))
  (msRet (mL (f1 (allD true)) (maCons (mLc (miSeq (mCall F_cells_in [] (maCons (mVar 0) maNil))) (tgName 3) tYes_ shows_rest_C1 [3]) maNil))))
/-- amid(film): 0 film, 1 beat -/
def amid_T1 : MT := (tB_ (mCall F_shows_rest [] (maCons (mVar 0) (maCons (mVar 1) maNil))))
def F_amid : FD := mDef 1 2 (msSeq (msExpr (mCall F_check_film [] (maCons (mVar 0) maNil)))
  (msRet (mL (f1 tupleD) (maCons (mLc (miRng rng1 (maCons (mLenX 0 F_Film_len (mVar 0)) maNil)) (tgName 1) amid_T1 (mVar 1) [1]) maNil))))
/-- _law_jar(_law_script, _law_k): 0 _law_script, 1 _law_k, 2 _law_mixed, 3 _law_cell, 4 _law_own, 5 _law_digits -/
def law_jar_L1 : MS := (msAsg (m2 fMod (mL (f1 intD) (maCons (m2 fAdd (m2 fMul (mVar 2) (mC (.int 733))) (mVar 3)) maNil)) (mC (.int 1000000007))) (tgName 2))
def F_law_jar : FD := mDef 2 6 (msSeq (msAsg (m2 fAdd (m2 fMul (m2 fMul (mC (.int 8191)) (m2 fAdd (mVar 1) (mC (.int 2)))) (m2 fAdd (mVar 1) (mC (.int 5)))) (m2 fMul (mC (.int 13)) (mL (f1 lenD) (maCons (mVar 0) maNil)))) (tgName 2))
  (msSeq (msFor (miSeq (mSl (mVar 0) moNone (moSome (mC (.int 4))))) (tgName 3)
  law_jar_L1)
  (msSeq (msAsg (mIf (tB_ (m2 fLt (mVar 1) (mL (f1 lenD) (maCons (mVar 0) maNil)))) (m2 fIx (mVar 0) (mVar 1)) (mC (.int 0))) (tgName 4))
  (msSeq (msAsg (mIf (tOr_ (tB_ (m2 fLt (mVar 4) (mC (.int 0)))) (tB_ (m2 fGe (mVar 4) (m2 fPow (mC (.int 10)) (mC (.int 18)))))) (mL (f1 absD) (maCons (mVar 4) maNil)) (mC (.int 0))) (tgName 5))
  (msRet (mLst (maCons (mVar 5) (maCons (m2 fMod (mL (f1 intD) (maCons (m2 fAdd (m2 fAdd (m2 fMul (mVar 2) (mC (.int 7907))) (m2 fMul (mVar 4) (mC (.int 65537)))) (m2 fMul (mC (.int 104729)) (m2 fAdd (mVar 1) (mC (.int 1))))) maNil)) (mC (.int 2147483587))) (maCons (mC (.int 0)) maNil)))))))))
/-- _law_can(_law_model_here, _law_at): 0 _law_model_here, 1 _law_at, 2 _law_rest, 3 _law_dot, 4 _law_inks, 5 _law_whole -/
def law_can_L1 : MS := (msSeq (msAsg (m2 fIx (mCall F_law_play [] (maCons (mVar 0) (maCons (mVar 3) (maCons (mVar 4) (maCons (mC (.str "full")) (maCons (mC .non) maNil)))))) (mC (.int 0))) (tgName 5))
  (msIf (tB_ (m2 fNe (m2 fIx (mCall F_law_play [] (maCons (mVar 2) (maCons (mVar 3) (maCons (mVar 4) (maCons (mC (.str "full")) (maCons (mC .non) maNil)))))) (mC (.int 0))) (m2 fAdd (mSl (mVar 5) moNone (moSome (mVar 1))) (mSl (mVar 5) (moSome (m2 fAdd (mVar 1) (mC (.int 1)))) moNone))))
  (msRet (mC (.bl false)))
  msNil))
def law_can_L2 : MS := (msFor (miSeq (mCall F_law_patterns [] (maCons (m2 fIx (mVar 0) (mC (.int 3))) maNil))) (tgName 4)
  law_can_L1)
def F_law_can : FD := mDef 2 6 (msSeq (msAsg (mTup (maCons (m2 fIx (mVar 0) (mC (.int 0))) (maCons (m2 fIx (mVar 0) (mC (.int 1))) (maCons (m2 fAdd (mSl (m2 fIx (mVar 0) (mC (.int 2))) moNone (moSome (mVar 1))) (mSl (m2 fIx (mVar 0) (mC (.int 2))) (moSome (m2 fAdd (mVar 1) (mC (.int 1)))) moNone)) (maCons (m2 fIx (mVar 0) (mC (.int 3))) maNil))))) (tgName 2))
  (msSeq (msFor (miSeq (mCall F_law_dots [] (maCons (mVar 0) maNil))) (tgName 3)
  law_can_L2)
  (msRet (mC (.bl true)))))
/-- without(self, index): 0 self, 1 index -/
def F_Film_without : FD := mDef 2 2 (msSeq (msExpr (mCall F_check_index [] (maCons (mVar 0) (maCons (mVar 1) maNil))))
  (msRet (mMeth 0 "with_frames" F_Film_with_frames 1 0 [.p 0, .p 1] [] (mVar 0) (maCons (m2 fAdd (mSl (mProp 0 F_Film_frames (mVar 0)) moNone (moSome (mVar 1))) (mSl (mProp 0 F_Film_frames (mVar 0)) (moSome (m2 fAdd (mVar 1) (mC (.int 1)))) moNone)) maNil) maNil)))
/-- can_go(film, index): 0 film, 1 index, 2 left, 3 cell, 4 shown -/
def can_go_L1 : MS := (msSeq (msAsg (mCall F_sights [] (maCons (mVar 0) (maCons (mVar 3) maNil))) (tgName 4))
  (msIf (tB_ (m2 fNe (mCall F_sights [] (maCons (mVar 2) (maCons (mVar 3) maNil))) (m2 fAdd (mSl (mVar 4) moNone (moSome (mVar 1))) (mSl (mVar 4) (moSome (m2 fAdd (mVar 1) (mC (.int 1)))) moNone))))
  (msRet (mC (.bl false)))
  msNil))
def F_can_go : FD := mDef 2 5 (msSeq (msAsg (mMeth 0 "without" F_Film_without 1 0 [.p 0, .p 1] [] (mVar 0) (maCons (mVar 1) maNil) maNil) (tgName 2))
  (msSeq (msFor (miSeq (mCall F_cells_in [] (maCons (mVar 0) maNil))) (tgName 3)
  can_go_L1)
  (msRet (mC (.bl true)))))
/-- needless(film): 0 film, 1 index -/
def needless_T1 : MT := (tAnd_ (tB_ (m2 fGt (mLenX 0 F_Film_len (mVar 0)) (mC (.int 1)))) (tB_ (mCall F_can_go [] (maCons (mVar 0) (maCons (mVar 1) maNil)))))
def F_needless : FD := mDef 1 2 (msSeq (msExpr (mCall F_check_film [] (maCons (mVar 0) maNil)))
  (msRet (mL (f1 tupleD) (maCons (mLc (miRng rng1 (maCons (mLenX 0 F_Film_len (mVar 0)) maNil)) (tgName 1) needless_T1 (mVar 1) [1]) maNil))))
/-- _law_who(_law_jar_here): 0 _law_jar_here -/
def F_law_who : FD := mDef 1 1 (msRet (mCall F_law_pick [] (maCons (mVar 0) (maCons (mLst (maCons (mC (.str "full")) (maCons (mC (.str "full")) (maCons (mC (.str "keeps")) (maCons (mC (.str "wipes")) (maCons (mC (.str "blanks")) maNil)))))) maNil))))
/-- check_beat(film, beat): 0 film, 1 beat -/
def F_check_beat : FD := mDef 2 2 (msIf (tNot_ (tB_ (mCall F_is_within [] (maCons (mVar 1) (maCons (mC (.int 0)) (maCons (m2 fSub (mLenX 0 F_Film_len (mVar 0)) (mC (.int 1))) maNil))))))
  msNever
  msNil)
/-- check_spot(spot, width, height): 0 spot, 1 width, 2 height -/
def F_check_spot : FD := mDef 3 3 (msSeq (msIf (tOr_ (tNot_ (tB_ (mIsi (fTy "tuple") (mVar 0)))) (tB_ (m2 fNe (mL (f1 lenD) (maCons (mVar 0) maNil)) (mC (.int 2)))))
  msNever
  msNil)
  (msIf (tOr_ (tNot_ (tB_ (mCall F_is_within [] (maCons (m2 fIx (mVar 0) (mC (.int 0))) (maCons (mC (.int 0)) (maCons (m2 fSub (mVar 1) (mC (.int 1))) maNil)))))) (tNot_ (tB_ (mCall F_is_within [] (maCons (m2 fIx (mVar 0) (mC (.int 1))) (maCons (mC (.int 0)) (maCons (m2 fSub (mVar 2) (mC (.int 1))) maNil)))))))
  msNever
  msNil))
/-- check_player(player): 0 player -/
def F_check_player : FD := mDef 1 1 (msIf (tNot_ (tB_ (mCall F_is_word [] (maCons (mVar 0) (maCons (mC (.tup [(.str "full"), (.str "keeps"), (.str "wipes"), (.str "blanks")])) maNil)))))
  msNever
  msNil)
/-- check_turn(turn): 0 turn -/
def F_check_turn : FD := mDef 1 1 (msIf (tNot_ (tB_ (mCall F_is_within [] (maCons (mVar 0) (maCons (mC (.int 1)) (maCons (mC (.int 6)) maNil))))))
  msNever
  msNil)
/-- check_anew(anew): 0 anew -/
def F_check_anew : FD := mDef 1 1 (msIf (tNot_ (tB_ (mCall F_is_word [] (maCons (mVar 0) (maCons (mTup (maCons (mC (.str "on")) (maCons (mC (.str "clean")) maNil))) maNil)))))
  msNever
  msNil)
/-- check_play(player, turn, anew): 0 player, 1 turn, 2 anew -/
def F_check_play : FD := mDef 3 3 (msSeq (msExpr (mCall F_check_player [] (maCons (mVar 0) maNil)))
  (msSeq (msExpr (mCall F_check_turn [] (maCons (mVar 1) maNil)))
  (msExpr (mCall F_check_anew [] (maCons (mVar 2) maNil)))))
/-- played_turn(film, covers, player, turn, anew): 0 film, 1 covers, 2 player, 3 turn, 4 anew, 5 stand, 6 number -/
def played_turn_L1 : MS := (msIf (tB_ (m2 fEq (mVar 4) (mC (.str "on"))))
  (msAsg (m2 fIx (mCall F_played [] (maCons (mVar 0) (maCons (mVar 1) (maCons (mVar 2) (maCons (mVar 5) maNil))))) (mC (.int 1))) (tgName 5))
  msNil)
def F_played_turn : FD := mDef 5 7 (msSeq (msAsg (mC (.tup [(.tup []), (.bl true)])) (tgName 5))
  (msSeq (msFor (miRng rng1 (maCons (m2 fSub (mVar 3) (mC (.int 1))) maNil)) (tgName 6)
  played_turn_L1)
  (msRet (m2 fIx (mCall F_played [] (maCons (mVar 0) (maCons (mVar 1) (maCons (mVar 2) (maCons (mVar 5) maNil))))) (mC (.int 0))))))
/-- seen(film, beat, spot, player, turn, anew): 0 film, 1 beat, 2 spot, 3 player, 4 turn, 5 anew -/
def F_seen : FD := mDef 6 6 (msSeq (msExpr (mCall F_check_film [] (maCons (mVar 0) maNil)))
  (msSeq (msExpr (mCall F_check_beat [] (maCons (mVar 0) (maCons (mVar 1) maNil))))
  (msSeq (msExpr (mCall F_check_spot [] (maCons (mVar 2) (maCons (mProp 0 F_Film_width (mVar 0)) (maCons (mProp 0 F_Film_height (mVar 0)) maNil)))))
  (msSeq (msExpr (mCall F_check_play [] (maCons (mVar 3) (maCons (mVar 4) (maCons (mVar 5) maNil)))))
  (msRet (m2 fIx (m2 fIx (mCall F_played_turn [] (maCons (mVar 0) (maCons (mCall F_covers_at [] (maCons (mVar 0) (maCons (mVar 2) maNil))) (maCons (mVar 3) (maCons (mVar 4) (maCons (mVar 5) maNil)))))) (mVar 1)) (mC (.int 0))))))))
/-- _law_is_row(_law_row, _law_firm): 0 _law_row, 1 _law_firm, 2 _law_ink -/
def law_is_row_T1 : MT := (tB_ (m2 fNin (mVar 2) (mLst (maCons (mC (.str "sky")) (maCons (mC (.str "a")) (maCons (mC (.str "bird2")) maNil))))))
def law_is_row_T2 : MT := (tB_ (m2 fIn (mVar 2) (mVar 1)))
def F_law_is_row : FD := mDef 2 3 (msSeq (msIf (tOr_ (tNot_ (tB_ (mIsi (fTy "tuple") (mVar 0)))) (tB_ (m2 fNe (mLc (miSeq (mVar 0)) (tgName 2) law_is_row_T1 (mVar 2) [2]) (mLst maNil))))
  (msRet (mC (.bl false)))
  msNil)
  (msRet (mAnd (m2 fEq (m1 lenSetD (mVar 0)) (mL (f1 lenD) (maCons (mVar 0) maNil))) (m2 fEq (mLc (miSeq (mSl (mVar 0) moNone (moSome (m1 fNeg (mC (.int 1)))))) (tgName 2) law_is_row_T2 (mVar 2) [2]) (mLst maNil)))))
/-- _law_value(_law_row, _law_inks): 0 _law_row, 1 _law_inks, 2 _law_colours, 3 _law_ink -/
def law_value_T1 : MT := (tB_ (m2 fNotN (m2 fIx (mVar 1) (mVar 3)) (mC .non)))
def law_value_C1 : ME := (m2 fIx (mVar 1) (mVar 3))
def F_law_value : FD := mDef 2 4 (msSeq (msAsg (mLc (miSeq (mVar 0)) (tgName 3) law_value_T1 law_value_C1 [3]) (tgName 2))
  (msRet (mIf (tB_ (m2 fNe (mVar 2) (mLst maNil))) (m2 fIx (mVar 2) (mC (.int 0))) (mC .non))))
/-- _law_rounds(_law_model_here, _law_dot, _law_inks, _law_who_here, _law_many, _law_way): 0 _law_model_here, 1 _law_dot, 2 _law_inks, 3 _law_who_here, 4 _law_many, 5 _law_way, 6 _law_there, 7 _law_lap, 8 _law_later -/
def law_rounds_L1 : MS := (msSeq (msAsg (m2 fIx (mCall F_law_play [] (maCons (mVar 0) (maCons (mVar 1) (maCons (mVar 2) (maCons (mVar 3) (maCons (mVar 6) maNil)))))) (mC (.int 1))) (tgName 8))
  (msAsg (mIf (tB_ (m2 fEq (mVar 5) (mC (.str "on")))) (mVar 8) (mC .non)) (tgName 6)))
def F_law_rounds : FD := mDef 6 9 (msSeq (msAsg (mC .non) (tgName 6))
  (msSeq (msFor (miRng rng1 (maCons (m2 fSub (mVar 4) (mC (.int 1))) maNil)) (tgName 7)
  law_rounds_L1)
  (msRet (m2 fIx (mCall F_law_play [] (maCons (mVar 0) (maCons (mVar 1) (maCons (mVar 2) (maCons (mVar 3) (maCons (mVar 6) maNil)))))) (mC (.int 0))))))
/-- _law_dot_right(_law_model_here, _law_reel, _law_dot, _law_goal): 0 _law_model_here, 1 _law_reel, 2 _law_dot, 3 _law_goal, 4 _law_who_here, 5 _law_many, 6 _law_way, 7 _law_rows, 8 _law_inks, 9 _law_at, 10 _law_row -/
def law_dot_right_C1 : ME := (mCallK F_seen 3 3 [.p 0, .p 1, .p 2, .k 0, .k 1, .k 2] [] (maCons (mVar 1) (maCons (mVar 9) (maCons (mVar 2) maNil))) (maCons (mVar 4) (maCons (mVar 5) (maCons (mVar 6) maNil))))
def law_dot_right_C2 : ME := (mCall F_law_is_row [] (maCons (mVar 10) (maCons (m2 fIx (mVar 0) (mC (.int 3))) maNil)))
def law_dot_right_C3 : ME := (mCall F_law_value [] (maCons (mVar 10) (maCons (mVar 8) maNil)))
def law_dot_right_L1 : MS := (msIf (tB_ (m2 fNe (mLc (miSeq (mVar 7)) (tgName 10) tYes_ law_dot_right_C3 [10]) (mCall F_law_rounds [] (maCons (mVar 0) (maCons (mVar 2) (maCons (mVar 8) (maCons (mVar 4) (maCons (mVar 5) (maCons (mVar 6) maNil)))))))))
  (msRet (mC (.bl false)))
  msNil)
def F_law_dot_right : FD := mDef 4 11 (msSeq (msAsg (mVar 3) (tgTup 3 (tgCons (tgName 4) (tgCons (tgName 5) (tgCons (tgName 6) tgNil)))))
  (msSeq (msAsg (mLc (miRng rng1 (maCons (mL (f1 lenD) (maCons (m2 fIx (mVar 0) (mC (.int 2))) maNil)) maNil)) (tgName 9) tYes_ law_dot_right_C1 [9]) (tgName 7))
  (msSeq (msIf (tNot_ (tB_ (mL (f1 (allD true)) (maCons (mLc (miSeq (mVar 7)) (tgName 10) tYes_ law_dot_right_C2 [10]) maNil))))
  (msRet (mC (.bl false)))
  msNil)
  (msSeq (msFor (miSeq (mCall F_law_patterns [] (maCons (m2 fIx (mVar 0) (mC (.int 3))) maNil))) (tgName 8)
  law_dot_right_L1)
  (msRet (mC (.bl true)))))))
/-- leaves(film, spot, player): 0 film, 1 spot, 2 player -/
def F_leaves : FD := mDef 3 3 (msSeq (msExpr (mCall F_check_film [] (maCons (mVar 0) maNil)))
  (msSeq (msExpr (mCall F_check_spot [] (maCons (mVar 1) (maCons (mProp 0 F_Film_width (mVar 0)) (maCons (mProp 0 F_Film_height (mVar 0)) maNil)))))
  (msSeq (msExpr (mCall F_check_player [] (maCons (mVar 2) maNil)))
  (msRet (m2 fIx (mCall F_played [] (maCons (mVar 0) (maCons (mCall F_covers_at [] (maCons (mVar 0) (maCons (mVar 1) maNil))) (maCons (mVar 2) (maCons (mC (.tup [(.tup []), (.bl false)])) maNil))))) (mC (.int 1)))))))
end
end G


set_option linter.all false
set_option maxRecDepth 100000
set_option  maxHeartbeats   4000000
/-! DV, part N: plain law tools: stores that go on, loops, small equations. -/
namespace DV
open PySem L2

/-! ### stores -/
theorem Store.put_same {st : Store} {j : Nat} {c : Cell} : (st.put j c).at_ j = some c := by simp [Store.put]
theorem Store.put_ne {st : Store} {j m : Nat} {c : Cell} (h : m ≠ j) : (st.put j c).at_ m = st.at_ m := by simp [Store.put, h]
theorem Store.put_put {st : Store} {j : Nat} {c d : Cell} : (st.put j c).put j d = st.put j d := by
  unfold Store.put
  congr 1
  funext m
  by_cases h : m = j <;> simp [h]
theorem Store.put_nxt {st : Store} {j : Nat} {c : Cell} : (st.put j c).nxt = st.nxt := rfl
theorem Store.new_same {st : Store} {c : Cell} : (st.new c).at_ st.nxt = some c := by simp [Store.new]
theorem Store.new_ne {st : Store} {m : Nat} {c : Cell} (h : m ≠ st.nxt) : (st.new c).at_ m = st.at_ m := by simp [Store.new, h]
theorem Store.at_new {st : Store} {c : Cell} {n : Nat} : (st.new c).at_ n = if n = st.nxt then some c else st.at_ n := rfl
theorem Store.at_put {st : Store} {c : Cell} {j n : Nat} : (st.put j c).at_ n = if n = j then some c else st.at_ n := rfl
theorem Store.new_nxt {st : Store} {c : Cell} : (st.new c).nxt = st.nxt + 1 := rfl
/-- all but js stay -/
structure Kp (js : List Nat) (st st' : Store) : Prop where
  le : st.nxt ≤ st'.nxt
  at_ : ∀ m, m < st.nxt → m ∉ js → st'.at_ m = st.at_ m
theorem Kp.refl {js : List Nat} {st : Store} : Kp js st st := ⟨Nat.le_refl _, fun _ _ _ => rfl⟩
theorem Kp.trans {js : List Nat} {a b c : Store} (h : Kp js a b) (h' : Kp js b c) : Kp js a c := ⟨Nat.le_trans h.le h'.le, fun m hm hj => (h'.at_ m (Nat.lt_of_lt_of_le hm h.le) hj).trans (h.at_ m hm hj)⟩
theorem Kp.more {js ks : List Nat} {a b : Store} (h : Kp js a b) (hs : ∀ x ∈ js, x ∈ ks) : Kp ks a b := ⟨h.le, fun m hm hj => h.at_ m hm fun z => hj (hs m z)⟩
theorem Kp.nil {js : List Nat} {a b : Store} (h : Kp [] a b) : Kp js a b := h.more (by simp)
theorem Kp.new {js : List Nat} {st : Store} {c : Cell} : Kp js st (st.new c) := ⟨Nat.le_succ _, fun m hm _ => Store.new_ne (Nat.ne_of_lt hm)⟩
theorem Kp.put {js : List Nat} {st : Store} {j : Nat} {c : Cell} (hj : j ∈ js) : Kp js st (st.put j c) := ⟨Nat.le_refl _, fun m _ h => Store.put_ne fun e => h (e ▸ hj)⟩
/-- what is new may be changed -/
theorem Kp.drop {js : List Nat} {a b : Store} {j : Nat} (h : Kp (j :: js) a b) (hj : a.nxt ≤ j) : Kp js a b := ⟨h.le, fun m hm hs => h.at_ m hm (by simp only [List.mem_cons, not_or]; exact ⟨by omega, hs⟩)⟩
theorem Kp.get {js : List Nat} {a b : Store} (h : Kp js a b) {m : Nat} {c : Cell} (e : a.at_ m = some c) (hm : m < a.nxt) (hj : m ∉ js) : b.at_ m = some c := (h.at_ m hm hj).trans e
theorem Kp.get0 {a b : Store} (h : Kp [] a b) {m : Nat} {c : Cell} (e : a.at_ m = some c) (hm : m < a.nxt) : b.at_ m = some c := h.get e hm (by simp)

/-! ### loops -/
@[simp] theorem srcOk_nil {st : Store} : SrcOk [] st := fun _ h => nomatch h
theorem srcOk_one {st : Store} {m : Nat} {xs : List D} (h : st.at_ m = some (.lst xs)) : SrcOk [(m, xs)] st := fun p hp => by
  rw [List.mem_singleton.mp hp]
  exact h
theorem loopC_nil {t : TGT} {mt : MT} {me : ME} {srcs : List (Nat × List D)} {l0 : Loc} {st : Store} (so : SrcOk srcs st) : loopC t mt me srcs l0 [] st = .ok [] st := by
  unfold loopC
  rw [if_pos so]
theorem loopC_cons {t : TGT} {mt : MT} {me : ME} {srcs : List (Nat × List D)} {l0 l1 : Loc} {d : D} {ds : List D} {st : Store} (so : SrcOk srcs st) (ht : t d l0 st = some l1) :
    loopC t mt me srcs l0 (d :: ds) st = (match mt l1 st with
    | .ok k st1 => if k then (match me l1 st1 with
      | .ok x st2 => (match loopC t mt me srcs l0 ds st2 with
        | .ok r st3 => .ok (x :: r) st3
        | _ => .bad)
      | _ => .bad) else loopC t mt me srcs l0 ds st1
    | _ => .bad) := by
  rw [loopC.eq_def]
  simp only [if_pos so, ht]
  cases mt l1 st with
  | ok k st1 =>
    cases k <;> simp only [Bool.false_eq_true, if_false, if_true]
    all_goals rfl
  | exc c fs s => rfl
  | bad => rfl
/-- a comprehension of pure parts, no test -/
theorem loopC_pure {t : TGT} {me : ME} {srcs : List (Nat × List D)} {l0 : Loc} {f : D → D} {st : Store} (so : SrcOk srcs st) : ∀ {ds : List D}, (∀ d ∈ ds, ∃ l1, t d l0 st = some l1 ∧ me l1 st = .ok (f d) st) → loopC t tYes_ me srcs l0 ds st = .ok (ds.map f) st
  | [], _ => loopC_nil so
  | d :: ds, h => by
    obtain ⟨l1, h1, h2⟩ := h d (by simp)
    rw [loopC_cons so h1]
    simp only [tYes_, h2, if_true, loopC_pure so (fun d hd => h d (List.mem_cons_of_mem _ hd)), List.map_cons]
theorem loopS_nil {t : TGT} {body : MS} {srcs : List (Nat × List D)} {l : Loc} {st : Store} (so : SrcOk srcs st) : loopS t body srcs [] l st = .nx l st := by
  unfold loopS
  rw [if_pos so]
theorem loopS_nx {t : TGT} {body : MS} {srcs : List (Nat × List D)} {l l1 l2 : Loc} {d : D} {ds : List D} {st st2 : Store} (so : SrcOk srcs st) (ht : t d l st = some l1) (hb : body l1 st = .nx l2 st2) : loopS t body srcs (d :: ds) l st = loopS t body srcs ds l2 st2 := by
  rw [loopS.eq_def]
  simp only [if_pos so, ht, hb]
theorem loopS_bk {t : TGT} {body : MS} {srcs : List (Nat × List D)} {l l1 l2 : Loc} {d : D} {ds : List D} {st st2 : Store} (so : SrcOk srcs st) (ht : t d l st = some l1) (hb : body l1 st = .bk l2 st2) : loopS t body srcs (d :: ds) l st = .nx l2 st2 := by
  rw [loopS.eq_def]
  simp only [if_pos so, ht, hb]
theorem loopS_rt {t : TGT} {body : MS} {srcs : List (Nat × List D)} {l l1 : Loc} {d x : D} {ds : List D} {st st2 : Store} (so : SrcOk srcs st) (ht : t d l st = some l1) (hb : body l1 st = .rt x st2) : loopS t body srcs (d :: ds) l st = .rt x st2 := by
  rw [loopS.eq_def]
  simp only [if_pos so, ht, hb]
/-- a loop by its invariant on locals and store, no break -/
theorem loopS_inv {t : TGT} {body : MS} {srcs : List (Nat × List D)} (I : List D → Loc → Store → Prop) (hs : ∀ d ds l st, I (d :: ds) l st → SrcOk srcs st ∧ ∃ l1 l2 st2, t d l st = some l1 ∧ body l1 st = .nx l2 st2 ∧ I ds l2 st2) (he : ∀ l st, I [] l st → SrcOk srcs st) :
    ∀ (ds : List D) (l : Loc) (st : Store), I ds l st → ∃ l' st', loopS t body srcs ds l st = .nx l' st' ∧ I [] l' st'
  | [], l, st, h => ⟨l, st, loopS_nil (he l st h), h⟩
  | d :: ds, l, st, h => by
    obtain ⟨so, l1, l2, st2, h1, h2, h3⟩ := hs d ds l st h
    rw [loopS_nx so h1 h2]
    exact loopS_inv I hs he ds l2 st2 h3
theorem small_line {n : Nat} (h : n ≤ 1000) : n ≤ sizeLine := Nat.le_trans h (by decide)
end DV


set_option linter.all false
set_option maxRecDepth 100000
set_option  maxHeartbeats   4000000
/-! DV, part O (printed by genev.py): the words applied, for simp. -/
namespace DV
open PySem L2
@[simp] theorem ev_mVar (i : Nat) (l : Loc) (st : Store) : mVar i l st = (match l[i]? with
  | some (some d) => .ok d st
  | _ => .bad) := rfl
@[simp] theorem ev_mC (d : D) (v0 : Loc) (st : Store) : mC d v0 st = (.ok d st) := rfl
@[simp] theorem ev_m2 (f : F2) (a b : ME) (l : Loc) (st : Store) : m2 f a b l st = ((a l st).bind fun x st1 => (b l st1).bind fun y st2 => Res.ofO (f x y st2)) := rfl
@[simp] theorem ev_m1 (f : F1) (a : ME) (l : Loc) (st : Store) : m1 f a l st = ((a l st).bind fun x st1 => Res.ofO (f x st1)) := rfl
@[simp] theorem ev_mL (f : FL) (a : MA) (l : Loc) (st : Store) : mL f a l st = ((a l st).bind fun xs st1 => Res.ofO (f xs st1)) := rfl
@[simp] theorem ev_maNil  (v0 : Loc) (st : Store) : maNil v0 st = (.ok [] st) := rfl
@[simp] theorem ev_maCons (a : ME) (b : MA) (l : Loc) (st : Store) : maCons a b l st = ((a l st).bind fun x st1 => (b l st1).bind fun xs st2 => .ok (x :: xs) st2) := rfl
@[simp] theorem ev_fTup  (xs : List D) (st : Store) : fTup xs st = (if xs.length ≤ sizeLine then some (.tup xs, st) else none) := rfl
@[simp] theorem ev_fLst  (xs : List D) (st : Store) : fLst xs st = (if xs.length ≤ sizeLine then some (.ref st.nxt, st.new (.lst xs)) else none) := rfl
@[simp] theorem ev_mTup (a : MA) (l : Loc) (st : Store) : mTup a l st = ((mL fTup a) l st) := rfl
@[simp] theorem ev_mLst (a : MA) (l : Loc) (st : Store) : mLst a l st = ((mL fLst a) l st) := rfl
@[simp] theorem ev_tB_ (a : ME) (l : Loc) (st : Store) : tB_ a l st = ((a l st).bind toB) := rfl
@[simp] theorem ev_mChain (f g : F2) (a b c : ME) (l : Loc) (st : Store) : mChain f g a b c l st = ((a l st).bind fun x st1 => (b l st1).bind fun y st2 => (Res.ofO (f x y st2)).bind fun z st3 => (toB z st3).bind fun k st4 =>
  if k then (c l st4).bind fun w st5 => Res.ofO (g y w st5) else .ok (.bl false) st4) := rfl
@[simp] theorem ev_tAnd_ (a b : MT) (l : Loc) (st : Store) : tAnd_ a b l st = ((a l st).bind fun k st1 => if k then b l st1 else .ok false st1) := rfl
@[simp] theorem ev_tOr_ (a b : MT) (l : Loc) (st : Store) : tOr_ a b l st = ((a l st).bind fun k st1 => if k then .ok true st1 else b l st1) := rfl
@[simp] theorem ev_tNot_ (a : MT) (l : Loc) (st : Store) : tNot_ a l st = ((a l st).bind fun k st1 => .ok (!k) st1) := rfl
@[simp] theorem ev_mAnd (a b : ME) (l : Loc) (st : Store) : mAnd a b l st = ((a l st).bind fun d st1 => (toB d st1).bind fun k st2 => if k then b l st2 else .ok (.bl false) st2) := rfl
@[simp] theorem ev_mOr (a b : ME) (l : Loc) (st : Store) : mOr a b l st = ((a l st).bind fun d st1 => (toB d st1).bind fun k st2 => if k then .ok (.bl true) st2 else b l st2) := rfl
@[simp] theorem ev_mNot (a : ME) (l : Loc) (st : Store) : mNot a l st = ((a l st).bind fun d st1 => (toB d st1).bind fun k st2 => .ok (.bl (!k)) st2) := rfl
@[simp] theorem ev_mIf (c : MT) (a b : ME) (l : Loc) (st : Store) : mIf c a b l st = ((c l st).bind fun k st1 => if k then a l st1 else b l st1) := rfl
@[simp] theorem ev_msNil  (l : Loc) (st : Store) : msNil l st = (.nx l st) := rfl
@[simp] theorem ev_msSeq (a b : MS) (l : Loc) (st : Store) : msSeq a b l st = (match a l st with
  | .nx l' st' => b l' st'
  | r => r) := rfl
@[simp] theorem ev_msExpr (m : ME) (l : Loc) (st : Store) : msExpr m l st = ((m l st).toS l fun _ st1 => .nx l st1) := rfl
@[simp] theorem ev_msRet (m : ME) (l : Loc) (st : Store) : msRet m l st = ((m l st).toS l fun d st1 => .rt d st1) := rfl
@[simp] theorem ev_msRetN  (v0 : Loc) (st : Store) : msRetN v0 st = (.rt .non st) := rfl
@[simp] theorem ev_msBreak  (l : Loc) (st : Store) : msBreak l st = (.bk l st) := rfl
@[simp] theorem ev_msCont  (l : Loc) (st : Store) : msCont l st = (.ct l st) := rfl
@[simp] theorem ev_msIf (c : MT) (a b : MS) (l : Loc) (st : Store) : msIf c a b l st = ((c l st).toS l fun k st1 => if k then a l st1 else b l st1) := rfl
@[simp] theorem ev_msAsg (m : ME) (t : TGT) (l : Loc) (st : Store) : msAsg m t l st = ((m l st).toS l fun d st1 => match t d l st1 with
  | some l' => .nx l' st1
  | none => .bad) := rfl
@[simp] theorem ev_msPar (i j : Nat) (m : MA) (l : Loc) (st : Store) : msPar i j m l st = ((m l st).toS l fun ds st1 => match ds with
  | [x, y] => .nx ((l.set i (some x)).set j (some y)) st1
  | _ => .bad) := rfl
@[simp] theorem ev_tgName (i : Nat) (d : D) (l : Loc) (v2 : Store) : tgName i d l v2 = (some (l.set i (some d))) := rfl
@[simp] theorem ev_tgTup (n : Nat) (t : TGTs) (d : D) (l : Loc) (st : Store) : tgTup n t d l st = (match d with
  | .tup xs => if xs.length = n then t xs l st else none
  | _ => none) := rfl
@[simp] theorem ev_tgCons (t : TGT) (u : TGTs) (ds : List D) (l : Loc) (st : Store) : tgCons t u ds l st = (match ds with
  | d :: ds => (t d l st).bind fun l1 => u ds l1 st
  | [] => none) := rfl
@[simp] theorem ev_tgNil  (ds : List D) (l : Loc) (v2 : Store) : tgNil ds l v2 = (match ds with
  | [] => some l
  | _ :: _ => none) := rfl
open Classical in
@[simp] theorem ev_msFor (mi : MI) (t : TGT) (body : MS) (l : Loc) (st : Store) : msFor mi t body l st = ((mi l st).toS l fun it st1 => loopS t body it.srcs it.items l st1) := rfl
@[simp] theorem ev_mCall (F : FD) (dds : List D) (a : MA) (l : Loc) (st : Store) : mCall F dds a l st = ((a l st).bind fun ds st1 => F (ds ++ dds) st1) := rfl
@[simp] theorem ev_f1 (f : D → Store → Option (D × Store)) (xs : List D) (st : Store) : f1 f xs st = (match xs with
  | [x] => f x st
  | _ => none) := rfl
@[simp] theorem ev_intD (x : D) (st : Store)  : intD x st = (match x with
  | .int i => some (.int i, st)
  | _ => none) := rfl
@[simp] theorem ev_lenD (x : D) (st : Store)  : lenD x st = (match x with
  | .str z => if z.length ≤ sizeLine then some (.int z.length, st) else none
  | .tup xs => some (.int xs.length, st)
  | .rol xs => some (.int xs.length, st)
  | .ref m => (match st.at_ m with
    | some (.lst xs) => some (.int xs.length, st)
    | some (.dic kvs) => some (.int kvs.length, st)
    | _ => none)
  | _ => none) := rfl
@[simp] theorem ev_tupleD (x : D) (st : Store)  : tupleD x st = (match x with
  | .tup xs => some (.tup xs, st)
  | .ref m => (match st.at_ m with
    | some (.lst xs) => some (.tup xs, st)
    | _ => none)
  | _ => none) := rfl
@[simp] theorem ev_listD (x : D) (st : Store)  : listD x st = (match x with
  | .tup xs => some (.ref st.nxt, st.new (.lst xs))
  | .rol xs => some (.ref st.nxt, st.new (.lst xs))
  | .ref m => (match st.at_ m with
    | some (.lst xs) => some (.ref st.nxt, st.new (.lst xs))
    | _ => none)
  | _ => none) := rfl
@[simp] theorem ev_dictD (x : D) (st : Store)  : dictD x st = (match x with
  | .ref m => (match st.at_ m with
    | some (.dic kvs) => some (.ref st.nxt, st.new (.dic kvs))
    | _ => none)
  | _ => none) := rfl
@[simp] theorem ev_absD (x : D) (st : Store)  : absD x st = (match x with
  | .int i => some (.int (if i < 0 then -i else i), st)
  | _ => none) := rfl
@[simp] theorem ev_msSub (m o i : ME) (l : Loc) (st : Store) : msSub m o i l st = ((m l st).toS l fun d3 st1 => ((o l st1).toS l fun d1 st2 => (i l st2).toS l fun d2 st3 => match fSet d1 d2 d3 st3 with
  | some st4 => .nx l st4
  | none => .bad)) := rfl
@[simp] theorem ev_mM (T : String) (f : D → FL) (o : ME) (a : MA) (l : Loc) (st : Store) : mM T f o a l st = ((o l st).bind fun x st1 => if tyD T x st1 then (a l st1).bind fun xs st2 => Res.ofO (f x xs st2) else .bad) := rfl
@[simp] theorem ev_fAppend  (x : D) (xs : List D) (st : Store) : fAppend x xs st = (match x, xs with
  | .ref m, [y] => (match st.at_ m with
    | some (.lst zs) => if zs.length < sizeLine then some (.non, st.put m (.lst (zs ++ [y]))) else none
    | _ => none)
  | _, _ => none) := rfl
@[simp] theorem ev_fSet (o i v : D) (st : Store)  : fSet o i v st = (match o with
  | .ref m => (match st.at_ m with
    | some (.lst xs) => (match i with
      | .int k => (match ixN xs.length k with
        | some j => some (st.put m (.lst (xs.set j v)))
        | none => none)
      | _ => none)
    | some (.dic kvs) => if kvs.length < sizeLine then (match i with
      | .str a => some (st.put m (.dic (dPut kvs (Sum.inr a) v)))
      | .int a => some (st.put m (.dic (dPut kvs (Sum.inl a) v)))
      | _ => none) else none
    | _ => none)
  | _ => none) := rfl
@[simp] theorem ev_fIx  (x : D) (y : D) (st : Store) : fIx x y st = (match x, y with
  | .tup xs, .int i => (atI xs i).map fun d => (d, st)
  | .rol xs, .int i => (atI xs i).map fun d => (d, st)
  | .str z, .int i => if z.length ≤ sizeLine then (atI z.cps.toList i).map fun c => (.str ⟨#[c]⟩, st) else none
  | .ref m, k => (match st.at_ m with
    | some (.lst xs) => (match k with
      | .int i => (atI xs i).map fun d => (d, st)
      | _ => none)
    | some (.dic kvs) => (match k with
      | .str a => (dLook kvs (Sum.inr a)).map fun d => (d, st)
      | .int a => (dLook kvs (Sum.inl a)).map fun d => (d, st)
      | _ => none)
    | _ => none)
  | _, _ => none) := rfl
@[simp] theorem ev_fAdd  (x : D) (y : D) (st : Store) : fAdd x y st = (match x, y with
  | .int i, .int j => some (.int (i + j), st)
  | .str a, .str b => if a.length + b.length ≤ sizeLine then some (.str (a ++ b), st) else none
  | .tup xs, .tup ys => if xs.length + ys.length ≤ sizeLine then some (.tup (xs ++ ys), st) else none
  | .ref m, .ref n => match st.at_ m, st.at_ n with
    | some (.lst xs), some (.lst ys) => if xs.length + ys.length ≤ sizeLine then some (.ref st.nxt, st.new (.lst (xs ++ ys))) else none
    | _, _ => none
  | _, _ => none) := rfl
@[simp] theorem ev_fGt  (x : D) (y : D) (st : Store) : fGt x y st = (match x, y with
  | .int i, .int j => some (.bl (decide (j < i)), st)
  | _, _ => none) := rfl
@[simp] theorem ev_fLt  (x : D) (y : D) (st : Store) : fLt x y st = (match x, y with
  | .int i, .int j => some (.bl (decide (i < j)), st)
  | .str i, .str j => some (.bl (decide (i.cps.toList < j.cps.toList)), st)
  | _, _ => none) := rfl
@[simp] theorem ev_fLe  (x : D) (y : D) (st : Store) : fLe x y st = (match x, y with
  | .int i, .int j => some (.bl (decide (i ≤ j)), st)
  | _, _ => none) := rfl
@[simp] theorem ev_fGe  (x : D) (y : D) (st : Store) : fGe x y st = (match x, y with
  | .int i, .int j => some (.bl (decide (j ≤ i)), st)
  | .str i, .str j => some (.bl (!decide (i.cps.toList < j.cps.toList)), st)
  | _, _ => none) := rfl
@[simp] theorem ev_fEq  (x : D) (y : D) (st : Store) : fEq x y st = ((dataEq x y st).map fun b => (.bl b, st)) := rfl
@[simp] theorem ev_fNe  (x : D) (y : D) (st : Store) : fNe x y st = ((dataEq x y st).map fun b => (.bl (!b), st)) := rfl
@[simp] theorem ev_dataEq (x y : D) (st : Store)  : dataEq x y st = (match scalEq x y with
  | some b => some b
  | none => match toData st 20 x, toData st 20 y with
    | some a, some b => some (PyData.eqv a b)
    | _, _ => none) := rfl
@[simp] theorem ev_mSl (a : ME) (lo hi : MO) (l : Loc) (st : Store) : mSl a lo hi l st = ((a l st).bind fun x st1 => (lo l st1).bind fun i st2 => (hi l st2).bind fun j st3 => Res.ofO (fSl x i j st3)) := rfl
@[simp] theorem ev_fSl (x : D) (lo hi : Option Int) (st : Store)  : fSl x lo hi st = (match x with
  | .tup xs => some (.tup (cutD xs lo hi), st)
  | .rol xs => some (.ref st.nxt, st.new (.lst (cutD xs lo hi)))
  | .ref m => (match st.at_ m with
    | some (.lst xs) => some (.ref st.nxt, st.new (.lst (cutD xs lo hi)))
    | _ => none)
  | _ => none) := rfl
@[simp] theorem ev_moNone  (v0 : Loc) (st : Store) : moNone v0 st = (.ok none st) := rfl
@[simp] theorem ev_moSome (m : ME) (l : Loc) (st : Store) : moSome m l st = ((m l st).bind fun d st1 => match d with
  | .int i => .ok (some i) st1
  | _ => .bad) := rfl
@[simp] theorem ev_mIsi (f : TyN → Option Bool) (m : ME) (l : Loc) (st : Store) : mIsi f m l st = ((m1 (isiD f) m) l st) := rfl
@[simp] theorem ev_isiD (f : TyN → Option Bool) (d : D) (st : Store) : isiD f d st = ((tyN st d).bind fun t => (f t).map fun b => (.bl b, st)) := rfl
@[simp] theorem ev_miSeq (m : ME) (l : Loc) (st : Store) : miSeq m l st = ((m l st).bind fun d st1 => match seqOf d st1 with
  | some it => .ok it st1
  | none => .bad) := rfl
@[simp] theorem ev_miRng (f : List D → Option Iter) (a : MA) (l : Loc) (st : Store) : miRng f a l st = ((a l st).bind fun ds st1 => match f ds with
  | some it => .ok it st1
  | none => .bad) := rfl
@[simp] theorem ev_miOf (f : List D → Store → Option Iter) (a : MA) (l : Loc) (st : Store) : miOf f a l st = ((a l st).bind fun ds st1 => match f ds st1 with
  | some it => .ok it st1
  | none => .bad) := rfl
@[simp] theorem ev_miStr (m : ME) (l : Loc) (st : Store) : miStr m l st = ((m l st).bind fun d st1 => match d with
  | .str x => .ok ⟨[], signsOf x⟩ st1
  | _ => .bad) := rfl
@[simp] theorem ev_mDnew  (v0 : Loc) (st : Store) : mDnew v0 st = (.ok (.ref st.nxt) (st.new (.dic []))) := rfl
@[simp] theorem ev_mProp (c : Nat) (F : FD) (m : ME) (l : Loc) (st : Store) : mProp c F m l st = ((m l st).bind fun d st1 => match d with
  | .ref r => (match st1.at_ r with
    | some (.ins c' fs) => if c' = c then (match F [.ref r] st1 with
      | .ok x st2 => .ok x st2
      | _ => .bad) else .bad
    | _ => .bad)
  | _ => .bad) := rfl
@[simp] theorem ev_mFld (c : Nat) (f : Str) (m : ME) (l : Loc) (st : Store) : mFld c f m l st = ((m1 (fldD c f) m) l st) := rfl
@[simp] theorem ev_fldD (c : Nat) (f : Str) (d : D) (st : Store) : fldD c f d st = (match d with
  | .ref r => (match st.at_ r with
    | some (.ins c' fs) => if c' = c then (fs.lookup f).map fun x => (x, st) else none
    | _ => none)
  | _ => none) := rfl
@[simp] theorem ev_msFld (c : Nat) (f : Str) (mo mv : ME) (l : Loc) (st : Store) : msFld c f mo mv l st = ((mv l st).toS l fun v st1 => (mo l st1).toS l fun o st2 => match o with
  | .ref r => (match st2.at_ r with
    | some (.ins c' fs) => if c' = c ∧ fs.length < 1000 then .nx l (st2.put r (.ins c (putA f v fs))) else .bad
    | _ => .bad)
  | _ => .bad) := rfl
@[simp] theorem ev_mCallK (F : FD) (n m : Nat) (ix : List Src) (dds : List D) (a b : MA) (l : Loc) (st : Store) : mCallK F n m ix dds a b l st = ((a l st).bind fun ds st1 => (b l st1).bind fun es st2 => if ds.length = n ∧ es.length = m then F (arr ix ds es dds) st2 else .bad) := rfl
@[simp] theorem ev_mMake (c : Nat) (F : FD) (n m : Nat) (ix : List Src) (dds : List D) (a b : MA) (l : Loc) (st : Store) : mMake c F n m ix dds a b l st = ((a l st).bind fun ds st1 => (b l st1).bind fun es st2 => if ds.length = n ∧ es.length = m then mkIns c F (fun d => arr ix (d :: ds) es dds) st2 else .bad) := rfl
@[simp] theorem ev_mkIns (c : Nat) (F : FD) (g : D → List D) (st : Store)  : mkIns c F g st = ((F (g (.ref st.nxt)) (st.new (.ins c []))).bind fun d st' => match d with
  | .non => .ok (.ref st.nxt) st'
  | _ => .bad) := rfl
@[simp] theorem ev_mChain3 (f g h : F2) (a b c d : ME) (l : Loc) (st : Store) : mChain3 f g h a b c d l st = ((a l st).bind fun x st1 => (b l st1).bind fun y st2 => (Res.ofO (f x y st2)).bind fun z st3 => (toB z st3).bind fun k st4 =>
  if k then (c l st4).bind fun w st5 => (Res.ofO (g y w st5)).bind fun z2 st6 => (toB z2 st6).bind fun k2 st7 => if k2 then (d l st7).bind fun u st8 => Res.ofO (h w u st8) else .ok (.bl false) st7 else .ok (.bl false) st4) := rfl
@[simp] theorem ev_fIsN  (x : D) (y : D) (st : Store) : fIsN x y st = (match y with
  | .non => match x with
    | .cst _ => none
    | .non => some (.bl true, st)
    | _ => some (.bl false, st)
  | _ => none) := rfl
@[simp] theorem ev_fNotN  (x : D) (y : D) (st : Store) : fNotN x y st = (match y with
  | .non => match x with
    | .cst _ => none
    | .non => some (.bl false, st)
    | _ => some (.bl true, st)
  | _ => none) := rfl
@[simp] theorem ev_fNeg  (x : D) (st : Store) : fNeg x st = (match x with
  | .int i => some (.int (-i), st)
  | _ => none) := rfl
@[simp] theorem ev_fIn  (x : D) (y : D) (st : Store) : fIn x y st = ((inB x y st).map fun b => (.bl b, st)) := rfl
@[simp] theorem ev_fNin  (x : D) (y : D) (st : Store) : fNin x y st = ((inB x y st).map fun b => (.bl (!b), st)) := rfl
@[simp] theorem ev_tyD (T : String) (x : D) (st : Store)  : tyD T x st = (match x with
  | .str _ => T == "str"
  | .ref m => (match st.at_ m with
    | some (.lst _) => T == "list"
    | some (.dic _) => T == "dict"
    | _ => false)
  | _ => false) := rfl
@[simp] theorem ev_fMul  (x : D) (y : D) (st : Store) : fMul x y st = (match x, y with
  | .int i, .int j => if CMul i j then some (.int (i * j), st) else none
  | .ref m, .int k => match st.at_ m with
    | some (.lst xs) => if -(2 ^ 63) ≤ k ∧ k < 2 ^ 63 ∧ xs.length * k.toNat ≤ sizeLine then some (.ref st.nxt, st.new (.lst (repL k.toNat xs))) else none
    | _ => none
  | _, _ => none) := rfl
@[simp] theorem ev_lenSetD (d : D) (st : Store)  : lenSetD d st = (match seqOf d st with
  | some it => (match optL keyD it.items with
    | some ks => if ks.length ≤ 4000 then some (.int (cntK [] ks : Nat), st) else none
    | none => none)
  | none => none) := rfl
@[simp] theorem ev_allD (all : Bool) (x : D) (st : Store)  : allD all x st = (match x with
  | .ref m => (match st.at_ m with
    | some (.lst xs) => (boolsD xs).map fun bs => (.bl (if all then bs.all id else bs.any id), st)
    | _ => none)
  | _ => none) := rfl
@[simp] theorem ev_f2I (g : Int → Int → Int) (xs : List D) (st : Store) : f2I g xs st = (match xs with
  | [.int i, .int j] => some (.int (g i j), st)
  | _ => none) := rfl
@[simp] theorem ev_maxI (i j : Int)  : maxI i j = (if j > i then j else i) := rfl
@[simp] theorem ev_minI (i j : Int)  : minI i j = (if j < i then j else i) := rfl
@[simp] theorem ev_msNever  (v0 : Loc) (v1 : Store) : msNever v0 v1 = (.bad) := rfl
open Classical in
@[simp] theorem ev_mLc (mi : MI) (t : TGT) (mt : MT) (me : ME) (vs : List Nat) (l : Loc) (st : Store) : mLc mi t mt me vs l st = ((mi l st).bind fun it st1 => match loopC t mt me it.srcs (wipeL l vs) it.items st1 with
  | .ok ys st2 => if ys.length ≤ sizeLine then .ok (.ref st2.nxt) (st2.new (.lst ys)) else .bad
  | _ => .bad) := rfl
@[simp] theorem ev_seqOf (d : D) (st : Store)  : seqOf d st = (match d with
  | .tup xs => some ⟨[], xs⟩
  | .rol xs => some ⟨[], xs⟩
  | .ref m => (match st.at_ m with
    | some (.lst xs) => some ⟨[(m, xs)], xs⟩
    | _ => none)
  | _ => none) := rfl
@[simp] theorem ev_enumOf (xs : List D) (st : Store)  : enumOf xs st = (match xs with
  | [d] => (seqOf d st).map fun it => ⟨it.srcs, enumFrom 0 it.items⟩
  | _ => none) := rfl
@[simp] theorem ev_zipOf (xs : List D) (st : Store)  : zipOf xs st = (match xs with
  | [d, e] => (match seqOf d st, seqOf e st with
    | some i1, some i2 => some ⟨i1.srcs ++ i2.srcs, zipD i1.items i2.items⟩
    | _, _ => none)
  | _ => none) := rfl
@[simp] theorem ev_tYes_  (v0 : Loc) (st : Store) : tYes_ v0 st = (.ok true st) := rfl
@[simp] theorem ev_mMeth (c : Nat) (name : Str) (F : FD) (n m : Nat) (ix : List Src) (dds : List D) (mo : ME) (a b : MA) (l : Loc) (st : Store) : mMeth c name F n m ix dds mo a b l st = ((mo l st).bind fun o st1 => match o with
  | .ref r => (match st1.at_ r with
    | some (.ins c' fs) => if c' = c ∧ fs.lookup name = none then (a l st1).bind fun ds st2 => (b l st2).bind fun es st3 => if ds.length = n ∧ es.length = m then F (arr ix (.ref r :: ds) es dds) st3 else .bad else .bad
    | _ => .bad)
  | _ => .bad) := rfl
@[simp] theorem ev_sortSetD (d : D) (st : Store)  : sortSetD d st = (match seqOf d st with
  | some it => (match optL intD1 it.items with
    | some ns => if ns.length < 64 then some (.ref st.nxt, st.new (.lst ((sddI ns).map D.int))) else none
    | none => none)
  | none => none) := rfl
@[simp] theorem ev_mLenX (c : Nat) (F : FD) (m : ME) (l : Loc) (st : Store) : mLenX c F m l st = ((m l st).bind fun d st1 => match d with
  | .ref r => (match st1.at_ r with
    | some (.ins c' fs) => if c' = c then (match F [.ref r] st1 with
      | .ok (.int i) st2 => if 0 ≤ i ∧ i < 2 ^ 63 then .ok (.int i) st2 else .bad
      | _ => .bad) else .bad
    | _ => Res.ofO (lenD (.ref r) st1))
  | d => Res.ofO (lenD d st1)) := rfl
@[simp] theorem ev_bind_ok {α β : Type} (a : α) (st : Store) (k : α → Store → Res β) : (Res.ok a st).bind k = k a st := rfl
@[simp] theorem ev_toS_ok {α : Type} (a : α) (st : Store) (l : Loc) (k : α → Store → RS) : (Res.ok a st).toS l k = k a st := rfl
@[simp] theorem ev_ofO_some {α : Type} (p : α × Store) : Res.ofO (some p) = .ok p.1 p.2 := rfl
@[simp] theorem ev_toB (b : Bool) (st : Store) : toB (.bl b) st = .ok b st := rfl
@[simp] theorem ev_fSub (i j : Int) (st : Store) : fSub (.int i) (.int j) st = some (.int (i - j), st) := rfl
@[simp] theorem ev_fMod (i j : Int) (st : Store) : fMod (.int i) (.int j) st = if 0 < j then some (.int (i % j), st) else none := rfl
@[simp] theorem ev_fFdiv (i j : Int) (st : Store) : fFdiv (.int i) (.int j) st = if 0 < j ∧ j < 1073741824 then some (.int (i / j), st) else none := rfl
@[simp] theorem ev_rng1 (j : Int) : rng1 [.int j] = if -(2 ^ 62) ≤ j ∧ j < 2 ^ 62 then some ⟨[], intsFrom 0 j.toNat⟩ else none := rfl
@[simp] theorem ev_mDef (n len : Nat) (body : MS) (ds : List D) (st : Store) : mDef n len body ds st = if ds.length = n then (match body (ds.map some ++ List.replicate (len - n) none) st with
  | .rt d st' => .ok d st'
  | .nx _ st' => .ok .non st'
  | .exc c fs _ st' => .exc c fs st'
  | _ => .bad) else .bad := rfl
@[simp] theorem ev_tyN_non (st : Store) : tyN st .non = some (.b "NoneType") := rfl
@[simp] theorem ev_tyN_bl (st : Store) (b : Bool) : tyN st (.bl b) = some (.b "bool") := rfl
@[simp] theorem ev_tyN_int (st : Store) (b : Int) : tyN st (.int b) = some (.b "int") := rfl
@[simp] theorem ev_tyN_str (st : Store) (b : Str) : tyN st (.str b) = some (.b "str") := rfl
@[simp] theorem ev_tyN_tup (st : Store) (b : List D) : tyN st (.tup b) = some (.b "tuple") := rfl
@[simp] theorem ev_ty_ii : fTy "int" (.b "int") = some true := by decide +kernel
@[simp] theorem ev_ty_ib : fTy "int" (.b "bool") = some true := by decide +kernel
@[simp] theorem ev_ty_bi : fTy "bool" (.b "int") = some false := by decide +kernel
@[simp] theorem ev_ty_bb : fTy "bool" (.b "bool") = some true := by decide +kernel
@[simp] theorem ev_ty_bt : fTy "bool" (.b "tuple") = some false := by decide +kernel
@[simp] theorem ev_ty_is : fTy "int" (.b "str") = some false := by decide +kernel
@[simp] theorem ev_ty_ss : fTy "str" (.b "str") = some true := by decide +kernel
@[simp] theorem ev_ty_si : fTy "str" (.b "int") = some false := by decide +kernel
@[simp] theorem ev_ty_tt : fTy "tuple" (.b "tuple") = some true := by decide +kernel
@[simp] theorem ev_ty_ti : fTy "tuple" (.b "int") = some false := by decide +kernel
@[simp] theorem ev_ty_ts : fTy "tuple" (.b "str") = some false := by decide +kernel
@[simp] theorem ev_ty_tn : fTy "tuple" (.b "NoneType") = some false := by decide +kernel
@[simp] theorem ev_own (c : Nat) (bs : List String) : fOwn c bs (.o c) = some true := if_pos rfl
@[simp] theorem ev_sc_ii (i j : Int) : scalEq (.int i) (.int j) = some (decide (i = j)) := rfl
@[simp] theorem ev_sc_ss (i j : Str) : scalEq (.str i) (.str j) = some (decide (i = j)) := rfl
@[simp] theorem ev_sc_bb (i j : Bool) : scalEq (.bl i) (.bl j) = some (decide (i = j)) := rfl
@[simp] theorem ev_sc_nn : scalEq .non .non = some true := rfl
@[simp] theorem ev_sc_ni (i : Int) : scalEq .non (.int i) = some false := rfl
@[simp] theorem ev_sc_in (i : Int) : scalEq (.int i) .non = some false := rfl
@[simp] theorem ev_sc_tt (xs ys : List D) : scalEq (.tup xs) (.tup ys) = none := rfl
@[simp] theorem ev_sc_rr (m n : Nat) : scalEq (.ref m) (.ref n) = none := rfl
@[simp] theorem ev_put_same {st : Store} {j : Nat} {c : Cell} : (st.put j c).at_ j = some c := Store.put_same
@[simp] theorem ev_new_same {st : Store} {c : Cell} : (st.new c).at_ st.nxt = some c := Store.new_same
@[simp] theorem ev_new_nxt {st : Store} {c : Cell} : (st.new c).nxt = st.nxt + 1 := rfl
@[simp] theorem ev_put_nxt {st : Store} {j : Nat} {c : Cell} : (st.put j c).nxt = st.nxt := rfl
@[simp] theorem ev_put_put {st : Store} {j : Nat} {c d : Cell} : (st.put j c).put j d = st.put j d := Store.put_put
@[simp] theorem le_line0 : 0 ≤ sizeLine := Nat.zero_le _
@[simp] theorem le_line1 : 1 ≤ sizeLine := by decide
@[simp] theorem le_line2 : 2 ≤ sizeLine := by decide
@[simp] theorem le_line3 : 3 ≤ sizeLine := by decide
@[simp] theorem le_line4 : 4 ≤ sizeLine := by decide
theorem ev_atI {α : Type} {xs : List α} {i : Int} {x : α} (h0 : 0 ≤ i) (h : xs[i.toNat]? = some x) : atI xs i = some x := by
  have hl : i.toNat < xs.length := (List.getElem?_eq_some_iff.mp h).1
  unfold atI ixN
  rw [if_pos h0, if_pos (by omega)]
  exact h
@[simp] theorem atI0 {α : Type} (x : α) (xs : List α) : atI (x :: xs) 0 = some x := ev_atI (by omega) rfl
@[simp] theorem atI1 {α : Type} (x y : α) (xs : List α) : atI (x :: y :: xs) 1 = some y := ev_atI (by omega) rfl
@[simp] theorem atI2 {α : Type} (x y z : α) (xs : List α) : atI (x :: y :: z :: xs) 2 = some z := ev_atI (by omega) rfl
@[simp] theorem atI3 {α : Type} (x y z u : α) (xs : List α) : atI (x :: y :: z :: u :: xs) 3 = some u := ev_atI (by omega) rfl
end DV


set_option linter.all false
set_option maxRecDepth 100000
set_option  maxHeartbeats   4000000
/-! DV, part Q: plain law tools: texts as data, membership, sameness. -/
namespace DV
open PySem L2

abbrev TOk (x : Str) : Prop := PyData.strOk x = true
theorem optL_map {α β γ : Type} {f : β → Option γ} {k : α → β} {g : α → γ} : ∀ {xs : List α}, (∀ x ∈ xs, f (k x) = some (g x)) → optL f (xs.map k) = some (xs.map g)
  | [], _ => rfl
  | x :: xs, h => by
    simp only [List.map_cons, optL]
    rw [h x (by simp), optL_map (fun y hy => h y (List.mem_cons_of_mem _ hy))]
theorem toData_str {st : Store} {n : Nat} {x : Str} (h : TOk x) : toData st (n + 1) (.str x) = some (.str x) := by
  simp only [toData]
  rw [if_pos h]
theorem toData_strs {st : Store} {n : Nat} {xs : List Str} (h : ∀ x ∈ xs, TOk x) : optL (toData st (n + 1)) (xs.map D.str) = some (xs.map PyData.str) := optL_map fun x hx => toData_str (h x hx)
theorem toData_tup {st : Store} {n : Nat} {ds : List D} {ps : List PyData} (h : optL (toData st n) ds = some ps) : toData st (n + 1) (.tup ds) = some (.tuple ps) := by
  simp only [toData]
  rw [h]
theorem toData_lst {st : Store} {n m : Nat} {ds : List D} {ps : List PyData} (e : st.at_ m = some (.lst ds)) (h : optL (toData st n) ds = some ps) : toData st (n + 1) (.ref m) = some (.list ps) := by
  simp only [toData, e]
  rw [h]
theorem eqv_str {a b : Str} : PyData.eqv (.str a) (.str b) = decide (a = b) := by
  simp only [PyData.eqv]
  by_cases h : a = b
  · subst h; simp
  · rw [decide_eq_false h]
    exact beq_eq_false_iff_ne.mpr h
theorem eqvAll_strs : ∀ {xs ys : List Str}, PyData.eqvAll (xs.map PyData.str) (ys.map PyData.str) = decide (xs = ys)
  | [], [] => rfl
  | [], y :: ys => by simp [PyData.eqvAll]
  | x :: xs, [] => by simp [PyData.eqvAll]
  | x :: xs, y :: ys => by
    simp only [List.map_cons, PyData.eqvAll, eqv_str, eqvAll_strs (xs := xs) (ys := ys), List.cons.injEq]
    by_cases a : x = y <;> by_cases b : xs = ys <;> simp [a, b]
theorem any_strs {x : Str} : ∀ {ys : List Str}, (ys.map PyData.str).any (fun z => PyData.eqv z (.str x)) = decide (x ∈ ys)
  | [] => by simp
  | y :: ys => by
    simp only [List.map_cons, List.any_cons, eqv_str, any_strs (ys := ys), List.mem_cons]
    by_cases a : y = x
    · subst a; simp
    · have : ¬ x = y := fun e => a e.symm
      simp [a, this]
theorem in_tup {st : Store} {x : Str} {ys : List Str} (hx : TOk x) (h : ∀ y ∈ ys, TOk y) : inB (.str x) (.tup (ys.map D.str)) st = some (decide (x ∈ ys)) := by
  unfold inB
  simp only [toData_str (n := 19) hx, toData_strs (n := 19) h, any_strs]
theorem in_lst {st : Store} {x : Str} {ys : List Str} {m : Nat} (e : st.at_ m = some (.lst (ys.map D.str))) (hx : TOk x) (h : ∀ y ∈ ys, TOk y) : inB (.str x) (.ref m) st = some (decide (x ∈ ys)) := by
  unfold inB
  simp only [e, toData_str (n := 19) hx, toData_strs (n := 19) h, any_strs]
/-- a list of texts, the empty list: are they the same? -/
theorem data_lst0 {st : Store} {m n : Nat} {xs : List Str} (e : st.at_ m = some (.lst (xs.map D.str))) (e2 : st.at_ n = some (.lst [])) (h : ∀ y ∈ xs, TOk y) : dataEq (.ref m) (.ref n) st = some (decide (xs = [])) := by
  have h1 := toData_lst (n := 19) e (toData_strs (n := 18) h)
  have h2 := toData_lst (n := 19) (ps := []) e2 rfl
  unfold dataEq
  simp only [ev_sc_rr, h1, h2]
  show some (PyData.eqvAll (xs.map PyData.str) (([] : List Str).map PyData.str)) = _
  rw [eqvAll_strs]
theorem data_tup0 {st : Store} {xs : List Str} (h : ∀ y ∈ xs, TOk y) : dataEq (.tup (xs.map D.str)) (.tup []) st = some (decide (xs = [])) := by
  have h1 := toData_tup (st := st) (n := 19) (toData_strs (n := 18) h)
  have h2 := toData_tup (st := st) (n := 19) (ds := []) (ps := []) rfl
  unfold dataEq
  simp only [ev_sc_tt, h1, h2]
  show some (PyData.eqvAll (xs.map PyData.str) (([] : List Str).map PyData.str)) = _
  rw [eqvAll_strs]
/-- a tuple that is not empty is not () -/
theorem data_tupC {st : Store} {d : D} {ds : List D} {ps : List PyData} (h : optL (toData st 19) (d :: ds) = some ps) : dataEq (.tup (d :: ds)) (.tup []) st = some false := by
  have h1 := toData_tup (st := st) (n := 19) h
  have h2 := toData_tup (st := st) (n := 19) (ds := []) (ps := []) rfl
  unfold dataEq
  simp only [ev_sc_tt, h1, h2]
  cases ps with
  | nil =>
    unfold optL at h
    cases q : toData st 19 d with
    | none => rw [q] at h; cases h
    | some b =>
      rw [q] at h
      cases q2 : optL (toData st 19) ds with
      | none => simp only [q2] at h; cases h
      | some bs => simp only [q2] at h; cases h
  | cons p ps => rfl
/-- bools of a list of them -/
theorem boolsD_map {α : Type} {f : α → Bool} : ∀ {xs : List α}, boolsD (xs.map fun x => D.bl (f x)) = some (xs.map f)
  | [] => rfl
  | x :: xs => by
    simp only [List.map_cons, boolsD, boolsD_map (xs := xs)]
    rfl
theorem loopC_pureS {α : Type} {t : TGT} {me : ME} {srcs : List (Nat × List D)} {l0 : DV.Loc} {k : α → D} {f : α → D} {st : Store} (so : SrcOk srcs st) : ∀ {xs : List α}, (∀ x ∈ xs, ∃ l1, t (k x) l0 st = some l1 ∧ me l1 st = .ok (f x) st) → loopC t tYes_ me srcs l0 (xs.map k) st = .ok (xs.map f) st
  | [], _ => loopC_nil so
  | x :: xs, h => by
    obtain ⟨l1, h1, h2⟩ := h x (by simp)
    rw [List.map_cons, loopC_cons so h1]
    simp only [ev_tYes_, h2, if_true, loopC_pureS so (fun d hd => h d (List.mem_cons_of_mem _ hd)), List.map_cons]
end DV


set_option Elab.async false
set_option linter.all false
set_option maxRecDepth 100000
set_option  maxHeartbeats   4000000
/-! The jar, the drawn film: what many laws draw. -/
namespace G
open DV PySem L2

/-! ### the jar -/
def JarAt (st : Store) (j : Nat) : Prop := ∃ a b c, st.at_ j = some (.lst [.int a, .int b, .int c])
theorem JarAt.mv {st : Store} {j : Nat} (h : JarAt st j) {st' : Store} {js : List Nat} (k : Kp js st st') (hj : j < st.nxt) (hn : j ∉ js) : JarAt st' j := by
  obtain ⟨a, b, c, e⟩ := h
  exact ⟨a, b, c, k.get e hj hn⟩
theorem JarAt.new {st : Store} {j : Nat} (h : JarAt st j) (hj : j < st.nxt) {c : Cell} : JarAt (st.new c) j := h.mv (js := []) Kp.new hj (by simp)
theorem dip_ok {st : Store} {j : Nat} {n : Int} (h : JarAt st j) (h0 : 0 < n) (h1 : n < 1073741824) :
    ∃ k st', 0 ≤ k ∧ k < n ∧ F_law_dip [.ref j, .int n] st = .ok (.int k) st' ∧ Kp [j] st st' ∧ JarAt st' j := by
  obtain ⟨a, b, c, h⟩ := h
  by_cases hp : 0 < a
  · refine ⟨a % n, st.put j (.lst [.int (a / n), .int b, .int (c + 1)]), Int.emod_nonneg _ (by omega), Int.emod_lt_of_pos _ h0, ?_, Kp.put (by simp), _, _, _, Store.put_same⟩
    simp [F_law_dip, h, hp, h0, h1, ixN]
  · refine ⟨((b * 48271 + (c + 1) * 40503 + 17) % 2147483629 / 4096) % n, st.put j (.lst [.int a, .int ((b * 48271 + (c + 1) * 40503 + 17) % 2147483629), .int (c + 1)]), Int.emod_nonneg _ (by omega), Int.emod_lt_of_pos _ h0, ?_, Kp.put (by simp), _, _, _, Store.put_same⟩
    have e1 : CMul b 48271 := .inr ⟨by decide, by decide⟩
    have e2 : CMul (c + 1) 40503 := .inr ⟨by decide, by decide⟩
    simp [F_law_dip, h, hp, h0, h1, e1, e2, ixN]
/-- pick -/
theorem pick_ok {st : Store} {j m : Nat} {ds : List D} (h : JarAt st j) (hm : st.at_ m = some (.lst ds)) (hj : m ≠ j) (hj2 : m < st.nxt) (h0 : 0 < ds.length) (h1 : ds.length < 1000) :
    ∃ d st', d ∈ ds ∧ F_law_pick [.ref j, .ref m] st = .ok d st' ∧ Kp [j] st st' ∧ JarAt st' j := by
  obtain ⟨k, st', k0, k1, e, kp, jr⟩ := dip_ok (n := (ds.length : Nat)) h (by omega) (by omega)
  have hm2 := kp.get hm hj2 (by simpa using hj)
  have hlt : k.toNat < ds.length := by omega
  refine ⟨ds[k.toNat], st', List.getElem_mem _, ?_, kp, jr⟩
  have e3 : atI ds k = some ds[k.toNat] := ev_atI k0 (List.getElem?_eq_getElem hlt)
  simp [F_law_pick, hm, e, hm2, e3]
theorem rect_ok {st : Store} {j : Nat} {W Hh : Int} (h : JarAt st j) (hW : 0 < W) (hW2 : W < 1073741824) (hH : 0 < Hh) (hH2 : Hh < 1073741824) :
    ∃ l t r b st', 0 ≤ l ∧ l < r ∧ r ≤ W ∧ 0 ≤ t ∧ t < b ∧ b ≤ Hh ∧ F_law_rect [.ref j, .int W, .int Hh] st = .ok (.tup [.int l, .int t, .int r, .int b]) st' ∧ Kp [j] st st' ∧ JarAt st' j := by
  obtain ⟨k1, s1, a1, a2, e1, p1, j1⟩ := dip_ok h hW (by omega)
  obtain ⟨k2, s2, b1, b2, e2, p2, j2⟩ := dip_ok j1 hH (by omega)
  obtain ⟨k3, s3, c1, c2, e3, p3, j3⟩ := dip_ok (n := W - k1) j2 (by omega) (by omega)
  obtain ⟨k4, s4, d1, d2, e4, p4, j4⟩ := dip_ok (n := Hh - k2) j3 (by omega) (by omega)
  refine ⟨k1, k2, k1 + 1 + k3, k2 + 1 + k4, s4, a1, by omega, by omega, b1, by omega, by omega, ?_, p1.trans (p2.trans (p3.trans p4)), j4⟩
  simp [F_law_rect, e1, e2, e3, e4]

/-! ### names, frames, films -/
def SMALLS : Str := "abcdefghijklmnopqrstuvwxyz"
def DIGS : Str := "0123456789"
structure NameOk (x : Str) : Prop where
  t : TOk x
  l8 : x.length ≤ 8
  l1 : 1 ≤ x.length
  n1 : x ≠ "screen"
  n2 : x ≠ "solid"
  n3 : x ≠ "beat"
  first : (x.cps.toList.head?.any fun c => decide (c ∈ SMALLS.cps.toList)) = true
  signs : ∀ c ∈ x.cps.toList, (decide (c ∈ SMALLS.cps.toList) || decide (c ∈ DIGS.cps.toList)) = true
structure Fr where
  ink : Str
  l : Int
  t : Int
  r : Int
  b : Int
  doom : Str
def Fr.part (f : Fr) : D := .tup [.int f.l, .int f.t, .int f.r, .int f.b]
def Fr.d (f : Fr) : D := .tup [.str f.ink, f.part, .str f.doom]
def inks : List Str := ["sky", "a", "bird2"]
def dooms : List Str := ["stays", "wiped", "back"]
def firms : List Str := ["a", "bird2", "sky", "zz"]
theorem firms_t : ∀ x ∈ firms, TOk x ∧ x.length ≤ 8 ∧ 1 ≤ x.length ∧ x ≠ "screen" ∧ x ≠ "solid" ∧ x ≠ "beat" := by decide +kernel
theorem firms_first : ∀ x ∈ firms, (x.cps.toList.head?.any fun c => decide (c ∈ SMALLS.cps.toList)) = true := by decide +kernel
theorem firms_signs : ∀ x ∈ firms, ∀ c ∈ x.cps.toList, (decide (c ∈ SMALLS.cps.toList) || decide (c ∈ DIGS.cps.toList)) = true := by decide +kernel
theorem firms_name {x : Str} (h : x ∈ firms) : NameOk x := by
  obtain ⟨a, b, c, d, e, f⟩ := firms_t x h
  exact ⟨a, b, c, d, e, f, firms_first x h, firms_signs x h⟩
theorem inks_firms : ∀ x ∈ inks, x ∈ firms := by decide +kernel
theorem inks_name {x : Str} (h : x ∈ inks) : NameOk x := firms_name (inks_firms x h)
theorem dooms_ok : ∀ y ∈ dooms, TOk y := by decide +kernel
theorem firms_up : firms.Pairwise fun a b => a.cps.toList < b.cps.toList := by decide +kernel
structure Fr.Ok (f : Fr) (W Hh : Int) : Prop where
  ink : NameOk f.ink
  l0 : 0 ≤ f.l
  lr : f.l < f.r
  rW : f.r ≤ W
  t0 : 0 ≤ f.t
  tb : f.t < f.b
  bH : f.b ≤ Hh
  doom : f.doom ∈ dooms
structure FirmOk (firm : List Str) : Prop where
  name : ∀ x ∈ firm, NameOk x
  up : firm.Pairwise fun a b => a.cps.toList < b.cps.toList
  l8 : firm.length ≤ 8
theorem FirmOk.t {firm : List Str} (h : FirmOk firm) : ∀ x ∈ firm, TOk x := fun x hx => (h.name x hx).t
theorem firm_sub {firm : List Str} (h : firm.Sublist firms) : FirmOk firm := ⟨fun x hx => firms_name (h.subset hx), firms_up.sublist h, Nat.le_trans h.length_le (by decide)⟩
/-- a film's data -/
structure Pic where
  W : Int
  Hh : Int
  fs : List Fr
  firm : List Str
def Pic.d (p : Pic) : D := .tup [.int p.W, .int p.Hh, .tup (p.fs.map Fr.d), .tup (p.firm.map D.str)]
structure Pic.Ok (p : Pic) : Prop where
  W0 : 1 ≤ p.W
  W1 : p.W ≤ 1000000000000
  H0 : 1 ≤ p.Hh
  H1 : p.Hh ≤ 1000000000000
  ne : p.fs ≠ []
  l8 : p.fs.length ≤ 8
  fr : ∀ f ∈ p.fs, f.Ok p.W p.Hh
  firm : FirmOk p.firm
/-- drawn by law_model -/
structure Pic.Drawn (p : Pic) (most : Nat) (wide high : Int) : Prop extends Pic.Ok p where
  Ww : p.W ≤ wide
  Hw : p.Hh ≤ high
  lm : p.fs.length ≤ most
  inks : ∀ f ∈ p.fs, f.ink ∈ G.inks
  sub : p.firm.Sublist firms
/-- the rest of the loop of model -/
theorem model_loop {j m rs : Nat} {ks : List D} {W Hh : Int} (hW : 0 < W) (hW2 : W < 1073741824) (hH : 0 < Hh) (hH2 : Hh < 1073741824) (hks : ∀ d ∈ ks, ∃ x ∈ inks, d = .str x) (hk0 : 0 < ks.length) (hk1 : ks.length < 1000) (hmj : m ≠ j) (hrj : rs ≠ j) (hmr : m ≠ rs) (o1 o2 o3 o4 : Option D) (N0 : Nat) (hj0 : j < N0) :
    ∀ (ds : List D) (fs : List Fr) (x9 x10 : Option D) (st : Store), fs.length + ds.length ≤ 8 → JarAt st j → N0 ≤ m → m < st.nxt → rs < st.nxt → N0 ≤ rs → N0 ≤ st.nxt → st.at_ m = some (.lst ks) → st.at_ rs = some (.lst (fs.map Fr.d)) → (∀ f ∈ fs, f.Ok W Hh ∧ f.ink ∈ inks) →
      ∃ (gs : List Fr) (y9 y10 : Option D) (st' : Store), loopS (tgName 9) law_model_L1 [] ds [some (.ref j), o1, o2, o3, some (.ref m), o4, some (.int W), some (.int Hh), some (.ref rs), x9, x10, none] st =
          .nx [some (.ref j), o1, o2, o3, some (.ref m), o4, some (.int W), some (.int Hh), some (.ref rs), y9, y10, none] st' ∧ gs.length = fs.length + ds.length ∧ (∀ f ∈ gs, f.Ok W Hh ∧ f.ink ∈ inks) ∧ st'.at_ rs = some (.lst (gs.map Fr.d)) ∧ JarAt st' j ∧ Kp [j, rs] st st' := by
  intro ds
  induction ds with
  | nil =>
    intro fs x9 x10 st hl hjr hm0 hm hr hr0 hn hks' hrs hf
    exact ⟨fs, x9, x10, st, loopS_nil srcOk_nil, rfl, hf, hrs, hjr, Kp.refl⟩
  | cons d ds ih =>
    intro fs x9 x10 st hl hjr hm0 hm hr hr0 hn hks' hrs hf
    obtain ⟨k1, s1, a1, a2, e1, p1, j1⟩ := dip_ok (n := 3) hjr (by omega) (by omega)
    -- the rectangle
    have rect : ∃ l t r b s2, 0 ≤ l ∧ l < r ∧ r ≤ W ∧ 0 ≤ t ∧ t < b ∧ b ≤ Hh ∧ (if k1 = 0 then (.ok (.tup [.int 0, .int 0, .int W, .int Hh]) s1 : Res D) else F_law_rect [.ref j, .int W, .int Hh] s1) = .ok (.tup [.int l, .int t, .int r, .int b]) s2 ∧ Kp [j] s1 s2 ∧ JarAt s2 j := by
      by_cases z : k1 = 0
      · exact ⟨0, 0, W, Hh, s1, by omega, hW, by omega, by omega, hH, by omega, by rw [if_pos z], Kp.refl, j1⟩
      · obtain ⟨l, t, r, b, s2, h1, h2, h3, h4, h5, h6, h7, h8, h9⟩ := rect_ok j1 hW hW2 hH hH2
        exact ⟨l, t, r, b, s2, h1, h2, h3, h4, h5, h6, by rw [if_neg z]; exact h7, h8, h9⟩
    obtain ⟨l, t, r, b, s2, h1, h2, h3, h4, h5, h6, e2, p2, j2⟩ := rect
    have q2 := p1.trans p2
    have m2 := q2.get hks' hm (by simpa using hmj)
    obtain ⟨ik, s3, ikm, e3, p3, j3⟩ := pick_ok j2 m2 hmj (Nat.lt_of_lt_of_le hm q2.le) hk0 hk1
    obtain ⟨x, hx, rfl⟩ := hks ik ikm
    have q3 := q2.trans p3
    have hjn : j < s3.nxt := by have := q3.le; omega
    -- the menu of fates
    obtain ⟨dm, s5, dmm, e5, p5, j5⟩ := pick_ok (m := s3.nxt) (ds := [.str "stays", .str "wiped", .str "back", .str "back"]) (st := s3.new (.lst [.str "stays", .str "wiped", .str "back", .str "back"])) (j3.new hjn) Store.new_same (by omega) (by simp) (by simp) (by simp)
    have dm2 : ∃ y ∈ dooms, dm = .str y := by
      simp only [List.mem_cons, List.not_mem_nil, or_false] at dmm
      rcases dmm with h | h | h | h
      · exact ⟨_, by simp [dooms], h⟩
      · exact ⟨"wiped", by simp [dooms], h⟩
      · exact ⟨"back", by simp [dooms], h⟩
      · exact ⟨"back", by simp [dooms], h⟩
    obtain ⟨y, hy, rfl⟩ := dm2
    have q5 : Kp [j] st s5 := q3.trans ((Kp.new (c := .lst [.str "stays", .str "wiped", .str "back", .str "back"])).trans p5)
    have r5 := q5.get hrs hr (by simpa using hrj)
    have m5 := q5.get hks' hm (by simpa using hmj)
    have ln : (fs.map Fr.d).length < sizeLine := Nat.lt_of_lt_of_le (by simp at hl ⊢; omega) (show 1000 ≤ sizeLine by decide)
    have step : law_model_L1 [some (.ref j), o1, o2, o3, some (.ref m), o4, some (.int W), some (.int Hh), some (.ref rs), some d, x10, none] st =
        .nx [some (.ref j), o1, o2, o3, some (.ref m), o4, some (.int W), some (.int Hh), some (.ref rs), some d, some (.tup [.int l, .int t, .int r, .int b]), none] (s5.put rs (.lst (fs.map Fr.d ++ [Fr.d ⟨x, l, t, r, b, y⟩]))) := by
      have t2 := q2.get hrs hr (by simpa using hrj)
      have ln2 : fs.length < sizeLine := by simpa using ln
      by_cases z : k1 = 0
      · rw [if_pos z] at e2
        cases e2
        simp [law_model_L1, e1, z, e3, e5, t2, r5, ln2, Fr.d, Fr.part]
      · rw [if_neg z] at e2
        simp [law_model_L1, e1, z, e2, e3, e5, t2, r5, ln2, Fr.d, Fr.part]
    have q6 : Kp [j, rs] st (s5.put rs (.lst (fs.map Fr.d ++ [Fr.d ⟨x, l, t, r, b, y⟩]))) := (q5.more (by simp)).trans (Kp.put (by simp))
    have j6 : JarAt (s5.put rs (.lst (fs.map Fr.d ++ [Fr.d ⟨x, l, t, r, b, y⟩]))) j := j5.mv (js := [rs]) (Kp.put (by simp)) (by have := q5.le; omega) (by simpa using hrj.symm)
    obtain ⟨gs, y9, y10, st', f1, f2, f3, f4, f5, f6⟩ := ih (fs ++ [⟨x, l, t, r, b, y⟩]) (some d) (some (.tup [.int l, .int t, .int r, .int b])) (s5.put rs (.lst (fs.map Fr.d ++ [Fr.d ⟨x, l, t, r, b, y⟩]))) (by simp at hl ⊢; omega) j6 hm0
      (Nat.lt_of_lt_of_le hm q5.le) (Nat.lt_of_lt_of_le hr q5.le) hr0 (Nat.le_trans hn q5.le) (by rw [Store.put_ne hmr]; exact m5) (by rw [Store.put_same]; simp) (fun f hf' => by
        rcases List.mem_append.mp hf' with z | z
        · exact hf f z
        · rw [List.mem_singleton.mp z]; exact ⟨⟨inks_name hx, h1, h2, h3, h4, h5, h6, hy⟩, hx⟩)
    refine ⟨gs, y9, y10, st', ?_, by simp at f2 ⊢; omega, f3, f4, f5, q6.trans f6⟩
    rw [loopS_nx srcOk_nil (by rfl) step]
    exact f1
/-- the firm names -/
theorem firm_loop {j n : Nat} {all : List D} (hnj : n ≠ j) {l0 : DV.Loc} (h0 : l0.length = 12) (hl : l0[0]? = some (some (.ref j))) : ∀ (xs : List Str) (st : Store), JarAt st j → n < st.nxt → st.at_ n = some (.lst all) →
    ∃ (ys : List Str) (st' : Store), ys.Sublist xs ∧ loopC (tgName 11) law_model_T1 (mVar 11) [(n, all)] l0 (xs.map D.str) st = .ok (ys.map D.str) st' ∧ Kp [j] st st' ∧ JarAt st' j
  | [], st, hj, hn, ha => ⟨[], st, List.Sublist.slnil, loopC_nil (srcOk_one ha), Kp.refl, hj⟩
  | x :: xs, st, hj, hn, ha => by
    obtain ⟨k, s1, a1, a2, e1, p1, j1⟩ := dip_ok (n := 3) hj (by omega) (by omega)
    obtain ⟨ys, s2, b1, b2, b3, b4⟩ := firm_loop hnj h0 hl xs s1 j1 (Nat.lt_of_lt_of_le hn p1.le) (p1.get ha hn (by simpa using hnj))
    have hl2 : (l0.set 11 (some (.str x)))[0]? = some (some (.ref j)) := by rw [List.getElem?_set_ne (by omega)]; exact hl
    have hl3 : (l0.set 11 (some (.str x)))[11]? = some (some (.str x)) := List.getElem?_set_self (by omega)
    have tst : law_model_T1 (l0.set 11 (some (.str x))) st = .ok (decide (k = 0)) s1 := by simp [law_model_T1, hl2, e1]
    have elt : mVar 11 (l0.set 11 (some (.str x))) s1 = .ok (.str x) s1 := by simp [hl3]
    by_cases z : k = 0
    · refine ⟨x :: ys, s2, b1.cons₂ x, ?_, p1.trans b3, b4⟩
      rw [List.map_cons, loopC_cons (srcOk_one ha) (l1 := l0.set 11 (some (.str x))) (by rfl)]
      simp only [tst, elt, b2, z, decide_true, if_true, List.map_cons]
    · refine ⟨ys, s2, b1.cons x, ?_, p1.trans b3, b4⟩
      rw [List.map_cons, loopC_cons (srcOk_one ha) (l1 := l0.set 11 (some (.str x))) (by rfl)]
      simp only [tst, elt, b2, z, decide_false, Bool.false_eq_true, if_false]
theorem cut_inks {k : Int} (h0 : 0 ≤ k) (h1 : k < 3) : ∃ ks, cutD [D.str "sky", D.str "a", D.str "bird2"] none (some (1 + k)) = ks ∧ (∀ d ∈ ks, ∃ x ∈ inks, d = .str x) ∧ 0 < ks.length ∧ ks.length < 1000 := by
  refine ⟨_, rfl, ?_, ?_, ?_⟩
  · intro d hd
    have : d ∈ [D.str "sky", D.str "a", D.str "bird2"] := List.mem_of_mem_drop (List.mem_of_mem_take hd)
    simp only [List.mem_cons, List.not_mem_nil, or_false] at this
    rcases this with h | h | h
    · exact ⟨_, by simp [inks], h⟩
    · exact ⟨"a", by simp [inks], h⟩
    · exact ⟨"bird2", by simp [inks], h⟩
  · have : k = 0 ∨ k = 1 ∨ k = 2 := by omega
    rcases this with h | h | h <;> subst h <;> decide
  · have : k = 0 ∨ k = 1 ∨ k = 2 := by omega
    rcases this with h | h | h <;> subst h <;> decide
theorem model_ok {j : Nat} {st : Store} (most : Nat) (wide high : Int) (hm0 : 0 < most) (hm8 : most ≤ 8) (hw0 : 0 < wide) (hw1 : wide ≤ 1000000) (hh0 : 0 < high) (hh1 : high ≤ 1000000) (hj : JarAt st j) (hjn : j < st.nxt) : ∃ (p : Pic) (st' : Store), p.Drawn most wide high ∧
    F_law_model [.ref j, .int (most : Int), .int wide, .int high] st = .ok p.d st' ∧ Kp [j] st st' ∧ JarAt st' j := by
  -- the pictures
  obtain ⟨k1, s1, a1, a2, e1, p1, j1⟩ := dip_ok (st := st.new (.lst [.str "sky", .str "a", .str "bird2"])) (n := 3) (hj.new hjn) (by omega) (by omega)
  obtain ⟨ks, hc, hks, hk0, hk1⟩ := cut_inks a1 a2
  have n1 : st.nxt + 1 ≤ s1.nxt := p1.le
  have i1 : s1.at_ st.nxt = some (.lst [.str "sky", .str "a", .str "bird2"]) := p1.get Store.new_same (Nat.lt_succ_self _) (by simp; omega)
  -- the firm ones
  have jA : JarAt ((s1.new (.lst ks)).new (.lst [.str "a", .str "bird2", .str "sky", .str "zz"])) j := (j1.new (by omega)).new (by show j < s1.nxt + 1; omega)
  obtain ⟨firm, s2, b1, b2, p2, j2⟩ := firm_loop (j := j) (n := s1.nxt + 1) (all := [.str "a", .str "bird2", .str "sky", .str "zz"]) (by omega) (l0 := [some (.ref j), some (.int (most : Int)), some (.int wide), some (.int high), some (.ref s1.nxt), none, none, none, none, none, none, none]) rfl rfl firms
    ((s1.new (.lst ks)).new (.lst [.str "a", .str "bird2", .str "sky", .str "zz"])) jA (by show s1.nxt + 1 < s1.nxt + 1 + 1; omega) Store.new_same
  have n2 : s1.nxt + 1 + 1 ≤ s2.nxt := p2.le
  have fl : firm.length ≤ 4 := b1.length_le
  have k2 : s2.at_ s1.nxt = some (.lst ks) := p2.get (by rw [Store.new_ne (show s1.nxt ≠ (s1.new (.lst ks)).nxt by show s1.nxt ≠ s1.nxt + 1; omega)]; exact Store.new_same) (by show s1.nxt < s1.nxt + 1 + 1; omega) (by simp; omega)
  have jB : JarAt (s2.new (.lst (firm.map D.str))) j := j2.new (by omega)
  -- sizes
  obtain ⟨k3, s3, c1, c2, e3, p3, j3⟩ := dip_ok (n := wide) jB (by omega) (by omega)
  obtain ⟨k4, s4, d1, d2, e4, p4, j4⟩ := dip_ok (n := high) j3 (by omega) (by omega)
  have n3 : s2.nxt + 1 ≤ s3.nxt := p3.le
  have n4 : s3.nxt ≤ s4.nxt := p4.le
  have jC : JarAt (s4.new (.lst [])) j := j4.new (by omega)
  obtain ⟨k5, s5, f1, f2, e5, p5, j5⟩ := dip_ok (n := (most : Int)) jC (by omega) (by omega)
  have n5 : s4.nxt + 1 ≤ s5.nxt := p5.le
  have k5' : s5.at_ s1.nxt = some (.lst ks) := p5.get (by
    rw [Store.new_ne (by omega)]
    exact p4.get (p3.get (by rw [Store.new_ne (by omega)]; exact k2) (by show s1.nxt < s2.nxt + 1; omega) (by simp; omega)) (by omega) (by simp; omega)) (by show s1.nxt < s4.nxt + 1; omega) (by simp; omega)
  have r5 : s5.at_ s4.nxt = some (.lst []) := p5.get Store.new_same (by show s4.nxt < s4.nxt + 1; omega) (by simp; omega)
  obtain ⟨gs, y9, y10, s6, g1, g2, g3, g4, g5, g6⟩ := model_loop (j := j) (m := s1.nxt) (rs := s4.nxt) (ks := ks) (W := 1 + k3) (Hh := 1 + k4) (by omega) (by omega) (by omega) (by omega) hks hk0 hk1 (by omega) (by omega) (by omega) (some (.int (most : Int))) (some (.int wide)) (some (.int high)) (some (.tup (firm.map D.str))) (j + 1) (by omega)
    (intsFrom 0 (1 + k5).toNat) [] none none s5 (by rw [intsFrom_len]; simp; omega) j5 (by omega) (by omega) (by omega) (by omega) (by omega) k5' r5 (by simp)
  rw [intsFrom_len] at g2
  have gl : gs.length = (1 + k5).toNat := by simpa using g2
  refine ⟨⟨1 + k3, 1 + k4, gs, firm⟩, s6, ⟨⟨by show 1 ≤ 1 + k3; omega, by show 1 + k3 ≤ _; omega, by show 1 ≤ 1 + k4; omega, by show 1 + k4 ≤ _; omega, by show gs ≠ []; intro z; rw [z] at gl; simp at gl; omega, by show gs.length ≤ 8; omega, fun f hf => (g3 f hf).1, firm_sub b1⟩, by show 1 + k3 ≤ wide; omega, by show 1 + k4 ≤ high; omega, by show gs.length ≤ most; omega, fun f hf => (g3 f hf).2, b1⟩, ?_, ?_, g5⟩
  · have q1 : -4611686018427387904 ≤ 1 + k5 := by omega
    have q1' : 1 + k5 < 4611686018427387904 := by omega
    have q2 : (firm.map D.str).length ≤ sizeLine := by rw [List.length_map]; exact small_line (by omega)
    have q2' : firm.length ≤ sizeLine := small_line (by omega)
    have b2' : loopC (tgName 11) law_model_T1 (mVar 11) [(s1.nxt + 1, [.str "a", .str "bird2", .str "sky", .str "zz"])] [some (.ref j), some (.int (most : Int)), some (.int wide), some (.int high), some (.ref s1.nxt), none, none, none, none, none, none, none]
        [.str "a", .str "bird2", .str "sky", .str "zz"] ((s1.new (.lst ks)).new (.lst [.str "a", .str "bird2", .str "sky", .str "zz"])) = .ok (firm.map D.str) s2 := b2
    simp only [F_law_model, ev_mDef, Pic.d, List.length_cons, List.length_nil, if_true, List.map_cons, List.map_nil, List.replicate, List.cons_append, List.nil_append]
    simp [Store.at_new, e1, i1, hc, b2', wipeL, q2', e3, e4, e5, g1, g4, q1, q1']
  · refine (Kp.new (c := .lst [.str "sky", .str "a", .str "bird2"])).trans (p1.trans ?_)
    have t1 : Kp [j] s1 s2 := (Kp.new.trans Kp.new).trans p2
    have t2 : Kp [j] s2 s4 := (Kp.new.trans p3).trans p4
    have t3 : Kp [s4.nxt, j] s4 s6 := (Kp.new.trans (p5.more (by simp))).trans (g6.more (by simp))
    exact t1.trans (t2.trans (t3.drop (Nat.le_refl _)))
end G


set_option Elab.async false
set_option linter.all false
set_option maxRecDepth 100000
set_option  maxHeartbeats   4000000
/-! The film is made. -/
namespace G
open DV PySem L2

theorem is_integer_ok {i : Int} {st : Store} : F_is_integer [.int i] st = .ok (.bl true) st := by simp [F_is_integer]
theorem is_within_ok {v lo hi : Int} {st : Store} (h1 : lo ≤ v) (h2 : v ≤ hi) : F_is_within [.int v, .int lo, .int hi] st = .ok (.bl true) st := by simp [F_is_within, is_integer_ok, h1, h2]
theorem check_size_ok {v : Int} {st : Store} (h1 : 1 ≤ v) (h2 : v ≤ 1000000000000) : F_check_size [.int v] st = .ok .non st := by simp [F_check_size, is_within_ok h1 h2]
/-! ### names -/
theorem one_len (c : Nat) : (⟨#[c]⟩ : Str).length = 1 := rfl
theorem in_txt {c : Nat} {b : Str} {st : Store} : inB (.str ⟨#[c]⟩) (.str b) st = some (decide (c ∈ b.cps.toList)) := by
  unfold inB
  simp only [one_len, if_true]
  rfl
theorem is_name_ok {x : Str} {st : Store} (hx : NameOk x) : ∃ st', F_is_name [.str x] st = .ok (.bl true) st' ∧ Kp [] st st' := by
  obtain ⟨h1, h2, h3, h4, h5, h6, f, sg⟩ := hx
  have hz : x.length ≤ sizeLine := Nat.le_trans h2 (by decide)
  obtain ⟨c, hc, hc2⟩ : ∃ c, atI x.cps.toList 0 = some c ∧ c ∈ SMALLS.cps.toList := by
    cases q : x.cps.toList with
    | nil => rw [q] at f; simp at f
    | cons c r =>
      rw [q] at f
      exact ⟨c, by simp, by simpa using f⟩
  have bar : inB (.str x) (.tup [.str "screen", .str "solid", .str "beat"]) st = some false := by
    have := in_tup (st := st) (x := x) (ys := ["screen", "solid", "beat"]) h1 (by decide +kernel)
    simpa [h4, h5, h6] using this
  have lp : loopC (tgName 1) tYes_ is_name_C1 [] [some (.str x), none] (x.cps.toList.map fun c => D.str ⟨#[c]⟩) st = .ok (x.cps.toList.map fun _ => D.bl true) st := by
    refine loopC_pureS srcOk_nil fun c hc => ⟨[some (.str x), some (.str ⟨#[c]⟩)], rfl, ?_⟩
    have := sg c hc
    have e1 := in_txt (c := c) (b := SMALLS) (st := st)
    have e2 := in_txt (c := c) (b := DIGS) (st := st)
    unfold SMALLS at e1 this
    unfold DIGS at e2 this
    simp only [is_name_C1, ev_mOr, ev_m2, ev_mVar, ev_mC, List.getElem?_cons_succ, List.getElem?_cons_zero, ev_bind_ok, ev_fIn, e1, e2, Option.map_some, ev_ofO_some, ev_toB]
    cases q : decide (c ∈ (Str.ofString "abcdefghijklmnopqrstuvwxyz").cps.toList) with
    | true => simp
    | false =>
      rw [q] at this
      simp at this
      simp [this]
  have al : boolsD (x.cps.toList.map fun _ => D.bl true) = some (x.cps.toList.map fun _ => true) := boolsD_map (f := fun _ => true)
  refine ⟨st.new (.lst (x.cps.toList.map fun _ => D.bl true)), ?_, Kp.new⟩
  have e3 := in_txt (c := c) (b := SMALLS) (st := st)
  unfold SMALLS at e3 hc2
  have h3' : (1 : Int) ≤ x.length := by omega
  have h2' : (x.length : Int) ≤ 8 := by omega
  have hz2 : x.cps.size ≤ sizeLine := hz
  have lp' : loopC (tgName 1) tYes_ is_name_C1 [] [some (.str x), none] (signsOf x) st = .ok (x.cps.toList.map fun _ => D.bl true) st := lp
  simp [F_is_name, hz, h3', h2', hc, e3, hc2, bar, wipeL, lp', al, hz2]
/-! ### parts, frames -/
theorem is_part_ok {l t r b W Hh : Int} {st : Store} (l0 : 0 ≤ l) (lr : l < r) (rW : r ≤ W) (t0 : 0 ≤ t) (tb : t < b) (bH : b ≤ Hh) : ∃ st', F_is_part [.tup [.int l, .int t, .int r, .int b], .int W, .int Hh] st = .ok (.bl true) st' ∧ Kp [] st st' := by
  have lp : loopC (tgName 7) tYes_ is_part_C1 [] [some (.tup [.int l, .int t, .int r, .int b]), some (.int W), some (.int Hh), none, none, none, none, none] ([l, t, r, b].map D.int) st = .ok ([l, t, r, b].map fun _ => D.bl true) st := by
    refine loopC_pureS srcOk_nil fun c hc => ⟨[some (.tup [.int l, .int t, .int r, .int b]), some (.int W), some (.int Hh), none, none, none, none, some (.int c)], rfl, ?_⟩
    simp [is_part_C1, is_integer_ok]
  simp only [List.map_cons, List.map_nil] at lp
  refine ⟨st.new (.lst [.bl true, .bl true, .bl true, .bl true]), ?_, Kp.new⟩
  simp [F_is_part, wipeL, lp, boolsD, l0, lr, rW, t0, tb, bH]
theorem is_word_ok {x : Str} {ys : List Str} {st : Store} (hx : TOk x) (h : ∀ y ∈ ys, TOk y) (hm : x ∈ ys) : F_is_word [.str x, .tup (ys.map D.str)] st = .ok (.bl true) st := by
  simp [F_is_word, in_tup hx h, hm]
theorem is_frame_ok {f : Fr} {W Hh : Int} {st : Store} (h : f.Ok W Hh) : ∃ st', F_is_frame [f.d, .int W, .int Hh] st = .ok (.bl true) st' ∧ Kp [] st st' := by
  obtain ⟨s1, e1, k1⟩ := is_name_ok (st := st) h.ink
  obtain ⟨s2, e2, k2⟩ := is_part_ok (st := s1) h.l0 h.lr h.rW h.t0 h.tb h.bH
  have e3 := is_word_ok (st := s2) (dooms_ok _ h.doom) dooms_ok h.doom
  simp only [dooms, List.map_cons, List.map_nil] at e3
  refine ⟨s2, ?_, k1.trans k2⟩
  simp [F_is_frame, Fr.d, Fr.part, e1, e2, e3]
/-! ### the solid ones -/
theorem solid_loop {all : List Str} (hall : FirmOk all) : ∀ (suf pre : List Str) (x1 x2 : Option D) (st : Store), all = pre ++ suf → ∃ y1 y2 st', loopS (tgTup 2 (tgCons (tgName 1) (tgCons (tgName 2) tgNil))) check_solid_L1 [] (enumFrom pre.length (suf.map D.str)) [some (.tup (all.map D.str)), x1, x2] st =
    .nx [some (.tup (all.map D.str)), y1, y2] st' ∧ Kp [] st st'
  | [], pre, x1, x2, st, e => ⟨x1, x2, st, loopS_nil srcOk_nil, Kp.refl⟩
  | x :: suf, pre, x1, x2, st, e => by
    have hx : NameOk x := hall.name x (by rw [e]; simp)
    obtain ⟨s1, e1, k1⟩ := is_name_ok (st := st) hx
    have hl : all.length ≤ 8 := hall.l8
    have hp : pre.length < 8 := by
      have := congrArg List.length e
      simp at this
      omega
    have ne8 : ¬ ((pre.length : Nat) : Int) = 8 := by omega
    have body : check_solid_L1 [some (.tup (all.map D.str)), some (.int (pre.length : Nat)), some (.str x)] st = .nx [some (.tup (all.map D.str)), some (.int (pre.length : Nat)), some (.str x)] s1 := by
      cases hpre : pre with
      | nil => simp [check_solid_L1, e1]
      | cons p0 pr =>
        have hpos : 0 < pre.length := by rw [hpre]; simp
        have hy : ∃ y, all[pre.length - 1]? = some y ∧ y.cps.toList < x.cps.toList := by
          have up := hall.up
          have h1 : pre.length - 1 < all.length := by rw [e]; simp; omega
          refine ⟨all[pre.length - 1], List.getElem?_eq_getElem h1, ?_⟩
          have h2 : pre.length < all.length := by rw [e]; simp
          have h3 := List.pairwise_iff_getElem.mp up (pre.length - 1) pre.length h1 h2 (by omega)
          have h4 : all[pre.length] = x := by
            have : all[pre.length]? = some x := by rw [e]; simp
            rw [List.getElem?_eq_getElem h2] at this
            exact Option.some.inj this
          rwa [h4] at h3
        obtain ⟨y, hy1, hy2⟩ := hy
        have at1 : atI (all.map D.str) ((pre.length : Nat) - 1 : Int) = some (.str y) := by
          refine ev_atI (by omega) ?_
          have : ((pre.length : Nat) - 1 : Int).toNat = pre.length - 1 := by omega
          rw [this, List.getElem?_map, hy1]
          rfl
        rw [← hpre]
        have hy3 : y.cps < x.cps := by simpa using hy2
        simp [check_solid_L1, e1, ne8, hpos, at1, hy3]
    obtain ⟨y1, y2, s2, e2, k2⟩ := solid_loop hall suf (pre ++ [x]) (some (.int (pre.length : Nat))) (some (.str x)) s1 (by rw [e]; simp)
    refine ⟨y1, y2, s2, ?_, k1.trans k2⟩
    simp only [List.map_cons, enumFrom]
    rw [loopS_nx srcOk_nil (by simp) body]
    simpa using e2
theorem check_solid_ok {firm : List Str} {st : Store} (h : FirmOk firm) : ∃ st', F_check_solid [.tup (firm.map D.str)] st = .ok .non st' ∧ Kp [] st st' := by
  obtain ⟨y1, y2, st', e, k⟩ := solid_loop h firm [] none none st rfl
  refine ⟨st', ?_, k⟩
  have e' : loopS (tgTup 2 (tgCons (tgName 1) (tgCons (tgName 2) tgNil))) check_solid_L1 [] (enumFrom 0 (firm.map D.str)) [some (.tup (firm.map D.str)), none, none] st = .nx [some (.tup (firm.map D.str)), y1, y2] st' := e
  simp [F_check_solid, e']
/-! ### the program's film -/
theorem frames_loop {W Hh : Int} {o0 o1 o2 o3 o4 : Option D} (h1 : o1 = some (.int W)) (h2 : o2 = some (.int Hh)) : ∀ (fs : List Fr) (i : Nat) (x5 x6 : Option D) (st : Store), i + fs.length ≤ 8 → (∀ f ∈ fs, f.Ok W Hh) →
    ∃ y5 y6 st', loopS (tgTup 2 (tgCons (tgName 5) (tgCons (tgName 6) tgNil))) Film_init_L1 [] (enumFrom i (fs.map Fr.d)) [o0, o1, o2, o3, o4, x5, x6] st = .nx [o0, o1, o2, o3, o4, y5, y6] st' ∧ Kp [] st st'
  | [], i, x5, x6, st, _, _ => ⟨x5, x6, st, loopS_nil srcOk_nil, Kp.refl⟩
  | f :: fs, i, x5, x6, st, hi, hf => by
    obtain ⟨s1, e1, k1⟩ := is_frame_ok (st := st) (hf f (by simp))
    obtain ⟨y5, y6, s2, e2, k2⟩ := frames_loop h1 h2 fs (i + 1) (some (.int (i : Nat))) (some f.d) s1 (by simp at hi; omega) fun g hg => hf g (List.mem_cons_of_mem _ hg)
    refine ⟨y5, y6, s2, ?_, k1.trans k2⟩
    have ne8 : ¬ ((i : Nat) : Int) = 8 := by simp at hi; omega
    have body : Film_init_L1 [o0, o1, o2, o3, o4, some (.int (i : Nat)), some f.d] st = .nx [o0, o1, o2, o3, o4, some (.int (i : Nat)), some f.d] s1 := by
      subst h1 h2
      simp [Film_init_L1, ne8, e1]
    simp only [List.map_cons, enumFrom]
    rw [loopS_nx srcOk_nil (by simp) body]
    exact e2
theorem toData_fr {st : Store} {f : Fr} {W Hh : Int} (h : f.Ok W Hh) : ∃ x, toData st 19 f.d = some x := by
  have h1 := h.ink.t
  have h2 := dooms_ok _ h.doom
  refine ⟨.tuple [.str f.ink, .tuple [.int f.l, .int f.t, .int f.r, .int f.b], .str f.doom], ?_⟩
  unfold Fr.d Fr.part
  refine toData_tup (n := 18) ?_
  have e1 := toData_str (st := st) (n := 17) h1
  have e2 := toData_str (st := st) (n := 17) h2
  have e3 : toData st 18 (.tup [.int f.l, .int f.t, .int f.r, .int f.b]) = some (.tuple [.int f.l, .int f.t, .int f.r, .int f.b]) := toData_tup (n := 17) rfl
  simp only [optL, e1, e2, e3]
theorem optL_some {α β : Type} {f : α → Option β} : ∀ {xs : List α}, (∀ x ∈ xs, ∃ y, f x = some y) → ∃ ys, optL f xs = some ys
  | [], _ => ⟨[], rfl⟩
  | x :: xs, h => by
    obtain ⟨y, hy⟩ := h x (by simp)
    obtain ⟨ys, hys⟩ := optL_some (xs := xs) fun z hz => h z (List.mem_cons_of_mem _ hz)
    exact ⟨y :: ys, by simp only [optL, hy, hys]⟩
/-- an object of the film at n -/
def FilmAt (st : Store) (n : Nat) (p : Pic) : Prop := st.at_ n = some (.ins 0 [("all", p.d)])
theorem frames_ne {st : Store} {fs : List Fr} {W Hh : Int} (h0 : fs ≠ []) (hf : ∀ f ∈ fs, f.Ok W Hh) : dataEq (.tup (fs.map Fr.d)) (.tup []) st = some false := by
  cases fs with
  | nil => exact absurd rfl h0
  | cons f fs =>
    obtain ⟨ps, hps⟩ := optL_some (f := toData st 19) (xs := (f :: fs).map Fr.d) fun d hd => by
      obtain ⟨g, hg, rfl⟩ := List.mem_map.mp hd
      exact toData_fr (hf g hg)
    exact data_tupC hps
theorem init_ok {n : Nat} {p : Pic} {st : Store} (hn : n < st.nxt) (hc : st.at_ n = some (.ins 0 [])) (hp : p.Ok) :
    ∃ st', F_Film_init [.ref n, .int p.W, .int p.Hh, .tup (p.fs.map Fr.d), .tup (p.firm.map D.str)] st = .ok .non st' ∧ FilmAt st' n p ∧ Kp [n] st st' := by
  obtain ⟨hW, hW2, hH, hH2, h0, h8, hf, hs⟩ := hp
  have c1 := check_size_ok (v := p.W) (st := st) hW hW2
  have c2 := check_size_ok (v := p.Hh) (st := st) hH hH2
  obtain ⟨y5, y6, s1, e1, k1⟩ := frames_loop (W := p.W) (Hh := p.Hh) (o0 := some (.ref n)) (o1 := some (.int p.W)) (o2 := some (.int p.Hh)) (o3 := some (.tup (p.fs.map Fr.d))) (o4 := some (.tup (p.firm.map D.str))) rfl rfl p.fs 0 none none st (by omega) hf
  obtain ⟨s2, e2, k2⟩ := check_solid_ok (st := s1) hs
  have hc2 : s2.at_ n = some (.ins 0 []) := (k1.trans k2).get0 hc hn
  have emp := frames_ne (st := st) h0 hf
  refine ⟨s2.put n (.ins 0 [("all", p.d)]), ?_, Store.put_same, ((k1.trans k2).nil).trans (Kp.put (by simp))⟩
  have emp' := emp
  rw [ev_dataEq] at emp'
  simp [F_Film_init, c1, c2, emp, e1, e2, hc2, Pic.d, putA]
  simp only [ev_sc_tt] at emp'
  simp [emp', e1, e2, hc2, putA]
theorem made_ok {p : Pic} {st : Store} (hp : p.Ok) :
    ∃ st', F_law_made [p.d] st = .ok (.ref st.nxt) st' ∧ FilmAt st' st.nxt p ∧ Kp [] st st' ∧ st.nxt < st'.nxt := by
  obtain ⟨s1, e1, f1, k1⟩ := init_ok (n := st.nxt) (st := st.new (.ins 0 [])) (Nat.lt_succ_self _) Store.new_same hp
  refine ⟨s1, ?_, f1, (Kp.new.trans k1).drop (Nat.le_refl _), Nat.lt_of_lt_of_le (Nat.lt_succ_self _) k1.le⟩
  simp [F_law_made, Pic.d, arr, Src.of, e1]
end G


set_option Elab.async false
set_option linter.all false
set_option maxRecDepth 100000
set_option  maxHeartbeats   4000000
/-! Properties of a film; one row over another. -/
namespace G
open DV PySem L2

theorem tyN_ins {st : Store} {n c : Nat} {fs : List (Str × D)} (e : st.at_ n = some (.ins c fs)) : tyN st (.ref n) = some (.o c) := by simp [tyN, e]
section
variable {st : Store} {n : Nat} {p : Pic}
theorem look_all {d : D} : List.lookup ("all" : Str) [(("all" : Str), d)] = some d := by simp [List.lookup]
theorem width_ok (h : FilmAt st n p) : F_Film_width [.ref n] st = .ok (.int p.W) st := by
  unfold FilmAt at h
  simp [F_Film_width, h, look_all, Pic.d]
theorem height_ok (h : FilmAt st n p) : F_Film_height [.ref n] st = .ok (.int p.Hh) st := by
  unfold FilmAt at h
  simp [F_Film_height, h, look_all, Pic.d]
theorem frames_ok (h : FilmAt st n p) : F_Film_frames [.ref n] st = .ok (.tup (p.fs.map Fr.d)) st := by
  unfold FilmAt at h
  simp [F_Film_frames, h, look_all, Pic.d]
theorem solid_ok (h : FilmAt st n p) : F_Film_solid [.ref n] st = .ok (.tup (p.firm.map D.str)) st := by
  unfold FilmAt at h
  simp [F_Film_solid, h, look_all, Pic.d]
theorem check_film_ok (h : FilmAt st n p) : F_check_film [.ref n] st = .ok .non st := by
  have e := tyN_ins h
  simp [F_check_film, e]
def players : List Str := ["full", "keeps", "wipes", "blanks"]
theorem players_ok : ∀ y ∈ players, TOk y := by decide +kernel
def Fr.has (f : Fr) (x y : Int) : Bool := (decide (f.l ≤ x) && decide (x < f.r)) && (decide (f.t ≤ y) && decide (y < f.b))
theorem holds_ok {f : Fr} {x y : Int} : F_holds [f.part, .tup [.int x, .int y]] st = .ok (.bl (f.has x y)) st := by
  unfold Fr.part Fr.has
  by_cases h1 : f.l ≤ x <;> by_cases h2 : x < f.r <;> by_cases h3 : f.t ≤ y <;> by_cases h4 : y < f.b <;> simp [F_holds, h1, h2, h3, h4]
theorem parts_ok (h : FilmAt st n p) (hl : p.fs.length ≤ 8) : F_parts_in [.ref n] st = .ok (.ref st.nxt) (st.new (.lst (p.fs.map Fr.part))) := by
  have e := frames_ok h
  unfold FilmAt at h
  have lp : loopC (tgTup 3 (tgCons (tgName 1) (tgCons (tgName 2) (tgCons (tgName 3) tgNil)))) tYes_ (mVar 2) [] [some (.ref n), none, none, none] (p.fs.map Fr.d) st = .ok (p.fs.map Fr.part) st := by
    refine loopC_pureS srcOk_nil fun f hf => ⟨[some (.ref n), some (.str f.ink), some f.part, some (.str f.doom)], ?_, ?_⟩
    · simp [Fr.d, Fr.part]
    · simp
  have hz : p.fs.length ≤ sizeLine := small_line (by omega)
  simp [F_parts_in, h, e, wipeL, lp, hz]
def Pic.cov (p : Pic) (x y : Int) : List Bool := p.fs.map fun f => f.has x y
theorem Pic.cov_len {x y : Int} : (p.cov x y).length = p.fs.length := by simp [Pic.cov]
theorem covers_ok {x y : Int} (h : FilmAt st n p) (hl : p.fs.length ≤ 8) : ∃ st' m, F_covers_at [.ref n, .tup [.int x, .int y]] st = .ok (.ref m) st' ∧ st'.at_ m = some (.lst ((p.cov x y).map D.bl)) ∧ Kp [] st st' ∧ st.nxt ≤ m ∧ m < st'.nxt := by
  have e := parts_ok h hl
  have lp : loopC (tgName 2) tYes_ covers_at_C1 [(st.nxt, p.fs.map Fr.part)] [some (.ref n), some (.tup [.int x, .int y]), none] (p.fs.map Fr.part) (st.new (.lst (p.fs.map Fr.part))) = .ok (p.fs.map fun f => .bl (f.has x y)) (st.new (.lst (p.fs.map Fr.part))) := by
    refine loopC_pureS (srcOk_one Store.new_same) fun f hf => ⟨[some (.ref n), some (.tup [.int x, .int y]), some f.part], rfl, ?_⟩
    have := holds_ok (st := st.new (.lst (p.fs.map Fr.part))) (f := f) (x := x) (y := y)
    simp [covers_at_C1, this]
  have hz : p.fs.length ≤ sizeLine := small_line (by omega)
  refine ⟨(st.new (.lst (p.fs.map Fr.part))).new (.lst ((p.cov x y).map D.bl)), st.nxt + 1, ?_, Store.new_same, Kp.new.trans Kp.new, by omega, by show st.nxt + 1 < st.nxt + 1 + 1; omega⟩
  simp [F_covers_at, e, wipeL, lp, hz, Pic.cov]
  rfl
end

/-! ### one row over another -/
def overL (solid : List Str) : List Str → List Str → List Str
  | found, [] => found
  | found, x :: r => if (found.getLast?.any fun y => decide (y ∈ solid)) = true then found else overL solid (if x ∈ found then found else found ++ [x]) r
theorem overL_cons {solid found r : List Str} {x : Str} : overL solid found (x :: r) = if (found.getLast?.any fun y => decide (y ∈ solid)) = true then found else overL solid (if x ∈ found then found else found ++ [x]) r := rfl
theorem atI_last {α : Type} {xs : List α} {x : α} : atI (xs ++ [x]) (-1) = some x := by
  unfold atI ixN
  rw [if_neg (by omega), if_pos (by simp; omega)]
  simp
  have : ((-1 : Int) + ((xs.length : Int) + 1)).toNat = xs.length := by omega
  rw [this]
  simp
theorem over_loop {solid : List Str} (hs : ∀ x ∈ solid, TOk x) {m : Nat} {o0 o1 : Option D} : ∀ (r found : List Str) (x4 : Option D) (st : Store), (∀ x ∈ r, TOk x) → (∀ x ∈ found, TOk x) → found.length + r.length ≤ 100 → m < st.nxt → st.at_ m = some (.lst (found.map D.str)) →
    ∃ y4 st', loopS (tgName 4) over_L1 [] (r.map D.str) [o0, o1, some (.tup (solid.map D.str)), some (.ref m), x4] st = .nx [o0, o1, some (.tup (solid.map D.str)), some (.ref m), y4] st' ∧ st'.at_ m = some (.lst ((overL solid found r).map D.str)) ∧ Kp [m] st st'
  | [], found, x4, st, _, _, _, _, h => ⟨x4, st, loopS_nil srcOk_nil, h, Kp.refl⟩
  | x :: r, found, x4, st, hr, hf, hl, hm, h => by
    have h1 : (st.new (.lst [])).at_ m = some (.lst (found.map D.str)) := by rw [Store.new_ne (by omega)]; exact h
    have d0 := data_lst0 (st := st.new (.lst [])) h1 Store.new_same hf
    have hne : ¬ m = st.nxt := by omega
    have hx := hr x (by simp)
    -- the test
    have tst : ∀ b, (found.getLast?.any fun y => decide (y ∈ solid)) = b → tAnd_ (tB_ (m2 fNe (mVar 3) (mLst maNil))) (tB_ (m2 fIn (m2 fIx (mVar 3) (m1 fNeg (mC (.int 1)))) (mVar 2))) [o0, o1, some (.tup (solid.map D.str)), some (.ref m), some (.str x)] st = .ok b (st.new (.lst [])) := by
      intro b hb
      rcases List.eq_nil_or_concat found with z | ⟨ys, y, z⟩
      · subst z
        simp at hb
        subst hb
        rw [ev_dataEq, ev_sc_rr] at d0
        simp only at d0
        simp [Store.at_new, d0]
      · have z : found = ys ++ [y] := by simpa using z
        subst z
        simp at hb
        rw [ev_dataEq, ev_sc_rr] at d0
        simp only at d0
        have at1 : atI ((ys ++ [y]).map D.str) (-1) = some (.str y) := by rw [List.map_append]; exact atI_last
        have i1 := in_tup (st := st.new (.lst [])) (x := y) (ys := solid) (hf y (by simp)) hs
        have h2 := h
        simp only [List.map_append, List.map_cons, List.map_nil] at at1 h2 d0
        simp [Store.at_new, hne, d0, h2, at1, i1, hb]
    by_cases q : (found.getLast?.any fun y => decide (y ∈ solid)) = true
    · refine ⟨some (.str x), st.new (.lst []), ?_, ?_, Kp.new⟩
      · have body : over_L1 [o0, o1, some (.tup (solid.map D.str)), some (.ref m), some (.str x)] st = .bk [o0, o1, some (.tup (solid.map D.str)), some (.ref m), some (.str x)] (st.new (.lst [])) := by
          unfold over_L1
          rw [ev_msSeq, ev_msIf, tst true q]
          simp
        rw [List.map_cons, loopS_bk srcOk_nil (by rfl) body]
      · rw [overL_cons, if_pos q]
        exact h1
    · have q' : (found.getLast?.any fun y => decide (y ∈ solid)) = false := by simpa using q
      have ml := in_lst (st := st.new (.lst [])) (x := x) h1 hx hf
      have hz : found.length < sizeLine := Nat.lt_of_le_of_lt (show found.length ≤ 100 by omega) (by decide)
      have body : over_L1 [o0, o1, some (.tup (solid.map D.str)), some (.ref m), some (.str x)] st = .nx [o0, o1, some (.tup (solid.map D.str)), some (.ref m), some (.str x)] (if x ∈ found then st.new (.lst []) else (st.new (.lst [])).put m (.lst ((found ++ [x]).map D.str))) := by
        unfold over_L1
        rw [ev_msSeq, ev_msIf, tst false q']
        by_cases z : x ∈ found
        · simp [ml, z]
        · simp [ml, z, h1, hz]
      have hat : (if x ∈ found then st.new (.lst []) else (st.new (.lst [])).put m (.lst ((found ++ [x]).map D.str))).at_ m = some (.lst ((if x ∈ found then found else found ++ [x]).map D.str)) := by
        by_cases z : x ∈ found
        · rw [if_pos z, if_pos z]; exact h1
        · rw [if_neg z, if_neg z]; exact Store.put_same
      have hkp : Kp [m] st (if x ∈ found then st.new (.lst []) else (st.new (.lst [])).put m (.lst ((found ++ [x]).map D.str))) := by
        by_cases z : x ∈ found
        · rw [if_pos z]; exact Kp.new
        · rw [if_neg z]; exact Kp.new.trans (Kp.put (by simp))
      obtain ⟨y4, s2, e1, e2, e3⟩ := over_loop hs (m := m) (o0 := o0) (o1 := o1) r (if x ∈ found then found else found ++ [x]) (some (.str x)) _ (fun y hy => hr y (List.mem_cons_of_mem _ hy)) (by
        intro y hy
        by_cases z : x ∈ found
        · rw [if_pos z] at hy; exact hf y hy
        · rw [if_neg z] at hy
          rcases List.mem_append.mp hy with w | w
          · exact hf y w
          · rw [List.mem_singleton.mp w]; exact hx) (by split <;> simp at hl ⊢ <;> omega) (Nat.lt_of_lt_of_le hm hkp.le) hat
      refine ⟨y4, s2, ?_, ?_, hkp.trans e3⟩
      · rw [List.map_cons, loopS_nx srcOk_nil (by rfl) body]
        exact e1
      · rw [e2, overL_cons, if_neg q]
theorem over_ok {solid top bot : List Str} {st : Store} (hs : ∀ x ∈ solid, TOk x) (ht : ∀ x ∈ top, TOk x) (hb : ∀ x ∈ bot, TOk x) (hl : top.length + bot.length ≤ 100) :
    ∃ st', F_over [.tup (top.map D.str), .tup (bot.map D.str), .tup (solid.map D.str)] st = .ok (.tup ((overL solid top bot).map D.str)) st' ∧ Kp [] st st' := by
  obtain ⟨y4, s1, e1, e2, e3⟩ := over_loop hs (m := st.nxt) (o0 := some (.tup (top.map D.str))) (o1 := some (.tup (bot.map D.str))) bot top none (st.new (.lst (top.map D.str))) hb ht hl (Nat.lt_succ_self _) Store.new_same
  refine ⟨s1, ?_, (Kp.new.trans e3).drop (Nat.le_refl _)⟩
  simp [F_over, e1, e2]
end G


set_option Elab.async false
set_option linter.all false
set_option maxRecDepth 100000
set_option  maxHeartbeats   4000000
/-! Stands, fates, what a film plays at a spot. -/
namespace G
open DV PySem L2

structure Stand where
  row : List Str
  closed : Bool
def Stand.d (s : Stand) : D := .tup [.tup (s.row.map D.str), .bl s.closed]
instance : DecidableEq Stand := fun a b => decidable_of_iff (a.row = b.row ∧ a.closed = b.closed) (by cases a; cases b; simp)
def lastIn (solid found : List Str) : Bool := found.getLast?.any fun y => decide (y ∈ solid)
def laidP (solid : List Str) (ink : Str) (s : Stand) : Stand := ⟨overL solid [ink] s.row, s.closed || lastIn solid (overL solid [ink] s.row)⟩
theorem overL_sub {solid : List Str} : ∀ (r found : List Str) (x : Str), x ∈ overL solid found r → x ∈ found ∨ x ∈ r
  | [], found, x, h => .inl h
  | y :: r, found, x, h => by
    rw [overL_cons] at h
    by_cases q : (found.getLast?.any fun y => decide (y ∈ solid)) = true
    · rw [if_pos q] at h; exact .inl h
    · rw [if_neg q] at h
      rcases overL_sub r _ x h with z | z
      · by_cases w : y ∈ found
        · rw [if_pos w] at z; exact .inl z
        · rw [if_neg w] at z
          rcases List.mem_append.mp z with a | a
          · exact .inl a
          · rw [List.mem_singleton.mp a]; exact .inr (by simp)
      · exact .inr (List.mem_cons_of_mem _ z)
theorem laid_ok {solid : List Str} {ink : Str} {s : Stand} {st : Store} (hs : ∀ x ∈ solid, TOk x) (hi : TOk ink) (hr : ∀ x ∈ s.row, TOk x) (hl : s.row.length ≤ 50) :
    ∃ st', F_laid [.tup [.str ink], s.d, .tup (solid.map D.str)] st = .ok (laidP solid ink s).d st' ∧ Kp [] st st' := by
  obtain ⟨s1, e1, k1⟩ := over_ok (st := st) (top := [ink]) hs (by simpa using hi) hr (by simp; omega)
  simp only [List.map_cons, List.map_nil] at e1
  have hf : ∀ x ∈ overL solid [ink] s.row, TOk x := fun x hx => by
    rcases overL_sub _ _ _ hx with z | z
    · rw [List.mem_singleton.mp z]; exact hi
    · exact hr x z
  refine ⟨s1, ?_, k1⟩
  unfold laidP Stand.d lastIn
  generalize overL solid [ink] s.row = found at e1 hf
  have d0 := data_tup0 (st := s1) hf
  rw [ev_dataEq, ev_sc_tt] at d0
  simp only at d0
  cases hc : s.closed with
  | true => simp [F_laid, e1]
  | false =>
    rcases List.eq_nil_or_concat found with z | ⟨ys, y, z⟩
    · subst z
      simp only [List.map_nil] at d0
      simp [F_laid, e1, d0]
    · have z : found = ys ++ [y] := by simpa using z
      subst z
      have at1 : atI ((ys ++ [y]).map D.str) (-1) = some (.str y) := by rw [List.map_append]; exact atI_last
      have i1 := in_tup (st := s1) (x := y) (ys := solid) (hf y (by simp)) hs
      simp only [List.map_append, List.map_cons, List.map_nil] at at1 d0 e1
      simp [F_laid, e1, d0, at1, i1]
/-! ### fates -/
def fateOf (who doom : Str) : Str := if doom = "back" ∧ (who = "keeps" ∨ who = "wipes") then (if who = "keeps" then "stays" else "wiped") else doom
theorem fate_ok {who doom : Str} {st : Store} (hw : TOk who) : F_played_fate [.str who, .str doom] st = .ok (.str (fateOf who doom)) st := by
  have i1 := in_tup (st := st) (x := who) (ys := ["keeps", "wipes"]) hw (by decide +kernel)
  simp only [List.map_cons, List.map_nil, List.mem_cons, List.not_mem_nil, or_false] at i1
  unfold fateOf
  have ne : ¬ (("wipes" : Str) = "keeps") := by decide +kernel
  by_cases h1 : doom = "back"
  · by_cases h2 : who = "keeps"
    · subst h2
      simp [F_played_fate, h1, i1]
    · by_cases h3 : who = "wipes"
      · subst h3
        simp [F_played_fate, h1, i1, ne]
      · simp [F_played_fate, h1, i1, h2, h3]
  · simp [F_played_fate, h1]
/-! ### played -/
def nothing : Stand := ⟨[], true⟩
def anything : Stand := ⟨[], false⟩
theorem nothing_d : nothing.d = .tup [.tup [], .bl true] := rfl
def stepS (solid : List Str) (who : Str) (s : Stand) (c : Bool) (f : Fr) : Stand :=
  if fateOf who f.doom = "wiped" ∧ (c = true ∨ who = "blanks") then nothing else if fateOf who f.doom = "back" then s else (if c then laidP solid f.ink s else s)
/-- what is shown at each frame -/
def showS (solid : List Str) (who : Str) : List Bool → List Fr → Stand → List Stand
  | c :: cs, f :: fs, s => (if c then laidP solid f.ink s else s) :: showS solid who cs fs (stepS solid who s c f)
  | _, _, _ => []
/-- what is there then -/
def lastS (solid : List Str) (who : Str) : List Bool → List Fr → Stand → Stand
  | c :: cs, f :: fs, s => lastS solid who cs fs (stepS solid who s c f)
  | _, _, s => s
theorem showS_len {solid : List Str} {who : Str} : ∀ (cs : List Bool) (fs : List Fr) (s : Stand), cs.length = fs.length → (showS solid who cs fs s).length = fs.length
  | [], [], _, _ => rfl
  | [], _ :: _, _, h => by simp at h
  | _ :: _, [], _, h => by simp at h
  | c :: cs, f :: fs, s, h => by
    simp only [showS, List.length_cons]
    rw [showS_len cs fs _ (by simpa using h)]
structure Stand.Ok (I : List Str) (s : Stand) : Prop where
  inks : ∀ z ∈ s.row, z ∈ I
  nd : s.row.Nodup
theorem Stand.Ok.none {I : List Str} {b : Bool} : Stand.Ok I ⟨[], b⟩ := ⟨by simp, by simp⟩
theorem no_Ok {I : List Str} : nothing.Ok I := Stand.Ok.none
theorem any_Ok {I : List Str} : anything.Ok I := Stand.Ok.none
theorem Stand.Ok.sub {I J : List Str} {s : Stand} (h : s.Ok I) (hs : ∀ z ∈ I, z ∈ J) : s.Ok J := ⟨fun z hz => hs z (h.inks z hz), h.nd⟩
theorem overL_nd {solid : List Str} : ∀ (r found : List Str), found.Nodup → (overL solid found r).Nodup
  | [], found, h => h
  | y :: r, found, h => by
    rw [overL_cons]
    by_cases q : (found.getLast?.any fun y => decide (y ∈ solid)) = true
    · rw [if_pos q]; exact h
    · rw [if_neg q]
      refine overL_nd r _ ?_
      by_cases w : y ∈ found
      · rw [if_pos w]; exact h
      · rw [if_neg w]
        rw [List.nodup_append]
        refine ⟨h, by simp, ?_⟩
        intro a ha b hb e
        rw [List.mem_singleton] at hb
        exact w (by rw [← hb, ← e]; exact ha)
theorem laid_Ok {I solid : List Str} {ink : Str} {s : Stand} (hi : ink ∈ I) (h : s.Ok I) : (laidP solid ink s).Ok I := by
  refine ⟨fun z hz => ?_, overL_nd _ _ (by simp)⟩
  rcases overL_sub _ _ _ hz with w | w
  · rw [List.mem_singleton.mp w]; exact hi
  · exact h.inks z w
theorem seen_Ok {I solid : List Str} {f : Fr} {c : Bool} {s : Stand} (hi : f.ink ∈ I) (h : s.Ok I) : Stand.Ok I (if c then laidP solid f.ink s else s) := by
  split
  · exact laid_Ok hi h
  · exact h
theorem step_Ok {I solid : List Str} {who : Str} {c : Bool} {s : Stand} {f : Fr} (hi : f.ink ∈ I) (h : s.Ok I) : (stepS solid who s c f).Ok I := by
  unfold stepS
  split
  · exact no_Ok
  · split
    · exact h
    · exact seen_Ok hi h
theorem show_Ok {I solid : List Str} {who : Str} : ∀ (cs : List Bool) (fs : List Fr) (s : Stand), (∀ f ∈ fs, f.ink ∈ I) → s.Ok I → ∀ t ∈ showS solid who cs fs s, t.Ok I
  | [], _, _, _, _, t, ht => by simp [showS] at ht
  | _ :: _, [], _, _, _, t, ht => by simp [showS] at ht
  | c :: cs, f :: fs, s, hf, h, t, ht => by
    simp only [showS, List.mem_cons] at ht
    rcases ht with rfl | ht
    · exact seen_Ok (hf f (by simp)) h
    · exact show_Ok cs fs _ (fun g hg => hf g (List.mem_cons_of_mem _ hg)) (step_Ok (hf f (by simp)) h) t ht
theorem last_Ok {I solid : List Str} {who : Str} : ∀ (cs : List Bool) (fs : List Fr) (s : Stand), (∀ f ∈ fs, f.ink ∈ I) → s.Ok I → (lastS solid who cs fs s).Ok I
  | [], _, _, _, h => h
  | _ :: _, [], _, _, h => h
  | c :: cs, f :: fs, s, hf, h => last_Ok cs fs _ (fun g hg => hf g (List.mem_cons_of_mem _ hg)) (step_Ok (hf f (by simp)) h)
theorem nodup_len : ∀ (l m : List Str), l.Nodup → (∀ x ∈ l, x ∈ m) → l.length ≤ m.length
  | [], m, _, _ => Nat.zero_le _
  | x :: l, m, h1, h2 => by
    rw [List.nodup_cons] at h1
    have hx := h2 x (by simp)
    have ih := nodup_len l (m.erase x) h1.2 fun y hy => (List.mem_erase_of_ne fun e => h1.1 (by rw [← e]; exact hy)).mpr (h2 y (List.mem_cons_of_mem _ hy))
    rw [List.length_erase_of_mem hx] at ih
    have : 0 < m.length := List.length_pos_of_mem hx
    simp only [List.length_cons]
    omega
theorem Stand.Ok.len {I : List Str} {s : Stand} (h : s.Ok I) : s.row.length ≤ I.length := nodup_len _ _ h.nd h.inks
/-- all texts of a list can stand in data, and it is short -/
structure InkOk (I : List Str) : Prop where
  t : ∀ z ∈ I, TOk z
  l : I.length ≤ 40
theorem Stand.Ok.t {I : List Str} {s : Stand} (h : s.Ok I) (hI : InkOk I) : ∀ z ∈ s.row, TOk z := fun z hz => hI.t z (h.inks z hz)
def Pic.inks (p : Pic) : List Str := p.fs.map (·.ink)
theorem Pic.Ok.inkOk {p : Pic} (h : p.Ok) : InkOk p.inks := ⟨fun z hz => by
  obtain ⟨f, hf, rfl⟩ := List.mem_map.mp hz
  exact (h.fr f hf).ink.t, by have := h.l8; simp [Pic.inks]; omega⟩
theorem Pic.mem_inks {p : Pic} {f : Fr} (h : f ∈ p.fs) : f.ink ∈ p.inks := List.mem_map.mpr ⟨f, h, rfl⟩
theorem inksOk : InkOk G.inks := ⟨fun z hz => (inks_name hz).t, by decide⟩
theorem played_loop {n cm seen : Nat} {p : Pic} {I : List Str} {who : Str} {cv : List D} (hs : ∀ z ∈ p.firm, TOk z) (hI : InkOk I) (hw : TOk who) (hsc : seen ≠ cm) (hsn : seen ≠ n) : ∀ (bs : List Bool) (fs : List Fr) (s : Stand) (o5 o6 o7 o8 o9 : Option D) (st : Store) (sl : List D),
    bs.length = fs.length → (∀ f ∈ fs, f.ink ∈ I) → s.Ok I → FilmAt st n p → n < st.nxt → cm < st.nxt → seen < st.nxt → st.at_ cm = some (.lst cv) → st.at_ seen = some (.lst sl) → sl.length + fs.length ≤ 100 →
    ∃ o5' o6' o7' o8' o9' st', loopS (tgTup 2 (tgCons (tgName 5) (tgCons (tgTup 3 (tgCons (tgName 6) (tgCons (tgName 7) (tgCons (tgName 8) tgNil)))) tgNil))) played_L1 [(cm, cv)] (zipD (bs.map D.bl) (fs.map Fr.d)) [some (.ref n), some (.ref cm), some (.str who), some s.d, some (.ref seen), o5, o6, o7, o8, o9] st =
      .nx [some (.ref n), some (.ref cm), some (.str who), some (lastS p.firm who bs fs s).d, some (.ref seen), o5', o6', o7', o8', o9'] st' ∧ Kp [seen] st st' ∧ st'.at_ seen = some (.lst (sl ++ (showS p.firm who bs fs s).map Stand.d)) := by
  intro bs
  induction bs with
  | nil =>
    intro fs s o5 o6 o7 o8 o9 st sl hbl _ _ _ _ _ _ hc hse _
    refine ⟨o5, o6, o7, o8, o9, st, ?_, Kp.refl, by simpa [showS] using hse⟩
    simp only [List.map_nil, zipD]
    exact loopS_nil (srcOk_one hc)
  | cons b bs ih =>
    intro fs s o5 o6 o7 o8 o9 st sl hbl hf hso hF hn hcm hsn' hc hse hl
    match fs, hbl with
    | f :: fs, hbl =>
    have hfi := hf f (by simp)
    have hi := hI.t _ hfi
    have hrow := hso.t hI
    have hlen := hso.len
    have hil := hI.l
    obtain ⟨s1, e1, k1⟩ := laid_ok (st := st) (solid := p.firm) (ink := f.ink) (s := s) hs hi hrow (by omega)
    -- what is shown
    have shown : ∃ sh s2, sh = (if b then laidP p.firm f.ink s else s) ∧ mIf (tB_ (mVar 5)) (mCall F_laid [] (maCons (mTup (maCons (mVar 6) maNil)) (maCons (mVar 3) (maCons (mProp 0 F_Film_solid (mVar 0)) maNil)))) (mVar 3)
        [some (.ref n), some (.ref cm), some (.str who), some s.d, some (.ref seen), some (.bl b), some (.str f.ink), some f.part, some (.str f.doom), o9] st = .ok sh.d s2 ∧ Kp [] st s2 := by
      have so := solid_ok hF
      have hF' := hF
      unfold FilmAt at hF'
      cases b with
      | true => exact ⟨_, s1, rfl, by simp [hF', so, e1], k1⟩
      | false => exact ⟨_, st, rfl, by simp, Kp.refl⟩
    obtain ⟨sh, s2, hsh, e2, k2⟩ := shown
    have hse2 := k2.get0 hse hsn'
    have hz : sl.length < sizeLine := Nat.lt_of_le_of_lt (show sl.length ≤ 100 by omega) (by decide)
    have fo := fate_ok (who := who) (doom := f.doom) (st := s2.put seen (.lst (sl ++ [sh.d]))) hw
    have kp3 : Kp [seen] st (s2.put seen (.lst (sl ++ [sh.d]))) := k2.nil.trans (Kp.put (by simp))
    have body : played_L1 [some (.ref n), some (.ref cm), some (.str who), some s.d, some (.ref seen), some (.bl b), some (.str f.ink), some f.part, some (.str f.doom), o9] st =
        .nx [some (.ref n), some (.ref cm), some (.str who), some (stepS p.firm who s b f).d, some (.ref seen), some (.bl b), some (.str f.ink), some f.part, some (.str (fateOf who f.doom)), some sh.d] (s2.put seen (.lst (sl ++ [sh.d]))) := by
      unfold played_L1
      rw [ev_msSeq, ev_msAsg, e2]
      unfold stepS
      rw [← hsh]
      by_cases a1 : fateOf who f.doom = "wiped"
      · have ne : ¬ (("wiped" : Str) = "back") := by decide +kernel
        cases a2 : b with
        | true => simp [hse2, hz, fo, a1, a2, nothing_d]
        | false =>
          by_cases a3 : who = "blanks"
          · subst a3
            simp [hse2, hz, fo, a1, a2, nothing_d]
          · simp [hse2, hz, fo, a1, a2, a3, ne]
      · by_cases a4 : fateOf who f.doom = "back"
        · simp [hse2, hz, fo, a1, a4]
          have ne2 : ¬ (("back" : Str) = "wiped") := by decide +kernel
          simp [ne2]
        · simp [hse2, hz, fo, a1, a4]
    obtain ⟨p5, p6, p7, p8, p9, s4, e4, k4, q4⟩ := ih fs (stepS p.firm who s b f) (some (.bl b)) (some (.str f.ink)) (some f.part) (some (.str (fateOf who f.doom))) (some sh.d) (s2.put seen (.lst (sl ++ [sh.d]))) (sl ++ [sh.d]) (by simpa using hbl) (fun g hg => hf g (List.mem_cons_of_mem _ hg)) (step_Ok hfi hso)
      (kp3.get hF hn (by simpa using hsn.symm)) (Nat.lt_of_lt_of_le hn kp3.le) (Nat.lt_of_lt_of_le hcm kp3.le) (Nat.lt_of_lt_of_le hsn' kp3.le) (kp3.get hc hcm (by simpa using hsc.symm)) Store.put_same (by simp at hl ⊢; omega)
    refine ⟨p5, p6, p7, p8, p9, s4, ?_, kp3.trans k4, by rw [q4, hsh]; simp [showS]⟩
    simp only [List.map_cons, zipD]
    rw [loopS_nx (srcOk_one hc) (by simp [Fr.d]) body]
    exact e4
theorem played_ok {n cm : Nat} {p : Pic} {I : List Str} {who : Str} {bs : List Bool} {s : Stand} {st : Store} (hF : FilmAt st n p) (hn : n < st.nxt) (hp : p.Ok) (hI : InkOk I) (hin : ∀ f ∈ p.fs, f.ink ∈ I) (hw : TOk who) (hc : st.at_ cm = some (.lst (bs.map D.bl))) (hcm : cm < st.nxt) (hbl : bs.length = p.fs.length) (hso : s.Ok I) :
    ∃ m st', F_played [.ref n, .ref cm, .str who, s.d] st = .ok (.tup [.ref m, (lastS p.firm who bs p.fs s).d]) st' ∧ Kp [] st st' ∧ st.nxt ≤ m ∧ m < st'.nxt ∧ st'.at_ m = some (.lst ((showS p.firm who bs p.fs s).map Stand.d)) := by
  have F2 : FilmAt (st.new (.lst [])) n p := (Kp.new (js := [])).get0 hF hn
  have h8 := hp.l8
  have em : (st.new (.lst [])).at_ cm = some (.lst (bs.map D.bl)) := by rw [Store.new_ne (by omega)]; exact hc
  obtain ⟨p5, p6, p7, p8, p9, s2, e3, k2, q2⟩ := played_loop (n := n) (cm := cm) (seen := st.nxt) (who := who) (cv := bs.map D.bl) hp.firm.t hI hw (by omega) (by omega) bs p.fs s none none none none none (st.new (.lst [])) [] hbl hin hso F2 (Nat.lt_succ_of_lt hn) (Nat.lt_succ_of_lt hcm) (Nat.lt_succ_self _)
    em Store.new_same (by simp; omega)
  have fr := frames_ok F2
  have hF2 := F2
  unfold FilmAt at hF2
  refine ⟨st.nxt, s2, ?_, (Kp.new.trans k2).drop (Nat.le_refl _), Nat.le_refl _, Nat.lt_of_lt_of_le (Nat.lt_succ_self _) k2.le, by simpa using q2⟩
  simp only [F_played, ev_mDef, List.length_cons, List.length_nil, if_true, List.map_cons, List.map_nil, List.replicate, List.cons_append, List.nil_append]
  simp [hF2, fr, em, e3]
theorem played_at {n : Nat} {p : Pic} {who : Str} {x y : Int} {s : Stand} {st : Store} (hF : FilmAt st n p) (hn : n < st.nxt) (hp : p.Ok) (hw : TOk who) (hso : s.Ok p.inks) :
    ∃ cm m s1 st', F_covers_at [.ref n, .tup [.int x, .int y]] st = .ok (.ref cm) s1 ∧ F_played [.ref n, .ref cm, .str who, s.d] s1 = .ok (.tup [.ref m, (lastS p.firm who (p.cov x y) p.fs s).d]) st' ∧ Kp [] st st' ∧ st.nxt ≤ m ∧ m < st'.nxt ∧ st'.at_ m = some (.lst ((showS p.firm who (p.cov x y) p.fs s).map Stand.d)) := by
  obtain ⟨s1, cm, e1, e2, k1, hm1, hm2⟩ := covers_ok (x := x) (y := y) hF hp.l8
  obtain ⟨m, s2, e3, k2, n1, n2, q⟩ := played_ok (k1.get0 hF hn) (Nat.lt_of_lt_of_le hn k1.le) hp hp.inkOk (fun f hf => Pic.mem_inks hf) hw e2 hm2 Pic.cov_len hso
  exact ⟨cm, m, s1, s2, e1, e3, k1.trans k2, Nat.le_trans k1.le n1, n2, q⟩
theorem full_t : TOk "full" := by decide +kernel
theorem sights_ok {n : Nat} {p : Pic} {x y : Int} {st : Store} {l t : D} (hF : FilmAt st n p) (hn : n < st.nxt) (hp : p.Ok) :
    ∃ st' m, F_sights [.ref n, .tup [.int x, .int y, l, t]] st = .ok (.ref m) st' ∧ Kp [] st st' ∧ st.nxt ≤ m ∧ m < st'.nxt ∧ st'.at_ m = some (.lst ((showS p.firm "full" (p.cov x y) p.fs nothing).map Stand.d)) := by
  obtain ⟨cm, m, s1, s2, e1, e2, k, n1, n2, q⟩ := played_at (x := x) (y := y) (s := nothing) hF hn hp full_t no_Ok
  refine ⟨s2, m, ?_, k, n1, n2, q⟩
  rw [nothing_d] at e2
  have cu : cutD [D.int x, D.int y, l, t] none (some 2) = [D.int x, D.int y] := rfl
  simp [F_sights, cu, e1, e2]
end G


set_option Elab.async false
set_option linter.all false
set_option maxRecDepth 100000
set_option  maxHeartbeats   4000000
/-! Colours; what the law plays. -/
namespace G
open DV PySem L2

theorem law_in_ok {f : Fr} {x y : Int} {st : Store} : F_law_in [f.part, .tup [.int x, .int y]] st = .ok (.bl (f.has x y)) st := by
  unfold Fr.part Fr.has
  by_cases h1 : f.l ≤ x <;> by_cases h2 : x < f.r <;> by_cases h3 : f.t ≤ y <;> by_cases h4 : y < f.b <;> simp [F_law_in, h1, h2, h3, h4]
/-! ### colours -/
abbrev Col := Option Int
def colD : Col → D
  | some i => .int i
  | none => .non
/-- a dict of colours -/
def PatAt (st : Store) (r : Nat) (done : List Str) (pat : Str → Col) : Prop := st.at_ r = some (.dic (done.map fun x => (Sum.inr x, colD (pat x))))
theorem look_pat {pat : Str → Col} {x : Str} : ∀ {done : List Str}, x ∈ done → dLook (done.map fun x => ((Sum.inr x : Key), colD (pat x))) (Sum.inr x) = some (colD (pat x))
  | [], h => by simp at h
  | y :: r, h => by
    unfold dLook
    simp only [List.map_cons, List.find?_cons]
    by_cases e : y = x
    · subst e; simp
    · have : ¬ ((Sum.inr y : Key) = Sum.inr x) := fun z => e (Sum.inr.inj z)
      simp only [this, decide_false]
      have ih := look_pat (pat := pat) (done := r) (by
        rcases List.mem_cons.mp h with z | z
        · exact absurd z.symm e
        · exact z)
      unfold dLook at ih
      exact ih
theorem ix_pat {st : Store} {r : Nat} {pat : Str → Col} {x : Str} {done : List Str} (h : PatAt st r done pat) (hx : x ∈ done) : fIx (.ref r) (.str x) st = some (colD (pat x), st) := by
  unfold PatAt at h
  have := look_pat (pat := pat) hx
  simp only [ev_fIx, h, this, Option.map_some]
theorem col_notN {c : Col} {st : Store} : fNotN (colD c) .non st = some (.bl c.isSome, st) := by cases c <;> rfl
theorem col_isN {c : Col} {st : Store} : fIsN (colD c) .non st = some (.bl (!c.isSome), st) := by cases c <;> rfl
theorem col_ne {a b : Col} {st : Store} : fNe (colD a) (colD b) st = some (.bl (!decide (a = b)), st) := by
  cases a <;> cases b <;> simp [colD, fNe, dataEq]
/-! ### play -/
def stepC (pat : Str → Col) (who : Str) (c : Col) (b : Bool) (f : Fr) : Col :=
  if fateOf who f.doom = "wiped" ∧ (b = true ∨ who = "blanks") then none else if fateOf who f.doom = "back" then c else (if b = true ∧ (pat f.ink).isSome = true then pat f.ink else c)
/-- the colours seen at each frame -/
def colsC (pat : Str → Col) (who : Str) : List Bool → List Fr → Col → List Col
  | b :: bs, f :: fs, c => (if b = true ∧ (pat f.ink).isSome = true then pat f.ink else c) :: colsC pat who bs fs (stepC pat who c b f)
  | _, _, _ => []
def lastC (pat : Str → Col) (who : Str) : List Bool → List Fr → Col → Col
  | b :: bs, f :: fs, c => lastC pat who bs fs (stepC pat who c b f)
  | _, _, c => c
theorem colsC_len {pat : Str → Col} {who : Str} : ∀ (cs : List Bool) (fs : List Fr) (s : Col), cs.length = fs.length → (colsC pat who cs fs s).length = fs.length
  | [], [], _, _ => rfl
  | [], _ :: _, _, h => by simp at h
  | _ :: _, [], _, h => by simp at h
  | c :: cs, f :: fs, s, h => by
    simp only [colsC, List.length_cons]
    rw [colsC_len cs fs _ (by simpa using h)]
def covF (fs : List Fr) (x y : Int) : List Bool := fs.map fun f => f.has x y
theorem play_loop {r seen : Nat} {x y : Int} {pat : Str → Col} {who : Str} {md : D} {I : List Str} (hw : TOk who) (hsr : seen ≠ r) : ∀ (fs : List Fr) (c : Col) (o6 o7 o8 o9 o10 : Option D) (st : Store) (sl : List D), (∀ f ∈ fs, f.ink ∈ I) → PatAt st r I pat → r < st.nxt → seen < st.nxt → st.at_ seen = some (.lst sl) → sl.length + fs.length ≤ 100 →
    ∃ p6 p7 p8 p9 p10 st', loopS (tgTup 3 (tgCons (tgName 6) (tgCons (tgName 7) (tgCons (tgName 8) tgNil)))) law_play_L1 [] (fs.map Fr.d) [some md, some (.tup [.int x, .int y]), some (.ref r), some (.str who), some (colD c), some (.ref seen), o6, o7, o8, o9, o10] st =
      .nx [some md, some (.tup [.int x, .int y]), some (.ref r), some (.str who), some (colD (lastC pat who (covF fs x y) fs c)), some (.ref seen), p6, p7, p8, p9, p10] st' ∧ Kp [seen] st st' ∧ st'.at_ seen = some (.lst (sl ++ (colsC pat who (covF fs x y) fs c).map colD)) := by
  intro fs
  induction fs with
  | nil =>
    intro c o6 o7 o8 o9 o10 st sl _ _ _ _ hse _
    exact ⟨o6, o7, o8, o9, o10, st, loopS_nil srcOk_nil, Kp.refl, by simpa [colsC, covF] using hse⟩
  | cons f fs ih =>
    intro c o6 o7 o8 o9 o10 st sl hf hp hr hs hse hl
    have hfo := hf f (by simp)
    have hin := law_in_ok (f := f) (x := x) (y := y) (st := st)
    have hix := ix_pat hp hfo
    have hz : sl.length < sizeLine := Nat.lt_of_le_of_lt (show sl.length ≤ 100 by omega) (by decide)
    -- the colour
    have col : ∃ c1, c1 = (if f.has x y = true ∧ (pat f.ink).isSome = true then pat f.ink else c) ∧ mIf (tAnd_ (tB_ (mVar 10)) (tB_ (m2 fNotN (m2 fIx (mVar 2) (mVar 6)) (mC .non)))) (m2 fIx (mVar 2) (mVar 6)) (mVar 4)
        [some md, some (.tup [.int x, .int y]), some (.ref r), some (.str who), some (colD c), some (.ref seen), some (.str f.ink), some f.part, some (.str f.doom), some (colD c), some (.bl (f.has x y))] st = .ok (colD c1) st := by
      refine ⟨_, rfl, ?_⟩
      have e1 : ∀ l, (l : DV.Loc)[2]? = some (some (.ref r)) → l[6]? = some (some (.str f.ink)) → m2 fIx (mVar 2) (mVar 6) l st = .ok (colD (pat f.ink)) st := by
        intro l h2 h6
        simp only [ev_m2, ev_mVar, h2, h6, ev_bind_ok, hix, ev_ofO_some]
      have e2 := e1 [some md, some (.tup [.int x, .int y]), some (.ref r), some (.str who), some (colD c), some (.ref seen), some (.str f.ink), some f.part, some (.str f.doom), some (colD c), some (.bl (f.has x y))] rfl rfl
      simp only [ev_mIf, ev_tAnd_, ev_tB_, ev_mVar, List.getElem?_cons_succ, List.getElem?_cons_zero, ev_bind_ok, ev_toB]
      cases q : f.has x y with
      | false => simp only [Bool.false_eq_true, if_false, ev_bind_ok, false_and]
      | true =>
        rw [q] at e2
        have e3 : m2 fNotN (m2 fIx (mVar 2) (mVar 6)) (mC .non) [some md, some (.tup [.int x, .int y]), some (.ref r), some (.str who), some (colD c), some (.ref seen), some (.str f.ink), some f.part, some (.str f.doom), some (colD c), some (.bl true)] st = .ok (.bl (pat f.ink).isSome) st := by
          rw [ev_m2, e2]
          simp only [ev_bind_ok, ev_mC, col_notN, ev_ofO_some]
        simp only [if_true, e3, e2, ev_bind_ok, ev_toB, true_and]
        cases (pat f.ink).isSome <;> simp only [Bool.false_eq_true, if_false, if_true]
    obtain ⟨c1, hc1, e2⟩ := col
    have t1 : TOk "keeps" := by decide +kernel
    have i1 : ∀ st1 : Store, inB (.str who) (.ref st1.nxt) (st1.new (.lst [.str "keeps", .str "wipes"])) = some (decide (who = "keeps" ∨ who = "wipes")) := fun st1 => by
      have := in_lst (st := st1.new (.lst [.str "keeps", .str "wipes"])) (x := who) (ys := ["keeps", "wipes"]) Store.new_same hw (by decide +kernel)
      simpa using this
    -- the fate
    have fate : ∃ s3, msIf (tAnd_ (tB_ (m2 fEq (mVar 8) (mC (.str "back")))) (tB_ (m2 fIn (mVar 3) (mLst (maCons (mC (.str "keeps")) (maCons (mC (.str "wipes")) maNil))))))
        (msAsg (mIf (tB_ (m2 fEq (mVar 3) (mC (.str "keeps")))) (mC (.str "stays")) (mC (.str "wiped"))) (tgName 8)) msNil
        [some md, some (.tup [.int x, .int y]), some (.ref r), some (.str who), some (colD c1), some (.ref seen), some (.str f.ink), some f.part, some (.str f.doom), some (colD c), some (.bl (f.has x y))] (st.put seen (.lst (sl ++ [colD c1]))) =
        .nx [some md, some (.tup [.int x, .int y]), some (.ref r), some (.str who), some (colD c1), some (.ref seen), some (.str f.ink), some f.part, some (.str (fateOf who f.doom)), some (colD c), some (.bl (f.has x y))] s3 ∧ Kp [seen] st s3 ∧ (∃ sl', sl' = sl ++ [colD c1] ∧ s3.at_ seen = some (.lst sl')) := by
      have ne : ¬ (("wipes" : Str) = "keeps") := by decide +kernel
      have kp : Kp [seen] st (st.put seen (.lst (sl ++ [colD c1]))) := Kp.put (by simp)
      have kn : Kp [seen] st ((st.put seen (.lst (sl ++ [colD c1]))).new (.lst [.str "keeps", .str "wipes"])) := kp.trans Kp.new
      have an : ((st.put seen (.lst (sl ++ [colD c1]))).new (.lst [.str "keeps", .str "wipes"])).at_ seen = some (.lst (sl ++ [colD c1])) := by
        rw [Store.new_ne (show seen ≠ (st.put seen (.lst (sl ++ [colD c1]))).nxt by show seen ≠ st.nxt; omega), Store.put_same]
      have i2 := i1 (st.put seen (.lst (sl ++ [colD c1])))
      rw [Store.put_nxt] at i2
      unfold fateOf
      by_cases h1 : f.doom = "back"
      · refine ⟨_, ?_, kn, _, rfl, an⟩
        by_cases h2 : who = "keeps"
        · subst h2
          simp [h1, i2]
        · by_cases h3 : who = "wipes"
          · subst h3
            simp [h1, i2, ne]
          · simp [h1, i2, h2, h3]
      · refine ⟨_, ?_, kp, _, rfl, Store.put_same⟩
        simp [h1]
    obtain ⟨s3, e3, k3, sl', hsl', a3⟩ := fate
    have body : law_play_L1 [some md, some (.tup [.int x, .int y]), some (.ref r), some (.str who), some (colD c), some (.ref seen), some (.str f.ink), some f.part, some (.str f.doom), o9, o10] st =
        .nx [some md, some (.tup [.int x, .int y]), some (.ref r), some (.str who), some (colD (stepC pat who c (f.has x y) f)), some (.ref seen), some (.str f.ink), some f.part, some (.str (fateOf who f.doom)), some (colD c), some (.bl (f.has x y))] s3 := by
      have p1 : msPar 9 10 (maCons (mVar 4) (maCons (mCall F_law_in [] (maCons (mVar 7) (maCons (mVar 1) maNil))) maNil)) [some md, some (.tup [.int x, .int y]), some (.ref r), some (.str who), some (colD c), some (.ref seen), some (.str f.ink), some f.part, some (.str f.doom), o9, o10] st =
          .nx [some md, some (.tup [.int x, .int y]), some (.ref r), some (.str who), some (colD c), some (.ref seen), some (.str f.ink), some f.part, some (.str f.doom), some (colD c), some (.bl (f.has x y))] st := by simp [hin]
      have p3 : msExpr (mM "list" fAppend (mVar 5) (maCons (mVar 4) maNil)) [some md, some (.tup [.int x, .int y]), some (.ref r), some (.str who), some (colD c1), some (.ref seen), some (.str f.ink), some f.part, some (.str f.doom), some (colD c), some (.bl (f.has x y))] st =
          .nx [some md, some (.tup [.int x, .int y]), some (.ref r), some (.str who), some (colD c1), some (.ref seen), some (.str f.ink), some f.part, some (.str f.doom), some (colD c), some (.bl (f.has x y))] (st.put seen (.lst (sl ++ [colD c1]))) := by simp [hse, hz]
      unfold law_play_L1
      rw [ev_msSeq, p1]
      simp only
      rw [ev_msSeq, ev_msAsg, e2]
      simp only [ev_toS_ok, ev_tgName, List.set_cons_succ, List.set_cons_zero]
      rw [ev_msSeq, p3]
      simp only
      rw [ev_msSeq, e3]
      unfold stepC
      rw [← hc1]
      by_cases a1 : fateOf who f.doom = "wiped"
      · have ne : ¬ (("wiped" : Str) = "back") := by decide +kernel
        cases a2 : f.has x y with
        | true => simp [a1, colD]
        | false =>
          by_cases a3 : who = "blanks"
          · subst a3
            simp [a1, colD]
          · rw [a2] at hc1
            simp at hc1
            simp [a1, a3, ne, hc1]
      · by_cases a4 : fateOf who f.doom = "back"
        · have ne2 : ¬ (("back" : Str) = "wiped") := by decide +kernel
          simp [a4, ne2]
        · simp [a1, a4]
    obtain ⟨p6, p7, p8, p9, p10, s4, e4, k4, q4⟩ := ih (stepC pat who c (f.has x y) f) (some (.str f.ink)) (some f.part) (some (.str (fateOf who f.doom))) (some (colD c)) (some (.bl (f.has x y))) s3 sl' (fun g hg => hf g (List.mem_cons_of_mem _ hg)) (k3.get hp hr (by simpa using hsr.symm)) (Nat.lt_of_lt_of_le hr k3.le) (Nat.lt_of_lt_of_le hs k3.le) a3 (by rw [hsl']; simp at hl ⊢; omega)
    refine ⟨p6, p7, p8, p9, p10, s4, ?_, k3.trans k4, by rw [q4, hsl', hc1]; simp [colsC, covF]⟩
    rw [List.map_cons, loopS_nx srcOk_nil (by simp [Fr.d]) body]
    exact e4
theorem play_ok {r : Nat} {x y : Int} {pat : Str → Col} {who : Str} {fs : List Fr} {d1 d2 d3 : D} {I : List Str} {c : Col} {st : Store} (hw : TOk who) (hf : ∀ f ∈ fs, f.ink ∈ I) (hl : fs.length ≤ 50) (hp : PatAt st r I pat) (hr : r < st.nxt) :
    ∃ st', F_law_play [.tup [d1, d2, .tup (fs.map Fr.d), d3], .tup [.int x, .int y], .ref r, .str who, colD c] st = .ok (.tup [.ref st.nxt, colD (lastC pat who (covF fs x y) fs c)]) st' ∧ Kp [] st st' ∧ st.nxt < st'.nxt ∧ st'.at_ st.nxt = some (.lst ((colsC pat who (covF fs x y) fs c).map colD)) := by
  obtain ⟨p6, p7, p8, p9, p10, s1, e1, k1, q1⟩ := play_loop (r := r) (seen := st.nxt) (x := x) (y := y) (pat := pat) (md := .tup [d1, d2, .tup (fs.map Fr.d), d3]) hw (by omega) fs c none none none none none (st.new (.lst [])) [] hf ((Kp.new (js := [])).get0 hp hr) (Nat.lt_succ_of_lt hr) (Nat.lt_succ_self _) Store.new_same (by simp; omega)
  refine ⟨s1, ?_, (Kp.new.trans k1).drop (Nat.le_refl _), Nat.lt_of_lt_of_le (Nat.lt_succ_self _) k1.le, by simpa using q1⟩
  simp [F_law_play, e1]
end G


set_option Elab.async false
set_option linter.all false
set_option maxRecDepth 100000
set_option  maxHeartbeats   4000000
/-! Rows and colours: what colours show of rows. -/
namespace G
open DV PySem L2
/-! ### rows and colours: the law by itself -/
def valP (pat : Str → Col) (row : List Str) : Col := (row.filterMap pat).head?
theorem valP_nil {pat : Str → Col} : valP pat [] = none := rfl
theorem valP_one {pat : Str → Col} {x : Str} : valP pat [x] = pat x := by
  unfold valP
  cases h : pat x <;> simp [h]
theorem valP_app {pat : Str → Col} {a b : List Str} : valP pat (a ++ b) = (valP pat a).or (valP pat b) := by
  unfold valP
  rw [List.filterMap_append, List.head?_append]
theorem valP_cons {pat : Str → Col} {x : Str} {r : List Str} : valP pat (x :: r) = (pat x).or (valP pat r) := by
  have := valP_app (pat := pat) (a := [x]) (b := r)
  rw [valP_one] at this
  exact this
theorem valP_none {pat : Str → Col} : ∀ {r : List Str}, valP pat r = none → ∀ x ∈ r, pat x = none
  | [], _, x, h => by simp at h
  | y :: r, h, x, hx => by
    rw [valP_cons] at h
    cases q : pat y with
    | some c => rw [q] at h; simp at h
    | none =>
      rw [q] at h
      simp at h
      rcases List.mem_cons.mp hx with z | z
      · rw [z]; exact q
      · exact valP_none h x z
theorem lastIn_val {pat : Str → Col} {solid found : List Str} (hs : ∀ z ∈ found, z ∈ solid → (pat z).isSome = true) (h : lastIn solid found = true) : valP pat found ≠ none := by
  intro e
  unfold lastIn at h
  cases q : found.getLast? with
  | none => rw [q] at h; simp at h
  | some y =>
    rw [q] at h
    simp at h
    have hm : y ∈ found := List.mem_of_getLast? q
    have := hs y hm h
    rw [valP_none e y hm] at this
    simp at this
theorem overL_val {pat : Str → Col} {solid : List Str} : ∀ (r found : List Str), (∀ z, z ∈ found ∨ z ∈ r → z ∈ solid → (pat z).isSome = true) → valP pat (overL solid found r) = (valP pat found).or (valP pat r)
  | [], found, _ => by rw [valP_nil]; simp [overL]
  | y :: r, found, hs => by
    rw [overL_cons]
    by_cases q : (found.getLast?.any fun y => decide (y ∈ solid)) = true
    · rw [if_pos q]
      have := lastIn_val (pat := pat) (solid := solid) (found := found) (fun z hz => hs z (.inl hz)) q
      cases e : valP pat found with
      | none => exact absurd e this
      | some c => simp
    · rw [if_neg q]
      rw [overL_val r _ (fun z hz => hs z (by
        rcases hz with h | h
        · by_cases w : y ∈ found
          · rw [if_pos w] at h; exact .inl h
          · rw [if_neg w] at h
            rcases List.mem_append.mp h with a | a
            · exact .inl a
            · rw [List.mem_singleton.mp a]; exact .inr (by simp)
        · exact .inr (List.mem_cons_of_mem _ h)))]
      rw [valP_cons]
      by_cases w : y ∈ found
      · rw [if_pos w]
        cases e : valP pat found with
        | some c => simp
        | none => rw [valP_none e y w]; simp
      · rw [if_neg w, valP_app, valP_one]
        cases valP pat found <;> simp
structure Stand.Good (firm I : List Str) (s : Stand) : Prop where
  ok : s.Ok I
  drop : ∀ z ∈ s.row.dropLast, z ∉ firm
  last : lastIn firm s.row = true → s.closed = true
theorem overL_drop {solid : List Str} : ∀ (r found : List Str), (∀ z ∈ found.dropLast, z ∉ solid) → ∀ z ∈ (overL solid found r).dropLast, z ∉ solid
  | [], found, h => h
  | y :: r, found, h => by
    rw [overL_cons]
    by_cases q : (found.getLast?.any fun y => decide (y ∈ solid)) = true
    · rw [if_pos q]; exact h
    · rw [if_neg q]
      refine overL_drop r _ ?_
      by_cases w : y ∈ found
      · rw [if_pos w]; exact h
      · rw [if_neg w]
        intro z hz
        simp only [List.dropLast_concat] at hz
        rcases List.eq_nil_or_concat found with e | ⟨ys, u, e⟩
        · subst e; simp at hz
        · have e : found = ys ++ [u] := by simpa using e
          subst e
          simp at q h
          rcases List.mem_append.mp hz with a | a
          · exact h z a
          · rw [List.mem_singleton.mp a]; exact q
theorem laid_Good {firm I : List Str} {ink : Str} {s : Stand} (hi : ink ∈ I) (h : s.Good firm I) : (laidP firm ink s).Good firm I := by
  refine ⟨laid_Ok hi h.ok, overL_drop _ _ (by simp), ?_⟩
  intro q
  show (s.closed || lastIn firm (overL firm [ink] s.row)) = true
  rw [show lastIn firm (overL firm [ink] s.row) = true from q]
  simp
theorem seen_Good {firm I : List Str} {f : Fr} {c : Bool} {s : Stand} (hi : f.ink ∈ I) (h : s.Good firm I) : Stand.Good firm I (if c then laidP firm f.ink s else s) := by
  split
  · exact laid_Good hi h
  · exact h
theorem any_Good {firm I : List Str} : anything.Good firm I := ⟨any_Ok, by simp [anything], by simp [anything, lastIn]⟩
theorem no_Good {firm I : List Str} : nothing.Good firm I := ⟨no_Ok, by simp [nothing], by simp [nothing, lastIn]⟩
theorem step_Good {firm I : List Str} {who : Str} {c : Bool} {s : Stand} {f : Fr} (hi : f.ink ∈ I) (h : s.Good firm I) : (stepS firm who s c f).Good firm I := by
  unfold stepS
  split
  · exact no_Good
  · split
    · exact h
    · exact seen_Good hi h
theorem show_Good {firm I : List Str} {who : Str} : ∀ (cs : List Bool) (fs : List Fr) (s : Stand), (∀ f ∈ fs, f.ink ∈ I) → s.Good firm I → ∀ t ∈ showS firm who cs fs s, t.Good firm I
  | [], _, _, _, _, t, ht => by simp [showS] at ht
  | _ :: _, [], _, _, _, t, ht => by simp [showS] at ht
  | c :: cs, f :: fs, s, hf, h, t, ht => by
    simp only [showS, List.mem_cons] at ht
    rcases ht with rfl | ht
    · exact seen_Good (hf f (by simp)) h
    · exact show_Good cs fs _ (fun g hg => hf g (List.mem_cons_of_mem _ hg)) (step_Good (hf f (by simp)) h) t ht
theorem last_Good {firm I : List Str} {who : Str} : ∀ (cs : List Bool) (fs : List Fr) (s : Stand), (∀ f ∈ fs, f.ink ∈ I) → s.Good firm I → (lastS firm who cs fs s).Good firm I
  | [], _, _, _, h => h
  | _ :: _, [], _, _, h => h
  | c :: cs, f :: fs, s, hf, h => last_Good cs fs _ (fun g hg => hf g (List.mem_cons_of_mem _ hg)) (step_Good (hf f (by simp)) h)
/-- what is there, by a stand -/
def nu (pat : Str → Col) (first : Col) (s : Stand) : Col := if valP pat s.row = none ∧ s.closed = false then first else valP pat s.row
/-- no picture that is firm has a hole -/
def Full (firm I : List Str) (pat : Str → Col) : Prop := ∀ z ∈ firm, z ∈ I → (pat z).isSome = true
theorem laid_nu {firm I : List Str} {pat : Str → Col} {first : Col} {s : Stand} {f : Fr} (hp : Full firm I pat) (hi : f.ink ∈ I) (h : s.Ok I) : (if (pat f.ink).isSome = true then pat f.ink else nu pat first s) = nu pat first (laidP firm f.ink s) := by
  have hz : ∀ z, z ∈ [f.ink] ∨ z ∈ s.row → z ∈ firm → (pat z).isSome = true := fun z hz hf => hp z hf (by
    rcases hz with w | w
    · rw [List.mem_singleton.mp w]; exact hi
    · exact h.inks z w)
  have ov := overL_val (pat := pat) (solid := firm) s.row [f.ink] hz
  rw [valP_one] at ov
  have hl : valP pat (overL firm [f.ink] s.row) = none → lastIn firm (overL firm [f.ink] s.row) = false := fun e => by
    cases q : lastIn firm (overL firm [f.ink] s.row) with
    | false => rfl
    | true => exact absurd e (lastIn_val (fun z hz2 => hz z (overL_sub _ _ _ hz2)) q)
  unfold nu laidP
  simp only
  rw [ov]
  rw [ov] at hl
  cases q : pat f.ink with
  | some c => simp
  | none =>
    rw [q] at hl
    simp only [Option.none_or] at hl
    simp only [Option.isSome_none, Bool.false_eq_true, if_false, Option.none_or]
    by_cases e : valP pat s.row = none
    · rw [hl e]; simp
    · simp [e]
theorem seen_nu {firm I : List Str} {pat : Str → Col} {first : Col} {s : Stand} {f : Fr} {b : Bool} (hp : Full firm I pat) (hi : f.ink ∈ I) (h : s.Ok I) : (if b = true ∧ (pat f.ink).isSome = true then pat f.ink else nu pat first s) = nu pat first (if b then laidP firm f.ink s else s) := by
  cases b with
  | false => simp
  | true =>
    simp only [true_and, if_true]
    exact laid_nu hp hi h
theorem step_nu {firm I : List Str} {pat : Str → Col} {first : Col} {who : Str} {b : Bool} {s : Stand} {f : Fr} (hp : Full firm I pat) (hi : f.ink ∈ I) (h : s.Ok I) : stepC pat who (nu pat first s) b f = nu pat first (stepS firm who s b f) := by
  unfold stepC stepS
  by_cases a1 : fateOf who f.doom = "wiped" ∧ (b = true ∨ who = "blanks")
  · rw [if_pos a1, if_pos a1]
    simp [nu, nothing, valP_nil]
  · rw [if_neg a1, if_neg a1]
    by_cases a2 : fateOf who f.doom = "back"
    · rw [if_pos a2, if_pos a2]
    · rw [if_neg a2, if_neg a2]
      exact seen_nu hp hi h
theorem last_nu {firm I : List Str} {pat : Str → Col} {first : Col} {who : Str} (hp : Full firm I pat) : ∀ (bs : List Bool) (fs : List Fr) (s : Stand), (∀ f ∈ fs, f.ink ∈ I) → s.Ok I →
    lastC pat who bs fs (nu pat first s) = nu pat first (lastS firm who bs fs s)
  | [], _, _, _, _ => by simp [lastC, lastS]
  | _ :: _, [], _, _, _ => by simp [lastC, lastS]
  | b :: bs, f :: fs, s, hf, h => by
    have hi := hf f (by simp)
    simp only [lastC, lastS]
    rw [step_nu hp hi h]
    exact last_nu hp bs fs _ (fun g hg => hf g (List.mem_cons_of_mem _ hg)) (step_Ok hi h)
/-- the law's colours are the colours of the program's stands -/
theorem cols_nu {firm I : List Str} {pat : Str → Col} {first : Col} {who : Str} (hp : Full firm I pat) : ∀ (bs : List Bool) (fs : List Fr) (s : Stand), (∀ f ∈ fs, f.ink ∈ I) → s.Ok I →
    colsC pat who bs fs (nu pat first s) = (showS firm who bs fs s).map (nu pat first)
  | [], _, _, _, _ => by simp [colsC, showS]
  | _ :: _, [], _, _, _ => by simp [colsC, showS]
  | b :: bs, f :: fs, s, hf, h => by
    have hi := hf f (by simp)
    simp only [colsC, showS, List.map_cons]
    rw [step_nu hp hi h, cols_nu hp bs fs _ (fun g hg => hf g (List.mem_cons_of_mem _ hg)) (step_Ok hi h), seen_nu hp hi h]
theorem nu_no {pat : Str → Col} {first : Col} : nu pat first nothing = none := by simp [nu, nothing, valP_nil]
theorem nu_any {pat : Str → Col} {first : Col} : nu pat first anything = first := by simp [nu, anything, valP_nil]
theorem nu_none {pat : Str → Col} {s : Stand} : nu pat none s = valP pat s.row := by
  unfold nu
  split
  · rename_i h; exact h.1.symm
  · rfl
theorem nu_closed {pat : Str → Col} {first : Col} {s : Stand} (h : s.closed = true) : nu pat first s = valP pat s.row := by
  unfold nu
  rw [h]
  simp
/-- a closed stand stays closed -/
theorem step_closed {firm : List Str} {who : Str} {b : Bool} {s : Stand} {f : Fr} (h : s.closed = true) : (stepS firm who s b f).closed = true := by
  unfold stepS
  split
  · rfl
  · split
    · exact h
    · split
      · simp [laidP, h]
      · exact h
theorem show_closed {firm : List Str} {who : Str} : ∀ (bs : List Bool) (fs : List Fr) (s : Stand), s.closed = true → ∀ t ∈ showS firm who bs fs s, t.closed = true
  | [], _, _, _, t, ht => by simp [showS] at ht
  | _ :: _, [], _, _, t, ht => by simp [showS] at ht
  | b :: bs, f :: fs, s, h, t, ht => by
    simp only [showS, List.mem_cons] at ht
    rcases ht with rfl | ht
    · split
      · simp [laidP, h]
      · exact h
    · exact show_closed bs fs _ (step_closed h) t ht
theorem last_closed {firm : List Str} {who : Str} : ∀ (bs : List Bool) (fs : List Fr) (s : Stand), s.closed = true → (lastS firm who bs fs s).closed = true
  | [], _, _, h => h
  | _ :: _, [], _, h => h
  | b :: bs, f :: fs, s, h => last_closed bs fs _ (step_closed h)
/-- the pattern whose holes are given -/
def holed (hue : Str → Int) (p : List Str) : Str → Col := fun z => if z ∈ p then none else some (hue z)
theorem holed_pre {hue : Str → Int} {p : List Str} : ∀ (q : List Str), (∀ z ∈ q, z ∈ p) → valP (holed hue p) q = none
  | [], _ => valP_nil
  | z :: q, h => by
    rw [valP_cons, holed_pre q fun w hw => h w (List.mem_cons_of_mem _ hw)]
    simp [holed, h z (by simp)]
theorem holed_head {hue : Str → Int} {p r : List Str} {a : Str} (h : a ∉ p) : valP (holed hue p) (p ++ a :: r) = some (hue a) := by
  rw [valP_app, holed_pre p fun _ h => h, valP_cons]
  simp [holed, h]
/-- rows that no pattern tells apart are the same -/
theorem sep_pre {hue : Str → Int} {firm I : List Str} (inj : ∀ a ∈ I, ∀ b ∈ I, hue a = hue b → a = b) : ∀ (r1 r2 p : List Str), (∀ z ∈ p, z ∉ firm) → (p ++ r1).Nodup → (p ++ r2).Nodup → (∀ z ∈ p ++ r1, z ∈ I) → (∀ z ∈ p ++ r2, z ∈ I) →
    (∀ z ∈ (p ++ r1).dropLast, z ∉ firm) → (∀ z ∈ (p ++ r2).dropLast, z ∉ firm) → (∀ h : List Str, (∀ z ∈ h, z ∉ firm) → (∀ z ∈ h, z ∈ I) → valP (holed hue h) (p ++ r1) = valP (holed hue h) (p ++ r2)) → r1 = r2 := by
  intro r1
  induction r1 with
  | nil =>
    intro r2 p hp n1 n2 i1 i2 d1 d2 h
    cases r2 with
    | nil => rfl
    | cons b r2 =>
      have hb : b ∉ p := fun hb => (List.nodup_append.mp n2).2.2 b hb b (by simp) rfl
      have e := h p hp fun z hz => i1 z (by simpa using hz)
      rw [holed_head hb, List.append_nil, holed_pre p fun _ h => h] at e
      cases e
  | cons a r1 ih =>
    intro r2 p hp n1 n2 i1 i2 d1 d2 h
    have ha : a ∉ p := fun hb => (List.nodup_append.mp n1).2.2 a hb a (by simp) rfl
    have hpi : ∀ z ∈ p, z ∈ I := fun z hz => i1 z (List.mem_append_left _ hz)
    have e := h p hp hpi
    rw [holed_head ha] at e
    cases r2 with
    | nil =>
      rw [List.append_nil, holed_pre p fun _ h => h] at e
      cases e
    | cons b r2 =>
      have hb : b ∉ p := fun hb => (List.nodup_append.mp n2).2.2 b hb b (by simp) rfl
      rw [holed_head hb] at e
      have ab : a = b := inj a (i1 a (by simp)) b (i2 b (by simp)) (Option.some.inj e)
      subst ab
      by_cases hf : a ∈ firm
      · have t1 : r1 = [] := by
          cases r1 with
          | nil => rfl
          | cons c r =>
            exact absurd hf (d1 a (by rw [List.dropLast_append_of_ne_nil (by simp)]; simp))
        have t2 : r2 = [] := by
          cases r2 with
          | nil => rfl
          | cons c r =>
            exact absurd hf (d2 a (by rw [List.dropLast_append_of_ne_nil (by simp)]; simp))
        rw [t1, t2]
      · have q1 : p ++ a :: r1 = (p ++ [a]) ++ r1 := by simp
        have q2 : p ++ a :: r2 = (p ++ [a]) ++ r2 := by simp
        rw [q1] at n1 i1 d1
        rw [q2] at n2 i2 d2
        congr 1
        refine ih r2 (p ++ [a]) (fun z hz => ?_) n1 n2 i1 i2 d1 d2 (fun g h1 h2 => ?_)
        · rcases List.mem_append.mp hz with w | w
          · exact hp z w
          · rw [List.mem_singleton.mp w]; exact hf
        · rw [← q1, ← q2]; exact h g h1 h2
theorem sep {hue : Str → Int} {firm I r1 r2 : List Str} (inj : ∀ a ∈ I, ∀ b ∈ I, hue a = hue b → a = b) (n1 : r1.Nodup) (n2 : r2.Nodup) (i1 : ∀ z ∈ r1, z ∈ I) (i2 : ∀ z ∈ r2, z ∈ I) (d1 : ∀ z ∈ r1.dropLast, z ∉ firm) (d2 : ∀ z ∈ r2.dropLast, z ∉ firm)
    (h : ∀ h : List Str, (∀ z ∈ h, z ∉ firm) → (∀ z ∈ h, z ∈ I) → valP (holed hue h) r1 = valP (holed hue h) r2) : r1 = r2 :=
  sep_pre inj r1 r2 [] (by simp) n1 n2 i1 i2 d1 d2 h
/-- stands that no pattern tells apart, both closed -/
theorem sep_stand {hue : Str → Int} {firm I : List Str} {s t : Stand} (inj : ∀ a ∈ I, ∀ b ∈ I, hue a = hue b → a = b) (hs : s.Good firm I) (ht : t.Good firm I) (cs : s.closed = true) (ct : t.closed = true)
    (h : ∀ h : List Str, (∀ z ∈ h, z ∉ firm) → (∀ z ∈ h, z ∈ I) → valP (holed hue h) s.row = valP (holed hue h) t.row) : s = t := by
  have e := sep inj hs.ok.nd ht.ok.nd hs.ok.inks ht.ok.inks hs.drop ht.drop h
  obtain ⟨r, c⟩ := s
  obtain ⟨r2, c2⟩ := t
  simp only at cs ct e
  rw [cs, ct, e]
end G


set_option Elab.async false
set_option linter.all false
set_option maxRecDepth 100000
set_option  maxHeartbeats   4000000
/-! The length of a film, films with other frames. -/
namespace G
open DV PySem L2
section
variable {n : Nat} {p : Pic} {st : Store}
theorem film_len_ok (h : FilmAt st n p) : F_Film_len [.ref n] st = .ok (.int (p.fs.length : Int)) st := by
  have fr := frames_ok h
  unfold FilmAt at h
  simp [F_Film_len, fr, h]
theorem lenX_ok (h : FilmAt st n p) (hl : p.fs.length ≤ 8) {l : DV.Loc} {i : Nat} (hi : l[i]? = some (some (.ref n))) : mLenX 0 F_Film_len (mVar i) l st = .ok (.int (p.fs.length : Int)) st := by
  have fl := film_len_ok h
  unfold FilmAt at h
  have b : (0 : Int) ≤ (p.fs.length : Int) ∧ (p.fs.length : Int) < 2 ^ 63 := ⟨by omega, by omega⟩
  rw [ev_mLenX, ev_mVar, hi]
  simp only [ev_bind_ok, h, if_true, fl]
  rw [if_pos b]
theorem check_index_ok (h : FilmAt st n p) (hl : p.fs.length ≤ 8) {b : Int} (h0 : 0 ≤ b) (h1 : b < p.fs.length) : F_check_index [.ref n, .int b] st = .ok .non st := by
  have e1 := lenX_ok h hl (l := [some (.ref n), some (.int b)]) (i := 0) rfl
  have e2 := is_within_ok (st := st) (v := b) (lo := 0) (hi := (p.fs.length : Int) - 1) h0 (by omega)
  simp only [F_check_index, ev_mDef, List.length_cons, List.length_nil, List.map_cons, List.map_nil, List.replicate, List.append_nil, if_true]
  simp [-ev_mLenX, e1, e2]
def Pic.wf (p : Pic) (gs : List Fr) : Pic := ⟨p.W, p.Hh, gs, p.firm⟩
theorem Pic.Ok.wf (h : p.Ok) {gs : List Fr} (h0 : gs ≠ []) (h8 : gs.length ≤ 8) (hf : ∀ f ∈ gs, f.Ok p.W p.Hh) : (p.wf gs).Ok := ⟨h.W0, h.W1, h.H0, h.H1, h0, h8, hf, h.firm⟩
theorem with_frames_ok {gs : List Fr} (h : FilmAt st n p) (hn : n < st.nxt) (hp : (p.wf gs).Ok) :
    ∃ st', F_Film_with_frames [.ref n, .tup (gs.map Fr.d)] st = .ok (.ref st.nxt) st' ∧ FilmAt st' st.nxt (p.wf gs) ∧ Kp [] st st' ∧ st.nxt < st'.nxt := by
  obtain ⟨s1, e1, f1, k1⟩ := init_ok (n := st.nxt) (st := st.new (.ins 0 [])) (Nat.lt_succ_self _) Store.new_same hp
  refine ⟨s1, ?_, f1, (Kp.new.trans k1).drop (Nat.le_refl _), Nat.lt_of_lt_of_le (Nat.lt_succ_self _) k1.le⟩
  have a1 := width_ok h
  have a2 := height_ok h
  have a3 := solid_ok h
  unfold FilmAt at h
  unfold Pic.wf at e1
  simp [F_Film_with_frames, h, a1, a2, a3, arr, Src.of, e1]
theorem no_meth {m : Str} (ne : ((m == ("all" : Str)) = false)) {d : D} : List.lookup m [(("all" : Str), d)] = none := by
  simp [List.lookup, ne]
theorem cut_drop {α : Type} (xs : List α) (b : Nat) (hb : b < xs.length) (c : Int) (hc : c = xs.length) : (xs.drop (HT.sIx xs.length 0 (some (b : Int)))).take (HT.sIx xs.length xs.length (some c) - HT.sIx xs.length 0 (some (b : Int))) = xs.drop b := by
  have e1 : HT.sIx xs.length 0 (some (b : Int)) = b := by
    show (if (b : Int) < 0 then ((b : Int) + (xs.length : Int)).toNat else min (b : Int).toNat xs.length) = b
    rw [if_neg (by omega)]
    omega
  have e2 : HT.sIx xs.length xs.length (some c) = xs.length := by
    subst hc
    show (if (xs.length : Int) < 0 then ((xs.length : Int) + (xs.length : Int)).toNat else min (xs.length : Int).toNat xs.length) = xs.length
    rw [if_neg (by omega)]
    omega
  rw [e1, e2, List.take_of_length_le (by simp)]
theorem cut_ok {b : Nat} (h : FilmAt st n p) (hn : n < st.nxt) (hp : p.Ok) (hb : b < p.fs.length) :
    ∃ st', F_Film_cut [.ref n, .int (b : Int), .int (p.fs.length : Int)] st = .ok (.ref st.nxt) st' ∧ FilmAt st' st.nxt (p.wf (p.fs.drop b)) ∧ (p.wf (p.fs.drop b)).Ok ∧ Kp [] st st' ∧ st.nxt < st'.nxt := by
  have h8 := hp.l8
  have ok : (p.wf (p.fs.drop b)).Ok := hp.wf (fun e => by have := congrArg List.length e; simp at this; omega) (by simp; omega) (fun f hg => hp.fr f (List.mem_of_mem_drop hg))
  obtain ⟨s1, e1, f1, k1, n1⟩ := with_frames_ok h hn ok
  refine ⟨s1, ?_, f1, ok, k1, n1⟩
  have a1 := check_index_ok h h8 (b := (b : Int)) (by omega) (by omega)
  have a2 := lenX_ok h h8 (l := [some (.ref n), some (.int (b : Int)), some (.int (p.fs.length : Int))]) (i := 0) rfl
  have a3 := is_within_ok (st := st) (v := (p.fs.length : Int)) (lo := (b : Int) + 1) (hi := (p.fs.length : Int)) (by omega) (by omega)
  have a4 := frames_ok h
  have cu : cutD (p.fs.map Fr.d) (some (b : Int)) (some (p.fs.length : Int)) = (p.fs.drop b).map Fr.d := by
    unfold cutD
    rw [List.map_drop]
    exact cut_drop _ b (by simpa using hb) _ (by simp)
  have lk := no_meth (m := "with_frames") (d := p.d) (by decide +kernel)
  unfold FilmAt at h
  simp only [F_Film_cut, ev_mDef, List.length_cons, List.length_nil, List.map_cons, List.map_nil, List.replicate, List.append_nil, if_true]
  rw [List.map_drop] at e1
  simp [-ev_mLenX, a1, a2, a3, a4, h, cu, lk, arr, Src.of, e1]
/-! ### without a frame -/
theorem cut_to {α : Type} (xs : List α) (b : Nat) (hb : b ≤ xs.length) : (xs.drop (HT.sIx xs.length 0 none)).take (HT.sIx xs.length xs.length (some (b : Int)) - HT.sIx xs.length 0 none) = xs.take b := by
  have e1 : HT.sIx xs.length 0 none = 0 := rfl
  have e2 : HT.sIx xs.length xs.length (some (b : Int)) = b := by
    show (if (b : Int) < 0 then ((b : Int) + (xs.length : Int)).toNat else min (b : Int).toNat xs.length) = b
    rw [if_neg (by omega)]
    omega
  rw [e1, e2]
  simp
theorem cut_from {α : Type} (xs : List α) (b : Nat) (hb : b ≤ xs.length) : (xs.drop (HT.sIx xs.length 0 (some (b : Int)))).take (HT.sIx xs.length xs.length none - HT.sIx xs.length 0 (some (b : Int))) = xs.drop b := by
  have e1 : HT.sIx xs.length 0 (some (b : Int)) = b := by
    show (if (b : Int) < 0 then ((b : Int) + (xs.length : Int)).toNat else min (b : Int).toNat xs.length) = b
    rw [if_neg (by omega)]
    omega
  have e2 : HT.sIx xs.length xs.length none = xs.length := rfl
  rw [e1, e2, List.take_of_length_le (by simp)]
theorem cutD_to {α : Type} {k : α → D} {xs : List α} {b : Nat} (hb : b ≤ xs.length) : cutD (xs.map k) none (some (b : Int)) = (xs.take b).map k := by
  unfold cutD
  rw [List.map_take]
  exact cut_to _ b (by simpa using hb)
theorem cutD_from {α : Type} {k : α → D} {xs : List α} {b : Nat} (hb : b ≤ xs.length) : cutD (xs.map k) (some (b : Int)) none = (xs.drop b).map k := by
  unfold cutD
  rw [List.map_drop]
  exact cut_from _ b (by simpa using hb)
theorem cutD_from1 {α : Type} {k : α → D} {xs : List α} {b : Nat} (hb : b + 1 ≤ xs.length) : cutD (xs.map k) (some ((b : Int) + 1)) none = (xs.drop (b + 1)).map k := by
  have := cutD_from (k := k) hb
  simpa using this
def outL {α : Type} (xs : List α) (b : Nat) : List α := xs.take b ++ xs.drop (b + 1)
theorem outL_len {α : Type} {xs : List α} {b : Nat} (h : b < xs.length) : (outL xs b).length = xs.length - 1 := by
  unfold outL
  simp
  omega
theorem mem_outL {α : Type} {xs : List α} {b : Nat} {x : α} (h : x ∈ outL xs b) : x ∈ xs := by
  rcases List.mem_append.mp h with h | h
  · exact List.mem_of_mem_take h
  · exact List.mem_of_mem_drop h
theorem map_outL {α β : Type} {k : α → β} {xs : List α} {b : Nat} : (outL xs b).map k = outL (xs.map k) b := by
  unfold outL
  rw [List.map_append, List.map_take, List.map_drop]
theorem without_ok {b : Nat} (h : FilmAt st n p) (hn : n < st.nxt) (hp : p.Ok) (hb : b < p.fs.length) (h2 : 1 < p.fs.length) :
    ∃ st', F_Film_without [.ref n, .int (b : Int)] st = .ok (.ref st.nxt) st' ∧ FilmAt st' st.nxt (p.wf (outL p.fs b)) ∧ (p.wf (outL p.fs b)).Ok ∧ Kp [] st st' ∧ st.nxt < st'.nxt := by
  have h8 := hp.l8
  have ln := outL_len hb
  have ok : (p.wf (outL p.fs b)).Ok := hp.wf (fun e => by rw [e] at ln; simp at ln; omega) (by omega) (fun f hg => hp.fr f (mem_outL hg))
  obtain ⟨s1, e1, f1, k1, n1⟩ := with_frames_ok h hn ok
  refine ⟨s1, ?_, f1, ok, k1, n1⟩
  have a1 := check_index_ok h h8 (b := (b : Int)) (by omega) (by omega)
  have a4 := frames_ok h
  have c1 := cutD_to (k := Fr.d) (xs := p.fs) (b := b) (by omega)
  have c2 := cutD_from1 (k := Fr.d) (xs := p.fs) (b := b) (by omega)
  have hz : (p.fs.take b).length + (p.fs.drop (b + 1)).length ≤ sizeLine := small_line (by simp; omega)
  have lk := no_meth (m := "with_frames") (d := p.d) (by decide +kernel)
  unfold FilmAt at h
  unfold outL at e1
  rw [List.map_append] at e1
  simp only [F_Film_without, ev_mDef, List.length_cons, List.length_nil, List.map_cons, List.map_nil, List.replicate, List.append_nil, if_true]
  simp [-ev_mLenX, -List.map_take, -List.map_drop, -List.length_take, -List.length_drop, a1, a4, h, c1, c2, hz, lk, arr, Src.of, e1]
end
end G


set_option Elab.async false
set_option linter.all false
set_option maxRecDepth 100000
set_option  maxHeartbeats   4000000
/-! Borders and cells. -/
namespace G
open DV PySem L2
theorem ints_dn (ns : List Int) : optL intD1 (ns.map D.int) = some ns := by
  induction ns with
  | nil => rfl
  | cons n ns ih => simp [optL, ih, intD1]
theorem bord_loop {C : ME} {g : Fr → Int} (hC : ∀ l st f, l[5]? = some (some (Fr.part f)) → C l st = .ok (.int (g f)) st) {l : DV.Loc} (hl : l.length = 6) {st : Store} {m : Nat} {fs : List Fr} (hm : st.at_ m = some (.lst (fs.map Fr.part))) :
    loopC (tgName 5) tYes_ C [(m, fs.map Fr.part)] l (fs.map Fr.part) st = .ok (fs.map fun f => .int (g f)) st :=
  loopC_pureS (srcOk_one hm) fun f hf => ⟨l.set 5 (some f.part), rfl, hC _ _ f (by simp [hl])⟩
theorem bord_list {C : ME} {g : Fr → Int} (hC : ∀ l st f, l[5]? = some (some (Fr.part f)) → C l st = .ok (.int (g f)) st) {l : DV.Loc} (hl : l.length = 6) {st : Store} {m : Nat} {fs : List Fr} (h2 : l[2]? = some (some (.ref m))) (hm : st.at_ m = some (.lst (fs.map Fr.part))) (h8 : fs.length ≤ 12) :
    mLc (miSeq (mVar 2)) (tgName 5) tYes_ C [5] l st = .ok (.ref st.nxt) (st.new (.lst (fs.map fun f => .int (g f)))) := by
  have lp := bord_loop hC (l := wipeL l [5]) (by simp [wipeL, hl]) hm
  have hz : fs.length ≤ sizeLine := small_line (by omega)
  rw [ev_mLc]
  simp [h2, hm, lp, hz]
theorem add_ok {a b : ME} {l : DV.Loc} {st s1 s2 : Store} {p q : Nat} {xs ys : List D} (e1 : a l st = .ok (.ref p) s1) (e2 : b l s1 = .ok (.ref q) s2) (h1 : s2.at_ p = some (.lst xs)) (h2 : s2.at_ q = some (.lst ys)) (hz : xs.length + ys.length ≤ 1000) :
    m2 fAdd a b l st = .ok (.ref s2.nxt) (s2.new (.lst (xs ++ ys))) := by
  have z : xs.length + ys.length ≤ sizeLine := small_line hz
  rw [ev_m2, e1]
  simp only [ev_bind_ok, e2, ev_fAdd, h1, h2, if_pos z, ev_ofO_some]
theorem bord_ok {Ca Cb : ME} {ga gb : Fr → Int} (hCa : ∀ l st f, l[5]? = some (some (Fr.part f)) → Ca l st = .ok (.int (ga f)) st) (hCb : ∀ l st f, l[5]? = some (some (Fr.part f)) → Cb l st = .ok (.int (gb f)) st)
    {l : DV.Loc} (hl : l.length = 6) {st : Store} {m i : Nat} {W : Int} {fs : List Fr} (h2 : l[2]? = some (some (.ref m))) (hi : l[i]? = some (some (.int W))) (hm : st.at_ m = some (.lst (fs.map Fr.part))) (hmn : m < st.nxt) (h8 : fs.length ≤ 12) :
    ∃ r st', m2 fAdd (m2 fAdd (mLst (maCons (mC (.int 0)) (maCons (mVar i) maNil))) (mLc (miSeq (mVar 2)) (tgName 5) tYes_ Ca [5])) (mLc (miSeq (mVar 2)) (tgName 5) tYes_ Cb [5]) l st = .ok (.ref r) st' ∧
      st'.at_ r = some (.lst ((0 :: W :: (fs.map ga ++ fs.map gb)).map D.int)) ∧ Kp [] st st' ∧ st.nxt ≤ r ∧ r < st'.nxt := by
  have a0 : mLst (maCons (mC (.int 0)) (maCons (mVar i) maNil)) l st = .ok (.ref st.nxt) (st.new (.lst [.int 0, .int W])) := by simp [hi]
  have k1 : Kp [] st (st.new (.lst [.int 0, .int W])) := Kp.new
  have a1 := bord_list hCa hl h2 (k1.get0 hm hmn) h8
  have k2 : Kp [] (st.new (.lst [.int 0, .int W])) ((st.new (.lst [.int 0, .int W])).new (.lst (fs.map fun f => .int (ga f)))) := Kp.new
  have a2 := add_ok a0 a1 (k2.get0 Store.new_same (Nat.lt_succ_self _)) Store.new_same (by simp; omega)
  have k3 := k2.trans (Kp.new (js := []) (c := .lst ([.int 0, .int W] ++ fs.map fun f => .int (ga f))))
  have a3 := bord_list hCb hl h2 ((k1.trans k3).get0 hm hmn) h8
  have a4 := add_ok a2 a3 ((Kp.new (js := [])).get0 Store.new_same (Nat.lt_succ_self _)) Store.new_same (by simp; omega)
  refine ⟨_, _, a4, ?_, (k1.trans k3).trans (Kp.new.trans Kp.new), ?_, Nat.lt_succ_self _⟩
  · rw [Store.new_same]
    simp [Function.comp_def]
  · simp only [ev_new_nxt]; omega
theorem sort_ok {st : Store} {r : Nat} {ns : List Int} (h : st.at_ r = some (.lst (ns.map D.int))) (hl : ns.length < 64) : sortSetD (.ref r) st = some (.ref st.nxt, st.new (.lst ((sddI ns).map D.int))) := by
  rw [ev_sortSetD]
  simp only [ev_seqOf, h, ints_dn, if_pos hl]
def acrossP (W : Int) (fs : List Fr) : List Int := sddI (0 :: W :: (fs.map Fr.l ++ fs.map Fr.r))
def downP (Hh : Int) (fs : List Fr) : List Int := sddI (0 :: Hh :: (fs.map Fr.t ++ fs.map Fr.b))
theorem borders_ok {st : Store} {m : Nat} {W Hh : Int} {fs : List Fr} (hm : st.at_ m = some (.lst (fs.map Fr.part))) (hmn : m < st.nxt) (h8 : fs.length ≤ 12) :
    ∃ st', F_borders_of [.int W, .int Hh, .ref m] st = .ok (.tup [.tup ((acrossP W fs).map D.int), .tup ((downP Hh fs).map D.int)]) st' ∧ Kp [] st st' := by
  have c1 : ∀ l st f, l[5]? = some (some (Fr.part f)) → borders_of_C1 l st = .ok (.int f.l) st := fun l st f h => by simp [borders_of_C1, h, Fr.part]
  have c2 : ∀ l st f, l[5]? = some (some (Fr.part f)) → borders_of_C2 l st = .ok (.int f.r) st := fun l st f h => by simp [borders_of_C2, h, Fr.part]
  have c3 : ∀ l st f, l[5]? = some (some (Fr.part f)) → borders_of_C3 l st = .ok (.int f.t) st := fun l st f h => by simp [borders_of_C3, h, Fr.part]
  have c4 : ∀ l st f, l[5]? = some (some (Fr.part f)) → borders_of_C4 l st = .ok (.int f.b) st := fun l st f h => by simp [borders_of_C4, h, Fr.part]
  obtain ⟨r1, s1, e1, g1, k1, n1, n2⟩ := bord_ok c1 c2 (l := [some (.int W), some (.int Hh), some (.ref m), none, none, none]) rfl (i := 0) (W := W) rfl rfl hm hmn h8
  obtain ⟨r2, s2, e2, g2, k2, n3, n4⟩ := bord_ok c3 c4 (l := [some (.int W), some (.int Hh), some (.ref m), some (.ref r1), none, none]) rfl (i := 1) (W := Hh) rfl rfl (k1.get0 hm hmn) (Nat.lt_of_lt_of_le hmn k1.le) h8
  have q1 := sort_ok (k2.get0 g1 n2) (by simp; omega)
  have k3 : Kp [] s2 (s2.new (.lst ((sddI (0 :: W :: (fs.map Fr.l ++ fs.map Fr.r))).map D.int))) := Kp.new
  have q2 := sort_ok (k3.get0 g2 n4) (by simp; omega)
  have g5 : ((s2.new (.lst ((sddI (0 :: W :: (fs.map Fr.l ++ fs.map Fr.r))).map D.int))).new (.lst ((sddI (0 :: Hh :: (fs.map Fr.t ++ fs.map Fr.b))).map D.int))).at_ (s2.nxt + 1) = some (.lst ((sddI (0 :: Hh :: (fs.map Fr.t ++ fs.map Fr.b))).map D.int)) := Store.new_same
  refine ⟨(s2.new (.lst ((sddI (0 :: W :: (fs.map Fr.l ++ fs.map Fr.r))).map D.int))).new (.lst ((sddI (0 :: Hh :: (fs.map Fr.t ++ fs.map Fr.b))).map D.int)), ?_, (k1.trans k2).trans (k3.trans Kp.new)⟩
  · simp only [F_borders_of, ev_mDef, List.length_cons, List.length_nil, List.map_cons, List.map_nil, List.replicate, List.cons_append, List.nil_append, if_true]
    rw [ev_msSeq, ev_msAsg, e1]
    simp only [ev_toS_ok, ev_tgName, List.set_cons_succ, List.set_cons_zero]
    rw [ev_msSeq, ev_msAsg, e2]
    simp only [ev_toS_ok, ev_tgName, List.set_cons_succ, List.set_cons_zero]
    simp [-ev_sortSetD, q1, q2, g5, acrossP, downP]
def pairD (p : Int × Int) : D := .tup [.int p.1, .int p.2]
theorem zip_ints : ∀ (xs ys : List Int), zipD (xs.map D.int) (ys.map D.int) = (xs.zip ys).map pairD
  | x :: xs, y :: ys => by simp only [List.map_cons, zipD, List.zip_cons_cons, zip_ints xs ys]; rfl
  | [], ys => by simp [zipD]
  | _ :: _, [] => by simp [zipD]
def cellD (t b : Int) (p : Int × Int) : D := .tup [.int p.1, .int t, .int p.2, .int b]
theorem cells_in1 {f : Nat} {o0 o1 o2 o3 o4 : Option D} {t b : Int} : ∀ (ps : List (Int × Int)) (o8 o9 : Option D) (st : Store) (sl : List D), st.at_ f = some (.lst sl) → sl.length + ps.length ≤ 1000 →
    ∃ p8 p9 st', loopS (tgTup 2 (tgCons (tgName 8) (tgCons (tgName 9) tgNil))) cells_of_L1 [] (ps.map pairD) [o0, o1, o2, o3, o4, some (.ref f), some (.int t), some (.int b), o8, o9] st =
      .nx [o0, o1, o2, o3, o4, some (.ref f), some (.int t), some (.int b), p8, p9] st' ∧ Kp [f] st st' ∧ st'.at_ f = some (.lst (sl ++ ps.map (cellD t b))) := by
  intro ps
  induction ps with
  | nil =>
    intro o8 o9 st sl h _
    exact ⟨o8, o9, st, loopS_nil srcOk_nil, Kp.refl, by simpa using h⟩
  | cons p ps ih =>
    intro o8 o9 st sl h hl
    have hz : sl.length < sizeLine := Nat.lt_of_lt_of_le (show sl.length < 1000 by simp at hl; omega) (small_line (Nat.le_refl _))
    have body : cells_of_L1 [o0, o1, o2, o3, o4, some (.ref f), some (.int t), some (.int b), some (.int p.1), some (.int p.2)] st =
        .nx [o0, o1, o2, o3, o4, some (.ref f), some (.int t), some (.int b), some (.int p.1), some (.int p.2)] (st.put f (.lst (sl ++ [cellD t b p]))) := by
      simp [cells_of_L1, h, hz, cellD]
    obtain ⟨p8, p9, s2, e2, k2, q2⟩ := ih (some (.int p.1)) (some (.int p.2)) (st.put f (.lst (sl ++ [cellD t b p]))) (sl ++ [cellD t b p]) Store.put_same (by simp at hl ⊢; omega)
    refine ⟨p8, p9, s2, ?_, (Kp.put (by simp)).trans k2, by rw [q2]; simp⟩
    rw [List.map_cons, loopS_nx srcOk_nil (by simp [pairD]) body]
    exact e2
theorem cut_one (xs : List Int) : cutD (xs.map D.int) (some 1) none = xs.tail.map D.int := by
  unfold cutD
  cases xs with
  | nil => rfl
  | cons x r =>
    have e1 : HT.sIx ((x :: r).map D.int).length 0 (some (1 : Int)) = 1 := by
      show (if (1 : Int) < 0 then ((1 : Int) + (((x :: r).map D.int).length : Int)).toNat else min (1 : Int).toNat ((x :: r).map D.int).length) = 1
      rw [if_neg (by omega)]
      simp
    have e2 : HT.sIx ((x :: r).map D.int).length ((x :: r).map D.int).length none = ((x :: r).map D.int).length := rfl
    rw [e1, e2]
    simp
    exact List.take_of_length_le (by simp)
theorem iter_ok {i : Nat} {l : DV.Loc} {st : Store} {xs : List Int} (h : l[i]? = some (some (.tup (xs.map D.int)))) :
    miOf zipOf (maCons (mVar i) (maCons (mSl (mVar i) (moSome (mC (.int 1))) moNone) maNil)) l st = .ok ⟨[], (xs.zip xs.tail).map pairD⟩ st := by
  have c := cut_one xs
  rw [ev_miOf]
  simp [h, c, zip_ints]
  rw [← List.map_tail, zip_ints]
theorem cells_out1 {f : Nat} {o0 o1 o2 o4 : Option D} {ac : List Int} : ∀ (ps : List (Int × Int)) (o6 o7 o8 o9 : Option D) (st : Store) (sl : List D), st.at_ f = some (.lst sl) → sl.length + ps.length * ac.length ≤ 1000 →
    ∃ p6 p7 p8 p9 st', loopS (tgTup 2 (tgCons (tgName 6) (tgCons (tgName 7) tgNil))) cells_of_L2 [] (ps.map pairD) [o0, o1, o2, some (.tup (ac.map D.int)), o4, some (.ref f), o6, o7, o8, o9] st =
      .nx [o0, o1, o2, some (.tup (ac.map D.int)), o4, some (.ref f), p6, p7, p8, p9] st' ∧ Kp [f] st st' ∧ st'.at_ f = some (.lst (sl ++ (ps.map fun q => (ac.zip ac.tail).map (cellD q.1 q.2)).flatten)) := by
  intro ps
  induction ps with
  | nil =>
    intro o6 o7 o8 o9 st sl h _
    exact ⟨o6, o7, o8, o9, st, loopS_nil srcOk_nil, Kp.refl, by simpa using h⟩
  | cons p ps ih =>
    intro o6 o7 o8 o9 st sl h hl
    have hl2 : sl.length + (ac.length + ps.length * ac.length) ≤ 1000 := by
      rw [List.length_cons, Nat.add_mul] at hl; omega
    have hz : (ac.zip ac.tail).length ≤ ac.length := by simp
    obtain ⟨q8, q9, s1, e1, k1, g1⟩ := cells_in1 (o0 := o0) (o1 := o1) (o2 := o2) (o3 := some (.tup (ac.map D.int))) (o4 := o4) (t := p.1) (b := p.2) (ac.zip ac.tail) o8 o9 st sl h (by omega)
    have it := iter_ok (i := 3) (l := [o0, o1, o2, some (.tup (ac.map D.int)), o4, some (.ref f), some (.int p.1), some (.int p.2), o8, o9]) (st := st) (xs := ac) rfl
    have body : cells_of_L2 [o0, o1, o2, some (.tup (ac.map D.int)), o4, some (.ref f), some (.int p.1), some (.int p.2), o8, o9] st =
        .nx [o0, o1, o2, some (.tup (ac.map D.int)), o4, some (.ref f), some (.int p.1), some (.int p.2), q8, q9] s1 := by
      unfold cells_of_L2
      rw [ev_msFor, it]
      simp only [ev_toS_ok]
      exact e1
    obtain ⟨p6, p7, p8, p9, s2, e2, k2, g2⟩ := ih (some (.int p.1)) (some (.int p.2)) q8 q9 s1 _ g1 (by rw [List.length_append, List.length_map]; omega)
    refine ⟨p6, p7, p8, p9, s2, ?_, k1.trans k2, by rw [g2]; simp⟩
    rw [List.map_cons, loopS_nx srcOk_nil (by simp [pairD]) body]
    exact e2
theorem insI_len (x : Int) : ∀ ys : List Int, (insI x ys).length ≤ ys.length + 1
  | [] => by simp [insI]
  | y :: ys => by
    have := insI_len x ys
    unfold insI
    split
    · simp
    · split
      · simp
      · simp; omega
theorem sddI_len : ∀ ns : List Int, (sddI ns).length ≤ ns.length
  | [] => by simp [sddI]
  | n :: ns => by
    have h1 := sddI_len ns
    have h2 := insI_len n (sddI ns)
    have e : sddI (n :: ns) = insI n (sddI ns) := rfl
    rw [e, List.length_cons]
    omega
def cellsD (W Hh : Int) (fs : List Fr) : List D := (((downP Hh fs).zip (downP Hh fs).tail).map fun q => ((acrossP W fs).zip (acrossP W fs).tail).map (cellD q.1 q.2)).flatten
theorem cells_of_ok {st : Store} {m : Nat} {W Hh : Int} {fs : List Fr} (hm : st.at_ m = some (.lst (fs.map Fr.part))) (hmn : m < st.nxt) (h8 : fs.length ≤ 12) :
    ∃ r st', F_cells_of [.int W, .int Hh, .ref m] st = .ok (.ref r) st' ∧ Kp [] st st' ∧ st.nxt ≤ r ∧ r < st'.nxt ∧ st'.at_ r = some (.lst (cellsD W Hh fs)) := by
  obtain ⟨s1, e1, k1⟩ := borders_ok (W := W) (Hh := Hh) hm hmn h8
  have la : (acrossP W fs).length ≤ 26 := Nat.le_trans (sddI_len _) (by simp; omega)
  have ld : (downP Hh fs).length ≤ 26 := Nat.le_trans (sddI_len _) (by simp; omega)
  have lz : ((downP Hh fs).zip (downP Hh fs).tail).length ≤ 26 := by rw [List.length_zip]; omega
  have mul : ((downP Hh fs).zip (downP Hh fs).tail).length * (acrossP W fs).length ≤ 26 * 26 := Nat.mul_le_mul lz la
  obtain ⟨p6, p7, p8, p9, s2, e2, k2, g2⟩ := cells_out1 (f := s1.nxt) (o0 := some (.int W)) (o1 := some (.int Hh)) (o2 := some (.ref m)) (o4 := some (.tup ((downP Hh fs).map D.int))) (ac := acrossP W fs) ((downP Hh fs).zip (downP Hh fs).tail) none none none none (s1.new (.lst [])) [] Store.new_same (by simp at mul ⊢; omega)
  have it := iter_ok (i := 4) (l := [some (.int W), some (.int Hh), some (.ref m), some (.tup ((acrossP W fs).map D.int)), some (.tup ((downP Hh fs).map D.int)), some (.ref s1.nxt), none, none, none, none]) (st := s1.new (.lst [])) (xs := downP Hh fs) rfl
  refine ⟨s1.nxt, s2, ?_, k1.trans ((Kp.new.trans k2).drop (Nat.le_refl _)), k1.le, Nat.lt_of_lt_of_le (Nat.lt_succ_self _) k2.le, by rw [g2]; rfl⟩
  simp only [F_cells_of, ev_mDef, List.length_cons, List.length_nil, List.map_cons, List.map_nil, List.replicate, List.cons_append, List.nil_append, if_true]
  simp [-ev_miOf, -ev_msFor, e1]
  rw [ev_msFor, it]
  simp only [ev_toS_ok, e2]
  simp
theorem cells_in_ok {st : Store} {n : Nat} {p : Pic} (h : FilmAt st n p) (h8 : p.fs.length ≤ 8) :
    ∃ r st', F_cells_in [.ref n] st = .ok (.ref r) st' ∧ Kp [] st st' ∧ st.nxt ≤ r ∧ r < st'.nxt ∧ st'.at_ r = some (.lst (cellsD p.W p.Hh p.fs)) := by
  have q := parts_ok h h8
  have a1 := width_ok h
  have a2 := height_ok h
  obtain ⟨r, s1, e1, k1, n1, n2, g1⟩ := cells_of_ok (W := p.W) (Hh := p.Hh) (fs := p.fs) (st := st.new (.lst (p.fs.map Fr.part))) (m := st.nxt) Store.new_same (Nat.lt_succ_self _) (Nat.le_trans h8 (by decide))
  refine ⟨r, s1, ?_, Kp.new.trans k1, Nat.le_trans (Nat.le_succ _) n1, n2, g1⟩
  unfold FilmAt at h
  simp [F_cells_in, h, a1, a2, q, e1]
/-- one direction of the grid: a place, and the border at or before it -/
theorem line_at {ns : List Int} {W x : Int} (h0 : 0 ∈ ns) (hW : W ∈ ns) (hx : 0 ≤ x) (hx2 : x < W) : ∃ a b, (a, b) ∈ (sddI ns).zip (sddI ns).tail ∧ a ≤ x ∧ 0 ≤ a ∧ ∀ z ∈ ns, (z ≤ x ↔ z ≤ a) := by
  have up := up_sddI ns
  have m0 := mem_sddI.mpr h0
  have mW := mem_sddI.mpr hW
  cases e : sddI ns with
  | nil => rw [e] at m0; simp at m0
  | cons p xs =>
    rw [e] at up m0 mW
    have hp : p ≤ 0 := by
      rcases List.mem_cons.mp m0 with w | w
      · omega
      · exact Int.le_of_lt ((List.pairwise_cons.mp up).1 0 w)
    have hw : W ∈ xs := by
      rcases List.mem_cons.mp mW with w | w
      · omega
      · exact w
    obtain ⟨a, b, h1, h2, h3, h4, h5⟩ := grid_at xs p x up (by omega) ⟨W, hw, hx2⟩
    refine ⟨a, b, h1, h2, ?_, fun z hz => h5 z (by rw [← e]; exact mem_sddI.mpr hz)⟩
    exact (h5 0 m0).mp hx
theorem cover_at {fs : List Fr} {W Hh x y : Int} (hx : 0 ≤ x) (hx2 : x < W) (hy : 0 ≤ y) (hy2 : y < Hh) : ∃ l r t b, cellD t b (l, r) ∈ cellsD W Hh fs ∧ 0 ≤ l ∧ l < W ∧ 0 ≤ t ∧ t < Hh ∧ ∀ f ∈ fs, f.has x y = f.has l t := by
  obtain ⟨l, r, a1, a2, a3, a4⟩ := line_at (ns := 0 :: W :: (fs.map Fr.l ++ fs.map Fr.r)) (W := W) (x := x) (by simp) (by simp) hx hx2
  obtain ⟨t, b, b1, b2, b3, b4⟩ := line_at (ns := 0 :: Hh :: (fs.map Fr.t ++ fs.map Fr.b)) (W := Hh) (x := y) (by simp) (by simp) hy hy2
  refine ⟨l, r, t, b, ?_, a3, by omega, b3, by omega, fun f hf => ?_⟩
  · exact List.mem_flatten.mpr ⟨_, List.mem_map.mpr ⟨(t, b), b1, rfl⟩, List.mem_map.mpr ⟨(l, r), a1, rfl⟩⟩
  · have c1 := a4 f.l (by simp; exact .inr (.inr (.inl ⟨f, hf, rfl⟩)))
    have c2 := a4 f.r (by simp; exact .inr (.inr (.inr ⟨f, hf, rfl⟩)))
    have c3 := b4 f.t (by simp; exact .inr (.inr (.inl ⟨f, hf, rfl⟩)))
    have c4 := b4 f.b (by simp; exact .inr (.inr (.inr ⟨f, hf, rfl⟩)))
    have d1 : decide (f.l ≤ x) = decide (f.l ≤ l) := decide_eq_decide.mpr c1
    have d2 : decide (x < f.r) = decide (l < f.r) := decide_eq_decide.mpr (by omega)
    have d3 : decide (f.t ≤ y) = decide (f.t ≤ t) := decide_eq_decide.mpr c3
    have d4 : decide (y < f.b) = decide (t < f.b) := decide_eq_decide.mpr (by omega)
    unfold Fr.has
    rw [d1, d2, d3, d4]
end G


set_option Elab.async false
set_option linter.all false
set_option maxRecDepth 100000
set_option  maxHeartbeats   4000000
/-! Sameness of lists. -/
namespace G
open DV PySem L2
/-- lists of things that are told apart by their data -/
theorem eqvAll_of {α : Type} [DecidableEq α] {g : α → PyData} (h : ∀ a b, PyData.eqv (g a) (g b) = decide (a = b)) : ∀ {xs ys : List α}, PyData.eqvAll (xs.map g) (ys.map g) = decide (xs = ys)
  | [], [] => rfl
  | [], y :: ys => by simp [PyData.eqvAll]
  | x :: xs, [] => by simp [PyData.eqvAll]
  | x :: xs, y :: ys => by
    simp only [List.map_cons, PyData.eqvAll, h, eqvAll_of h (xs := xs) (ys := ys), List.cons.injEq]
    by_cases a : x = y <;> by_cases b : xs = ys <;> simp [a, b]
theorem data_lsts {α : Type} [DecidableEq α] {k : α → D} {g : α → PyData} (h : ∀ a b, PyData.eqv (g a) (g b) = decide (a = b)) {st : Store} {m n : Nat} {xs ys : List α} (e : st.at_ m = some (.lst (xs.map k))) (e2 : st.at_ n = some (.lst (ys.map k)))
    (hx : ∀ x ∈ xs, toData st 19 (k x) = some (g x)) (hy : ∀ y ∈ ys, toData st 19 (k y) = some (g y)) : dataEq (.ref m) (.ref n) st = some (decide (xs = ys)) := by
  have h1 := toData_lst (n := 19) e (optL_map hx)
  have h2 := toData_lst (n := 19) e2 (optL_map hy)
  unfold dataEq
  simp only [ev_sc_rr, h1, h2]
  show some (PyData.eqvAll (xs.map g) (ys.map g)) = _
  rw [eqvAll_of h]
def standP (s : Stand) : PyData := .tuple [.tuple (s.row.map PyData.str), .bool s.closed]
theorem stand_eqv (a b : Stand) : PyData.eqv (standP a) (standP b) = decide (a = b) := by
  obtain ⟨r, c⟩ := a
  obtain ⟨q, d⟩ := b
  show (PyData.eqvAll (r.map PyData.str) (q.map PyData.str) && (PyData.eqv (.bool c) (.bool d) && true)) = _
  rw [eqvAll_strs]
  have : PyData.eqv (.bool c) (.bool d) = decide (c = d) := by cases c <;> cases d <;> rfl
  rw [this]
  by_cases a : r = q <;> by_cases b : c = d <;> simp [a, b]
theorem stand_data {st : Store} {s : Stand} (h : ∀ z ∈ s.row, TOk z) : toData st 19 s.d = some (standP s) := by
  refine toData_tup ?_
  simp only [optL, toData_tup (toData_strs h)]
  rfl
def colP : Col → PyData
  | some i => .int i
  | none => .none
theorem col_eqv (a b : Col) : PyData.eqv (colP a) (colP b) = decide (a = b) := by
  cases a with
  | none => cases b <;> rfl
  | some i =>
    cases b with
    | none => rfl
    | some j =>
      simp only [colP, PyData.eqv]
      by_cases h : i = j
      · subst h; simp
      · have h2 : ¬ some i = some j := fun e => h (Option.some.inj e)
        simp [h, h2]
theorem col_data {st : Store} {c : Col} : toData st 19 (colD c) = some (colP c) := by cases c <;> rfl
end G


set_option Elab.async false
set_option linter.all false
set_option maxRecDepth 100000
set_option  maxHeartbeats   4000000
/-! The choices of holes. -/
namespace G
open DV PySem L2
abbrev Pat := Str → Col
/-- a place of a dict of colours -/
def PatOk (st : Store) (done : List Str) (a : Nat × Pat) : Prop := a.1 < st.nxt ∧ PatAt st a.1 done a.2
theorem PatOk.mv {st st' : Store} {done : List Str} {a : Nat × Pat} {js : List Nat} (h : PatOk st done a) (k : Kp js st st') (hj : a.1 ∉ js) : PatOk st' done a := ⟨Nat.lt_of_lt_of_le h.1 k.le, k.get h.2 h.1 hj⟩
theorem PatOk.mv0 {st st' : Store} {done : List Str} {a : Nat × Pat} (h : PatOk st done a) (k : Kp [] st st') : PatOk st' done a := h.mv k (by simp)
theorem dPut_new {done : List Str} {pat : Str → Col} {x : Str} {d : D} (hx : x ∉ done) : dPut (done.map fun y => ((Sum.inr y : Key), colD (pat y))) (Sum.inr x) d = (done.map fun y => ((Sum.inr y : Key), colD (pat y))) ++ [(Sum.inr x, d)] := by
  unfold dPut
  rw [if_neg]
  intro h
  rw [List.any_map] at h
  obtain ⟨y, hy, e⟩ := List.any_eq_true.mp h
  have e2 : (Sum.inr y : Key) = Sum.inr x := of_decide_eq_true e
  exact hx (by rw [← Sum.inr.inj e2]; exact hy)
def setP (pat : Str → Col) (x : Str) (c : Col) : Str → Col := fun y => if y = x then c else pat y
theorem pat_more {st : Store} {r : Nat} {done : List Str} {pat : Str → Col} {x : Str} {c : Col} (hx : x ∉ done) (h : st.at_ r = some (.dic ((done.map fun y => ((Sum.inr y : Key), colD (pat y))) ++ [(Sum.inr x, colD c)]))) : PatAt st r (done ++ [x]) (setP pat x c) := by
  unfold PatAt
  rw [h, List.map_append]
  congr 2
  congr 1
  · refine List.map_congr_left fun y hy => ?_
    have : y ≠ x := fun e => hx (by rw [← e]; exact hy)
    simp [setP, this]
  · simp [setP]
/-- a picture more -/
def patStep (firm : List Str) (x : Str) (k : Int) (ps : List Pat) : List Pat := (ps.map fun p => if x ∈ firm then [setP p x (some (k + 1))] else [setP p x (some (k + 1)), setP p x none]).flatten
/-- the inner loop: each dict gives one or two longer ones -/
theorem pat_loop1 {firm done : List Str} {x : Str} (hx : x ∉ done) (hxi : TOk x) (hs : ∀ z ∈ firm, TOk z) (hd : done.length ≤ 10) {fm : Nat} {all : List D} {N0 : Nat} (hfm : fm < N0) : ∀ (rs : List (Nat × Pat)) (lg : Nat) (out : List (Nat × Pat)) (o4 o5 o6 : Option D) (st : Store), (∀ r ∈ rs, r.1 < N0 ∧ PatOk st done r) → N0 ≤ st.nxt → st.at_ fm = some (.lst all) → lg < st.nxt → st.at_ lg = some (.lst (out.map fun a => D.ref a.1)) → (∀ r ∈ out, PatOk st (done ++ [x]) r) → out.length + 2 * rs.length ≤ 100 →
    ∃ (lg' : Nat) (out' : List (Nat × Pat)) (o4' o5' o6' : Option D) (st' : Store), loopS (tgName 4) law_patterns_L1 [(fm, all)] (rs.map fun a => D.ref a.1) [some (.tup (firm.map D.str)), some (.ref fm), some (.str x), some (.ref lg), o4, o5, o6] st = .nx [some (.tup (firm.map D.str)), some (.ref fm), some (.str x), some (.ref lg'), o4', o5', o6'] st' ∧
      lg' < st'.nxt ∧ st'.at_ lg' = some (.lst (out'.map fun a => D.ref a.1)) ∧ (∀ r ∈ out', PatOk st' (done ++ [x]) r) ∧ Kp [] st st' ∧ out'.length ≤ out.length + 2 * rs.length ∧ out'.map (·.2) = out.map (·.2) ++ patStep firm x done.length (rs.map (·.2))
  | [], lg, out, o4, o5, o6, st, _, _, hf, hl, ho, hp, _ => ⟨lg, out, o4, o5, o6, st, loopS_nil (srcOk_one hf), hl, ho, hp, Kp.refl, by simp, by simp [patStep]⟩
  | (r, pat) :: rs, lg, out, o4, o5, o6, st, hrs, hN, hf, hl, ho, hp, hlen => by
    obtain ⟨hrN, hr1, hpat⟩ := hrs (r, pat) (by simp)
    simp only at hrN hr1
    unfold PatAt at hpat
    simp only at hpat
    have dz : (done.map fun y => ((Sum.inr y : Key), colD (pat y))).length < sizeLine := Nat.lt_of_le_of_lt (show _ ≤ 10 by rw [List.length_map]; exact hd) (by decide)
    have dz' : done.length < sizeLine := by simpa using dz
    -- the store after both dicts
    generalize hkv : (done.map fun y => ((Sum.inr y : Key), colD (pat y))) = kv at hpat dz
    have hk1 : dPut kv (Sum.inr x) (.int ((kv.length : Nat) + 1)) = kv ++ [(Sum.inr x, .int ((kv.length : Nat) + 1))] := by rw [← hkv]; exact dPut_new hx
    have hk2 : dPut kv (Sum.inr x) .non = kv ++ [(Sum.inr x, .non)] := by rw [← hkv]; exact dPut_new hx
    let s1 := (st.new (.dic kv)).put st.nxt (.dic (kv ++ [(Sum.inr x, .int ((kv.length : Nat) + 1))]))
    let s2 := (s1.new (.dic kv)).put (st.nxt + 1) (.dic (kv ++ [(Sum.inr x, .non)]))
    have n1 : s1.nxt = st.nxt + 1 := rfl
    have n2 : s2.nxt = st.nxt + 2 := rfl
    have k1 : Kp [] st s1 := (Kp.new.trans (Kp.put (js := [st.nxt]) (by simp))).drop (Nat.le_refl _)
    have k12 : Kp [] s1 s2 := (Kp.new.trans (Kp.put (js := [st.nxt + 1]) (by simp))).drop (by rw [n1]; exact Nat.le_refl _)
    have k2 : Kp [] st s2 := k1.trans k12
    have a1 : s2.at_ st.nxt = some (.dic (kv ++ [(Sum.inr x, .int ((kv.length : Nat) + 1))])) := k12.get0 Store.put_same (by rw [n1]; exact Nat.lt_succ_self _)
    have a2 : s2.at_ (st.nxt + 1) = some (.dic (kv ++ [(Sum.inr x, .non)])) := Store.put_same
    have ol := k2.get0 ho hl
    have e0 : kv.length = done.length := by rw [← hkv]; simp
    have P1 : PatOk s2 (done ++ [x]) (st.nxt, setP pat x (some ((kv.length : Nat) + 1))) := ⟨by show st.nxt < s2.nxt; omega, pat_more hx (by rw [a1, ← hkv]; rfl)⟩
    have P2 : PatOk s2 (done ++ [x]) (st.nxt + 1, setP pat x none) := ⟨by show st.nxt + 1 < s2.nxt; omega, pat_more hx (by rw [a2, ← hkv]; rfl)⟩
    have inx := fun s' : Store => in_tup (st := s') (x := x) (ys := firm) hxi hs
    have hz : out.length + 2 ≤ sizeLine := small_line (by simp at hlen; omega)
    have hz1 : out.length + 1 ≤ sizeLine := by omega
    -- what the body does
    obtain ⟨out2, s4, hout2, hbody, k4, ha4, hP4, hl4, hm4⟩ : ∃ (out2 : List (Nat × Pat)) (s4 : Store), out2.length ≤ out.length + 2 ∧ law_patterns_L1 [some (.tup (firm.map D.str)), some (.ref fm), some (.str x), some (.ref lg), some (.ref r), o5, o6] st =
        .nx [some (.tup (firm.map D.str)), some (.ref fm), some (.str x), some (.ref (s2.nxt + 1)), some (.ref r), some (.ref st.nxt), some (.ref (st.nxt + 1))] s4 ∧ Kp [] s2 s4 ∧ s4.at_ (s2.nxt + 1) = some (.lst (out2.map fun a => D.ref a.1)) ∧ (∀ q ∈ out2, PatOk s4 (done ++ [x]) q) ∧ s2.nxt + 1 < s4.nxt ∧ out2.map (·.2) = out.map (·.2) ++ (if x ∈ firm then [setP pat x (some ((done.length : Nat) + 1))] else [setP pat x (some ((done.length : Nat) + 1)), setP pat x none]) := by
      have hr2 : ((st.new (.dic kv)).put st.nxt (.dic (kv ++ [(Sum.inr x, .int ((kv.length : Nat) + 1))]))).at_ r = some (.dic kv) := k1.get0 hpat hr1
      have hr3 : r ≠ st.nxt := by omega
      have hr4 : (st.new (.dic kv)).at_ r = some (.dic kv) := by rw [Store.new_ne hr3]; exact hpat
      have hl3 : lg ≠ st.nxt := by omega
      have hl4 : lg ≠ st.nxt + 1 := by omega
      have hr5 : (((st.new (.dic kv)).put st.nxt (.dic (kv ++ [(Sum.inr x, .int ((kv.length : Nat) + 1))]))).new (.dic kv)).at_ (st.nxt + 1) = some (.dic kv) := Store.new_same
      by_cases z : x ∈ firm
      · refine ⟨out ++ [(st.nxt, setP pat x (some ((kv.length : Nat) + 1)))], (s2.new (.lst [.ref st.nxt])).new (.lst ((out.map fun a => D.ref a.1) ++ [.ref st.nxt])), by simp, ?_, Kp.new.trans Kp.new, ?_, ?_, by show s2.nxt + 1 < s2.nxt + 1 + 1; omega, by simp [z, e0]⟩
        · have ol' : (s2.new (.lst [.ref st.nxt])).at_ lg = some (.lst (out.map fun a => D.ref a.1)) := by rw [Store.new_ne (show lg ≠ s2.nxt by omega)]; exact ol
          have ol2 : (s2.new (.lst [.ref st.nxt])).at_ (st.nxt + 1 + 1) = some (.lst [.ref st.nxt]) := Store.new_same
          simp only [s2, s1] at ol' ol2 ⊢
          have i1 := inx ((((st.new (.dic kv)).put st.nxt (.dic (kv ++ [(Sum.inr x, .int ((kv.length : Nat) + 1))]))).new (.dic kv)).put (st.nxt + 1) (.dic (kv ++ [(Sum.inr x, .non)])))
          simp [law_patterns_L1, hpat, hr4, hr5, dz, hk1, hr2, hk2, i1, z, ol', ol2, hz1]
        · exact (Store.new_same (st := s2.new (.lst [.ref st.nxt]))).trans (by simp)
        · intro q hq
          rcases List.mem_append.mp hq with w | w
          · exact ((hp q w).mv k2 (by simp)).mv (js := []) (Kp.new.trans Kp.new) (by simp)
          · rw [List.mem_singleton.mp w]
            exact P1.mv (js := []) (Kp.new.trans Kp.new) (by simp)
      · refine ⟨out ++ [(st.nxt, setP pat x (some ((kv.length : Nat) + 1))), (st.nxt + 1, setP pat x none)], (s2.new (.lst [.ref st.nxt, .ref (st.nxt + 1)])).new (.lst ((out.map fun a => D.ref a.1) ++ [.ref st.nxt, .ref (st.nxt + 1)])), by simp, ?_, Kp.new.trans Kp.new, ?_, ?_, by show s2.nxt + 1 < s2.nxt + 1 + 1; omega, by simp [z, e0]⟩
        · have ol' : (s2.new (.lst [.ref st.nxt, .ref (st.nxt + 1)])).at_ lg = some (.lst (out.map fun a => D.ref a.1)) := by rw [Store.new_ne (show lg ≠ s2.nxt by omega)]; exact ol
          have ol2 : (s2.new (.lst [.ref st.nxt, .ref (st.nxt + 1)])).at_ (st.nxt + 1 + 1) = some (.lst [.ref st.nxt, .ref (st.nxt + 1)]) := Store.new_same
          simp only [s2, s1] at ol' ol2 ⊢
          have i1 := inx ((((st.new (.dic kv)).put st.nxt (.dic (kv ++ [(Sum.inr x, .int ((kv.length : Nat) + 1))]))).new (.dic kv)).put (st.nxt + 1) (.dic (kv ++ [(Sum.inr x, .non)])))
          simp [law_patterns_L1, hpat, hr4, hr5, dz, hk1, hr2, hk2, i1, z, ol', ol2, hz]
        · exact (Store.new_same (st := s2.new (.lst [.ref st.nxt, .ref (st.nxt + 1)]))).trans (by simp)
        · intro q hq
          rcases List.mem_append.mp hq with w | w
          · exact ((hp q w).mv k2 (by simp)).mv (js := []) (Kp.new.trans Kp.new) (by simp)
          · simp only [List.mem_cons, List.not_mem_nil, or_false] at w
            rcases w with w | w
            · rw [w]; exact P1.mv (js := []) (Kp.new.trans Kp.new) (by simp)
            · rw [w]; exact P2.mv (js := []) (Kp.new.trans Kp.new) (by simp)
    have k24 := k2.trans k4
    obtain ⟨lg', out', q4, q5, q6, s5, e5, h1, h2, h3, h4, h5, h6⟩ := pat_loop1 hx hxi hs hd (fm := fm) (all := all) hfm rs (s2.nxt + 1) out2 (some (.ref r)) (some (.ref st.nxt)) (some (.ref (st.nxt + 1))) s4 (fun q hq => ⟨(hrs q (List.mem_cons_of_mem _ hq)).1, (hrs q (List.mem_cons_of_mem _ hq)).2.mv k24 (by simp)⟩) (Nat.le_trans hN k24.le) (k24.get0 hf (by omega)) hl4 ha4 hP4 (by simp at hlen; omega)
    refine ⟨lg', out', q4, q5, q6, s5, ?_, h1, h2, h3, k24.trans h4, by simp; omega, by rw [h6, hm4]; simp [patStep]⟩
    rw [List.map_cons, loopS_nx (srcOk_one hf) (by rfl) hbody]
    exact e5
/-- the outer loop's step -/
theorem pat_step {firm done : List Str} {x : Str} (hx : x ∉ done) (hxi : TOk x) (hs : ∀ z ∈ firm, TOk z) (hd : done.length ≤ 10) (fm : Nat) (rs : List (Nat × Pat)) (o3 o4 o5 o6 o2 : Option D) (st : Store) (hfm : fm < st.nxt) (hf : st.at_ fm = some (.lst (rs.map fun a => D.ref a.1))) (hrs : ∀ r ∈ rs, PatOk st done r) (hl : rs.length ≤ 50) :
    ∃ (lg : Nat) (out : List (Nat × Pat)) (p3 p4 p5 p6 : Option D) (st' : Store), law_patterns_L2 [some (.tup (firm.map D.str)), some (.ref fm), some (.str x), o3, o4, o5, o6] st = .nx [some (.tup (firm.map D.str)), some (.ref lg), some (.str x), p3, p4, p5, p6] st' ∧
      lg < st'.nxt ∧ st'.at_ lg = some (.lst (out.map fun a => D.ref a.1)) ∧ (∀ r ∈ out, PatOk st' (done ++ [x]) r) ∧ Kp [] st st' ∧ out.length ≤ 2 * rs.length ∧ out.map (·.2) = patStep firm x done.length (rs.map (·.2)) := by
  have f1 : (st.new (.lst [])).at_ fm = some (.lst (rs.map fun a => D.ref a.1)) := by rw [Store.new_ne (by omega)]; exact hf
  obtain ⟨lg, out, q4, q5, q6, s2, e2, h1, h2, h3, h4, h5, h6⟩ := pat_loop1 hx hxi hs hd (N0 := st.nxt) hfm rs st.nxt [] o4 o5 o6 (st.new (.lst [])) (fun r hr => ⟨(hrs r hr).1, (hrs r hr).mv (js := []) Kp.new (by simp)⟩) (Nat.le_succ _) f1 (Nat.lt_succ_self _) Store.new_same (by simp) (by simp; omega)
  refine ⟨lg, out, some (.ref lg), q4, q5, q6, s2, ?_, h1, h2, h3, Kp.new.trans h4, by simpa using h5, by simpa using h6⟩
  simp [law_patterns_L2, f1, e2]
def patsL (firm : List Str) : List Pat := patStep firm "bird2" 2 (patStep firm "a" 1 (patStep firm "sky" 0 [fun _ => none]))
theorem patterns_ok {firm : List Str} (hs : ∀ z ∈ firm, TOk z) {st : Store} : ∃ (m : Nat) (out : List (Nat × Pat)) (st' : Store), F_law_patterns [.tup (firm.map D.str)] st = .ok (.ref m) st' ∧ m < st'.nxt ∧ st'.at_ m = some (.lst (out.map fun a => D.ref a.1)) ∧ (∀ r ∈ out, PatOk st' inks r) ∧ out.map (·.2) = patsL firm ∧ Kp [] st st' := by
  have t := fun (z : Str) (hz : z ∈ inks) => (inks_name hz).t
  let s0 := ((st.new (.dic [])).new (.lst [.ref st.nxt])).new (.lst [.str "sky", .str "a", .str "bird2"])
  have n0 : s0.nxt = st.nxt + 3 := rfl
  have f0 : s0.at_ (st.nxt + 1) = some (.lst ([(st.nxt, fun _ => none)].map fun (a : Nat × Pat) => D.ref a.1)) := by
    show (((st.new (.dic [])).new (.lst [.ref st.nxt])).new (.lst [.str "sky", .str "a", .str "bird2"])).at_ (st.nxt + 1) = _
    rw [Store.new_ne (show st.nxt + 1 ≠ st.nxt + 1 + 1 by omega)]
    exact Store.new_same
  have p0 : ∀ r ∈ [((st.nxt, fun _ => none) : Nat × Pat)], PatOk s0 [] r := fun r hr => by
    rw [List.mem_singleton.mp hr]
    refine ⟨by rw [n0]; omega, ?_⟩
    show (((st.new (.dic [])).new (.lst [.ref st.nxt])).new (.lst [.str "sky", .str "a", .str "bird2"])).at_ st.nxt = _
    rw [Store.new_ne (show st.nxt ≠ st.nxt + 1 + 1 by omega), Store.new_ne (show st.nxt ≠ st.nxt + 1 by omega)]
    exact Store.new_same
  have src0 : s0.at_ (st.nxt + 2) = some (.lst [.str "sky", .str "a", .str "bird2"]) := Store.new_same
  have nx0 : (("sky" : Str)) ∉ ([] : List Str) := by simp
  have nx1 : (("a" : Str)) ∉ (([] : List Str) ++ [("sky" : Str)]) := by decide +kernel
  have nx2 : (("bird2" : Str)) ∉ (([] : List Str) ++ [("sky" : Str)] ++ [("a" : Str)]) := by decide +kernel
  have t1 := t "sky" (by simp [inks])
  have t2 := t "a" (by simp [inks])
  have t3 := t "bird2" (by simp [inks])
  obtain ⟨g1, o1, a3, a4, a5, a6, s1, e1, b1, b2, b3, k1, l1, t4⟩ := pat_step (firm := firm) (done := ([] : List Str)) (x := ("sky" : Str)) nx0 t1 hs (by decide) (st.nxt + 1) [(st.nxt, fun _ => none)] none none none none (some (.str "sky")) s0 (by rw [n0]; omega) f0 p0 (by simp)
  obtain ⟨g2, o2, c3, c4, c5, c6, s2, e2, d1, d2, d3, k2, l2, t5⟩ := pat_step (firm := firm) (done := ([] : List Str) ++ [("sky" : Str)]) (x := ("a" : Str)) nx1 t2 hs (by decide) g1 o1 a3 a4 a5 a6 (some (.str "a")) s1 b1 b2 b3 (by simp at l1; omega)
  obtain ⟨g3, o3, f3, f4, f5, f6, s3, e3, h1, h2, h3, k3, l3, t6⟩ := pat_step (firm := firm) (done := ([] : List Str) ++ [("sky" : Str)] ++ [("a" : Str)]) (x := ("bird2" : Str)) nx2 t3 hs (by decide) g2 o2 c3 c4 c5 c6 (some (.str "bird2")) s2 d1 d2 d3 (by simp at l1; omega)
  have src1 := k1.get0 src0 (by rw [n0]; omega)
  have src2 := k2.get0 src1 (Nat.lt_of_lt_of_le (show st.nxt + 2 < s0.nxt by rw [n0]; omega) k1.le)
  have src3 := k3.get0 src2 (Nat.lt_of_lt_of_le (show st.nxt + 2 < s0.nxt by rw [n0]; omega) (Nat.le_trans k1.le k2.le))
  refine ⟨g3, o3, s3, ?_, h1, h2, h3, by rw [t6, t5, t4]; rfl, ?_⟩
  · have lp : loopS (tgName 2) law_patterns_L2 [(st.nxt + 2, [.str "sky", .str "a", .str "bird2"])] [.str "sky", .str "a", .str "bird2"] [some (.tup (firm.map D.str)), some (.ref (st.nxt + 1)), none, none, none, none, none] s0 = .nx [some (.tup (firm.map D.str)), some (.ref g3), some (.str "bird2"), f3, f4, f5, f6] s3 := by
      rw [loopS_nx (srcOk_one src0) (by rfl) e1, loopS_nx (srcOk_one src1) (by rfl) e2, loopS_nx (srcOk_one src2) (by rfl) e3]
      exact loopS_nil (srcOk_one src3)
    have src0' : (((st.new (.dic [])).new (.lst [.ref st.nxt])).new (.lst [.str "sky", .str "a", .str "bird2"])).at_ (st.nxt + 1 + 1) = some (.lst [.str "sky", .str "a", .str "bird2"]) := src0
    have lp' : loopS (tgName 2) law_patterns_L2 [(st.nxt + 1 + 1, [.str "sky", .str "a", .str "bird2"])] [.str "sky", .str "a", .str "bird2"] [some (.tup (firm.map D.str)), some (.ref (st.nxt + 1)), none, none, none, none, none] (((st.new (.dic [])).new (.lst [.ref st.nxt])).new (.lst [.str "sky", .str "a", .str "bird2"])) = .nx [some (.tup (firm.map D.str)), some (.ref g3), some (.str "bird2"), f3, f4, f5, f6] s3 := lp
    simp [F_law_patterns, src0', lp']
  · exact (Kp.new.trans (Kp.new.trans Kp.new)).trans (k1.trans (k2.trans k3))
/-- the colours that the law draws -/
def hueL (z : Str) : Int := if z = "sky" then 1 else if z = "a" then 2 else 3
theorem hueL_inj : ∀ a ∈ inks, ∀ b ∈ inks, hueL a = hueL b → a = b := by decide +kernel
theorem mem_patStep {firm : List Str} {x : Str} {k : Int} {ps : List Pat} {q : Pat} : q ∈ patStep firm x k ps ↔ ∃ p ∈ ps, q = setP p x (some (k + 1)) ∨ (x ∉ firm ∧ q = setP p x none) := by
  unfold patStep
  simp only [List.mem_flatten, List.mem_map]
  constructor
  · rintro ⟨l, ⟨p, hp, rfl⟩, hq⟩
    refine ⟨p, hp, ?_⟩
    by_cases h : x ∈ firm
    · rw [if_pos h] at hq; exact .inl (List.mem_singleton.mp hq)
    · rw [if_neg h] at hq
      simp only [List.mem_cons, List.not_mem_nil, or_false] at hq
      rcases hq with e | e
      · exact .inl e
      · exact .inr ⟨h, e⟩
  · rintro ⟨p, hp, h⟩
    refine ⟨_, ⟨p, hp, rfl⟩, ?_⟩
    by_cases hx : x ∈ firm
    · rw [if_pos hx]
      rcases h with e | e
      · rw [e]; simp
      · exact absurd hx e.1
    · rw [if_neg hx]
      rcases h with e | e
      · rw [e]; simp
      · rw [e.2]; simp
theorem inks3 : ∀ z, z ∈ inks ↔ z = "sky" ∨ z = "a" ∨ z = "bird2" := fun z => by simp [inks]
theorem pats_full {firm : List Str} : ∀ q ∈ patsL firm, Full firm inks q := by
  intro q hq z hz hi
  have n1 : ¬ (("sky" : Str) = "a") := by decide +kernel
  have n2 : ¬ (("sky" : Str) = "bird2") := by decide +kernel
  have n3 : ¬ (("a" : Str) = "bird2") := by decide +kernel
  obtain ⟨p2, h2, e3⟩ := mem_patStep.mp hq
  obtain ⟨p1, h1, e2⟩ := mem_patStep.mp h2
  obtain ⟨p0, h0, e1⟩ := mem_patStep.mp h1
  rcases (inks3 z).mp hi with rfl | rfl | rfl
  · have w2 : p1 "sky" = some (0 + 1) := by
      rcases e1 with e | e
      · rw [e]; simp [setP]
      · exact absurd hz e.1
    have w1 : p2 "sky" = some (0 + 1) := by rcases e2 with e | ⟨_, e⟩ <;> rw [e] <;> simp [setP, n1, w2]
    have w0 : q "sky" = some (0 + 1) := by rcases e3 with e | ⟨_, e⟩ <;> rw [e] <;> simp [setP, n2, w1]
    rw [w0]; rfl
  · have w1 : p2 "a" = some (1 + 1) := by
      rcases e2 with e | e
      · rw [e]; simp [setP]
      · exact absurd hz e.1
    have w0 : q "a" = some (1 + 1) := by rcases e3 with e | ⟨_, e⟩ <;> rw [e] <;> simp [setP, n3, w1]
    rw [w0]; rfl
  · rcases e3 with e | e
    · rw [e]; simp [setP]
    · exact absurd hz e.1
theorem pats_all {firm h : List Str} (hf : ∀ z ∈ h, z ∉ firm) : ∃ q ∈ patsL firm, ∀ z ∈ inks, q z = holed hueL h z := by
  have n1 : ¬ (("sky" : Str) = "a") := by decide +kernel
  have n2 : ¬ (("sky" : Str) = "bird2") := by decide +kernel
  have n3 : ¬ (("a" : Str) = "bird2") := by decide +kernel
  have m1 : ¬ (("a" : Str) = "sky") := by decide +kernel
  have m2 : ¬ (("bird2" : Str) = "sky") := by decide +kernel
  have m3 : ¬ (("bird2" : Str) = "a") := by decide +kernel
  have one : ∀ (p : Pat) (x : Str) (k : Int) (ps : List Pat), p ∈ ps → setP p x (if x ∈ h then none else some (k + 1)) ∈ patStep firm x k ps := fun p x k ps hp => by
    refine mem_patStep.mpr ⟨p, hp, ?_⟩
    by_cases w : x ∈ h
    · rw [if_pos w]; exact .inr ⟨hf x w, rfl⟩
    · rw [if_neg w]; exact .inl rfl
  refine ⟨_, one _ "bird2" 2 _ (one _ "a" 1 _ (one (fun _ => none) "sky" 0 _ (by simp))), fun z hz => ?_⟩
  rcases (inks3 z).mp hz with rfl | rfl | rfl
  · simp [setP, n1, n2, holed, hueL]
  · simp [setP, n3, holed, hueL, m1]
  · simp [setP, holed, hueL, m2, m3]
theorem valP_congr {p q : Pat} {I : List Str} (h : ∀ z ∈ I, p z = q z) : ∀ {r : List Str}, (∀ z ∈ r, z ∈ I) → valP p r = valP q r
  | [], _ => rfl
  | z :: r, hr => by rw [valP_cons, valP_cons, h z (hr z (by simp)), valP_congr h fun w hw => hr w (List.mem_cons_of_mem _ hw)]
/-- stands that no choice of the law tells apart, both closed -/
theorem sep_pats {firm : List Str} {s t : Stand} (hs : s.Good firm inks) (ht : t.Good firm inks) (cs : s.closed = true) (ct : t.closed = true) (h : ∀ q ∈ patsL firm, valP q s.row = valP q t.row) : s = t :=
  sep_stand hueL_inj hs ht cs ct fun g h1 h2 => by
    obtain ⟨q, hq, e⟩ := pats_all h1
    rw [← valP_congr e hs.ok.inks, ← valP_congr e ht.ok.inks]
    exact h q hq
/-- lists of them -/
theorem sep_lists {firm : List Str} : ∀ {ss ts : List Stand}, (∀ s ∈ ss, s.Good firm inks ∧ s.closed = true) → (∀ t ∈ ts, t.Good firm inks ∧ t.closed = true) → patsL firm ≠ [] → (∀ q ∈ patsL firm, ss.map (fun s => valP q s.row) = ts.map (fun s => valP q s.row)) → ss = ts
  | [], [], _, _, _, _ => rfl
  | [], t :: ts, _, _, hn, h => by
    obtain ⟨q, hq⟩ := List.exists_mem_of_ne_nil _ hn
    exact absurd (h q hq) (by simp)
  | s :: ss, [], _, _, hn, h => by
    obtain ⟨q, hq⟩ := List.exists_mem_of_ne_nil _ hn
    exact absurd (h q hq) (by simp)
  | s :: ss, t :: ts, hs, ht, hn, h => by
    have h1 := sep_pats (hs s (by simp)).1 (ht t (by simp)).1 (hs s (by simp)).2 (ht t (by simp)).2 fun q hq => by
      have := h q hq
      simp only [List.map_cons, List.cons.injEq] at this
      exact this.1
    have h2 := sep_lists (ss := ss) (ts := ts) (fun a ha => hs a (List.mem_cons_of_mem _ ha)) (fun a ha => ht a (List.mem_cons_of_mem _ ha)) hn fun q hq => by
      have := h q hq
      simp only [List.map_cons, List.cons.injEq] at this
      exact this.2
    rw [h1, h2]
theorem pats_ne {firm : List Str} : patsL firm ≠ [] := by
  obtain ⟨q, hq, _⟩ := pats_all (firm := firm) (h := []) (by simp)
  intro e
  rw [e] at hq
  simp at hq
end G


set_option Elab.async false
set_option linter.all false
set_option maxRecDepth 100000
set_option  maxHeartbeats   4000000
/-! Loops by what they find; all spots of a screen. -/
namespace G
open DV PySem L2
/-- the sources of a loop stay -/
theorem src_one {st0 : Store} {m : Nat} {xs : List D} (h : st0.at_ m = some (.lst xs)) (hm : m < st0.nxt) : ∀ st, Kp [] st0 st → SrcOk [(m, xs)] st := fun st k => srcOk_one (k.get0 h hm)
theorem src_nil {st0 : Store} : ∀ st, Kp [] st0 st → SrcOk [] st := fun st k => srcOk_nil
/-- a loop that goes on with the good ones and returns at the first other one -/
theorem loopS_all {t : TGT} {body : MS} {srcs : List (Nat × List D)} {α : Type} {k : α → D} {P : α → Bool} {J : DV.Loc → Prop} {bad : D} {st0 : Store} (so : ∀ st, Kp [] st0 st → SrcOk srcs st) : ∀ (xs : List α),
    (∀ a ∈ xs, ∀ l st, J l → Kp [] st0 st → ∃ l1, t (k a) l st = some l1 ∧ (if P a = true then ∃ l2 st2, body l1 st = .nx l2 st2 ∧ J l2 ∧ Kp [] st st2 else ∃ st2, body l1 st = .rt bad st2 ∧ Kp [] st st2)) →
    ∀ l st, J l → Kp [] st0 st → (if xs.all P = true then ∃ l' st', loopS t body srcs (xs.map k) l st = .nx l' st' ∧ J l' ∧ Kp [] st st' else ∃ st', loopS t body srcs (xs.map k) l st = .rt bad st' ∧ Kp [] st st')
  | [], _, l, st, hJ, hk => by
    simp only [List.all_nil, if_true]
    exact ⟨l, st, loopS_nil (so st hk), hJ, Kp.refl⟩
  | a :: xs, step, l, st, hJ, hk => by
    obtain ⟨l1, h1, h2⟩ := step a (by simp) l st hJ hk
    simp only [List.all_cons, List.map_cons]
    cases q : P a with
    | false =>
      rw [q] at h2
      simp only [Bool.false_eq_true, if_false, Bool.false_and] at h2 ⊢
      obtain ⟨st2, e, k2⟩ := h2
      exact ⟨st2, loopS_rt (so st hk) h1 e, k2⟩
    | true =>
      rw [q] at h2
      simp only [if_true, Bool.true_and] at h2 ⊢
      obtain ⟨l2, st2, e, hJ2, k2⟩ := h2
      have ih := loopS_all (J := J) (bad := bad) so xs (fun b hb => step b (List.mem_cons_of_mem _ hb)) l2 st2 hJ2 (hk.trans k2)
      rw [loopS_nx (so st hk) h1 e]
      split
      · rename_i w
        rw [if_pos w] at ih
        obtain ⟨l', st', e', j', k'⟩ := ih
        exact ⟨l', st', e', j', k2.trans k'⟩
      · rename_i w
        rw [if_neg w] at ih
        obtain ⟨st', e', k'⟩ := ih
        exact ⟨st', e', k2.trans k'⟩
/-- a loop that never returns -/
theorem loopS_go {t : TGT} {body : MS} {srcs : List (Nat × List D)} {α : Type} {k : α → D} {J : DV.Loc → Prop} {st0 : Store} (so : ∀ st, Kp [] st0 st → SrcOk srcs st) : ∀ (xs : List α),
    (∀ a ∈ xs, ∀ l st, J l → Kp [] st0 st → ∃ l1, t (k a) l st = some l1 ∧ ∃ l2 st2, body l1 st = .nx l2 st2 ∧ J l2 ∧ Kp [] st st2) →
    ∀ l st, J l → Kp [] st0 st → ∃ l' st', loopS t body srcs (xs.map k) l st = .nx l' st' ∧ J l' ∧ Kp [] st st' := fun xs step l st hJ hk => by
  have := loopS_all (P := fun _ => true) (bad := .non) (J := J) so xs (fun a ha l st h1 h2 => by
    obtain ⟨l1, e, h⟩ := step a ha l st h1 h2
    exact ⟨l1, e, by rw [if_pos rfl]; exact h⟩) l st hJ hk
  rw [if_pos (by simp)] at this
  exact this
/-- a comprehension with a test -/
theorem loopC_filter {t : TGT} {mt : MT} {me : ME} {srcs : List (Nat × List D)} {l0 : DV.Loc} {α : Type} {k : α → D} {P : α → Bool} {f : α → D} {st0 : Store} (so : ∀ st, Kp [] st0 st → SrcOk srcs st) : ∀ (xs : List α),
    (∀ a ∈ xs, ∀ st, Kp [] st0 st → ∃ l1 st1, t (k a) l0 st = some l1 ∧ mt l1 st = .ok (P a) st1 ∧ Kp [] st st1 ∧ (P a = true → ∃ st2, me l1 st1 = .ok (f a) st2 ∧ Kp [] st1 st2)) →
    ∀ st, Kp [] st0 st → ∃ st', loopC t mt me srcs l0 (xs.map k) st = .ok ((xs.filter P).map f) st' ∧ Kp [] st st'
  | [], _, st, hk => ⟨st, loopC_nil (so st hk), Kp.refl⟩
  | a :: xs, step, st, hk => by
    obtain ⟨l1, st1, h1, h2, k1, h3⟩ := step a (by simp) st hk
    rw [List.map_cons, loopC_cons (so st hk) h1, h2]
    have ih := fun st hk => loopC_filter so xs (fun b hb => step b (List.mem_cons_of_mem _ hb)) st hk
    cases q : P a with
    | false =>
      obtain ⟨st', e, k'⟩ := ih st1 (hk.trans k1)
      refine ⟨st', ?_, k1.trans k'⟩
      simp only [Bool.false_eq_true, if_false, e]
      rw [List.filter_cons_of_neg (by rw [q]; decide)]
    | true =>
      obtain ⟨st2, e2, k2⟩ := h3 q
      obtain ⟨st', e, k'⟩ := ih st2 (hk.trans (k1.trans k2))
      refine ⟨st', ?_, k1.trans (k2.trans k')⟩
      simp only [if_true, e2, e]
      rw [List.filter_cons_of_pos q, List.map_cons]
/-- a comprehension without a test -/
theorem loopC_map {t : TGT} {me : ME} {srcs : List (Nat × List D)} {l0 : DV.Loc} {α : Type} {k : α → D} {f : α → D} {st0 : Store} (so : ∀ st, Kp [] st0 st → SrcOk srcs st) (xs : List α)
    (step : ∀ a ∈ xs, ∀ st, Kp [] st0 st → ∃ l1 st2, t (k a) l0 st = some l1 ∧ me l1 st = .ok (f a) st2 ∧ Kp [] st st2) :
    ∀ st, Kp [] st0 st → ∃ st', loopC t tYes_ me srcs l0 (xs.map k) st = .ok (xs.map f) st' ∧ Kp [] st st' := fun st hk => by
  obtain ⟨st', e, k'⟩ := loopC_filter (mt := tYes_) (me := me) (P := fun _ => true) (f := f) so xs (fun a ha st h => by
    obtain ⟨l1, st2, h1, h2, h3⟩ := step a ha st h
    exact ⟨l1, st, h1, rfl, Kp.refl, fun _ => ⟨st2, h2, h3⟩⟩) st hk
  refine ⟨st', ?_, k'⟩
  rw [e, List.filter_eq_self.mpr (fun _ _ => rfl)]
/-! ### ints, spots -/
def intL (i : Int) : Nat → List Int
  | 0 => []
  | n + 1 => i :: intL (i + 1) n
theorem ints_eq : ∀ (n : Nat) (i : Int), DV.intsFrom i n = (intL i n).map D.int
  | 0, _ => rfl
  | n + 1, i => by
    simp only [DV.intsFrom, intL, List.map_cons, ints_eq n]
theorem mem_intL {k : Int} : ∀ {n : Nat} {i : Int}, k ∈ intL i n ↔ i ≤ k ∧ k < i + n
  | 0, i => by
    simp only [intL, List.not_mem_nil, false_iff]
    omega
  | n + 1, i => by
    simp only [intL, List.mem_cons, mem_intL (n := n)]
    constructor
    · rintro (h | h) <;> omega
    · intro h; omega
theorem intL_len : ∀ {n : Nat} {i : Int}, (intL i n).length = n
  | 0, _ => rfl
  | n + 1, i => by simp [intL, intL_len (n := n)]
theorem up_intL : ∀ {n : Nat} {i : Int}, (intL i n).Pairwise (· < ·)
  | 0, _ => by simp [intL]
  | n + 1, i => by
    simp only [intL, List.pairwise_cons]
    exact ⟨fun k hk => by have := mem_intL.mp hk; omega, up_intL⟩
def dotD (q : Int × Int) : D := .tup [.int q.1, .int q.2]
def dotsL (W Hh : Int) : List (Int × Int) := ((intL 0 Hh.toNat).map fun y => (intL 0 W.toNat).map fun x => (x, y)).flatten
theorem mem_dotsL {W Hh x y : Int} : (x, y) ∈ dotsL W Hh ↔ 0 ≤ x ∧ x < W ∧ 0 ≤ y ∧ y < Hh := by
  unfold dotsL
  simp only [List.mem_flatten, List.mem_map]
  constructor
  · rintro ⟨l, ⟨y', hy, rfl⟩, hx⟩
    obtain ⟨x', hx', e⟩ := List.mem_map.mp hx
    cases e
    have h1 := mem_intL.mp hx'
    have h2 := mem_intL.mp hy
    omega
  · intro h
    exact ⟨_, ⟨y, mem_intL.mpr (by omega), rfl⟩, List.mem_map.mpr ⟨x, mem_intL.mpr (by omega), rfl⟩⟩
theorem dots_loop {p : Pic} {d3 d4 : D} (hW : 0 < p.W) (hW2 : p.W ≤ 30) : ∀ (n : Nat) (i : Int) (m : Nat) (ds : List D) (o2 : Option D) (st : Store), m < st.nxt → st.at_ m = some (.lst ds) → ds.length + 30 * n ≤ 1000 →
    ∃ (m' : Nat) (p2 : Option D) (st' : Store), loopS (tgName 2) law_dots_L1 [] (DV.intsFrom i n) [some (.tup [.int p.W, .int p.Hh, d3, d4]), some (.ref m), o2, none] st = .nx [some (.tup [.int p.W, .int p.Hh, d3, d4]), some (.ref m'), p2, none] st' ∧ m' < st'.nxt ∧ st'.at_ m' = some (.lst (ds ++ (((intL i n).map fun y => (intL 0 p.W.toNat).map fun x => (x, y)).flatten.map dotD))) ∧ Kp [] st st'
  | 0, i, m, ds, o2, st, hm, ha, _ => ⟨m, o2, st, loopS_nil srcOk_nil, hm, by simpa [intL] using ha, Kp.refl⟩
  | n + 1, i, m, ds, o2, st, hm, ha, hl => by
    have lp : loopC (tgName 3) tYes_ law_dots_C1 [] [some (.tup [.int p.W, .int p.Hh, d3, d4]), some (.ref m), some (.int i), none] (DV.intsFrom 0 p.W.toNat) st = .ok ((intL 0 p.W.toNat).map fun x => dotD (x, i)) st := by
      rw [ints_eq]
      exact loopC_pureS srcOk_nil fun d hd => ⟨[some (.tup [.int p.W, .int p.Hh, d3, d4]), some (.ref m), some (.int i), some (.int d)], rfl, by simp [law_dots_C1, dotD]⟩
    have hz1 : (intL 0 p.W.toNat).length ≤ sizeLine := by rw [intL_len]; exact small_line (by omega)
    have hz2 : ds.length + (intL 0 p.W.toNat).length ≤ sizeLine := by rw [intL_len]; exact small_line (by omega)
    have a1 : (st.new (.lst ((intL 0 p.W.toNat).map fun x => dotD (x, i)))).at_ m = some (.lst ds) := by rw [Store.new_ne (by omega)]; exact ha
    have w1 : -4611686018427387904 ≤ p.W := by omega
    have w2 : p.W < 4611686018427387904 := by omega
    have body : law_dots_L1 [some (.tup [.int p.W, .int p.Hh, d3, d4]), some (.ref m), some (.int i), none] st = .nx [some (.tup [.int p.W, .int p.Hh, d3, d4]), some (.ref (st.nxt + 1)), some (.int i), none] ((st.new (.lst ((intL 0 p.W.toNat).map fun x => dotD (x, i)))).new (.lst (ds ++ (intL 0 p.W.toNat).map fun x => dotD (x, i)))) := by
      simp [law_dots_L1, w1, w2, wipeL, lp, hz1, a1, hz2]
    obtain ⟨m', p2, s2, e2, h1, h2, h4⟩ := dots_loop (p := p) (d3 := d3) (d4 := d4) hW hW2 n (i + 1) (st.nxt + 1) (ds ++ (intL 0 p.W.toNat).map fun x => dotD (x, i)) (some (.int i)) ((st.new (.lst ((intL 0 p.W.toNat).map fun x => dotD (x, i)))).new (.lst (ds ++ (intL 0 p.W.toNat).map fun x => dotD (x, i)))) (by show st.nxt + 1 < st.nxt + 1 + 1; omega) Store.new_same (by rw [List.length_append, List.length_map, intL_len]; omega)
    refine ⟨m', p2, s2, ?_, h1, ?_, (Kp.new.trans Kp.new).trans h4⟩
    · show loopS (tgName 2) law_dots_L1 [] (.int i :: DV.intsFrom (i + 1) n) _ st = _
      rw [loopS_nx srcOk_nil (by rfl) body]
      exact e2
    · rw [h2]
      simp [intL, Function.comp_def]
theorem dots_ok {p : Pic} {d3 d4 : D} {st : Store} (hW : 0 < p.W) (hW2 : p.W ≤ 30) (hH : 0 < p.Hh) (hH2 : p.Hh ≤ 30) : ∃ (m : Nat) (st' : Store), F_law_dots [.tup [.int p.W, .int p.Hh, d3, d4]] st = .ok (.ref m) st' ∧ m < st'.nxt ∧ st'.at_ m = some (.lst ((dotsL p.W p.Hh).map dotD)) ∧ Kp [] st st' := by
  obtain ⟨m', p2, s2, e2, h1, h2, h4⟩ := dots_loop (p := p) (d3 := d3) (d4 := d4) hW hW2 p.Hh.toNat 0 st.nxt [] none (st.new (.lst [])) (Nat.lt_succ_self _) Store.new_same (by simp; omega)
  refine ⟨m', s2, ?_, h1, by simpa [dotsL] using h2, Kp.new.trans h4⟩
  have w1 : -4611686018427387904 ≤ p.Hh := by omega
  have w2 : p.Hh < 4611686018427387904 := by omega
  simp [F_law_dots, w1, w2, e2]
/-! ### the jar of a cell, the law -/
theorem pow18 {st : Store} : fPow (.int 10) (.int 18) st = some (.int 1000000000000000000, st) := by
  have c : CPow 10 18 := ⟨by decide, by decide, by decide⟩
  have e : (10 : Int) ^ (18 : Int).toNat = 1000000000000000000 := by decide +kernel
  unfold fPow fI
  simp only [if_pos c, e]
theorem jar_loop {m : Nat} {all : List D} {o0 o1 o4 o5 : Option D} {st : Store} (ha : st.at_ m = some (.lst all)) : ∀ (is : List Int) (mx : Int) (o3 : Option D), ∃ (mx' : Int) (p3 : Option D), loopS (tgName 3) law_jar_L1 [(m, all)] (is.map D.int) [o0, o1, some (.int mx), o3, o4, o5] st = .nx [o0, o1, some (.int mx'), p3, o4, o5] st
  | [], mx, o3 => ⟨mx, o3, loopS_nil (srcOk_one ha)⟩
  | i :: is, mx, o3 => by
    have c : CMul mx 733 := .inr ⟨by decide, by decide⟩
    have body : law_jar_L1 [o0, o1, some (.int mx), some (.int i), o4, o5] st = .nx [o0, o1, some (.int ((mx * 733 + i) % 1000000007)), some (.int i), o4, o5] st := by simp [law_jar_L1, c]
    obtain ⟨mx', p3, e⟩ := jar_loop (o0 := o0) (o1 := o1) (o4 := o4) (o5 := o5) ha is ((mx * 733 + i) % 1000000007) (some (.int i))
    refine ⟨mx', p3, ?_⟩
    rw [List.map_cons, loopS_nx (srcOk_one ha) (by rfl) body]
    exact e
theorem cut_ints (ns : List Int) (lo hi : Option Int) : ∃ is : List Int, cutD (ns.map D.int) lo hi = is.map D.int := by
  unfold cutD
  rw [← List.map_drop, ← List.map_take]
  exact ⟨_, rfl⟩
theorem jar_ok {ns : List Int} {k : Int} {st : Store} (h0 : 0 ≤ k) (h4 : k < 60) (hn : ns.length ≤ 63) : ∃ (j : Nat) (st' : Store), F_law_jar [.rol (ns.map D.int), .int k] st = .ok (.ref j) st' ∧ JarAt st' j ∧ j < st'.nxt ∧ st.nxt ≤ st'.nxt := by
  obtain ⟨is, his⟩ := cut_ints ns none (some 4)
  obtain ⟨mx, p3, e3⟩ := jar_loop (m := st.nxt) (all := is.map D.int) (o0 := some (.rol (ns.map D.int))) (o1 := some (.int k)) (o4 := none) (o5 := none) (st := st.new (.lst (is.map D.int))) Store.new_same is (8191 * (k + 2) * (k + 5) + 13 * (ns.length : Nat)) none
  have c1 : CMul 8191 (k + 2) := .inl ⟨by decide, by decide⟩
  have c2 : CMul (8191 * (k + 2)) (k + 5) := .inr ⟨by omega, by omega⟩
  have c3 : CMul 13 (ns.length : Nat) := .inl ⟨by decide, by decide⟩
  have c4 : CMul mx 7907 := .inr ⟨by decide, by decide⟩
  have c5 : ∀ o : Int, CMul o 65537 := fun o => .inr ⟨by decide, by decide⟩
  have c6 : CMul 104729 (k + 1) := .inl ⟨by decide, by decide⟩
  -- the cell's own number
  obtain ⟨own, ho⟩ : ∃ own : Int, (if k < (ns.length : Nat) then atI (ns.map D.int) k else some (.int 0)) = some (.int own) := by
    by_cases q : k < (ns.length : Nat)
    · have hk : k.toNat < ns.length := by omega
      refine ⟨ns[k.toNat], ?_⟩
      rw [if_pos q]
      exact ev_atI h0 (by rw [List.getElem?_map, List.getElem?_eq_getElem hk]; rfl)
    · exact ⟨0, by rw [if_neg q]⟩
  have own_ : mIf (tB_ (m2 fLt (mVar 1) (mL (f1 lenD) (maCons (mVar 0) maNil)))) (m2 fIx (mVar 0) (mVar 1)) (mC (.int 0)) [some (.rol (ns.map D.int)), some (.int k), some (.int mx), p3, none, none] (st.new (.lst (is.map D.int))) = .ok (.int own) (st.new (.lst (is.map D.int))) := by
    by_cases q : k < (ns.length : Nat)
    · rw [if_pos q] at ho
      simp [q, ho]
    · rw [if_neg q] at ho
      have z : own = 0 := by simpa using ho.symm
      simp [q, z]
  obtain ⟨dig, dig_⟩ : ∃ dig : Int, mIf (tOr_ (tB_ (m2 fLt (mVar 4) (mC (.int 0)))) (tB_ (m2 fGe (mVar 4) (m2 fPow (mC (.int 10)) (mC (.int 18)))))) (mL (f1 absD) (maCons (mVar 4) maNil)) (mC (.int 0)) [some (.rol (ns.map D.int)), some (.int k), some (.int mx), p3, some (.int own), none] (st.new (.lst (is.map D.int))) = .ok (.int dig) (st.new (.lst (is.map D.int))) := by
    by_cases q : own < 0
    · exact ⟨_, by simp [q]; rfl⟩
    · by_cases q2 : (1000000000000000000 : Int) ≤ own
      · exact ⟨_, by simp [q, pow18, q2]; rfl⟩
      · exact ⟨0, by simp [q, pow18, q2]⟩
  refine ⟨st.nxt + 1, (st.new (.lst (is.map D.int))).new (.lst [.int dig, .int ((mx * 7907 + own * 65537 + 104729 * (k + 1)) % 2147483587), .int 0]), ?_, ⟨_, _, _, Store.new_same⟩, by show st.nxt + 1 < st.nxt + 1 + 1; omega, by show st.nxt ≤ st.nxt + 1 + 1; omega⟩
  unfold F_law_jar
  have b1 : msAsg (m2 fAdd (m2 fMul (m2 fMul (mC (.int 8191)) (m2 fAdd (mVar 1) (mC (.int 2)))) (m2 fAdd (mVar 1) (mC (.int 5)))) (m2 fMul (mC (.int 13)) (mL (f1 lenD) (maCons (mVar 0) maNil)))) (tgName 2) [some (.rol (ns.map D.int)), some (.int k), none, none, none, none] st =
      .nx [some (.rol (ns.map D.int)), some (.int k), some (.int (8191 * (k + 2) * (k + 5) + 13 * (ns.length : Nat))), none, none, none] st := by simp [c1, c2, c3]
  have b2 : miSeq (mSl (mVar 0) moNone (moSome (mC (.int 4)))) [some (.rol (ns.map D.int)), some (.int k), some (.int (8191 * (k + 2) * (k + 5) + 13 * (ns.length : Nat))), none, none, none] st = .ok ⟨[(st.nxt, is.map D.int)], is.map D.int⟩ (st.new (.lst (is.map D.int))) := by simp [his]
  simp only [ev_mDef, List.length_cons, List.length_nil, if_true, List.map_cons, List.map_nil, List.replicate, List.cons_append, List.nil_append]
  rw [ev_msSeq, b1]
  simp only
  rw [ev_msSeq, ev_msFor, b2]
  simp only [ev_toS_ok, e3]
  rw [ev_msSeq, ev_msAsg, own_]
  simp only [ev_toS_ok, ev_tgName, List.set_cons_succ, List.set_cons_zero]
  rw [ev_msSeq, ev_msAsg, dig_]
  simp only [ev_toS_ok, ev_tgName, List.set_cons_succ, List.set_cons_zero]
  simp [c4, c5, c6]
theorem bools_rep : ∀ n : Nat, boolsD (List.replicate n (.bl true)) = some (List.replicate n true)
  | 0 => rfl
  | n + 1 => by
    simp only [List.replicate_succ, boolsD, bools_rep n]
    rfl
section
variable {R : FD} (hR : ∀ (j : Nat) (st : Store), JarAt st j → j < st.nxt → ∃ st', R [.ref j] st = .ok (.bl true) st' ∧ st.nxt ≤ st'.nxt)
noncomputable def lawC (R : FD) : ME := mCall R [] (maCons (mCall F_law_jar [] (maCons (mVar 0) (maCons (mVar 1) maNil))) maNil)
noncomputable def lawF (R : FD) (n : Int) : FD := mDef 1 2 (msRet (mL (f1 (allD true)) (maCons (mLc (miRng rng1 (maCons (mL (f2I maxI) (maCons (mC (.int 2)) (maCons (mL (f2I minI) (maCons (mL (f1 lenD) (maCons (mVar 0) maNil)) (maCons (mC (.int n)) maNil))) maNil))) maNil)) (tgName 1) tYes_ (lawC R) [1]) maNil)))
include hR
theorem law_loop {ns : List Int} {o0 : Option D} (hn : ns.length ≤ 63) (h0 : o0 = some (.rol (ns.map D.int))) : ∀ (n : Nat) (i : Int) (st : Store), 0 ≤ i → i + n ≤ 60 → ∃ st', loopC (tgName 1) tYes_ (lawC R) [] [o0, none] (DV.intsFrom i n) st = .ok (List.replicate n (.bl true)) st'
  | 0, i, st, _, _ => ⟨st, loopC_nil srcOk_nil⟩
  | n + 1, i, st, hi, hin => by
    obtain ⟨j, s1, e1, jr, jn, _⟩ := jar_ok (ns := ns) (k := i) (st := st) hi (by omega) hn
    obtain ⟨s2, e2, _⟩ := hR j s1 jr jn
    obtain ⟨s3, e3⟩ := law_loop hn h0 n (i + 1) s2 (by omega) (by omega)
    have c1 : lawC R [o0, some (.int i)] st = .ok (.bl true) s2 := by
      subst h0
      simp [lawC, e1, e2]
    refine ⟨s3, ?_⟩
    show loopC (tgName 1) tYes_ (lawC R) [] [o0, none] (.int i :: DV.intsFrom (i + 1) n) st = _
    rw [loopC_cons srcOk_nil (l1 := [o0, some (.int i)]) (by rfl)]
    simp only [ev_tYes_, if_true, c1, e3]
    rfl
theorem law_all {ns : List Int} {n : Int} (hn : ns.length ≤ 63) (hn2 : n ≤ 60) : ∃ st', lawF R n [.rol (ns.map D.int)] ⟨0, fun _ => none⟩ = .ok (.bl true) st' := by
  obtain ⟨r, hr, r0, r4⟩ : ∃ r : Int, r = maxI 2 (minI (ns.length : Nat) n) ∧ 0 ≤ r ∧ r ≤ 60 := by
    refine ⟨_, rfl, ?_, ?_⟩ <;> unfold maxI minI <;> split <;> (try split) <;> omega
  obtain ⟨s1, e1⟩ := law_loop hR hn (o0 := some (.rol (ns.map D.int))) rfl r.toNat 0 ⟨0, fun _ => none⟩ (by omega) (by omega)
  refine ⟨s1.new (.lst (List.replicate r.toNat (.bl true))), ?_⟩
  have w1 : -4611686018427387904 ≤ r := by omega
  have w2 : r < 4611686018427387904 := by omega
  have hz : r.toNat ≤ sizeLine := small_line (by omega)
  have hb := bools_rep r.toNat
  have rg : miRng rng1 (maCons (mL (f2I maxI) (maCons (mC (.int 2)) (maCons (mL (f2I minI) (maCons (mL (f1 lenD) (maCons (mVar 0) maNil)) (maCons (mC (.int n)) maNil))) maNil))) maNil) [some (.rol (ns.map D.int)), none] ⟨0, fun _ => none⟩ = .ok ⟨[], DV.intsFrom 0 r.toNat⟩ ⟨0, fun _ => none⟩ := by
    have e : miRng rng1 (maCons (mL (f2I maxI) (maCons (mC (.int 2)) (maCons (mL (f2I minI) (maCons (mL (f1 lenD) (maCons (mVar 0) maNil)) (maCons (mC (.int n)) maNil))) maNil))) maNil) [some (.rol (ns.map D.int)), none] ⟨0, fun _ => none⟩ = (match rng1 [.int (maxI 2 (minI (((ns.map D.int).length : Nat) : Int) n))] with
      | some it => (.ok it ⟨0, fun _ => none⟩ : Res Iter)
      | none => .bad) := rfl
    rw [e, List.length_map, ← hr]
    simp [w1, w2]
  unfold lawF
  simp only [ev_mDef, List.length_cons, List.length_nil, if_true, List.map_cons, List.map_nil, List.replicate, List.cons_append, List.nil_append, ev_msRet, ev_mL, ev_maCons, ev_maNil, ev_mLc]
  simp only [rg, ev_bind_ok, wipeL, e1]
  simp [hz, hb, e1]
end
end G


set_option Elab.async false
set_option linter.all false
set_option maxRecDepth 100000
set_option  maxHeartbeats   4000000
/-! Cells as boxes: every spot lies in one; what lies in one is covered alike. -/
namespace G
open DV PySem L2
structure Box where
  l : Int
  t : Int
  r : Int
  b : Int
def Box.d (c : Box) : D := .tup [.int c.l, .int c.t, .int c.r, .int c.b]
def Box.has (c : Box) (x y : Int) : Prop := c.l ≤ x ∧ x < c.r ∧ c.t ≤ y ∧ y < c.b
def cellsG (W Hh : Int) (fs : List Fr) : List Box := (((downP Hh fs).zip (downP Hh fs).tail).map fun q => ((acrossP W fs).zip (acrossP W fs).tail).map fun s => (⟨s.1, q.1, s.2, q.2⟩ : Box)).flatten
theorem cellsD_eq {W Hh : Int} {fs : List Fr} : cellsD W Hh fs = (cellsG W Hh fs).map Box.d := by
  unfold cellsD cellsG
  rw [List.map_flatten, List.map_map]
  congr 1
  refine List.map_congr_left fun q _ => ?_
  simp only [Function.comp_def, List.map_map]
  rfl
theorem mem_cellsG {W Hh : Int} {fs : List Fr} {c : Box} : c ∈ cellsG W Hh fs ↔ (c.l, c.r) ∈ (acrossP W fs).zip (acrossP W fs).tail ∧ (c.t, c.b) ∈ (downP Hh fs).zip (downP Hh fs).tail := by
  unfold cellsG
  simp only [List.mem_flatten, List.mem_map]
  constructor
  · rintro ⟨l, ⟨q, hq, rfl⟩, h⟩
    obtain ⟨s, hs, rfl⟩ := List.mem_map.mp h
    exact ⟨hs, hq⟩
  · rintro ⟨h1, h2⟩
    exact ⟨_, ⟨(c.t, c.b), h2, rfl⟩, List.mem_map.mpr ⟨(c.l, c.r), h1, rfl⟩⟩
/-- between two neighbours lies nothing -/
theorem zip_gap : ∀ {xs : List Int} {a b z : Int}, xs.Pairwise (· < ·) → (a, b) ∈ xs.zip xs.tail → z ∈ xs → z ≤ a ∨ b ≤ z
  | [], _, _, _, _, h, _ => by simp at h
  | [p], _, _, _, _, h, _ => by simp at h
  | p :: q :: r, a, b, z, hs, h, hz => by
    have hs' := List.pairwise_cons.mp hs
    simp only [List.tail_cons, List.zip_cons_cons, List.mem_cons, Prod.mk.injEq] at h
    rcases h with ⟨rfl, rfl⟩ | h
    · rcases List.mem_cons.mp hz with rfl | hz
      · exact .inl (Int.le_refl _)
      · rcases List.mem_cons.mp hz with rfl | hz
        · exact .inr (Int.le_refl _)
        · exact .inr (Int.le_of_lt ((List.pairwise_cons.mp hs'.2).1 z hz))
    · have h' : (a, b) ∈ (q :: r).zip (q :: r).tail := by simpa using h
      rcases List.mem_cons.mp hz with rfl | hz
      · have := hs'.1 a (zip_tail_mem h').1
        exact .inl (Int.le_of_lt this)
      · exact zip_gap hs'.2 h' hz
/-- one direction of the grid -/
theorem line_in {ns : List Int} {W x : Int} (h0 : 0 ∈ ns) (hW : W ∈ ns) (hx : 0 ≤ x) (hx2 : x < W) : ∃ a b, (a, b) ∈ (sddI ns).zip (sddI ns).tail ∧ a ≤ x ∧ x < b ∧ 0 ≤ a := by
  have up := up_sddI ns
  have m0 := mem_sddI.mpr h0
  have mW := mem_sddI.mpr hW
  cases e : sddI ns with
  | nil => rw [e] at m0; simp at m0
  | cons p xs =>
    rw [e] at up m0 mW
    have hp : p ≤ 0 := by
      rcases List.mem_cons.mp m0 with w | w
      · omega
      · exact Int.le_of_lt ((List.pairwise_cons.mp up).1 0 w)
    have hw : W ∈ xs := by
      rcases List.mem_cons.mp mW with w | w
      · omega
      · exact w
    obtain ⟨a, b, h1, h2, h3, h4, h5⟩ := DV.grid_at xs p x up (by omega) ⟨W, hw, hx2⟩
    exact ⟨a, b, h1, h2, h3, (h5 0 m0).mp hx⟩
section
variable {W Hh : Int} {fs : List Fr}
theorem acr_up : (acrossP W fs).Pairwise (· < ·) := up_sddI _
theorem dwn_up : (downP Hh fs).Pairwise (· < ·) := up_sddI _
theorem mem_acr {z : Int} : z ∈ acrossP W fs ↔ z = 0 ∨ z = W ∨ ∃ f ∈ fs, z = f.l ∨ z = f.r := by
  unfold acrossP
  rw [mem_sddI]
  simp only [List.mem_cons, List.mem_append, List.mem_map]
  constructor
  · rintro (h | h | ⟨f, hf, rfl⟩ | ⟨f, hf, rfl⟩)
    · exact .inl h
    · exact .inr (.inl h)
    · exact .inr (.inr ⟨f, hf, .inl rfl⟩)
    · exact .inr (.inr ⟨f, hf, .inr rfl⟩)
  · rintro (h | h | ⟨f, hf, rfl | rfl⟩)
    · exact .inl h
    · exact .inr (.inl h)
    · exact .inr (.inr (.inl ⟨f, hf, rfl⟩))
    · exact .inr (.inr (.inr ⟨f, hf, rfl⟩))
theorem mem_dwn {z : Int} : z ∈ downP Hh fs ↔ z = 0 ∨ z = Hh ∨ ∃ f ∈ fs, z = f.t ∨ z = f.b := by
  unfold downP
  rw [mem_sddI]
  simp only [List.mem_cons, List.mem_append, List.mem_map]
  constructor
  · rintro (h | h | ⟨f, hf, rfl⟩ | ⟨f, hf, rfl⟩)
    · exact .inl h
    · exact .inr (.inl h)
    · exact .inr (.inr ⟨f, hf, .inl rfl⟩)
    · exact .inr (.inr ⟨f, hf, .inr rfl⟩)
  · rintro (h | h | ⟨f, hf, rfl | rfl⟩)
    · exact .inl h
    · exact .inr (.inl h)
    · exact .inr (.inr (.inl ⟨f, hf, rfl⟩))
    · exact .inr (.inr (.inr ⟨f, hf, rfl⟩))
/-- each spot lies in a cell -/
theorem cell_of {x y : Int} (hx : 0 ≤ x) (hx2 : x < W) (hy : 0 ≤ y) (hy2 : y < Hh) : ∃ c ∈ cellsG W Hh fs, c.has x y := by
  obtain ⟨l, r, a1, a2, a3, a4⟩ := line_in (ns := 0 :: W :: (fs.map Fr.l ++ fs.map Fr.r)) (W := W) (x := x) (by simp) (by simp) hx hx2
  obtain ⟨t, b, b1, b2, b3, b4⟩ := line_in (ns := 0 :: Hh :: (fs.map Fr.t ++ fs.map Fr.b)) (W := Hh) (x := y) (by simp) (by simp) hy hy2
  exact ⟨⟨l, t, r, b⟩, mem_cellsG.mpr ⟨a1, b1⟩, a2, a3, b2, b3⟩
/-- what lies in a cell is covered as its corner -/
theorem cell_same {c : Box} {x y : Int} (hc : c ∈ cellsG W Hh fs) (h : c.has x y) : ∀ f ∈ fs, f.has x y = f.has c.l c.t := by
  obtain ⟨h1, h2⟩ := mem_cellsG.mp hc
  obtain ⟨x1, x2, y1, y2⟩ := h
  intro f hf
  have g1 := zip_gap acr_up h1 (mem_acr.mpr (.inr (.inr ⟨f, hf, .inl rfl⟩)))
  have g2 := zip_gap acr_up h1 (mem_acr.mpr (.inr (.inr ⟨f, hf, .inr rfl⟩)))
  have g3 := zip_gap dwn_up h2 (mem_dwn.mpr (.inr (.inr ⟨f, hf, .inl rfl⟩)))
  have g4 := zip_gap dwn_up h2 (mem_dwn.mpr (.inr (.inr ⟨f, hf, .inr rfl⟩)))
  have d1 : decide (f.l ≤ x) = decide (f.l ≤ c.l) := decide_eq_decide.mpr (by omega)
  have d2 : decide (x < f.r) = decide (c.l < f.r) := decide_eq_decide.mpr (by omega)
  have d3 : decide (f.t ≤ y) = decide (f.t ≤ c.t) := decide_eq_decide.mpr (by omega)
  have d4 : decide (y < f.b) = decide (c.t < f.b) := decide_eq_decide.mpr (by omega)
  unfold Fr.has
  rw [d1, d2, d3, d4]
/-- a cell lies on the screen -/
theorem cell_on {c : Box} (hW : 0 ≤ W) (hH : 0 ≤ Hh) (hf : ∀ f ∈ fs, f.Ok W Hh) (hc : c ∈ cellsG W Hh fs) : 0 ≤ c.l ∧ c.l < c.r ∧ c.r ≤ W ∧ 0 ≤ c.t ∧ c.t < c.b ∧ c.b ≤ Hh := by
  obtain ⟨h1, h2⟩ := mem_cellsG.mp hc
  have l1 := zip_tail_lt acr_up h1
  have l2 := zip_tail_lt dwn_up h2
  have m1 := zip_tail_mem h1
  have m2 := zip_tail_mem h2
  have a : ∀ z, z ∈ acrossP W fs → 0 ≤ z ∧ z ≤ W := fun z hz => by
    rcases mem_acr.mp hz with rfl | rfl | ⟨f, hf', rfl | rfl⟩
    · omega
    · omega
    · have q := hf f hf'; have := q.l0; have := q.lr; have := q.rW; omega
    · have q := hf f hf'; have := q.l0; have := q.lr; have := q.rW; omega
  have b : ∀ z, z ∈ downP Hh fs → 0 ≤ z ∧ z ≤ Hh := fun z hz => by
    rcases mem_dwn.mp hz with rfl | rfl | ⟨f, hf', rfl | rfl⟩
    · omega
    · omega
    · have q := hf f hf'; have := q.t0; have := q.tb; have := q.bH; omega
    · have q := hf f hf'; have := q.t0; have := q.tb; have := q.bH; omega
  have q1 := a _ m1.1; have q2 := a _ m1.2; have q3 := b _ m2.1; have q4 := b _ m2.2
  omega
end
def cellsL (p : Pic) : List Box := cellsG p.W p.Hh p.fs
theorem cov_cell {p : Pic} {c : Box} {x y : Int} (hc : c ∈ cellsL p) (h : c.has x y) : p.cov x y = p.cov c.l c.t := List.map_congr_left fun f hf => cell_same hc h f hf
theorem Pic.Ok.cell {p : Pic} (h : p.Ok) {c : Box} (hc : c ∈ cellsL p) : 0 ≤ c.l ∧ c.l < c.r ∧ c.r ≤ p.W ∧ 0 ≤ c.t ∧ c.t < c.b ∧ c.b ≤ p.Hh := by
  have := h.W0; have := h.H0
  exact cell_on (by omega) (by omega) h.fr hc
theorem Pic.Ok.dot {p : Pic} (h : p.Ok) {c : Box} (hc : c ∈ cellsL p) : (c.l, c.t) ∈ dotsL p.W p.Hh := by
  have := h.cell hc
  exact mem_dotsL.mpr (by omega)
theorem Pic.cell_of_dot {p : Pic} {q : Int × Int} (hq : q ∈ dotsL p.W p.Hh) : ∃ c ∈ cellsL p, c.has q.1 q.2 := by
  obtain ⟨x, y⟩ := q
  have := mem_dotsL.mp hq
  exact cell_of this.1 this.2.1 this.2.2.1 this.2.2.2
theorem cells_in_ok2 {st : Store} {n : Nat} {p : Pic} (h : FilmAt st n p) (h8 : p.fs.length ≤ 8) :
    ∃ r st', F_cells_in [.ref n] st = .ok (.ref r) st' ∧ Kp [] st st' ∧ st.nxt ≤ r ∧ r < st'.nxt ∧ st'.at_ r = some (.lst ((cellsL p).map Box.d)) := by
  have := cells_in_ok h h8
  rw [cellsD_eq] at this
  exact this
/-- what holds at all cells by the covering holds at all spots -/
theorem all_dots {p : Pic} (hp : p.Ok) {P : List Bool → Bool} : ((cellsL p).all fun c => P (p.cov c.l c.t)) = ((dotsL p.W p.Hh).all fun q => P (p.cov q.1 q.2)) := by
  rw [Bool.eq_iff_iff, List.all_eq_true, List.all_eq_true]
  constructor
  · intro h q hq
    obtain ⟨c, hc, hh⟩ := Pic.cell_of_dot hq
    rw [cov_cell hc hh]
    exact h c hc
  · intro h c hc
    exact h (c.l, c.t) (hp.dot hc)
/-! ### sameness of what is shown -/
theorem eq_lists {α : Type} [DecidableEq α] {k : α → D} {g : α → PyData} (h : ∀ a b, PyData.eqv (g a) (g b) = decide (a = b)) {a b : ME} {l : DV.Loc} {st s1 s2 : Store} {m n : Nat} {xs ys : List α} (ea : a l st = .ok (.ref m) s1) (eb : b l s1 = .ok (.ref n) s2) (e : s2.at_ m = some (.lst (xs.map k))) (e2 : s2.at_ n = some (.lst (ys.map k)))
    (hx : ∀ x ∈ xs, toData s2 19 (k x) = some (g x)) (hy : ∀ y ∈ ys, toData s2 19 (k y) = some (g y)) : m2 fEq a b l st = .ok (.bl (decide (xs = ys))) s2 := by
  have d := data_lsts h e e2 hx hy
  rw [ev_m2, ea]
  simp only [ev_bind_ok, eb, ev_fEq, d, Option.map_some, ev_ofO_some]
theorem ne_lists {α : Type} [DecidableEq α] {k : α → D} {g : α → PyData} (h : ∀ a b, PyData.eqv (g a) (g b) = decide (a = b)) {a b : ME} {l : DV.Loc} {st s1 s2 : Store} {m n : Nat} {xs ys : List α} (ea : a l st = .ok (.ref m) s1) (eb : b l s1 = .ok (.ref n) s2) (e : s2.at_ m = some (.lst (xs.map k))) (e2 : s2.at_ n = some (.lst (ys.map k)))
    (hx : ∀ x ∈ xs, toData s2 19 (k x) = some (g x)) (hy : ∀ y ∈ ys, toData s2 19 (k y) = some (g y)) : m2 fNe a b l st = .ok (.bl (!decide (xs = ys))) s2 := by
  have d := data_lsts h e e2 hx hy
  rw [ev_m2, ea]
  simp only [ev_bind_ok, eb, ev_fNe, d, Option.map_some, ev_ofO_some]
theorem show_data {st : Store} {I : List Str} (hI : InkOk I) {ss : List Stand} (h : ∀ s ∈ ss, s.Ok I) : ∀ s ∈ ss, toData st 19 s.d = some (standP s) := fun s hs => stand_data ((h s hs).t hI)
theorem flat_len {α β : Type} {f : α → List β} {m : Nat} (h : ∀ a, (f a).length ≤ m) : ∀ (xs : List α), ((xs.map f).flatten).length ≤ xs.length * m
  | [] => by simp
  | x :: xs => by
    have := flat_len h xs
    have := h x
    simp only [List.map_cons, List.flatten_cons, List.length_append, List.length_cons, Nat.add_mul]
    omega
theorem cells_few {p : Pic} (hp : p.Ok) : (cellsL p).length ≤ 1000 := by
  have h8 := hp.l8
  have la : (acrossP p.W p.fs).length ≤ 18 := Nat.le_trans (sddI_len _) (by simp; omega)
  have ld : (downP p.Hh p.fs).length ≤ 18 := Nat.le_trans (sddI_len _) (by simp; omega)
  have lz : ((downP p.Hh p.fs).zip (downP p.Hh p.fs).tail).length ≤ 18 := by rw [List.length_zip]; omega
  have := flat_len (f := fun (q : Int × Int) => ((acrossP p.W p.fs).zip (acrossP p.W p.fs).tail).map fun s => (⟨s.1, q.1, s.2, q.2⟩ : Box)) (m := 18) (fun q => by rw [List.length_map, List.length_zip]; omega) ((downP p.Hh p.fs).zip (downP p.Hh p.fs).tail)
  have m2 : ((downP p.Hh p.fs).zip (downP p.Hh p.fs).tail).length * 18 ≤ 18 * 18 := Nat.mul_le_mul lz (Nat.le_refl _)
  unfold cellsL cellsG
  omega
theorem cells_line {p : Pic} (hp : p.Ok) : (cellsL p).length ≤ sizeLine := small_line (cells_few hp)
/-! ### numbers from 0 -/
theorem ints_range_ : ∀ (n i : Nat), DV.intsFrom (i : Int) n = (List.range' i n).map fun k : Nat => D.int (k : Int)
  | 0, _ => rfl
  | n + 1, i => by
    simp only [DV.intsFrom, List.range'_succ, List.map_cons]
    rw [← ints_range_ n (i + 1)]
    rfl
theorem ints_range (n : Nat) : DV.intsFrom 0 n = (List.range n).map fun k : Nat => D.int (k : Int) := by
  rw [List.range_eq_range']
  exact ints_range_ n 0
theorem rng_nat {n : Nat} (h : n ≤ 1000) : rng1 [.int (n : Int)] = some ⟨[], (List.range n).map fun k : Nat => D.int (k : Int)⟩ := by
  have c : -(2 ^ 62) ≤ (n : Int) ∧ (n : Int) < 2 ^ 62 := ⟨by omega, by omega⟩
  rw [ev_rng1, if_pos c, ← ints_range]
  rfl
theorem miRng_of {f : List D → Option Iter} {a : MA} {l : DV.Loc} {st st1 : Store} {ds : List D} {it : Iter} (e : a l st = .ok ds st1) (r : f ds = some it) : miRng f a l st = .ok it st1 := by
  rw [ev_miRng, e, ev_bind_ok, r]
/-- range(len) of a tuple -/
theorem rng_len {n : Nat} (h : n ≤ 1000) {m : ME} {l : DV.Loc} {st : Store} (e : m l st = .ok (.int (n : Int)) st) : miRng rng1 (maCons m maNil) l st = .ok ⟨[], (List.range n).map fun k : Nat => D.int (k : Int)⟩ st :=
  miRng_of (by rw [ev_maCons, e]; rfl) (rng_nat h)
/-- played from nothing -/
theorem play_no {r : Nat} {x y : Int} {pat : Str → Col} {who : Str} {fs : List Fr} {d1 d2 d3 : D} {I : List Str} {st : Store} (hw : TOk who) (hf : ∀ f ∈ fs, f.ink ∈ I) (hl : fs.length ≤ 50) (hp : PatAt st r I pat) (hr : r < st.nxt) :
    ∃ st', F_law_play [.tup [d1, d2, .tup (fs.map Fr.d), d3], .tup [.int x, .int y], .ref r, .str who, .non] st = .ok (.tup [.ref st.nxt, colD (lastC pat who (covF fs x y) fs none)]) st' ∧ Kp [] st st' ∧ st.nxt < st'.nxt ∧ st'.at_ st.nxt = some (.lst ((colsC pat who (covF fs x y) fs none).map colD)) :=
  play_ok (c := none) hw hf hl hp hr
theorem col_dataL {st : Store} {cs : List Col} : ∀ c ∈ cs, toData st 19 (colD c) = some (colP c) := fun c _ => col_data
end G


set_option Elab.async false
set_option linter.all false
set_option maxRecDepth 100000
set_option  maxHeartbeats   4000000
/-! What is shown by repr is short. -/
namespace G
open DV PySem L2
/-- shown in at most n signs -/
structure Shw (d : PyData) (n : Nat) : Prop where
  s : d.showable = true
  l : d.shown.length ≤ n
theorem Shw.mono {d : PyData} {n m : Nat} (h : Shw d n) (hl : n ≤ m) : Shw d m := ⟨h.s, Nat.le_trans h.l hl⟩
theorem shw_none : Shw .none 4 := ⟨by simp only [PyData.showable], by simp only [PyData.shown]; decide⟩
theorem shw_bool {b : Bool} : Shw (.bool b) 5 := ⟨by simp only [PyData.showable], by simp only [PyData.shown]; cases b <;> decide⟩
theorem shw_str {x : Str} (h : TOk x) : Shw (.str x) (10 * x.length + 2) := ⟨by simp only [PyData.showable], by
  simp only [PyData.shown]
  refine StrLaws.reprText_len x fun c hc => ?_
  have h2 : x.cps.all (fun x => decide (x < 1114112)) = true := h
  have := Array.all_eq_true'.mp h2 c (by simpa using hc)
  have := of_decide_eq_true this
  omega⟩
theorem shw_int {i : Int} (h : i.natAbs < 10 ^ 13) : Shw (.int i) 14 := by
  refine ⟨?_, ?_⟩
  · simp only [PyData.showable]
    refine decide_eq_true ?_
    by_cases z : i.natAbs = 0
    · rw [z]; decide
    · have : i.natAbs.log2 < 44 := (Nat.log2_lt z).mpr (Nat.lt_trans h (by decide))
      omega
  · simp only [PyData.shown]
    have key : (toString i).length ≤ 14 := by
      cases i with
      | ofNat n =>
        have : (n.repr).length ≤ 13 := (Nat.length_repr_le_iff (by decide)).mpr h
        show (n.repr).length ≤ 14
        omega
      | negSucc n =>
        have : ((n + 1).repr).length ≤ 13 := (Nat.length_repr_le_iff (by decide)).mpr h
        show ("-" ++ (n + 1).repr).length ≤ 14
        rw [String.length_append]
        have e : ("-" : String).length = 1 := rfl
        omega
    have e : ((toString i : String) : Str).length = (toString i).length := by
      exact ofString_length _
    rw [e]
    exact key
theorem shwAll {n : Nat} : ∀ {xs : List PyData}, (∀ d ∈ xs, Shw d n) → PyData.showableAll xs = true ∧ piled (PyData.shownAll xs) ≤ xs.length * (n + 2)
  | [], _ => ⟨rfl, by simp [PyData.shownAll, piled]⟩
  | d :: xs, h => by
    have h1 := h d (by simp)
    obtain ⟨h2, h3⟩ := shwAll (xs := xs) fun e he => h e (List.mem_cons_of_mem _ he)
    refine ⟨by simp only [PyData.showableAll, h1.s, h2, Bool.and_self], ?_⟩
    have := h1.l
    simp only [PyData.shownAll, piled_cons, List.length_cons, Nat.add_mul]
    omega
theorem shw_tuple {n : Nat} {xs : List PyData} (h : ∀ d ∈ xs, Shw d n) : Shw (.tuple xs) (xs.length * (n + 2) + 3) := by
  obtain ⟨h1, h2⟩ := shwAll h
  refine ⟨by simp only [PyData.showable, h1], ?_⟩
  simp only [PyData.shown]
  unfold tupleText
  rw [strLen_append, strLen_append]
  have e1 : ((("(" : String) : Str)).length = 1 := rfl
  have e3 : (((if (PyData.shownAll xs).length == 1 then ",)" else ")" : String) : Str)).length ≤ 2 := by split <;> decide
  rw [e1]
  by_cases z : PyData.shownAll xs = []
  · rw [z] at e3 ⊢
    have e4 : (Str.join ", " []).length = 0 := rfl
    rw [e4]
    omega
  · have := join_length_add _ z
    omega
theorem textFrom_up : ∀ (ts : List Str) (k : Nat) (acc : Str), (textFrom k acc ts).length ≤ acc.length + piled ts
  | [], k, acc => by simp [textFrom, piled]
  | t :: ts, k, acc => by
    unfold textFrom
    rw [piled_cons]
    refine Nat.le_trans (textFrom_up ts _ _) ?_
    split
    · rw [strLen_append, strLen_append]
      have e : ((", " : String) : Str).length = 2 := rfl
      rw [e]
      omega
    · rw [strLen_append, strLen_append]
      have e : (("" : String) : Str).length = 0 := rfl
      rw [e]
      omega
theorem shw_list {n : Nat} {xs : List PyData} (h : ∀ d ∈ xs, Shw d n) : Shw (.list xs) (xs.length * (n + 2) + 2) := by
  obtain ⟨h1, h2⟩ := shwAll h
  refine ⟨by simp only [PyData.showable, h1], ?_⟩
  simp only [PyData.shown]
  unfold listText
  rw [strLen_append]
  have e1 : ((("[" : String) : Str)).length = 1 := rfl
  have e2 : ((("]" : String) : Str)).length = 1 := rfl
  have := textFrom_up (PyData.shownAll xs) 0 "["
  omega
theorem big_line {n : Nat} (h : n ≤ 16000000) : n ≤ sizeLine := Nat.le_trans h (by decide)
theorem repr_ref {st : Store} {m : Nat} {d : PyData} {n : Nat} (h : toData st 20 (.ref m) = some d) (s : Shw d n) (hn : n ≤ 16000000) : reprD (.ref m) st = some (.str d.shown, st) := by
  show (match toData st 20 (.ref m) with
    | some d => if d.showable = true ∧ d.shown.length ≤ sizeLine then some (D.str d.shown, st) else none
    | none => none) = _
  rw [h]
  simp only
  rw [if_pos ⟨s.s, Nat.le_trans s.l (big_line hn)⟩]
theorem repr_tup {st : Store} {ds : List D} {d : PyData} {n : Nat} (h : toData st 20 (.tup ds) = some d) (s : Shw d n) (hn : n ≤ 16000000) : reprD (.tup ds) st = some (.str d.shown, st) := by
  show (match toData st 20 (.tup ds) with
    | some d => if d.showable = true ∧ d.shown.length ≤ sizeLine then some (D.str d.shown, st) else none
    | none => none) = _
  rw [h]
  simp only
  rw [if_pos ⟨s.s, Nat.le_trans s.l (big_line hn)⟩]
/-- data of lists -/
theorem data_lst {st : Store} {n m : Nat} {ds : List D} {ps : List PyData} (e : st.at_ m = some (.lst ds)) (h : optL (toData st n) ds = some ps) : toData st (n + 1) (.ref m) = some (.list ps) := toData_lst e h
theorem data_nats {st : Store} {n : Nat} {ks : List Nat} : toData st (n + 2) (.tup (ks.map fun k : Nat => D.int (k : Int))) = some (.tuple (ks.map fun k : Nat => PyData.int (k : Int))) := toData_tup (optL_map fun k _ => rfl)
theorem shw_nats {ks : List Nat} (h : ∀ k ∈ ks, k < 1000) (hl : ks.length ≤ 1000) : Shw (.tuple (ks.map fun k : Nat => PyData.int (k : Int))) 16003 := by
  refine (shw_tuple (n := 14) fun d hd => ?_).mono (by rw [List.length_map]; omega)
  obtain ⟨k, hk, rfl⟩ := List.mem_map.mp hd
  have := h k hk
  exact shw_int (by show k < 10 ^ 13; omega)
theorem str_same {a : Str} {st : Store} : dataEq (.str a) (.str a) st = some true := by simp
end G


set_option Elab.async false
set_option linter.all false
set_option maxRecDepth 100000
set_option  maxHeartbeats   4000000
/-! More tools: numbers in a tuple; reprs of two like things. -/
namespace G
open DV PySem L2
def natD (k : Nat) : D := .int (k : Int)
def natP (k : Nat) : PyData := .int (k : Int)
/-- the repr of a list of two such tuples -/
theorem repr_two {st : Store} {m : Nat} {ks : List Nat} (e : st.at_ m = some (.lst [.tup (ks.map fun k : Nat => D.int (k : Int)), .tup (ks.map fun k : Nat => D.int (k : Int))])) (h : ∀ k ∈ ks, k < 1000) (hl : ks.length ≤ 1000) :
    reprD (.ref m) st = some (.str (PyData.shown (.list [.tuple (ks.map fun k : Nat => PyData.int (k : Int)), .tuple (ks.map fun k : Nat => PyData.int (k : Int))])), st) := by
  have d : toData st 20 (.ref m) = some (.list [.tuple (ks.map fun k : Nat => PyData.int (k : Int)), .tuple (ks.map fun k : Nat => PyData.int (k : Int))]) := data_lst e (by simp only [optL, data_nats])
  refine repr_ref d (shw_list (n := 16003) fun x hx => ?_) (by simp)
  simp only [List.mem_cons, List.not_mem_nil, or_false] at hx
  rcases hx with rfl | rfl <;> exact shw_nats h hl
theorem any_nats {x : Nat} : ∀ {ys : List Nat}, (ys.map fun k : Nat => PyData.int (k : Int)).any (fun z => PyData.eqv z (.int (x : Int))) = decide (x ∈ ys)
  | [] => by simp
  | y :: ys => by
    have e : PyData.eqv (.int (y : Int)) (.int (x : Int)) = decide (y = x) := by
      simp only [PyData.eqv]
      by_cases h : y = x
      · subst h; simp
      · have : ¬ (y : Int) = (x : Int) := by omega
        simp [h, this]
    simp only [List.map_cons, List.any_cons, e, any_nats (ys := ys), List.mem_cons]
    by_cases a : y = x
    · subst a; simp
    · have : ¬ x = y := fun e => a e.symm
      simp [a, this]
theorem in_nats {st : Store} {x : Nat} {ys : List Nat} : inB (.int (x : Int)) (.tup (ys.map fun k : Nat => D.int (k : Int))) st = some (decide (x ∈ ys)) := by
  unfold inB
  have h1 : toData st 20 (.int (x : Int)) = some (.int (x : Int)) := rfl
  have h2 : optL (toData st 20) (ys.map fun k : Nat => D.int (k : Int)) = some (ys.map fun k : Nat => PyData.int (k : Int)) := optL_map fun k _ => rfl
  simp only [h1, h2, any_nats]
theorem showS_take {solid : List Str} {who : Str} : ∀ (k : Nat) (cs : List Bool) (fs : List Fr) (s : Stand), showS solid who (cs.take k) (fs.take k) s = (showS solid who cs fs s).take k
  | 0, cs, fs, s => by simp [showS]
  | k + 1, [], fs, s => by simp [showS]
  | k + 1, _ :: _, [], s => by simp [showS]
  | k + 1, c :: cs, f :: fs, s => by
    simp only [List.take_succ_cons, showS, showS_take k]
theorem outL_last {α : Type} {xs : List α} {k : Nat} (h : xs.length = k + 1) : outL xs k = xs.take k := by
  unfold outL
  rw [List.drop_of_length_le (by omega), List.append_nil]
theorem all_snd {α β : Type} {P : β → Bool} {xs : List (α × β)} {ys : List β} (h : xs.map (·.2) = ys) : (xs.all fun a => P a.2) = ys.all P := by
  subst h
  rw [List.all_map]
  rfl
theorem covF_eq {p : Pic} {x y : Int} : covF p.fs x y = p.cov x y := rfl
/-- what the law plays from nothing is the value of what is shown -/
theorem cols_val {firm : List Str} {who : Str} {bs : List Bool} {fs : List Fr} (hf : ∀ f ∈ fs, f.ink ∈ inks) : ∀ pat ∈ patsL firm, colsC pat who bs fs none = (showS firm who bs fs nothing).map fun s => valP pat s.row := fun pat hpat => by
  have := cols_nu (first := none) (who := who) (pats_full pat hpat) bs fs nothing hf no_Ok
  rw [nu_no] at this
  rw [this]
  exact List.map_congr_left fun s _ => nu_none
/-- a loop over the choices of holes by what it finds -/
theorem pats_loop {J : DV.Loc → Prop} {body : MS} {i : Nat} {Q : Pat → Bool} {bad : D} {firm : List Str} {l : DV.Loc} {st : Store} {mi : MI} (hfirm : ∀ z ∈ firm, TOk z) (hmi : ∀ m s1, F_law_patterns [.tup (firm.map D.str)] st = .ok (.ref m) s1 → ∀ xs, s1.at_ m = some (.lst xs) → mi l st = .ok ⟨[(m, xs)], xs⟩ s1) (hJ : J l)
    (step : ∀ pat ∈ patsL firm, ∀ r l st2, J l → Kp [] st st2 → PatOk st2 inks (r, pat) → (if Q pat = true then ∃ l2 st3, body (l.set i (some (.ref r))) st2 = .nx l2 st3 ∧ J l2 ∧ Kp [] st2 st3 else ∃ st3, body (l.set i (some (.ref r))) st2 = .rt bad st3 ∧ Kp [] st2 st3)) :
    (if (patsL firm).all Q = true then ∃ l2 st3, msFor mi (tgName i) body l st = .nx l2 st3 ∧ J l2 ∧ Kp [] st st3 else ∃ st3, msFor mi (tgName i) body l st = .rt bad st3 ∧ Kp [] st st3) := by
  obtain ⟨m, rp, s1, e1, h1, h2, h3, h4, k1⟩ := patterns_ok (st := st) hfirm
  have it := hmi m s1 e1 _ h2
  have lp := loopS_all (t := tgName i) (body := body) (k := fun a : Nat × Pat => D.ref a.1) (P := fun a => Q a.2) (J := J) (bad := bad) (src_one h2 h1) rp (fun a ha l st2 hl hk => by
    refine ⟨_, rfl, ?_⟩
    exact step a.2 (by rw [← h4]; exact List.mem_map.mpr ⟨a, ha, rfl⟩) a.1 l st2 hl (k1.trans hk) ((h3 a ha).mv0 hk)) l s1 hJ Kp.refl
  rw [all_snd (P := Q) h4] at lp
  rw [ev_msFor, it]
  simp only [ev_toS_ok]
  split
  · rename_i w
    rw [if_pos w] at lp
    obtain ⟨l', s3, e, j, k⟩ := lp
    exact ⟨l', s3, e, j, k1.trans k⟩
  · rename_i w
    rw [if_neg w] at lp
    obtain ⟨s3, e, k⟩ := lp
    exact ⟨s3, e, k1.trans k⟩
/-- a loop over all spots by what it finds -/
theorem dots_all {J : DV.Loc → Prop} {body : MS} {i : Nat} {Q : Int × Int → Bool} {bad : D} {p : Pic} {d3 d4 : D} {l : DV.Loc} {st : Store} {mi : MI} (hW : 0 < p.W) (hW2 : p.W ≤ 30) (hH : 0 < p.Hh) (hH2 : p.Hh ≤ 30) (hmi : ∀ m s1, F_law_dots [.tup [.int p.W, .int p.Hh, d3, d4]] st = .ok (.ref m) s1 → ∀ xs, s1.at_ m = some (.lst xs) → mi l st = .ok ⟨[(m, xs)], xs⟩ s1) (hJ : J l)
    (step : ∀ q ∈ dotsL p.W p.Hh, ∀ l st2, J l → Kp [] st st2 → (if Q q = true then ∃ l2 st3, body (l.set i (some (dotD q))) st2 = .nx l2 st3 ∧ J l2 ∧ Kp [] st2 st3 else ∃ st3, body (l.set i (some (dotD q))) st2 = .rt bad st3 ∧ Kp [] st2 st3)) :
    (if (dotsL p.W p.Hh).all Q = true then ∃ l2 st3, msFor mi (tgName i) body l st = .nx l2 st3 ∧ J l2 ∧ Kp [] st st3 else ∃ st3, msFor mi (tgName i) body l st = .rt bad st3 ∧ Kp [] st st3) := by
  obtain ⟨m, s1, e1, h1, h2, k1⟩ := dots_ok (p := p) (d3 := d3) (d4 := d4) (st := st) hW hW2 hH hH2
  have it := hmi m s1 e1 _ h2
  have lp := loopS_all (t := tgName i) (body := body) (k := dotD) (P := Q) (J := J) (bad := bad) (src_one h2 h1) (dotsL p.W p.Hh) (fun q hq l st2 hl hk => ⟨_, rfl, step q hq l st2 hl (k1.trans hk)⟩) l s1 hJ Kp.refl
  rw [ev_msFor, it]
  simp only [ev_toS_ok]
  split
  · rename_i w
    rw [if_pos w] at lp
    obtain ⟨l', s3, e, j, k⟩ := lp
    exact ⟨l', s3, e, j, k1.trans k⟩
  · rename_i w
    rw [if_neg w] at lp
    obtain ⟨s3, e, k⟩ := lp
    exact ⟨s3, e, k1.trans k⟩
end G


set_option Elab.async false
set_option linter.all false
set_option maxRecDepth 100000
set_option  maxHeartbeats   4000000
/-! Rounds; what is seen. -/
namespace G
open DV PySem L2
def ways : List Str := ["on", "clean"]
theorem ways_t : ∀ y ∈ ways, TOk y := by decide +kernel
/-- so many rounds -/
def goS (solid : List Str) (who : Str) (on : Bool) (bs : List Bool) (fs : List Fr) : Nat → Stand → Stand
  | 0, s => s
  | n + 1, s => goS solid who on bs fs n (if on then lastS solid who bs fs s else s)
theorem go_Ok {I solid : List Str} {who : Str} {on : Bool} {bs : List Bool} {fs : List Fr} (hf : ∀ f ∈ fs, f.ink ∈ I) : ∀ (n : Nat) (s : Stand), s.Ok I → (goS solid who on bs fs n s).Ok I
  | 0, s, h => h
  | n + 1, s, h => by
    unfold goS
    refine go_Ok hf n _ ?_
    split
    · exact last_Ok _ _ _ hf h
    · exact h
theorem go_Good {I firm : List Str} {who : Str} {on : Bool} {bs : List Bool} {fs : List Fr} (hf : ∀ f ∈ fs, f.ink ∈ I) : ∀ (n : Nat) (s : Stand), s.Good firm I → (goS firm who on bs fs n s).Good firm I
  | 0, s, h => h
  | n + 1, s, h => by
    unfold goS
    refine go_Good hf n _ ?_
    split
    · exact last_Good _ _ _ hf h
    · exact h
theorem go_closed {firm : List Str} {who : Str} {on : Bool} {bs : List Bool} {fs : List Fr} : ∀ (n : Nat) (s : Stand), s.closed = true → (goS firm who on bs fs n s).closed = true
  | 0, s, h => h
  | n + 1, s, h => by
    unfold goS
    refine go_closed n _ ?_
    split
    · exact last_closed _ _ _ h
    · exact h
theorem go_clean {solid : List Str} {who : Str} {bs : List Bool} {fs : List Fr} : ∀ (n : Nat) (s : Stand), goS solid who false bs fs n s = s
  | 0, s => rfl
  | n + 1, s => by
    unfold goS
    simp only [Bool.false_eq_true, if_false]
    exact go_clean n s
theorem turn_loop {n cm : Nat} {p : Pic} {I : List Str} {who way : Str} {bs : List Bool} {o3 : Option D} (hp : p.Ok) (hI : InkOk I) (hin : ∀ f ∈ p.fs, f.ink ∈ I) (hw : TOk who) (hbl : bs.length = p.fs.length) : ∀ (ds : List D) (s : Stand) (o6 : Option D) (st : Store),
    s.Ok I → FilmAt st n p → n < st.nxt → cm < st.nxt → st.at_ cm = some (.lst (bs.map D.bl)) →
    ∃ o6' st', loopS (tgName 6) played_turn_L1 [] ds [some (.ref n), some (.ref cm), some (.str who), o3, some (.str way), some s.d, o6] st = .nx [some (.ref n), some (.ref cm), some (.str who), o3, some (.str way), some (goS p.firm who (decide (way = "on")) bs p.fs ds.length s).d, o6'] st' ∧ Kp [] st st'
  | [], s, o6, st, _, _, _, _, _ => ⟨o6, st, loopS_nil srcOk_nil, Kp.refl⟩
  | d :: ds, s, o6, st, hs, hF, hn, hcm, hc => by
    by_cases q : way = "on"
    · obtain ⟨m, s1, e1, k1, m1, m2', g1⟩ := played_ok (s := s) hF hn hp hI hin hw hc hcm hbl hs
      obtain ⟨o6', s2, e2, k2⟩ := turn_loop (o3 := o3) hp hI hin hw hbl ds (lastS p.firm who bs p.fs s) (some d) s1 (last_Ok _ _ _ hin hs) (k1.get0 hF hn) (Nat.lt_of_lt_of_le hn k1.le) (Nat.lt_of_lt_of_le hcm k1.le) (k1.get0 hc hcm)
      refine ⟨o6', s2, ?_, k1.trans k2⟩
      have body : played_turn_L1 [some (.ref n), some (.ref cm), some (.str who), o3, some (.str way), some s.d, some d] st = .nx [some (.ref n), some (.ref cm), some (.str who), o3, some (.str way), some (lastS p.firm who bs p.fs s).d, some d] s1 := by
        simp [played_turn_L1, q, e1]
      rw [loopS_nx srcOk_nil (by rfl) body, e2]
      simp [goS, q]
    · obtain ⟨o6', s2, e2, k2⟩ := turn_loop (o3 := o3) hp hI hin hw hbl ds s (some d) st hs hF hn hcm hc
      refine ⟨o6', s2, ?_, k2⟩
      have body : played_turn_L1 [some (.ref n), some (.ref cm), some (.str who), o3, some (.str way), some s.d, some d] st = .nx [some (.ref n), some (.ref cm), some (.str who), o3, some (.str way), some s.d, some d] st := by
        simp [played_turn_L1, q]
      rw [loopS_nx srcOk_nil (by rfl) body, e2]
      simp [goS, q]
/-- what is shown in a round -/
def turnS (p : Pic) (who way : Str) (turn : Nat) (bs : List Bool) : List Stand := showS p.firm who bs p.fs (goS p.firm who (decide (way = "on")) bs p.fs (turn - 1) nothing)
theorem turnS_len {p : Pic} {who way : Str} {turn : Nat} {bs : List Bool} (h : bs.length = p.fs.length) : (turnS p who way turn bs).length = p.fs.length := showS_len _ _ _ h
theorem turn_Ok {p : Pic} {I : List Str} {who way : Str} {turn : Nat} {bs : List Bool} (hin : ∀ f ∈ p.fs, f.ink ∈ I) : ∀ s ∈ turnS p who way turn bs, s.Ok I := show_Ok _ _ _ hin (go_Ok hin _ _ no_Ok)
theorem turn_Good {p : Pic} {I : List Str} {who way : Str} {turn : Nat} {bs : List Bool} (hin : ∀ f ∈ p.fs, f.ink ∈ I) : ∀ s ∈ turnS p who way turn bs, s.Good p.firm I ∧ s.closed = true := fun s hs => ⟨show_Good _ _ _ hin (go_Good hin _ _ no_Good) s hs, show_closed _ _ _ (go_closed _ _ rfl) s hs⟩
theorem played_turn_ok {n cm : Nat} {p : Pic} {I : List Str} {who way : Str} {bs : List Bool} {turn : Nat} {st : Store} (hF : FilmAt st n p) (hn : n < st.nxt) (hp : p.Ok) (hI : InkOk I) (hin : ∀ f ∈ p.fs, f.ink ∈ I) (hw : TOk who) (hc : st.at_ cm = some (.lst (bs.map D.bl))) (hcm : cm < st.nxt) (hbl : bs.length = p.fs.length) (ht : 1 ≤ turn) (ht2 : turn ≤ 100) :
    ∃ m st', F_played_turn [.ref n, .ref cm, .str who, .int (turn : Int), .str way] st = .ok (.ref m) st' ∧ Kp [] st st' ∧ st.nxt ≤ m ∧ m < st'.nxt ∧ st'.at_ m = some (.lst ((turnS p who way turn bs).map Stand.d)) := by
  obtain ⟨o6, s1, e1, k1⟩ := turn_loop (way := way) (o3 := some (.int (turn : Int))) (s := nothing) hp hI hin hw hbl ((List.range (turn - 1)).map fun k : Nat => D.int (k : Int)) none st no_Ok hF hn hcm hc
  rw [List.length_map, List.length_range] at e1
  obtain ⟨m, s2, e2, k2, m1, m2', g2⟩ := played_ok (s := goS p.firm who (decide (way = "on")) bs p.fs (turn - 1) nothing) (k1.get0 hF hn) (Nat.lt_of_lt_of_le hn k1.le) hp hI hin hw (k1.get0 hc hcm) (Nat.lt_of_lt_of_le hcm k1.le) hbl (go_Ok hin _ _ no_Ok)
  refine ⟨m, s2, ?_, k1.trans k2, Nat.le_trans k1.le m1, m2', g2⟩
  have rg := rng_len (n := turn - 1) (by omega) (m := m2 fSub (mVar 3) (mC (.int 1))) (l := [some (.ref n), some (.ref cm), some (.str who), some (.int (turn : Int)), some (.str way), some nothing.d, none]) (st := st) (by
    have : ((turn - 1 : Nat) : Int) = (turn : Int) - 1 := by omega
    rw [this]
    simp)
  have w1 : msAsg (mC (.tup [(.tup []), (.bl true)])) (tgName 5) [some (.ref n), some (.ref cm), some (.str who), some (.int (turn : Int)), some (.str way), none, none] st = .nx [some (.ref n), some (.ref cm), some (.str who), some (.int (turn : Int)), some (.str way), some nothing.d, none] st := by simp [nothing_d]
  simp only [F_played_turn, ev_mDef, List.length_cons, List.length_nil, if_true, List.map_cons, List.map_nil, List.replicate, List.cons_append, List.nil_append]
  rw [ev_msSeq, w1]
  simp only
  rw [ev_msSeq, ev_msFor, rg]
  simp only [ev_toS_ok, e1]
  simp [e2]
/-! ### seen -/
theorem check_player_ok {who : Str} {st : Store} (hw : who ∈ players) : F_check_player [.str who] st = .ok .non st := by
  have e := is_word_ok (st := st) (players_ok _ hw) players_ok hw
  simp only [players, List.map_cons, List.map_nil] at e
  simp [F_check_player, e]
theorem check_anew_ok {way : Str} {st : Store} (hw : way ∈ ways) : F_check_anew [.str way] st = .ok .non st := by
  have e := is_word_ok (st := st) (ways_t _ hw) ways_t hw
  simp only [ways, List.map_cons, List.map_nil] at e
  simp [F_check_anew, e]
theorem check_turn_ok {t : Int} {st : Store} (h1 : 1 ≤ t) (h2 : t ≤ 6) : F_check_turn [.int t] st = .ok .non st := by
  have e := is_within_ok (st := st) h1 h2
  simp [F_check_turn, e]
theorem check_play_ok {who way : Str} {t : Int} {st : Store} (hw : who ∈ players) (h1 : 1 ≤ t) (h2 : t ≤ 6) (hy : way ∈ ways) : F_check_play [.str who, .int t, .str way] st = .ok .non st := by
  simp [F_check_play, check_player_ok hw, check_turn_ok h1 h2, check_anew_ok hy]
theorem check_spot_ok {x y W Hh : Int} {st : Store} (hx : 0 ≤ x) (hx2 : x < W) (hy : 0 ≤ y) (hy2 : y < Hh) : F_check_spot [.tup [.int x, .int y], .int W, .int Hh] st = .ok .non st := by
  have e1 := is_within_ok (st := st) (v := x) (lo := 0) (hi := W - 1) hx (by omega)
  have e2 := is_within_ok (st := st) (v := y) (lo := 0) (hi := Hh - 1) hy (by omega)
  simp [F_check_spot, e1, e2]
theorem check_beat_ok {n : Nat} {p : Pic} {st : Store} (h : FilmAt st n p) (hl : p.fs.length ≤ 8) {b : Int} (h0 : 0 ≤ b) (h1 : b < p.fs.length) : F_check_beat [.ref n, .int b] st = .ok .non st := by
  have e1 := lenX_ok h hl (l := [some (.ref n), some (.int b)]) (i := 0) rfl
  have e2 := is_within_ok (st := st) (v := b) (lo := 0) (hi := (p.fs.length : Int) - 1) h0 (by omega)
  simp only [F_check_beat, ev_mDef, List.length_cons, List.length_nil, List.map_cons, List.map_nil, List.replicate, List.append_nil, if_true]
  simp [-ev_mLenX, e1, e2]
def rowD (r : List Str) : D := .tup (r.map D.str)
def rowP (r : List Str) : PyData := .tuple (r.map PyData.str)
theorem row_data {st : Store} {n : Nat} {r : List Str} (h : ∀ z ∈ r, TOk z) : toData st (n + 2) (rowD r) = some (rowP r) := toData_tup (toData_strs h)
/-- the row that is seen -/
def seenR (p : Pic) (who way : Str) (turn : Nat) (bs : List Bool) (b : Nat) : List Str := match (turnS p who way turn bs)[b]? with
  | some s => s.row
  | none => []
theorem seen_ok {n : Nat} {p : Pic} {who way : Str} {turn b : Nat} {x y : Int} {st : Store} (hF : FilmAt st n p) (hn : n < st.nxt) (hp : p.Ok) (hw : who ∈ players) (hy' : way ∈ ways) (ht : 1 ≤ turn) (ht2 : turn ≤ 6) (hb : b < p.fs.length) (hx : 0 ≤ x) (hx2 : x < p.W) (hy : 0 ≤ y) (hy2 : y < p.Hh) :
    ∃ st', F_seen [.ref n, .int (b : Int), .tup [.int x, .int y], .str who, .int (turn : Int), .str way] st = .ok (rowD (seenR p who way turn (p.cov x y) b)) st' ∧ Kp [] st st' := by
  obtain ⟨s1, cm, e1, c1, k1, n1, n2⟩ := covers_ok (x := x) (y := y) hF hp.l8
  obtain ⟨m, s2, e2, k2, m1, m2', g2⟩ := played_turn_ok (way := way) (turn := turn) (k1.get0 hF hn) (Nat.lt_of_lt_of_le hn k1.le) hp hp.inkOk (fun f hf => Pic.mem_inks hf) (players_ok _ hw) c1 n2 Pic.cov_len ht (by omega)
  have a1 := check_film_ok hF
  have a2 := check_beat_ok hF hp.l8 (b := (b : Int)) (by omega) (by omega)
  have a3 := check_spot_ok (st := st) hx hx2 hy hy2
  have a4 := check_play_ok (st := st) (t := (turn : Int)) hw (by omega) (by omega) hy'
  have a5 := width_ok hF
  have a6 := height_ok hF
  have ln : (turnS p who way turn (p.cov x y)).length = p.fs.length := turnS_len Pic.cov_len
  have hb' : b < (turnS p who way turn (p.cov x y)).length := by omega
  have at1 : atI ((turnS p who way turn (p.cov x y)).map Stand.d) (b : Int) = some ((turnS p who way turn (p.cov x y))[b]).d := by
    refine ev_atI (by omega) ?_
    rw [show ((b : Int)).toNat = b by omega, List.getElem?_map, List.getElem?_eq_getElem hb']
    rfl
  refine ⟨s2, ?_, k1.trans k2⟩
  unfold FilmAt at hF
  unfold seenR
  rw [List.getElem?_eq_getElem hb']
  simp [F_seen, a1, a2, a3, a4, a5, a6, hF, e1, e2, g2, at1, Stand.d, rowD]
/-- colours by rounds -/
def goC (pat : Pat) (who : Str) (on : Bool) (bs : List Bool) (fs : List Fr) : Nat → Col → Col
  | 0, c => c
  | n + 1, c => goC pat who on bs fs n (if on then lastC pat who bs fs c else none)
theorem go_nu {firm I : List Str} {pat : Pat} {who : Str} {bs : List Bool} {fs : List Fr} (hp : Full firm I pat) (hf : ∀ f ∈ fs, f.ink ∈ I) : ∀ (n : Nat) (s : Stand), s.Ok I → goC pat who true bs fs n (nu pat none s) = nu pat none (goS firm who true bs fs n s)
  | 0, s, _ => rfl
  | n + 1, s, h => by
    unfold goC goS
    simp only [if_true]
    rw [last_nu hp bs fs s hf h]
    exact go_nu hp hf n _ (last_Ok _ _ _ hf h)
theorem goC_clean {pat : Pat} {who : Str} {bs : List Bool} {fs : List Fr} : ∀ (n : Nat), goC pat who false bs fs n none = none
  | 0 => rfl
  | n + 1 => by
    unfold goC
    simp only [Bool.false_eq_true, if_false]
    exact goC_clean n
theorem shw_row {r : List Str} (h : ∀ z ∈ r, TOk z ∧ z.length ≤ 8) (hl : r.length ≤ 40) : Shw (rowP r) 4000 := by
  refine (shw_tuple (n := 82) fun d hd => ?_).mono (by rw [List.length_map]; omega)
  obtain ⟨z, hz, rfl⟩ := List.mem_map.mp hd
  obtain ⟨h1, h2⟩ := h z hz
  exact (shw_str h1).mono (by omega)
theorem seenR_Ok {p : Pic} {I : List Str} {who way : Str} {turn b : Nat} {bs : List Bool} (hin : ∀ f ∈ p.fs, f.ink ∈ I) : (∀ z ∈ seenR p who way turn bs b, z ∈ I) ∧ (seenR p who way turn bs b).Nodup ∧ (seenR p who way turn bs b).length ≤ I.length := by
  unfold seenR
  cases q : (turnS p who way turn bs)[b]? with
  | none => exact ⟨by simp, by simp, by simp⟩
  | some s =>
    have := turn_Ok (who := who) (way := way) (turn := turn) (bs := bs) hin s (List.mem_of_getElem? q)
    exact ⟨this.inks, this.nd, this.len⟩
theorem seenR_name {p : Pic} {who way : Str} {turn b : Nat} {bs : List Bool} (hp : p.Ok) : (∀ z ∈ seenR p who way turn bs b, TOk z ∧ z.length ≤ 8) ∧ (seenR p who way turn bs b).length ≤ 40 := by
  obtain ⟨h1, h2, h3⟩ := seenR_Ok (who := who) (way := way) (turn := turn) (bs := bs) (b := b) (I := p.inks) fun f hf => Pic.mem_inks hf
  refine ⟨fun z hz => ?_, Nat.le_trans h3 hp.inkOk.l⟩
  obtain ⟨f, hf, rfl⟩ := List.mem_map.mp (h1 z hz)
  have := (hp.fr f hf).ink
  exact ⟨this.t, this.l8⟩
theorem who_ok {j : Nat} {st : Store} (hj : JarAt st j) (hjn : j < st.nxt) : ∃ who st', who ∈ players ∧ F_law_who [.ref j] st = .ok (.str who) st' ∧ Kp [j] st st' ∧ JarAt st' j := by
  obtain ⟨d, s1, h1, e1, k1, j1⟩ := pick_ok (m := st.nxt) (ds := [.str "full", .str "full", .str "keeps", .str "wipes", .str "blanks"]) (st := st.new (.lst [.str "full", .str "full", .str "keeps", .str "wipes", .str "blanks"])) (hj.new hjn) Store.new_same (by omega) (Nat.lt_succ_self _) (by simp) (by simp)
  have hd : ∃ w ∈ players, d = .str w := by
    simp only [List.mem_cons, List.not_mem_nil, or_false] at h1
    rcases h1 with h | h | h | h | h
    · exact ⟨_, by simp [players], h⟩
    · exact ⟨"full", by simp [players], h⟩
    · exact ⟨"keeps", by simp [players], h⟩
    · exact ⟨"wipes", by simp [players], h⟩
    · exact ⟨"blanks", by simp [players], h⟩
  obtain ⟨w, hw, rfl⟩ := hd
  have z5 : (5 : Nat) ≤ sizeLine := small_line (by decide)
  exact ⟨w, s1, hw, by simp [F_law_who, e1, z5], Kp.new.trans k1, j1⟩
theorem way_ok {j : Nat} {st : Store} (hj : JarAt st j) (hjn : j < st.nxt) : ∃ way st', way ∈ ways ∧ F_law_pick [.ref j, .ref st.nxt] (st.new (.lst [.str "on", .str "clean"])) = .ok (.str way) st' ∧ Kp [j] st st' ∧ JarAt st' j := by
  obtain ⟨d, s1, h1, e1, k1, j1⟩ := pick_ok (m := st.nxt) (ds := [.str "on", .str "clean"]) (st := st.new (.lst [.str "on", .str "clean"])) (hj.new hjn) Store.new_same (by omega) (Nat.lt_succ_self _) (by simp) (by simp)
  have hd : ∃ w ∈ ways, d = .str w := by
    simp only [List.mem_cons, List.not_mem_nil, or_false] at h1
    rcases h1 with h | h
    · exact ⟨_, by simp [ways], h⟩
    · exact ⟨"clean", by simp [ways], h⟩
  obtain ⟨w, hw, rfl⟩ := hd
  exact ⟨w, s1, hw, e1, Kp.new.trans k1, j1⟩
end G


set_option Elab.async false
set_option linter.all false
set_option maxRecDepth 100000
set_option  maxHeartbeats   8000000
/-! Defs that many laws have, as functions. -/
namespace G
open DV PySem L2
noncomputable section
/-- borders(film): 0 film -/
def F_borders : FD := mDef 1 1 (msSeq (msExpr (mCall F_check_film [] (maCons (mVar 0) maNil)))
  (msRet (mCall F_borders_of [] (maCons (mProp 0 F_Film_width (mVar 0)) (maCons (mProp 0 F_Film_height (mVar 0)) (maCons (mCall F_parts_in [] (maCons (mVar 0) maNil)) maNil))))))
/-- sheet(film, beat, player, turn, anew): 0 film, 1 beat, 2 player, 3 turn, 4 anew, 5 across, 6 down, 7 found, 8 top, 9 covers, 10 left, 11 each -/
def sheet_C1 : ME := (mCall F_covers_at [] (maCons (mVar 0) (maCons (mTup (maCons (mVar 10) (maCons (mVar 8) maNil))) maNil)))
def sheet_C2 : ME := (m2 fIx (m2 fIx (mCall F_played_turn [] (maCons (mVar 0) (maCons (mVar 11) (maCons (mVar 2) (maCons (mVar 3) (maCons (mVar 4) maNil)))))) (mVar 1)) (mC (.int 0)))
def sheet_L1 : MS := (msSeq (msAsg (mLc (miSeq (mSl (mVar 5) moNone (moSome (m1 fNeg (mC (.int 1)))))) (tgName 10) tYes_ sheet_C1 [10]) (tgName 9))
  (msExpr (mM "list" fAppend (mVar 7) (maCons (mL (f1 tupleD) (maCons (mLc (miSeq (mVar 9)) (tgName 11) tYes_ sheet_C2 [11]) maNil)) maNil))))
def F_sheet : FD := mDef 5 12 (msSeq (msExpr (mCall F_check_film [] (maCons (mVar 0) maNil)))
  (msSeq (msExpr (mCall F_check_beat [] (maCons (mVar 0) (maCons (mVar 1) maNil))))
  (msSeq (msExpr (mCall F_check_play [] (maCons (mVar 2) (maCons (mVar 3) (maCons (mVar 4) maNil)))))
  (msSeq (msAsg (mCall F_borders [] (maCons (mVar 0) maNil)) (tgTup 2 (tgCons (tgName 5) (tgCons (tgName 6) tgNil))))
  (msSeq (msAsg (mLst maNil) (tgName 7))
  (msSeq (msFor (miSeq (mSl (mVar 6) moNone (moSome (m1 fNeg (mC (.int 1)))))) (tgName 8)
  sheet_L1)
  (msRet (mL (f1 tupleD) (maCons (mVar 7) maNil)))))))))
end
end G


set_option Elab.async false
set_option linter.all false
set_option maxRecDepth 100000
set_option  maxHeartbeats   4000000
/-! Borders told, sheets. -/
namespace G
open DV PySem L2
/-- a comprehension whose parts are places that something is said of -/
theorem loopC_rel {t : TGT} {me : ME} {srcs : List (Nat × List D)} {l0 : DV.Loc} {α : Type} {k : α → D} {R : α → D → Store → Prop} {st0 : Store} (so : ∀ st, Kp [] st0 st → SrcOk srcs st) (stable : ∀ a d st st', R a d st → Kp [] st st' → R a d st') : ∀ (xs : List α),
    (∀ a ∈ xs, ∀ st, Kp [] st0 st → ∃ l1 d st2, t (k a) l0 st = some l1 ∧ me l1 st = .ok d st2 ∧ Kp [] st st2 ∧ R a d st2) →
    ∀ st, Kp [] st0 st → ∃ (ps : List (α × D)) (st' : Store), loopC t tYes_ me srcs l0 (xs.map k) st = .ok (ps.map (·.2)) st' ∧ Kp [] st st' ∧ ps.map (·.1) = xs ∧ ∀ q ∈ ps, R q.1 q.2 st'
  | [], _, st, hk => ⟨[], st, loopC_nil (so st hk), Kp.refl, rfl, by simp⟩
  | a :: xs, step, st, hk => by
    obtain ⟨l1, d, st2, h1, h2, k2, r⟩ := step a (by simp) st hk
    obtain ⟨ps, st', e, k', hm, hr⟩ := loopC_rel so stable xs (fun b hb => step b (List.mem_cons_of_mem _ hb)) st2 (hk.trans k2)
    refine ⟨(a, d) :: ps, st', ?_, k2.trans k', by simp [hm], fun q hq => ?_⟩
    · rw [List.map_cons, loopC_cons (so st hk) h1]
      simp only [ev_tYes_, if_true, h2, e, List.map_cons]
    · rcases List.mem_cons.mp hq with rfl | hq
      · exact stable _ _ _ _ r k'
      · exact hr q hq
theorem cutD_last {α : Type} {k : α → D} {xs : List α} : cutD (xs.map k) none (some (-1)) = xs.dropLast.map k := by
  unfold cutD
  rcases List.eq_nil_or_concat xs with z | ⟨ys, y, z⟩
  · subst z; rfl
  · have z : xs = ys ++ [y] := by simpa using z
    subst z
    have e1 : HT.sIx ((ys ++ [y]).map k).length 0 none = 0 := rfl
    have e2 : HT.sIx ((ys ++ [y]).map k).length ((ys ++ [y]).map k).length (some (-1)) = ys.length := by
      show (if (-1 : Int) < 0 then (-1 + (((ys ++ [y]).map k).length : Int)).toNat else min (-1 : Int).toNat ((ys ++ [y]).map k).length) = _
      rw [if_pos (by omega)]
      simp
      omega
    rw [e1, e2]
    simp
def intsD (xs : List Int) : D := .tup (xs.map D.int)
theorem borders_told {st : Store} {n : Nat} {p : Pic} (h : FilmAt st n p) (h8 : p.fs.length ≤ 8) : ∃ st', F_borders [.ref n] st = .ok (.tup [intsD (acrossP p.W p.fs), intsD (downP p.Hh p.fs)]) st' ∧ Kp [] st st' := by
  have a0 := check_film_ok h
  have a1 := width_ok h
  have a2 := height_ok h
  have q := parts_ok h h8
  obtain ⟨s1, e1, k1⟩ := borders_ok (W := p.W) (Hh := p.Hh) (fs := p.fs) (st := st.new (.lst (p.fs.map Fr.part))) (m := st.nxt) Store.new_same (Nat.lt_succ_self _) (Nat.le_trans h8 (by decide))
  refine ⟨s1, ?_, Kp.new.trans k1⟩
  unfold FilmAt at h
  simp [F_borders, a0, h, a1, a2, q, e1, intsD]
def lineP (p : Pic) (who way : Str) (turn b : Nat) (t : Int) : List (List Str) := (acrossP p.W p.fs).dropLast.map fun l => seenR p who way turn (p.cov l t) b
def sheetP (p : Pic) (who way : Str) (turn b : Nat) : List (List (List Str)) := (downP p.Hh p.fs).dropLast.map (lineP p who way turn b)
def lineD (xs : List (List Str)) : D := .tup (xs.map rowD)
def sheetD (xs : List (List (List Str))) : D := .tup (xs.map lineD)
theorem acr_len {p : Pic} (h8 : p.fs.length ≤ 8) : (acrossP p.W p.fs).length ≤ 18 := Nat.le_trans (sddI_len _) (by simp; omega)
theorem dwn_len {p : Pic} (h8 : p.fs.length ≤ 8) : (downP p.Hh p.fs).length ≤ 18 := Nat.le_trans (sddI_len _) (by simp; omega)
section
variable {n : Nat} {p : Pic} {who way : Str} {turn b : Nat}
theorem line_ok {o8 o9 : Option D} {t : Int} {m : Nat} {dn : D} {ls : List D} {st : Store} (hF : FilmAt st n p) (hn : n < st.nxt) (hp : p.Ok) (hw : who ∈ players) (ht : 1 ≤ turn) (ht2 : turn ≤ 6) (hb : b < p.fs.length) (hm : st.at_ m = some (.lst ls)) (hmn : m < st.nxt) (hl : ls.length ≤ 100) :
    ∃ o9' st', sheet_L1 [some (.ref n), some (.int (b : Int)), some (.str who), some (.int (turn : Int)), some (.str way), some (intsD (acrossP p.W p.fs)), some dn, some (.ref m), some (.int t), o9, none, none] st =
      .nx [some (.ref n), some (.int (b : Int)), some (.str who), some (.int (turn : Int)), some (.str way), some (intsD (acrossP p.W p.fs)), some dn, some (.ref m), some (.int t), o9', none, none] st' ∧ Kp [m] st st' ∧ st'.at_ m = some (.lst (ls ++ [lineD (lineP p who way turn b t)])) := by
  have la := acr_len hp.l8
  have hdl : (acrossP p.W p.fs).dropLast.length ≤ 18 := by rw [List.length_dropLast]; omega
  have hz : (acrossP p.W p.fs).dropLast.length ≤ sizeLine := small_line (by omega)
  obtain ⟨ps, s1, e1, k1, hps, hR⟩ := loopC_rel (t := tgName 10) (me := sheet_C1) (srcs := []) (l0 := [some (.ref n), some (.int (b : Int)), some (.str who), some (.int (turn : Int)), some (.str way), some (intsD (acrossP p.W p.fs)), some dn, some (.ref m), some (.int t), o9, none, none]) (k := D.int) (R := fun l d st => ∃ r, d = .ref r ∧ r < st.nxt ∧ st.at_ r = some (.lst ((p.cov l t).map D.bl))) (st0 := st) src_nil
    (fun a d s s' ⟨r, h1, h2, h3⟩ k => ⟨r, h1, Nat.lt_of_lt_of_le h2 k.le, k.get0 h3 h2⟩) (acrossP p.W p.fs).dropLast (fun l hl' s hk => by
      obtain ⟨s1, cm, e1, c1, k1, n1, n2⟩ := covers_ok (x := l) (y := t) (hk.get0 hF hn) hp.l8
      exact ⟨[some (.ref n), some (.int (b : Int)), some (.str who), some (.int (turn : Int)), some (.str way), some (intsD (acrossP p.W p.fs)), some dn, some (.ref m), some (.int t), o9, some (.int l), none], .ref cm, s1, rfl, by simp [sheet_C1, e1], k1, cm, rfl, n2, c1⟩) st Kp.refl
  have lps : ps.length = (acrossP p.W p.fs).dropLast.length := by rw [← hps, List.length_map]
  have k2 : Kp [] s1 (s1.new (.lst (ps.map (·.2)))) := Kp.new
  have F2 := (k1.trans k2).get0 hF hn
  have n2 := Nat.lt_of_lt_of_le hn (k1.trans k2).le
  obtain ⟨s3, e3, k3⟩ := loopC_map (t := tgName 11) (me := sheet_C2) (srcs := [(s1.nxt, ps.map (·.2))]) (l0 := [some (.ref n), some (.int (b : Int)), some (.str who), some (.int (turn : Int)), some (.str way), some (intsD (acrossP p.W p.fs)), some dn, some (.ref m), some (.int t), some (.ref s1.nxt), none, none]) (k := fun q : Int × D => q.2) (f := fun q => rowD (seenR p who way turn (p.cov q.1 t) b)) (st0 := s1.new (.lst (ps.map (·.2)))) (src_one Store.new_same (Nat.lt_succ_self _)) ps (fun q hq s hk => by
    obtain ⟨r, hr1, hr2, hr3⟩ := hR q hq
    have k2s := k2.trans hk
    obtain ⟨mm, s4, e4, k4, m1, m2', g4⟩ := played_turn_ok (way := way) (turn := turn) (bs := p.cov q.1 t) (hk.get0 F2 n2) (Nat.lt_of_lt_of_le n2 hk.le) hp hp.inkOk (fun f hf => Pic.mem_inks hf) (players_ok _ hw) (k2s.get0 hr3 hr2) (Nat.lt_of_lt_of_le hr2 k2s.le) Pic.cov_len ht (by omega)
    have ln : (turnS p who way turn (p.cov q.1 t)).length = p.fs.length := turnS_len Pic.cov_len
    have hb' : b < (turnS p who way turn (p.cov q.1 t)).length := by omega
    have at1 : atI ((turnS p who way turn (p.cov q.1 t)).map Stand.d) (b : Int) = some ((turnS p who way turn (p.cov q.1 t))[b]).d := by
      refine ev_atI (by omega) ?_
      rw [show ((b : Int)).toNat = b by omega, List.getElem?_map, List.getElem?_eq_getElem hb']
      rfl
    refine ⟨[some (.ref n), some (.int (b : Int)), some (.str who), some (.int (turn : Int)), some (.str way), some (intsD (acrossP p.W p.fs)), some dn, some (.ref m), some (.int t), some (.ref s1.nxt), none, some (.ref r)], s4, by simp [hr1], ?_, k4⟩
    unfold seenR
    rw [List.getElem?_eq_getElem hb']
    simp [sheet_C2, e4, g4, at1, Stand.d, rowD]) (s1.new (.lst (ps.map (·.2)))) Kp.refl
  have fin : ps.map (fun q => rowD (seenR p who way turn (p.cov q.1 t) b)) = (lineP p who way turn b t).map rowD := by
    unfold lineP
    rw [← hps, List.map_map, List.map_map]
    rfl
  have hz2 : ps.length ≤ sizeLine := by rw [lps]; exact hz
  have ka : Kp [] st (s3.new (.lst ((lineP p who way turn b t).map rowD))) := k1.trans (k2.trans (k3.trans Kp.new))
  have hz3 : ls.length < sizeLine := Nat.lt_of_le_of_lt hl (by decide)
  refine ⟨some (.ref s1.nxt), (s3.new (.lst ((lineP p who way turn b t).map rowD))).put m (.lst (ls ++ [lineD (lineP p who way turn b t)])), ?_, ka.nil.trans (Kp.put (by simp)), Store.put_same⟩
  have cu := cutD_last (k := D.int) (xs := acrossP p.W p.fs)
  have w1 : msAsg (mLc (miSeq (mSl (mVar 5) moNone (moSome (m1 fNeg (mC (.int 1)))))) (tgName 10) tYes_ sheet_C1 [10]) (tgName 9) [some (.ref n), some (.int (b : Int)), some (.str who), some (.int (turn : Int)), some (.str way), some (intsD (acrossP p.W p.fs)), some dn, some (.ref m), some (.int t), o9, none, none] st =
      .nx [some (.ref n), some (.int (b : Int)), some (.str who), some (.int (turn : Int)), some (.str way), some (intsD (acrossP p.W p.fs)), some dn, some (.ref m), some (.int t), some (.ref s1.nxt), none, none] (s1.new (.lst (ps.map (·.2)))) := by
    unfold intsD at e1 ⊢
    simp [-List.map_dropLast, cu, wipeL, e1, hz2]
  have hmk := ka.get0 hm hmn
  rw [fin] at e3
  have w2 : mLc (miSeq (mVar 9)) (tgName 11) tYes_ sheet_C2 [11] [some (.ref n), some (.int (b : Int)), some (.str who), some (.int (turn : Int)), some (.str way), some (intsD (acrossP p.W p.fs)), some dn, some (.ref m), some (.int t), some (.ref s1.nxt), none, none] (s1.new (.lst (ps.map (·.2)))) = .ok (.ref s3.nxt) (s3.new (.lst ((lineP p who way turn b t).map rowD))) := by
    have hz4 : (lineP p who way turn b t).length ≤ sizeLine := by unfold lineP; rw [List.length_map]; exact hz
    rw [ev_mLc]
    have it : miSeq (mVar 9) [some (.ref n), some (.int (b : Int)), some (.str who), some (.int (turn : Int)), some (.str way), some (intsD (acrossP p.W p.fs)), some dn, some (.ref m), some (.int t), some (.ref s1.nxt), none, none] (s1.new (.lst (ps.map (·.2)))) = .ok ⟨[(s1.nxt, ps.map (·.2))], ps.map (·.2)⟩ (s1.new (.lst (ps.map (·.2)))) := by simp
    rw [it]
    simp only [ev_bind_ok]
    have wl : wipeL [some (.ref n), some (.int (b : Int)), some (.str who), some (.int (turn : Int)), some (.str way), some (intsD (acrossP p.W p.fs)), some dn, some (.ref m), some (.int t), some (.ref s1.nxt), none, none] [11] = [some (.ref n), some (.int (b : Int)), some (.str who), some (.int (turn : Int)), some (.str way), some (intsD (acrossP p.W p.fs)), some dn, some (.ref m), some (.int t), some (.ref s1.nxt), none, none] := rfl
    rw [wl, e3]
    simp [hz4]
  unfold sheet_L1
  rw [ev_msSeq, w1]
  simp only
  rw [ev_msExpr, ev_mM]
  simp only [ev_mVar, List.getElem?_cons_succ, List.getElem?_cons_zero, ev_bind_ok]
  have ty : tyD "list" (.ref m) (s1.new (.lst (ps.map (·.2)))) = true := by
    have := (k1.trans k2).get0 hm hmn
    simp [tyD, this]
  rw [if_pos ty, ev_maCons, ev_mL, ev_maCons, w2]
  simp [hmk, hz3, lineD]
theorem sheet_ok {st : Store} (hF : FilmAt st n p) (hn : n < st.nxt) (hp : p.Ok) (hw : who ∈ players) (hy : way ∈ ways) (ht : 1 ≤ turn) (ht2 : turn ≤ 6) (hb : b < p.fs.length) : ∃ st', F_sheet [.ref n, .int (b : Int), .str who, .int (turn : Int), .str way] st = .ok (sheetD (sheetP p who way turn b)) st' ∧ Kp [] st st' := by
  have a1 := check_film_ok hF
  have a2 := check_beat_ok hF hp.l8 (b := (b : Int)) (by omega) (by omega)
  have a4 := check_play_ok (st := st) (t := (turn : Int)) hw (by omega) (by omega) hy
  obtain ⟨s1, e1, k1⟩ := borders_told hF hp.l8
  have cu := cutD_last (k := D.int) (xs := downP p.Hh p.fs)
  have ld := dwn_len hp.l8
  have kn : Kp [] s1 (s1.new (.lst [])) := Kp.new
  have lp : ∀ (ts : List Int) (ls : List D) (o8 o9 : Option D) (st2 : Store), FilmAt st2 n p → n < st2.nxt → st2.at_ s1.nxt = some (.lst ls) → s1.nxt < st2.nxt → ls.length + ts.length ≤ 100 →
      ∃ o8' o9' st3, loopS (tgName 8) sheet_L1 [] (ts.map D.int) [some (.ref n), some (.int (b : Int)), some (.str who), some (.int (turn : Int)), some (.str way), some (intsD (acrossP p.W p.fs)), some (intsD (downP p.Hh p.fs)), some (.ref s1.nxt), o8, o9, none, none] st2 =
        .nx [some (.ref n), some (.int (b : Int)), some (.str who), some (.int (turn : Int)), some (.str way), some (intsD (acrossP p.W p.fs)), some (intsD (downP p.Hh p.fs)), some (.ref s1.nxt), o8', o9', none, none] st3 ∧ Kp [s1.nxt] st2 st3 ∧ st3.at_ s1.nxt = some (.lst (ls ++ ts.map fun t => lineD (lineP p who way turn b t))) := by
    intro ts
    induction ts with
    | nil => intro ls o8 o9 st2 _ _ h _ _; exact ⟨o8, o9, st2, loopS_nil srcOk_nil, Kp.refl, by simpa using h⟩
    | cons t ts ih =>
      intro ls o8 o9 st2 f2 n2 h h' hl
      have hns : n ≠ s1.nxt := by have := k1.le; omega
      obtain ⟨q9, st3, e3, k3, g3⟩ := line_ok (way := way) (o8 := o8) (o9 := o9) (t := t) (dn := intsD (downP p.Hh p.fs)) f2 n2 hp hw ht ht2 hb h h' (by simp at hl; omega)
      obtain ⟨r8, r9, st4, e4, k4, g4⟩ := ih (ls ++ [lineD (lineP p who way turn b t)]) (some (.int t)) q9 st3 (k3.get f2 n2 (by simpa using hns)) (Nat.lt_of_lt_of_le n2 k3.le) g3 (Nat.lt_of_lt_of_le h' k3.le) (by simp at hl ⊢; omega)
      refine ⟨r8, r9, st4, ?_, k3.trans k4, by rw [g4]; simp⟩
      rw [List.map_cons, loopS_nx srcOk_nil (by rfl) e3]
      exact e4
  obtain ⟨r8, r9, s2, e2, k2, g2⟩ := lp (downP p.Hh p.fs).dropLast [] none none (s1.new (.lst [])) ((k1.trans kn).get0 hF hn) (Nat.lt_of_lt_of_le hn (k1.trans kn).le) Store.new_same (Nat.lt_succ_self _) (by rw [List.length_dropLast]; simp; omega)
  refine ⟨s2, ?_, k1.trans ((kn.nil.trans k2).drop (Nat.le_refl _))⟩
  have it : miSeq (mSl (mVar 6) moNone (moSome (m1 fNeg (mC (.int 1))))) [some (.ref n), some (.int (b : Int)), some (.str who), some (.int (turn : Int)), some (.str way), some (intsD (acrossP p.W p.fs)), some (intsD (downP p.Hh p.fs)), some (.ref s1.nxt), none, none, none, none] (s1.new (.lst [])) = .ok ⟨[], (downP p.Hh p.fs).dropLast.map D.int⟩ (s1.new (.lst [])) := by
    unfold intsD
    simp [-List.map_dropLast, cu]
  simp only [F_sheet, ev_mDef, List.length_cons, List.length_nil, if_true, List.map_cons, List.map_nil, List.replicate, List.cons_append, List.nil_append]
  simp [-ev_miSeq, -ev_msFor, a1, a2, a4, e1]
  rw [ev_msFor, it]
  simp only [ev_toS_ok, e2]
  simp [g2, sheetD, sheetP]
  rfl
end
end G


set_option Elab.async false
set_option linter.all false
set_option maxRecDepth 100000
set_option  maxHeartbeats   4000000
/-! Statements one behind another. -/
namespace G
open DV PySem L2
theorem seq_nx {a b : MS} {l l' : DV.Loc} {st st' : Store} (h : a l st = .nx l' st') : msSeq a b l st = b l' st' := by rw [ev_msSeq, h]
theorem seq_rt {a b : MS} {l : DV.Loc} {d : D} {st st' : Store} (h : a l st = .rt d st') : msSeq a b l st = .rt d st' := by rw [ev_msSeq, h]
theorem for_is {mi : MI} {t : TGT} {body : MS} {l : DV.Loc} {st st1 : Store} {it : Iter} {r : RS} (h : mi l st = .ok it st1) (e : loopS t body it.srcs it.items l st1 = r) : msFor mi t body l st = r := by
  rw [ev_msFor, h]
  exact e
theorem def_rt {n len : Nat} {body : MS} {ds : List D} {l : DV.Loc} {d : D} {st st' : Store} (hn : ds.length = n) (hl : ds.map some ++ List.replicate (len - n) none = l) (h : body l st = .rt d st') : mDef n len body ds st = .ok d st' := by
  subst hl
  rw [ev_mDef, if_pos hn, h]
theorem def_nx {n len : Nat} {body : MS} {ds : List D} {l l' : DV.Loc} {st st' : Store} (hn : ds.length = n) (hl : ds.map some ++ List.replicate (len - n) none = l) (h : body l st = .nx l' st') : mDef n len body ds st = .ok .non st' := by
  subst hl
  rw [ev_mDef, if_pos hn, h]
end G


set_option Elab.async false
set_option linter.all false
set_option maxRecDepth 100000
set_option  maxHeartbeats   8000000
/-! Defs that many laws have, as functions. -/
namespace G
open DV PySem L2
noncomputable section
/-- turned(self): 0 self -/
def F_Film_turned : FD := mDef 1 1 (msRet (mMeth 0 "with_frames" F_Film_with_frames 1 0 [.p 0, .p 1] [] (mVar 0) (maCons (m1 fRev (mProp 0 F_Film_frames (mVar 0))) maNil) maNil))
/-- turns(film): 0 film, 1 back, 2 cell -/
def turns_C1 : ME := (m2 fEq (mCall F_sights [] (maCons (mVar 1) (maCons (mVar 2) maNil))) (m1 fRev (mCall F_sights [] (maCons (mVar 0) (maCons (mVar 2) maNil)))))
def F_turns : FD := mDef 1 3 (msSeq (msExpr (mCall F_check_film [] (maCons (mVar 0) maNil)))
  (msSeq (msAsg (mMeth 0 "turned" F_Film_turned 0 0 [.p 0] [] (mVar 0) maNil maNil) (tgName 1))
  (msRet (mL (f1 (allD true)) (maCons (mLc (miSeq (mCall F_cells_in [] (maCons (mVar 0) maNil))) (tgName 2) tYes_ turns_C1 [2]) maNil)))))
end
end G


set_option Elab.async false
set_option linter.all false
set_option maxRecDepth 100000
set_option  maxHeartbeats   4000000
/-! Films turned. -/
namespace G
open DV PySem L2
theorem asc_eq : ∀ {xs ys : List Int}, xs.Pairwise (· < ·) → ys.Pairwise (· < ·) → (∀ z, z ∈ xs ↔ z ∈ ys) → xs = ys
  | [], [], _, _, _ => rfl
  | [], y :: ys, _, _, h => absurd ((h y).mpr (by simp)) (by simp)
  | x :: xs, [], _, _, h => absurd ((h x).mp (by simp)) (by simp)
  | x :: xs, y :: ys, h1, h2, h => by
    have a1 := List.pairwise_cons.mp h1
    have a2 := List.pairwise_cons.mp h2
    have e : x = y := by
      rcases List.mem_cons.mp ((h x).mp (by simp)) with z | z
      · exact z
      · rcases List.mem_cons.mp ((h y).mpr (by simp)) with w | w
        · exact w.symm
        · have := a1.1 y w; have := a2.1 x z; omega
    subst e
    congr 1
    refine asc_eq a1.2 a2.2 fun z => ?_
    have hz := h z
    simp only [List.mem_cons] at hz
    constructor
    · intro w
      rcases hz.mp (.inr w) with q | q
      · have := a1.1 z w; omega
      · exact q
    · intro w
      rcases hz.mpr (.inr w) with q | q
      · have := a2.1 z w; omega
      · exact q
theorem sdd_eq {xs ys : List Int} (h : ∀ z, z ∈ xs ↔ z ∈ ys) : sddI xs = sddI ys := asc_eq (up_sddI _) (up_sddI _) fun z => by rw [mem_sddI, mem_sddI]; exact h z
/-- cells hang on the frames as a set -/
theorem cells_set {W Hh : Int} {fs gs : List Fr} (h : ∀ f, f ∈ fs ↔ f ∈ gs) : cellsG W Hh fs = cellsG W Hh gs := by
  have a : acrossP W fs = acrossP W gs := asc_eq acr_up acr_up fun z => by
    rw [mem_acr, mem_acr]
    simp only [h]
  have d : downP Hh fs = downP Hh gs := asc_eq dwn_up dwn_up fun z => by
    rw [mem_dwn, mem_dwn]
    simp only [h]
  unfold cellsG
  rw [a, d]
def Pic.rev (p : Pic) : Pic := p.wf p.fs.reverse
theorem Pic.Ok.rev {p : Pic} (h : p.Ok) : p.rev.Ok := h.wf (by simpa using h.ne) (by simpa using h.l8) (fun f hf => h.fr f (List.mem_reverse.mp hf))
theorem cells_rev {p : Pic} : cellsL p.rev = cellsL p := cells_set fun f => List.mem_reverse
theorem cov_rev {p : Pic} {x y : Int} : p.rev.cov x y = (p.cov x y).reverse := by
  unfold Pic.rev Pic.cov Pic.wf
  rw [List.map_reverse]
theorem rev_tup {α : Type} {k : α → D} {xs : List α} {st : Store} (h : xs ≠ []) : fRev (.tup (xs.map k)) st = some (.tup (xs.reverse.map k), st) := by
  cases xs with
  | nil => exact absurd rfl h
  | cons x xs => simp
section
variable {n : Nat} {p : Pic} {st : Store}
theorem turned_ok (h : FilmAt st n p) (hn : n < st.nxt) (hp : p.Ok) : ∃ st', F_Film_turned [.ref n] st = .ok (.ref st.nxt) st' ∧ FilmAt st' st.nxt p.rev ∧ Kp [] st st' ∧ st.nxt < st'.nxt := by
  obtain ⟨s1, e1, f1, k1, n1⟩ := with_frames_ok h hn hp.rev
  refine ⟨s1, ?_, f1, k1, n1⟩
  have a4 := frames_ok h
  have rv := rev_tup (k := Fr.d) (st := st) hp.ne
  have lk := no_meth (m := "with_frames") (d := p.d) (by decide +kernel)
  unfold FilmAt at h
  rw [List.map_reverse] at e1 rv
  simp [-ev_fRev, F_Film_turned, a4, h, rv, lk, arr, Src.of, e1]
/-- the sights turned are the sights of the film turned -/
def turnC (p : Pic) (cs : List Bool) : Bool := decide (showS p.firm "full" cs.reverse p.fs.reverse nothing = (showS p.firm "full" cs p.fs nothing).reverse)
def turnP (p : Pic) : Bool := (cellsL p).all fun c => turnC p (p.cov c.l c.t)
theorem turns_ok (h : FilmAt st n p) (hn : n < st.nxt) (hp : p.Ok) : ∃ st', F_turns [.ref n] st = .ok (.bl (turnP p)) st' ∧ Kp [] st st' := by
  have ck := check_film_ok h
  obtain ⟨s1, e1, f1, k1, n1⟩ := turned_ok h hn hp
  have h1 := k1.get0 h hn
  have hn1 := Nat.lt_of_lt_of_le hn k1.le
  obtain ⟨r, s2, e2, k2, m1, mm2, g2⟩ := cells_in_ok2 h1 hp.l8
  obtain ⟨s3, e3, k3⟩ := loopC_map (t := tgName 2) (me := turns_C1) (srcs := [(r, (cellsL p).map Box.d)]) (l0 := [some (.ref n), some (.ref st.nxt), none]) (k := Box.d) (f := fun c => .bl (turnC p (p.cov c.l c.t))) (st0 := s2) (src_one g2 mm2) (cellsL p) (fun c hc t hk => by
    have f3 := (k2.trans hk).get0 f1 n1
    have n3 := Nat.lt_of_lt_of_le n1 (k2.trans hk).le
    obtain ⟨t1, a1, b1, c1, d1, d2, d3⟩ := sights_ok (x := c.l) (y := c.t) (l := .int c.r) (t := .int c.b) f3 n3 hp.rev
    have f4 := ((k2.trans hk).trans c1).get0 h1 hn1
    have n4 := Nat.lt_of_lt_of_le hn1 ((k2.trans hk).trans c1).le
    obtain ⟨t2, a2, b2, c2, d4, d5, d6⟩ := sights_ok (x := c.l) (y := c.t) (l := .int c.r) (t := .int c.b) f4 n4 hp
    have kn : Kp [] t2 (t2.new (.lst ((showS p.firm "full" (p.cov c.l c.t) p.fs nothing).reverse.map Stand.d))) := Kp.new
    refine ⟨[some (.ref n), some (.ref st.nxt), some c.d], _, rfl, ?_, (c1.trans c2).trans kn⟩
    unfold turnC
    rw [cov_rev] at d3
    refine eq_lists stand_eqv (m := a1) (n := t2.nxt) (s1 := t1) ?_ ?_ ((c2.trans kn).get0 d3 d2) Store.new_same (show_data hp.rev.inkOk (show_Ok _ _ _ (fun f hf => Pic.mem_inks hf) no_Ok)) (show_data hp.inkOk fun s hs => show_Ok _ _ _ (fun f hf => Pic.mem_inks hf) no_Ok s (List.mem_reverse.mp hs))
    · simp [Box.d, b1]
    · simp [Box.d, b2, d6]) s2 Kp.refl
  have hz := cells_line hp
  have bm := boolsD_map (f := fun c : Box => turnC p (p.cov c.l c.t)) (xs := cellsL p)
  refine ⟨s3.new (.lst ((cellsL p).map fun c => .bl (turnC p (p.cov c.l c.t)))), ?_, (k1.trans (k2.trans k3)).trans Kp.new⟩
  have lk := no_meth (m := "turned") (d := p.d) (by decide +kernel)
  have hc := h
  unfold FilmAt at hc
  simp [F_turns, ck, hc, lk, arr, Src.of, e1, e2, g2, wipeL, e3, hz, bm, turnP]
end
/-- the turned film turns just if the film does -/
theorem turn_rev {p : Pic} : turnP p.rev = turnP p := by
  unfold turnP
  rw [cells_rev]
  congr 1
  funext c
  unfold turnC
  rw [cov_rev]
  simp only [List.reverse_reverse]
  have e : p.rev.fs.reverse = p.fs := by unfold Pic.rev Pic.wf; simp
  rw [e]
  refine decide_eq_decide.mpr ⟨fun h => ?_, fun h => ?_⟩
  · rw [show p.rev.firm = p.firm from rfl] at h
    rw [h, List.reverse_reverse]
    rfl
  · rw [show p.rev.firm = p.firm from rfl]
    have h' : showS p.firm "full" (p.cov c.l c.t).reverse p.rev.fs nothing = (showS p.firm "full" (p.cov c.l c.t) p.fs nothing).reverse := h
    rw [h', List.reverse_reverse]
end G


set_option Elab.async false
set_option linter.all false
set_option maxRecDepth 100000
set_option  maxHeartbeats   8000000
/-! Defs that many laws have, as functions. -/
namespace G
open DV PySem L2
noncomputable section
/-- _law_differ(_law_model_here, _law_others, _law_whos, _law_first): 0 _law_model_here, 1 _law_others, 2 _law_whos, 3 _law_first, 4 _law_beats, 5 _law_at, 6 _law_dot, 7 _law_inks, 8 _law_one_here -/
def law_differ_L1 : MS := (msSeq (msAsg (m2 fIx (mCall F_law_play [] (maCons (mVar 0) (maCons (mVar 6) (maCons (mVar 7) (maCons (m2 fIx (mVar 2) (mC (.int 0))) (maCons (mVar 3) maNil)))))) (mC (.int 0))) (tgName 8))
  (msIf (tB_ (m2 fNe (m2 fIx (mVar 8) (mVar 5)) (m2 fIx (m2 fIx (mCall F_law_play [] (maCons (mVar 1) (maCons (mVar 6) (maCons (mVar 7) (maCons (m2 fIx (mVar 2) (mC (.int 1))) (maCons (mVar 3) maNil)))))) (mC (.int 0))) (mVar 5))))
  (msRet (mTup (maCons (mVar 5) (maCons (mVar 6) maNil))))
  msNil))
def law_differ_L2 : MS := (msFor (miSeq (mCall F_law_patterns [] (maCons (m2 fIx (mVar 0) (mC (.int 3))) maNil))) (tgName 7)
  law_differ_L1)
def law_differ_L3 : MS := (msFor (miSeq (mCall F_law_dots [] (maCons (mVar 0) maNil))) (tgName 6)
  law_differ_L2)
def F_law_differ : FD := mDef 4 9 (msSeq (msAsg (mL (f2I minI) (maCons (mL (f1 lenD) (maCons (m2 fIx (mVar 0) (mC (.int 2))) maNil)) (maCons (mL (f1 lenD) (maCons (m2 fIx (mVar 1) (mC (.int 2))) maNil)) maNil))) (tgName 4))
  (msSeq (msFor (miRng rng1 (maCons (mVar 4) maNil)) (tgName 5)
  law_differ_L3)
  (msRet (mIf (tB_ (m2 fEq (mL (f1 lenD) (maCons (m2 fIx (mVar 0) (mC (.int 2))) maNil)) (mL (f1 lenD) (maCons (m2 fIx (mVar 1) (mC (.int 2))) maNil)))) (mC .non) (mTup (maCons (mVar 4) (maCons (mC .non) maNil)))))))
/-- unlike_beats(shown, other): 0 shown, 1 other, 2 beat, 3 pair -/
def unlike_beats_T1 : MT := (tB_ (m2 fNe (m2 fIx (mVar 3) (mC (.int 0))) (m2 fIx (mVar 3) (mC (.int 1)))))
def F_unlike_beats : FD := mDef 2 4 (msRet (mLc (miOf enumZOf (maCons (mVar 0) (maCons (mVar 1) maNil))) (tgTup 2 (tgCons (tgName 2) (tgCons (tgName 3) tgNil))) unlike_beats_T1 (mVar 2) [2, 3]))
/-- first_pair(spots): 0 spots, 1 beat, 2 spot -/
def first_pair_L1 : MS := (msIf (tB_ (m2 fNotN (mVar 2) (mC .non)))
  (msRet (mTup (maCons (mVar 1) (maCons (mVar 2) maNil))))
  msNil)
def F_first_pair : FD := mDef 1 3 (msSeq (msFor (miOf enumOf (maCons (mVar 0) maNil)) (tgTup 2 (tgCons (tgName 1) (tgCons (tgName 2) tgNil)))
  first_pair_L1)
  (msRet (mC .non)))
/-- first_spots(cells, beats, differ): 0 cells, 1 beats, 2 differ, 3 found, 4 left, 5 top, 6 right, 7 bottom, 8 beat -/
def first_spots_L1 (hf : Addr) (hF : FD) : MS := (msIf (tB_ (m2 fIsN (m2 fIx (mVar 3) (mVar 8)) (mC .non)))
  (msSub (mTup (maCons (mVar 4) (maCons (mVar 5) maNil))) (mVar 3) (mVar 8))
  msNil)
def first_spots_L2 (hf : Addr) (hF : FD) : MS := (msFor (miSeq (mCallC 2 hf hF (maCons (mTup (maCons (mVar 4) (maCons (mVar 5) maNil))) maNil))) (tgName 8)
  (first_spots_L1 hf hF))
def F_first_spots (hf : Addr) (hF : FD) : FD := mDef 3 9 (msSeq (msAsg (m2 fMul (mLst (maCons (mC .non) maNil)) (mVar 1)) (tgName 3))
  (msSeq (msFor (miSeq (mVar 0)) (tgTup 4 (tgCons (tgName 4) (tgCons (tgName 5) (tgCons (tgName 6) (tgCons (tgName 7) tgNil)))))
  (first_spots_L2 hf hF))
  (msRet (mVar 3))))
/-- differ(spot): 0 spot, 1 one, 2 other, 3 player, 4 second, 5 stand, 6 shown -/
def F_first_unlike_differ : FD := mDef 6 7 (msSeq (msAsg (m2 fIx (mCall F_played [] (maCons (mVar 1) (maCons (mCall F_covers_at [] (maCons (mVar 1) (maCons (mVar 0) maNil))) (maCons (mVar 3) (maCons (mVar 5) maNil))))) (mC (.int 0))) (tgName 6))
  (msRet (mCall F_unlike_beats [] (maCons (mVar 6) (maCons (m2 fIx (mCall F_played [] (maCons (mVar 2) (maCons (mCall F_covers_at [] (maCons (mVar 2) (maCons (mVar 0) maNil))) (maCons (mVar 4) (maCons (mVar 5) maNil))))) (mC (.int 0))) maNil)))))
/-- first_unlike(one, other, player, second, stand): 0 one, 1 other, 2 player, 3 second, 4 stand, 5 differ, 6 cells, 7 found -/
def F_first_unlike : FD := mDef 5 8 (msDefR 5 fun hf => (msSeq (msAsg (mCall F_cells_of [] (maCons (mProp 0 F_Film_width (mVar 0)) (maCons (mProp 0 F_Film_height (mVar 0)) (maCons (m2 fAdd (mCall F_parts_in [] (maCons (mVar 0) maNil)) (mCall F_parts_in [] (maCons (mVar 1) maNil))) maNil)))) (tgName 6))
  (msSeq (msAsg (mCall F_first_pair [] (maCons (mCallH hf 2 [0, 1, 2, 3, 4] F_first_spots F_first_unlike_differ (maCons (mVar 6) (maCons (mL (f2I minI) (maCons (mLenX 0 F_Film_len (mVar 0)) (maCons (mLenX 0 F_Film_len (mVar 1)) maNil))) (maCons (mVar 5) maNil)))) maNil)) (tgName 7))
  (msSeq (msIf (tAnd_ (tB_ (m2 fIsN (mVar 7) (mC .non))) (tB_ (m2 fNe (mLenX 0 F_Film_len (mVar 0)) (mLenX 0 F_Film_len (mVar 1)))))
  (msRet (mTup (maCons (mL (f2I minI) (maCons (mLenX 0 F_Film_len (mVar 0)) (maCons (mLenX 0 F_Film_len (mVar 1)) maNil))) (maCons (mC .non) maNil))))
  msNil)
  (msRet (mVar 7))))))
/-- like_full(film): 0 film, 1 player -/
def like_full_T1 : MT := (tB_ (m2 fIsN (mCall F_first_unlike [] (maCons (mVar 0) (maCons (mVar 0) (maCons (mC (.str "full")) (maCons (mVar 1) (maCons (mC (.tup [(.tup []), (.bl true)])) maNil)))))) (mC .non)))
def F_like_full : FD := mDef 1 2 (msSeq (msExpr (mCall F_check_film [] (maCons (mVar 0) maNil)))
  (msRet (mL (f1 tupleD) (maCons (mLc (miSeq (mSl (mC (.tup [(.str "full"), (.str "keeps"), (.str "wipes"), (.str "blanks")])) (moSome (mC (.int 1))) moNone)) (tgName 1) like_full_T1 (mVar 1) [1]) maNil))))
/-- check_start(start): 0 start -/
def F_check_start : FD := mDef 1 1 (msIf (tNot_ (tB_ (mCall F_is_word [] (maCons (mVar 0) (maCons (mTup (maCons (mC (.str "empty")) (maCons (mC (.str "any")) maNil))) maNil)))))
  msNever
  msNil)
/-- do_fit(one, other): 0 one, 1 other -/
def F_do_fit : FD := mDef 2 2 (msRet (m2 fEq (mTup (maCons (mProp 0 F_Film_width (mVar 0)) (maCons (mProp 0 F_Film_height (mVar 0)) (maCons (mProp 0 F_Film_solid (mVar 0)) maNil)))) (mTup (maCons (mProp 0 F_Film_width (mVar 1)) (maCons (mProp 0 F_Film_height (mVar 1)) (maCons (mProp 0 F_Film_solid (mVar 1)) maNil))))))
/-- check_fit(one, other): 0 one, 1 other -/
def F_check_fit : FD := mDef 2 2 (msIf (tNot_ (tB_ (mCall F_do_fit [] (maCons (mVar 0) (maCons (mVar 1) maNil)))))
  msNever
  msNil)
/-- unlike(one, other, player, second, start): 0 one, 1 other, 2 player, 3 second, 4 start -/
def F_unlike : FD := mDef 5 5 (msSeq (msExpr (mCall F_check_film [] (maCons (mVar 0) maNil)))
  (msSeq (msExpr (mCall F_check_film [] (maCons (mVar 1) maNil)))
  (msSeq (msExpr (mCall F_check_player [] (maCons (mVar 2) maNil)))
  (msSeq (msExpr (mCall F_check_player [] (maCons (mVar 3) maNil)))
  (msSeq (msExpr (mCall F_check_start [] (maCons (mVar 4) maNil)))
  (msSeq (msExpr (mCall F_check_fit [] (maCons (mVar 0) (maCons (mVar 1) maNil))))
  (msRet (mCall F_first_unlike [] (maCons (mVar 0) (maCons (mVar 1) (maCons (mVar 2) (maCons (mVar 3) (maCons (mIf (tB_ (m2 fEq (mVar 4) (mC (.str "empty")))) (mC (.tup [(.tup []), (.bl true)])) (mC (.tup [(.tup []), (.bl false)]))) maNil)))))))))))))
/-- alike(one, other, player, second, start): 0 one, 1 other, 2 player, 3 second, 4 start -/
def F_alike : FD := mDef 5 5 (msRet (m2 fIsN (mCallK F_unlike 2 3 [.p 0, .p 1, .k 0, .k 1, .k 2] [] (maCons (mVar 0) (maCons (mVar 1) maNil)) (maCons (mVar 2) (maCons (mVar 3) (maCons (mVar 4) maNil)))) (mC .non)))
/-- _law_due(_law_model_here, _law_who): 0 _law_model_here, 1 _law_who, 2 _law_at, 3 _law_dot, 4 _law_inks, 5 _law_later -/
def law_due_L1 : MS := (msSeq (msAsg (mCall F_law_rounds [] (maCons (mVar 0) (maCons (mVar 3) (maCons (mVar 4) (maCons (mVar 1) (maCons (mC (.int 2)) (maCons (mC (.str "on")) maNil))))))) (tgName 5))
  (msIf (tB_ (m2 fNe (m2 fIx (mVar 5) (mVar 2)) (m2 fIx (mCall F_law_rounds [] (maCons (mVar 0) (maCons (mVar 3) (maCons (mVar 4) (maCons (mVar 1) (maCons (mC (.int 1)) (maCons (mC (.str "on")) maNil))))))) (mVar 2))))
  (msRet (mTup (maCons (mVar 2) (maCons (mVar 3) maNil))))
  msNil))
def law_due_L2 : MS := (msFor (miSeq (mCall F_law_patterns [] (maCons (m2 fIx (mVar 0) (mC (.int 3))) maNil))) (tgName 4)
  law_due_L1)
def law_due_L3 : MS := (msFor (miSeq (mCall F_law_dots [] (maCons (mVar 0) maNil))) (tgName 3)
  law_due_L2)
def F_law_due : FD := mDef 2 6 (msSeq (msFor (miRng rng1 (maCons (mL (f1 lenD) (maCons (m2 fIx (mVar 0) (mC (.int 2))) maNil)) maNil)) (tgName 2)
  law_due_L3)
  (msRet (mC .non)))
/-- differ(spot): 0 spot, 1 film, 2 player, 3 anew, 4 covers -/
def F_unlike_again_differ : FD := mDef 4 5 (msSeq (msAsg (mCall F_covers_at [] (maCons (mVar 1) (maCons (mVar 0) maNil))) (tgName 4))
  (msRet (mCall F_unlike_beats [] (maCons (mCall F_played_turn [] (maCons (mVar 1) (maCons (mVar 4) (maCons (mVar 2) (maCons (mC (.int 1)) (maCons (mVar 3) maNil)))))) (maCons (mCall F_played_turn [] (maCons (mVar 1) (maCons (mVar 4) (maCons (mVar 2) (maCons (mC (.int 2)) (maCons (mVar 3) maNil)))))) maNil)))))
/-- unlike_again(film, player, anew): 0 film, 1 player, 2 anew, 3 differ, 4 cells -/
def F_unlike_again : FD := mDef 3 5 (msSeq (msExpr (mCall F_check_film [] (maCons (mVar 0) maNil)))
  (msSeq (msExpr (mCall F_check_player [] (maCons (mVar 1) maNil)))
  (msSeq (msExpr (mCall F_check_anew [] (maCons (mVar 2) maNil)))
  (msDefR 3 fun hf => (msSeq (msAsg (mCall F_cells_of [] (maCons (mProp 0 F_Film_width (mVar 0)) (maCons (mProp 0 F_Film_height (mVar 0)) (maCons (mCall F_parts_in [] (maCons (mVar 0) maNil)) maNil)))) (tgName 4))
  (msRet (mCall F_first_pair [] (maCons (mCallH hf 2 [0, 1, 2] F_first_spots F_unlike_again_differ (maCons (mVar 4) (maCons (mLenX 0 F_Film_len (mVar 0)) (maCons (mVar 3) maNil)))) maNil))))))))
/-- again(film, player, anew): 0 film, 1 player, 2 anew -/
def F_again : FD := mDef 3 3 (msRet (m2 fIsN (mCallK F_unlike_again 1 2 [.p 0, .k 0, .k 1] [] (maCons (mVar 0) maNil) (maCons (mVar 1) (maCons (mVar 2) maNil))) (mC .non)))
end
end G


set_option Elab.async false
set_option linter.all false
set_option maxRecDepth 100000
set_option  maxHeartbeats   4000000
/-! First differences: unlike_beats, first_spots, first_pair. -/
namespace G
open DV PySem L2
/-- a loop that returns at the first that is found -/
theorem loopS_find {t : TGT} {body : MS} {srcs : List (Nat × List D)} {α : Type} {k : α → D} {P : α → Bool} {J : DV.Loc → Prop} {bad : α → D} {st0 : Store} (so : ∀ st, Kp [] st0 st → SrcOk srcs st) : ∀ (xs : List α),
    (∀ a ∈ xs, ∀ l st, J l → Kp [] st0 st → ∃ l1, t (k a) l st = some l1 ∧ (if P a = true then ∃ st2, body l1 st = .rt (bad a) st2 ∧ Kp [] st st2 else ∃ l2 st2, body l1 st = .nx l2 st2 ∧ J l2 ∧ Kp [] st st2)) →
    ∀ l st, J l → Kp [] st0 st → (match xs.find? P with
      | some a => ∃ st', loopS t body srcs (xs.map k) l st = .rt (bad a) st' ∧ Kp [] st st'
      | none => ∃ l' st', loopS t body srcs (xs.map k) l st = .nx l' st' ∧ J l' ∧ Kp [] st st')
  | [], _, l, st, hJ, hk => ⟨l, st, loopS_nil (so st hk), hJ, Kp.refl⟩
  | a :: xs, step, l, st, hJ, hk => by
    obtain ⟨l1, h1, h2⟩ := step a (by simp) l st hJ hk
    rw [List.map_cons]
    cases q : P a with
    | true =>
      rw [if_pos q] at h2
      obtain ⟨st2, e, k2⟩ := h2
      rw [List.find?_cons_of_pos q]
      exact ⟨st2, loopS_rt (so st hk) h1 e, k2⟩
    | false =>
      rw [if_neg (by rw [q]; decide)] at h2
      obtain ⟨l2, st2, e, hJ2, k2⟩ := h2
      rw [List.find?_cons_of_neg (by rw [q]; decide), loopS_nx (so st hk) h1 e]
      have ih := loopS_find so xs (fun b hb => step b (List.mem_cons_of_mem _ hb)) l2 st2 hJ2 (hk.trans k2)
      cases z : xs.find? P with
      | some b =>
        rw [z] at ih
        obtain ⟨st', e', k'⟩ := ih
        exact ⟨st', e', k2.trans k'⟩
      | none =>
        rw [z] at ih
        obtain ⟨l', st', e', j', k'⟩ := ih
        exact ⟨l', st', e', j', k2.trans k'⟩

/-! ### the beats at which two lists differ -/
def enP (i : Nat) : List Stand → List Stand → List (Nat × Stand × Stand)
  | s :: ss, t :: ts => (i, s, t) :: enP (i + 1) ss ts
  | _, _ => []
theorem enP_eq : ∀ (ss ts : List Stand) (i : Nat), DV.enumFrom i (zipD (ss.map Stand.d) (ts.map Stand.d)) = (enP i ss ts).map fun q => .tup [.int (q.1 : Nat), .tup [q.2.1.d, q.2.2.d]]
  | [], ts, i => by simp [zipD, DV.enumFrom, enP]
  | s :: ss, [], i => by simp [zipD, DV.enumFrom, enP]
  | s :: ss, t :: ts, i => by
    simp only [List.map_cons, zipD, DV.enumFrom, enP]
    rw [enP_eq ss ts (i + 1)]
theorem mem_enP {b : Nat} {s t : Stand} : ∀ {ss ts : List Stand} {i : Nat}, (b, s, t) ∈ enP i ss ts ↔ ∃ j, b = i + j ∧ ss[j]? = some s ∧ ts[j]? = some t
  | [], ts, i => by simp [enP]
  | x :: ss, [], i => by simp [enP]
  | x :: ss, y :: ts, i => by
    simp only [enP, List.mem_cons, Prod.mk.injEq, mem_enP (ss := ss) (ts := ts) (i := i + 1)]
    constructor
    · rintro (⟨rfl, rfl, rfl⟩ | ⟨j, rfl, h1, h2⟩)
      · exact ⟨0, rfl, rfl, rfl⟩
      · exact ⟨j + 1, by omega, by simpa using h1, by simpa using h2⟩
    · rintro ⟨j, rfl, h1, h2⟩
      cases j with
      | zero =>
        simp only [List.getElem?_cons_zero, Option.some.injEq] at h1 h2
        exact .inl ⟨rfl, h1.symm, h2.symm⟩
      | succ j => exact .inr ⟨j, by omega, by simpa using h1, by simpa using h2⟩
theorem enP_len : ∀ (ss ts : List Stand) (i : Nat), (enP i ss ts).length ≤ ss.length
  | [], ts, i => by simp [enP]
  | s :: ss, [], i => by simp [enP]
  | s :: ss, t :: ts, i => by
    simp only [enP, List.length_cons]
    have := enP_len ss ts (i + 1)
    omega
def diffN (ss ts : List Stand) : List Nat := ((enP 0 ss ts).filter fun q => !decide (q.2.1 = q.2.2)).map (·.1)
theorem mem_diffN {b : Nat} {ss ts : List Stand} : b ∈ diffN ss ts ↔ ∃ s t, ss[b]? = some s ∧ ts[b]? = some t ∧ s ≠ t := by
  unfold diffN
  simp only [List.mem_map, List.mem_filter]
  constructor
  · rintro ⟨⟨c, s, t⟩, ⟨h1, h2⟩, rfl⟩
    obtain ⟨j, hj, h3, h4⟩ := mem_enP.mp h1
    have : c = j := by omega
    subst this
    exact ⟨s, t, h3, h4, by simpa using h2⟩
  · rintro ⟨s, t, h1, h2, h3⟩
    exact ⟨(b, s, t), ⟨mem_enP.mpr ⟨b, by omega, h1, h2⟩, by simpa using h3⟩, rfl⟩
theorem diffN_len {ss ts : List Stand} : (diffN ss ts).length ≤ ss.length := by
  unfold diffN
  rw [List.length_map]
  exact Nat.le_trans (List.length_filter_le _ _) (enP_len _ _ _)
theorem stand_ne {st : Store} {s t : Stand} (hs : ∀ z ∈ s.row, TOk z) (ht : ∀ z ∈ t.row, TOk z) : fNe s.d t.d st = some (.bl (!decide (s = t)), st) := by
  have e1 : toData st 20 s.d = some (standP s) := by
    refine toData_tup ?_
    simp only [optL, toData_tup (toData_strs hs)]
    rfl
  have e2 : toData st 20 t.d = some (standP t) := by
    refine toData_tup ?_
    simp only [optL, toData_tup (toData_strs ht)]
    rfl
  have sc : scalEq s.d t.d = none := rfl
  unfold fNe dataEq
  rw [sc]
  simp only [e1, e2, stand_eqv, Option.map_some]
theorem unlike_beats_ok {I : List Str} {ss ts : List Stand} {m1 m2 : Nat} {st : Store} (hI : InkOk I) (hs : ∀ s ∈ ss, s.Ok I) (ht : ∀ t ∈ ts, t.Ok I) (hl : ss.length ≤ 100) (e1 : st.at_ m1 = some (.lst (ss.map Stand.d))) (e2 : st.at_ m2 = some (.lst (ts.map Stand.d))) (h1 : m1 < st.nxt) (h2 : m2 < st.nxt) :
    ∃ m st', F_unlike_beats [.ref m1, .ref m2] st = .ok (.ref m) st' ∧ Kp [] st st' ∧ st.nxt ≤ m ∧ m < st'.nxt ∧ st'.at_ m = some (.lst ((diffN ss ts).map fun b : Nat => D.int (b : Int))) := by
  have so : ∀ st', Kp [] st st' → SrcOk [(m1, ss.map Stand.d), (m2, ts.map Stand.d)] st' := fun st' k p hp => by
    rcases List.mem_cons.mp hp with rfl | hp
    · exact k.get0 e1 h1
    · rw [List.mem_singleton.mp hp]
      exact k.get0 e2 h2
  obtain ⟨s1, e3, k1⟩ := loopC_filter (t := tgTup 2 (tgCons (tgName 2) (tgCons (tgName 3) tgNil))) (mt := unlike_beats_T1) (me := mVar 2) (srcs := [(m1, ss.map Stand.d), (m2, ts.map Stand.d)]) (l0 := [some (.ref m1), some (.ref m2), none, none])
    (k := fun q : Nat × Stand × Stand => .tup [.int (q.1 : Nat), .tup [q.2.1.d, q.2.2.d]]) (P := fun q => !decide (q.2.1 = q.2.2)) (f := fun q => .int (q.1 : Int)) (st0 := st) so (enP 0 ss ts) (fun q hq st' hk => by
    obtain ⟨b, s, t⟩ := q
    obtain ⟨j, _, g1, g2⟩ := mem_enP.mp hq
    have ne := stand_ne (st := st') ((hs s (List.mem_of_getElem? g1)).t hI) ((ht t (List.mem_of_getElem? g2)).t hI)
    refine ⟨[some (.ref m1), some (.ref m2), some (.int (b : Int)), some (.tup [s.d, t.d])], st', by simp, ?_, Kp.refl, fun _ => ⟨st', by simp, Kp.refl⟩⟩
    simp [-ev_fNe, unlike_beats_T1, ne]) st Kp.refl
  have ln : (((enP 0 ss ts).filter fun q => !decide (q.2.1 = q.2.2)).map fun q => D.int (q.1 : Int)).length ≤ sizeLine := by
    refine small_line ?_
    rw [List.length_map]
    have a := List.length_filter_le (fun q : Nat × Stand × Stand => !decide (q.2.1 = q.2.2)) (enP 0 ss ts)
    have b := enP_len ss ts 0
    omega
  refine ⟨s1.nxt, s1.new (.lst ((diffN ss ts).map fun b : Nat => D.int (b : Int))), ?_, k1.trans Kp.new, k1.le, Nat.lt_succ_self _, Store.new_same⟩
  have it : enumZOf [.ref m1, .ref m2] st = some ⟨[(m1, ss.map Stand.d), (m2, ts.map Stand.d)], (enP 0 ss ts).map fun q => .tup [.int (q.1 : Nat), .tup [q.2.1.d, q.2.2.d]]⟩ := by
    rw [← enP_eq]
    simp [enumZOf, zipOf, seqOf, e1, e2]
  have dn : (diffN ss ts).map (fun b : Nat => D.int (b : Int)) = ((enP 0 ss ts).filter fun q => !decide (q.2.1 = q.2.2)).map fun q => D.int (q.1 : Int) := by
    unfold diffN
    rw [List.map_map]
    rfl
  rw [dn]
  rw [List.length_map] at ln
  simp [F_unlike_beats, it, wipeL, e3, ln]

/-! ### the first spots -/
def optD : Option (Int × Int) → D
  | some q => dotD q
  | none => .non
def foundD (n : Nat) (F : Nat → Option (Int × Int)) : List D := (List.range n).map fun b => optD (F b)
theorem found_at {n b : Nat} {F : Nat → Option (Int × Int)} (h : b < n) : atI (foundD n F) (b : Int) = some (optD (F b)) := by
  refine ev_atI (by omega) ?_
  unfold foundD
  rw [List.getElem?_map]
  simp [h]
theorem found_set {n b : Nat} {F : Nat → Option (Int × Int)} {q : Int × Int} (h : b < n) : (foundD n F).set b (dotD q) = foundD n (fun c => if c = b then some q else F c) := by
  refine List.ext_getElem? fun i => ?_
  unfold foundD
  rw [List.getElem?_set, List.getElem?_map, List.getElem?_map]
  by_cases e : b = i
  · subst e
    simp [h, optD]
  · have e' : ¬ i = b := fun z => e z.symm
    simp only [e, if_false]
    by_cases hi : i < n
    · simp [hi, e']
    · simp [hi]
def putF (F : Nat → Option (Int × Int)) (ks : List Nat) (q : Int × Int) : Nat → Option (Int × Int) := fun b => if b ∈ ks then (F b).or (some q) else F b
theorem putF_cons {F : Nat → Option (Int × Int)} {k : Nat} {ks : List Nat} {q : Int × Int} : putF (putF F [k] q) ks q = putF F (k :: ks) q := by
  funext b
  unfold putF
  by_cases h1 : b = k
  · subst h1
    by_cases h2 : b ∈ ks
    · simp only [List.mem_singleton, if_true, h2, List.mem_cons, or_true]
      cases F b <;> rfl
    · simp [h2]
  · simp [h1]
theorem ixN_nat {n k : Nat} (h : k < n) : ixN n (k : Int) = some k := by
  unfold ixN
  simp [h]
theorem spots_in {hF : FD} {n m dm : Nat} {q : Int × Int} {c0 c1 c6 c7 : Option D} {all : List D} (hd : dm ≠ m) : ∀ (ks : List Nat) (F : Nat → Option (Int × Int)) (o8 : Option D) (st : Store), (∀ k ∈ ks, k < n) → st.at_ m = some (.lst (foundD n F)) → m < st.nxt → st.at_ dm = some (.lst all) → dm < st.nxt →
    ∃ p8 st', (∀ (hf : Addr) (c2 : Option D), loopS (tgName 8) (first_spots_L1 hf hF) [(dm, all)] (ks.map fun b : Nat => D.int (b : Int)) [c0, c1, c2, some (.ref m), some (.int q.1), some (.int q.2), c6, c7, o8] st = .nx [c0, c1, c2, some (.ref m), some (.int q.1), some (.int q.2), c6, c7, p8] st') ∧ Kp [m] st st' ∧ st'.at_ m = some (.lst (foundD n (putF F ks q)))
  | [], F, o8, st, _, e, _, ed, _ => ⟨o8, st, fun hf c2 => loopS_nil (srcOk_one ed), Kp.refl, by
      have : putF F [] q = F := by funext b; simp [putF]
      rw [this]; exact e⟩
  | k :: ks, F, o8, st, hk, e, hm, ed, hdm => by
    have kn := hk k (by simp)
    have at1 := found_at (F := F) kn
    have body : ∃ st2, (∀ (hf : Addr) (c2 : Option D), first_spots_L1 hf hF [c0, c1, c2, some (.ref m), some (.int q.1), some (.int q.2), c6, c7, some (.int (k : Int))] st = .nx [c0, c1, c2, some (.ref m), some (.int q.1), some (.int q.2), c6, c7, some (.int (k : Int))] st2) ∧ Kp [m] st st2 ∧ st2.at_ m = some (.lst (foundD n (putF F [k] q))) := by
      cases z : F k with
      | some q0 =>
        refine ⟨st, ?_, Kp.refl, ?_⟩
        · intro hf c2
          rw [z] at at1
          simp [first_spots_L1, e, at1, optD, dotD]
        · have : putF F [k] q = F := by
            funext b
            unfold putF
            by_cases h : b = k
            · subst h; simp [z]
            · simp [h]
          rw [this]; exact e
      | none =>
        refine ⟨st.put m (.lst ((foundD n F).set k (dotD q))), ?_, Kp.put (by simp), ?_⟩
        · intro hf c2
          rw [z] at at1
          have ix : ixN (foundD n F).length (k : Int) = some k := ixN_nat (by unfold foundD; simp [kn])
          simp [first_spots_L1, e, at1, optD, dotD, ix]
        · rw [Store.put_same, found_set kn]
          have : (fun c => if c = k then some q else F c) = putF F [k] q := by
            funext b
            unfold putF
            by_cases h : b = k
            · subst h; simp [z]
            · simp [h]
          rw [this]
    obtain ⟨st2, b1, k2, e2⟩ := body
    obtain ⟨p8, st', e3, k3, e4⟩ := spots_in hd ks (putF F [k] q) (some (.int (k : Int))) st2 (fun j hj => hk j (List.mem_cons_of_mem _ hj)) e2 (Nat.lt_of_lt_of_le hm k2.le) (k2.get ed hdm (by simpa using hd)) (Nat.lt_of_lt_of_le hdm k2.le)
    refine ⟨p8, st', ?_, k2.trans k3, by rw [putF_cons] at e4; exact e4⟩
    intro hf c2
    rw [List.map_cons, loopS_nx (srcOk_one ed) (l1 := [c0, c1, c2, some (.ref m), some (.int q.1), some (.int q.2), c6, c7, some (.int (k : Int))]) rfl (b1 hf c2)]
    exact e3 hf c2
/-- what a function must tell at the corners of cells -/
def DiffAt (hF : FD) (st0 : Store) (n : Nat) (diff : Box → List Nat) (cs : List Box) : Prop := ∀ c ∈ cs, (∀ k ∈ diff c, k < n) ∧ ∀ st, Kp [] st0 st → ∃ dm st', hF [dotD (c.l, c.t)] st = .ok (.ref dm) st' ∧ Kp [] st st' ∧ st.nxt ≤ dm ∧ dm < st'.nxt ∧ st'.at_ dm = some (.lst ((diff c).map fun b : Nat => D.int (b : Int)))
def firstC (diff : Box → List Nat) (cs : List Box) (b : Nat) : Option (Int × Int) := (cs.find? fun c => decide (b ∈ diff c)).map fun c => (c.l, c.t)
theorem spots_out {hF : FD} {n r : Nat} {diff : Box → List Nat} {all : List D} {st0 : Store} {c0 c1 : Option D} (hr : st0.at_ r = some (.lst all)) (hrn : r < st0.nxt) : ∀ (cs : List Box) (F : Nat → Option (Int × Int)) (o4 o5 o6 o7 o8 : Option D) (st : Store) (m : Nat), DiffAt hF st0 n diff cs → st0.nxt ≤ m → Kp [m] st0 st → st.at_ m = some (.lst (foundD n F)) → m < st.nxt →
    ∃ p4 p5 p6 p7 p8 st', (∀ hf : Addr, loopS (tgTup 4 (tgCons (tgName 4) (tgCons (tgName 5) (tgCons (tgName 6) (tgCons (tgName 7) tgNil))))) (first_spots_L2 hf hF) [(r, all)] (cs.map Box.d) [c0, c1, some (.cst (.ref hf)), some (.ref m), o4, o5, o6, o7, o8] st = .nx [c0, c1, some (.cst (.ref hf)), some (.ref m), p4, p5, p6, p7, p8] st') ∧ Kp [m] st st' ∧
      st'.at_ m = some (.lst (foundD n fun b => (F b).or (firstC diff cs b)))
  | [], F, o4, o5, o6, o7, o8, st, m, _, hm0, hk, e, hm => ⟨o4, o5, o6, o7, o8, st, fun hf => loopS_nil (srcOk_one (hk.get hr hrn (by simp; omega))), Kp.refl, by
      have : (fun b => (F b).or (firstC diff [] b)) = F := by funext b; simp [firstC]
      rw [this]; exact e⟩
  | c :: cs, F, o4, o5, o6, o7, o8, st, m, hD, hm0, hk, e, hm => by
    obtain ⟨hlt, hsp⟩ := hD c (by simp)
    obtain ⟨dm, s1, e1, k1, d1, d2, d3⟩ := hsp st (hk.drop hm0)
    have em1 := k1.get0 e hm
    obtain ⟨p8, s2, e2, k2, e3⟩ := spots_in (hF := hF) (c0 := c0) (c1 := c1) (c6 := some (.int c.r)) (c7 := some (.int c.b)) (q := (c.l, c.t)) (show dm ≠ m by omega) (diff c) F o8 s1 hlt em1 (Nat.lt_of_lt_of_le hm k1.le) d3 d2
    have kk : Kp [m] st s2 := k1.nil.trans k2
    obtain ⟨p4, p5, p6, p7, q8, s3, e4, k3, e5⟩ := spots_out hr hrn cs (putF F (diff c) (c.l, c.t)) (some (.int c.l)) (some (.int c.t)) (some (.int c.r)) (some (.int c.b)) p8 s2 m (fun x hx => hD x (List.mem_cons_of_mem _ hx)) hm0 (hk.trans kk) e3 (Nat.lt_of_lt_of_le hm kk.le)
    refine ⟨p4, p5, p6, p7, q8, s3, ?_, kk.trans k3, ?_⟩
    · intro hf
      have bd : first_spots_L2 hf hF [c0, c1, some (.cst (.ref hf)), some (.ref m), some (.int c.l), some (.int c.t), some (.int c.r), some (.int c.b), o8] st = .nx [c0, c1, some (.cst (.ref hf)), some (.ref m), some (.int c.l), some (.int c.t), some (.int c.r), some (.int c.b), p8] s2 := by
        refine for_is (it := ⟨[(dm, (diff c).map fun b : Nat => D.int (b : Int))], (diff c).map fun b : Nat => D.int (b : Int)⟩) (st1 := s1) ?_ (e2 hf (some (.cst (.ref hf))))
        have e1' : hF [D.tup [.int c.l, .int c.t]] st = .ok (.ref dm) s1 := e1
        simp [mCallC, e1', d3]
      rw [List.map_cons, loopS_nx (srcOk_one (hk.get hr hrn (by simp; omega))) (l1 := [c0, c1, some (.cst (.ref hf)), some (.ref m), some (.int c.l), some (.int c.t), some (.int c.r), some (.int c.b), o8]) (by simp [Box.d]) bd]
      exact e4 hf
    · have : (fun b => (putF F (diff c) (c.l, c.t) b).or (firstC diff cs b)) = fun b => (F b).or (firstC diff (c :: cs) b) := by
        funext b
        unfold putF firstC
        by_cases h : b ∈ diff c
        · rw [List.find?_cons_of_pos (by simpa using h)]
          simp only [h, if_true, Option.map_some]
          cases F b <;> rfl
        · rw [List.find?_cons_of_neg (by simpa using h)]
          simp only [h, if_false]
      rw [← this]
      exact e5
theorem first_spots_ok {hF : FD} {n r : Nat} {diff : Box → List Nat} {cs : List Box} {st : Store} (hr : st.at_ r = some (.lst (cs.map Box.d))) (hrn : r < st.nxt) (hn : n ≤ 100) (hD : DiffAt hF st n diff cs) :
    ∃ m st', (∀ hf : Addr, F_first_spots hf hF [.ref r, .int (n : Int), .cst (.ref hf)] st = .ok (.ref m) st') ∧ Kp [] st st' ∧ m < st'.nxt ∧ st'.at_ m = some (.lst (foundD n (firstC diff cs))) := by
  have rp : repL n [D.non] = foundD n (fun _ => none) := by
    unfold repL foundD optD
    refine List.ext_getElem? fun i => ?_
    by_cases h : i < n <;> simp [h]
  have fm : fMul (.ref st.nxt) (.int (n : Int)) (st.new (.lst [.non])) = some (.ref (st.nxt + 1), (st.new (.lst [.non])).new (.lst (foundD n (fun _ => none)))) := by
    have a : -(2 ^ 63 : Int) ≤ (n : Int) ∧ (n : Int) < 2 ^ 63 ∧ ([D.non] : List D).length * n ≤ sizeLine := ⟨by omega, by omega, small_line (by simp; omega)⟩
    have b : (match (st.new (.lst [.non])).at_ st.nxt with
      | some (.lst xs) => if -(2 ^ 63 : Int) ≤ (n : Int) ∧ (n : Int) < 2 ^ 63 ∧ xs.length * ((n : Int)).toNat ≤ sizeLine then some (D.ref (st.new (.lst [.non])).nxt, (st.new (.lst [.non])).new (.lst (repL ((n : Int)).toNat xs))) else none
      | _ => none) = some (.ref (st.nxt + 1), (st.new (.lst [.non])).new (.lst (foundD n (fun _ => none)))) := by
      rw [Store.new_same]
      simp only [Int.toNat_natCast, rp]
      rw [if_pos a]
      rfl
    exact b
  have k0 : Kp [] st ((st.new (.lst [.non])).new (.lst (foundD n (fun _ => none)))) := Kp.new.trans Kp.new
  obtain ⟨p4, p5, p6, p7, p8, s2, e2, k2, e3⟩ := spots_out (hF := hF) (n := n) (diff := diff) (c0 := some (.ref r)) (c1 := some (.int (n : Int))) hr hrn cs (fun _ => none) none none none none none ((st.new (.lst [.non])).new (.lst (foundD n (fun _ => none)))) (st.nxt + 1) hD (Nat.le_succ _) k0.nil Store.new_same (Nat.lt_succ_self _)
  have hc : ((st.new (.lst [.non])).new (.lst (foundD n (fun _ => none)))).at_ r = some (.lst (cs.map Box.d)) := k0.get0 hr hrn
  refine ⟨st.nxt + 1, s2, ?_, (k0.nil.trans k2).drop (Nat.le_succ _), Nat.lt_of_lt_of_le (Nat.lt_succ_self _) k2.le, by simpa using e3⟩
  intro hf
  have w1 : msAsg (m2 fMul (mLst (maCons (mC .non) maNil)) (mVar 1)) (tgName 3) [some (.ref r), some (.int (n : Int)), some (.cst (.ref hf)), none, none, none, none, none, none] st = .nx [some (.ref r), some (.int (n : Int)), some (.cst (.ref hf)), some (.ref (st.nxt + 1)), none, none, none, none, none] ((st.new (.lst [.non])).new (.lst (foundD n (fun _ => none)))) := by
    simp [-ev_fMul, fm]
  have w2 : miSeq (mVar 0) [some (.ref r), some (.int (n : Int)), some (.cst (.ref hf)), some (.ref (st.nxt + 1)), none, none, none, none, none] ((st.new (.lst [.non])).new (.lst (foundD n (fun _ => none)))) = .ok ⟨[(r, cs.map Box.d)], cs.map Box.d⟩ ((st.new (.lst [.non])).new (.lst (foundD n (fun _ => none)))) := by
    simp [hc]
  refine def_rt rfl rfl ?_
  refine (seq_nx w1).trans ?_
  refine (seq_nx (for_is w2 (e2 hf))).trans ?_
  simp

/-! ### the first pair -/
theorem enum_range {g : Nat → D} : ∀ (n i : Nat), DV.enumFrom i ((List.range' i n).map g) = (List.range' i n).map fun b => .tup [.int (b : Int), g b]
  | 0, i => rfl
  | n + 1, i => by
    rw [List.range'_succ, List.map_cons, List.map_cons, DV.enumFrom, enum_range n (i + 1)]
def firstD (n : Nat) (F : Nat → Option (Int × Int)) : D := match (List.range n).find? fun b => (F b).isSome with
  | some b => .tup [.int (b : Int), optD (F b)]
  | none => .non
theorem first_pair_ok {n m : Nat} {F : Nat → Option (Int × Int)} {st : Store} (h : st.at_ m = some (.lst (foundD n F))) (hm : m < st.nxt) : ∃ st', F_first_pair [.ref m] st = .ok (firstD n F) st' ∧ Kp [] st st' := by
  have it : miOf enumOf (maCons (mVar 0) maNil) [some (.ref m), none, none] st = .ok ⟨[(m, foundD n F)], (List.range n).map fun b : Nat => .tup [.int (b : Int), optD (F b)]⟩ st := by
    have z := enum_range (g := fun b => optD (F b)) n 0
    rw [← List.range_eq_range'] at z
    have z2 : DV.enumFrom 0 (foundD n F) = (List.range n).map fun b : Nat => .tup [.int (b : Int), optD (F b)] := z
    simp [h, seqOf, z2]
  have lp := loopS_find (t := tgTup 2 (tgCons (tgName 1) (tgCons (tgName 2) tgNil))) (body := first_pair_L1) (srcs := [(m, foundD n F)]) (k := fun b : Nat => D.tup [.int (b : Int), optD (F b)]) (P := fun b => (F b).isSome) (J := fun l => ∃ a b, l = [some (.ref m), a, b]) (bad := fun b => .tup [.int (b : Int), optD (F b)]) (src_one h hm) (List.range n) (fun b _ l s hl hk => by
    obtain ⟨x, y, rfl⟩ := hl
    refine ⟨[some (.ref m), some (.int (b : Int)), some (optD (F b))], by simp, ?_⟩
    cases z : F b with
    | some q =>
      simp only [Option.isSome_some, if_true]
      exact ⟨s, by simp [first_pair_L1, optD, dotD], Kp.refl⟩
    | none =>
      simp only [Option.isSome_none, Bool.false_eq_true, if_false]
      exact ⟨[some (.ref m), some (.int (b : Int)), some .non], s, by simp [first_pair_L1, optD], ⟨some (.int (b : Int)), some .non, rfl⟩, Kp.refl⟩) [some (.ref m), none, none] st ⟨none, none, rfl⟩ Kp.refl
  unfold firstD
  cases z : (List.range n).find? fun b => (F b).isSome with
  | some b =>
    rw [z] at lp
    obtain ⟨st', e, k⟩ := lp
    exact ⟨st', def_rt rfl rfl (seq_rt (for_is it e)), k⟩
  | none =>
    rw [z] at lp
    obtain ⟨l', st', e, ⟨a, b, rfl⟩, k⟩ := lp
    refine ⟨st', def_rt rfl rfl ((seq_nx (for_is it e)).trans ?_), k⟩
    simp
theorem firstD_non {n : Nat} {F : Nat → Option (Int × Int)} : firstD n F = .non ↔ ∀ b, b < n → F b = none := by
  unfold firstD
  cases z : (List.range n).find? fun b => (F b).isSome with
  | some b =>
    have h1 := List.find?_some z
    have h2 := List.mem_range.mp (List.mem_of_find?_eq_some z)
    simp only [reduceCtorEq, false_iff]
    intro h
    rw [h b h2] at h1
    cases h1
  | none =>
    simp only [true_iff]
    intro b hb
    have := List.find?_eq_none.mp z b (List.mem_range.mpr hb)
    cases q : F b with
    | none => rfl
    | some x => rw [q] at this; exact absurd rfl this
end G


set_option Elab.async false
set_option linter.all false
set_option maxRecDepth 100000
set_option  maxHeartbeats   4000000
/-! The first difference of two films. -/
namespace G
open DV PySem L2
theorem msDefR_at {i : Nat} {m : Addr → MS} {l : DV.Loc} {st : Store} {r : RS} (h : ∀ f, m f (l.set i (some (.cst (.ref f)))) st = r) : msDefR i m l st = r := msDefR_eq h
/-- what is shown at a spot from a stand -/
def shown (p : Pic) (who : Str) (s : Stand) (bs : List Bool) : List Stand := showS p.firm who bs p.fs s
section
variable {n1 n2 : Nat} {p q : Pic} {w1 w2 : Str} {s : Stand} {st : Store}
theorem differ_ok {x y : Int} (h1 : FilmAt st n1 p) (h2 : FilmAt st n2 q) (hn1 : n1 < st.nxt) (hn2 : n2 < st.nxt) (hp : p.Ok) (hq : q.Ok) (t1 : TOk w1) (t2 : TOk w2) (hs : s.Ok p.inks) (hs2 : s.Ok q.inks) (hI : InkOk (p.inks ++ q.inks)) :
    ∃ dm st', F_first_unlike_differ [dotD (x, y), .ref n1, .ref n2, .str w1, .str w2, s.d] st = .ok (.ref dm) st' ∧ Kp [] st st' ∧ st.nxt ≤ dm ∧ dm < st'.nxt ∧ st'.at_ dm = some (.lst ((diffN (shown p w1 s (p.cov x y)) (shown q w2 s (q.cov x y))).map fun b : Nat => D.int (b : Int))) := by
  obtain ⟨cm, m, s1, s2, e1, e2, k, m1, m2, g⟩ := played_at (x := x) (y := y) (s := s) h1 hn1 hp t1 hs
  have h2' := k.get0 h2 hn2
  obtain ⟨cm', m', s1', s2', e1', e2', k', m1', m2', g'⟩ := played_at (x := x) (y := y) (s := s) h2' (Nat.lt_of_lt_of_le hn2 k.le) hq t2 hs2
  have o1 : ∀ t ∈ shown p w1 s (p.cov x y), t.Ok (p.inks ++ q.inks) := fun t ht => (show_Ok _ _ _ (fun f hf => Pic.mem_inks hf) hs t ht).sub fun z hz => List.mem_append_left _ hz
  have o2 : ∀ t ∈ shown q w2 s (q.cov x y), t.Ok (p.inks ++ q.inks) := fun t ht => (show_Ok _ _ _ (fun f hf => Pic.mem_inks hf) hs2 t ht).sub fun z hz => List.mem_append_right _ hz
  have ln : (shown p w1 s (p.cov x y)).length ≤ 100 := by
    unfold shown
    rw [showS_len _ _ _ Pic.cov_len]
    have := hp.l8
    omega
  obtain ⟨dm, s3, e3, k3, d1, d2, d3⟩ := unlike_beats_ok (ss := shown p w1 s (p.cov x y)) (ts := shown q w2 s (q.cov x y)) hI o1 o2 ln (k'.get0 g m2) g' (Nat.lt_of_lt_of_le m2 k'.le) m2'
  refine ⟨dm, s3, ?_, (k.trans k').trans k3, Nat.le_trans (k.trans k').le d1, d2, d3⟩
  simp [F_first_unlike_differ, dotD, e1, e2, e1', e2', e3]
/-- the cells of both films -/
def cells2 (p q : Pic) : List Box := cellsG p.W p.Hh (p.fs ++ q.fs)
def diff2 (p q : Pic) (w1 w2 : Str) (s : Stand) (c : Box) : List Nat := diffN (shown p w1 s (p.cov c.l c.t)) (shown q w2 s (q.cov c.l c.t))
def beats2 (p q : Pic) : Nat := min p.fs.length q.fs.length
/-- the first beat and spot, None -/
def firstU (p q : Pic) (w1 w2 : Str) (s : Stand) : D := firstD (beats2 p q) (firstC (diff2 p q w1 w2 s) (cells2 p q))
theorem firstD_isN {n : Nat} {F : Nat → Option (Int × Int)} {st : Store} : fIsN (firstD n F) .non st = some (.bl (decide (∀ b, b < n → F b = none)), st) := by
  have z := firstD_non (n := n) (F := F)
  by_cases h : ∀ b, b < n → F b = none
  · rw [z.mpr h, decide_eq_true h]
    rfl
  · have h2 : firstD n F ≠ .non := fun e => h (z.mp e)
    rw [decide_eq_false h]
    unfold firstD at h2 ⊢
    cases w : (List.range n).find? fun b => (F b).isSome with
    | some b => rfl
    | none => rw [w] at h2; exact absurd rfl h2
/-- first_unlike of films with as many frames -/
theorem first_unlike_ok (h1 : FilmAt st n1 p) (h2 : FilmAt st n2 q) (hn1 : n1 < st.nxt) (hn2 : n2 < st.nxt) (hp : p.Ok) (hq : q.Ok) (t1 : TOk w1) (t2 : TOk w2) (hs : s.Ok p.inks) (hs2 : s.Ok q.inks) (hI : InkOk (p.inks ++ q.inks)) (hl : (p.fs ++ q.fs).length ≤ 12) (he : p.fs.length = q.fs.length) :
    ∃ st', F_first_unlike [.ref n1, .ref n2, .str w1, .str w2, s.d] st = .ok (firstU p q w1 w2 s) st' ∧ Kp [] st st' := by
  have q1 := parts_ok h1 hp.l8
  have k1 : Kp [] st (st.new (.lst (p.fs.map Fr.part))) := Kp.new
  have q2 := parts_ok (k1.get0 h2 hn2) hq.l8
  have k2 : Kp [] (st.new (.lst (p.fs.map Fr.part))) ((st.new (.lst (p.fs.map Fr.part))).new (.lst (q.fs.map Fr.part))) := Kp.new
  have a1 := width_ok h1
  have a2 := height_ok h1
  let s2 := (st.new (.lst (p.fs.map Fr.part))).new (.lst (q.fs.map Fr.part))
  have g1 : s2.at_ st.nxt = some (.lst (p.fs.map Fr.part)) := k2.get0 Store.new_same (Nat.lt_succ_self _)
  have g2 : s2.at_ (st.nxt + 1) = some (.lst (q.fs.map Fr.part)) := Store.new_same
  let s3 := s2.new (.lst ((p.fs ++ q.fs).map Fr.part))
  have k3 : Kp [] s2 s3 := Kp.new
  have kk : Kp [] st s3 := (k1.trans k2).trans k3
  obtain ⟨r, s4, e4, k4, r1, r2, r3⟩ := cells_of_ok (W := p.W) (Hh := p.Hh) (fs := p.fs ++ q.fs) (st := s3) (m := s2.nxt) Store.new_same (Nat.lt_succ_self _) hl
  rw [cellsD_eq] at r3
  have k04 := kk.trans k4
  have hD : DiffAt (fdC F_first_unlike_differ [.ref n1, .ref n2, .str w1, .str w2, s.d]) s4 (beats2 p q) (diff2 p q w1 w2 s) (cells2 p q) := fun c hc => by
    refine ⟨fun k hk => ?_, fun t ht => ?_⟩
    · obtain ⟨x, y, g3, g4, _⟩ := mem_diffN.mp hk
      have l1 := (List.getElem?_eq_some_iff.mp g3).1
      have l2 := (List.getElem?_eq_some_iff.mp g4).1
      unfold shown at l1 l2
      rw [showS_len _ _ _ Pic.cov_len] at l1 l2
      unfold beats2
      omega
    · exact differ_ok ((k04.trans ht).get0 h1 hn1) ((k04.trans ht).get0 h2 hn2) (Nat.lt_of_lt_of_le hn1 (k04.trans ht).le) (Nat.lt_of_lt_of_le hn2 (k04.trans ht).le) hp hq t1 t2 hs hs2 hI
  have bn : beats2 p q ≤ 100 := by
    unfold beats2
    have := hp.l8
    omega
  obtain ⟨m, s5, e5, k5, v1, v2⟩ := first_spots_ok (hF := fdC F_first_unlike_differ [.ref n1, .ref n2, .str w1, .str w2, s.d]) (n := beats2 p q) (r := r) r3 r2 bn hD
  obtain ⟨s6, e6, k6⟩ := first_pair_ok v2 v1
  have k05 := k04.trans k5
  have k06 := k05.trans k6
  refine ⟨s6, ?_, k06⟩
  have w0 : ∀ hf : Addr, msAsg (mCall F_cells_of [] (maCons (mProp 0 F_Film_width (mVar 0)) (maCons (mProp 0 F_Film_height (mVar 0)) (maCons (m2 fAdd (mCall F_parts_in [] (maCons (mVar 0) maNil)) (mCall F_parts_in [] (maCons (mVar 1) maNil))) maNil)))) (tgName 6) [some (.ref n1), some (.ref n2), some (.str w1), some (.str w2), some s.d, some (.cst (.ref hf)), none, none] st = .nx [some (.ref n1), some (.ref n2), some (.str w1), some (.str w2), some s.d, some (.cst (.ref hf)), some (.ref r), none] s4 := fun hf => by
    have z : (p.fs.map Fr.part).length + (q.fs.map Fr.part).length ≤ sizeLine := small_line (by simp at hl ⊢; omega)
    have ad : fAdd (.ref st.nxt) (.ref (st.nxt + 1)) s2 = some (.ref s2.nxt, s3) := by
      simp only [ev_fAdd, g1, g2, if_pos z]
      show some (D.ref s2.nxt, s2.new (.lst (p.fs.map Fr.part ++ q.fs.map Fr.part))) = some (D.ref s2.nxt, s2.new (.lst ((p.fs ++ q.fs).map Fr.part)))
      rw [List.map_append]
    have f1 := h1
    unfold FilmAt at f1
    have e4' : F_cells_of [.int p.W, .int p.Hh, .ref (st.nxt + 1 + 1)] (((st.new (.lst (p.fs.map Fr.part))).new (.lst (q.fs.map Fr.part))).new (.lst (p.fs.map Fr.part ++ q.fs.map Fr.part))) = .ok (.ref r) s4 := by
      rw [← List.map_append]
      exact e4
    simp [-ev_fAdd, f1, a1, a2, q1, q2, ad, s2, s3, e4']
  have w1' : ∀ hf : Addr, msAsg (mCall F_first_pair [] (maCons (mCallH hf 2 [0, 1, 2, 3, 4] F_first_spots F_first_unlike_differ (maCons (mVar 6) (maCons (mL (f2I minI) (maCons (mLenX 0 F_Film_len (mVar 0)) (maCons (mLenX 0 F_Film_len (mVar 1)) maNil))) (maCons (mVar 5) maNil)))) maNil)) (tgName 7) [some (.ref n1), some (.ref n2), some (.str w1), some (.str w2), some s.d, some (.cst (.ref hf)), some (.ref r), none] s4 = .nx [some (.ref n1), some (.ref n2), some (.str w1), some (.str w2), some s.d, some (.cst (.ref hf)), some (.ref r), some (firstU p q w1 w2 s)] s6 := fun hf => by
    have x1 := lenX_ok (k04.get0 h1 hn1) hp.l8 (l := [some (.ref n1), some (.ref n2), some (.str w1), some (.str w2), some s.d, some (.cst (.ref hf)), some (.ref r), none]) (i := 0) rfl
    have x2 := lenX_ok (k04.get0 h2 hn2) hq.l8 (l := [some (.ref n1), some (.ref n2), some (.str w1), some (.str w2), some s.d, some (.cst (.ref hf)), some (.ref r), none]) (i := 1) rfl
    have mn : (if q.fs.length < p.fs.length then (q.fs.length : Int) else (p.fs.length : Int)) = ((beats2 p q : Nat) : Int) := by
      unfold beats2
      split <;> omega
    have xs : maCons (mVar 6) (maCons (mL (f2I minI) (maCons (mLenX 0 F_Film_len (mVar 0)) (maCons (mLenX 0 F_Film_len (mVar 1)) maNil))) (maCons (mVar 5) maNil)) [some (.ref n1), some (.ref n2), some (.str w1), some (.str w2), some s.d, some (.cst (.ref hf)), some (.ref r), none] s4 = .ok [.ref r, .int ((beats2 p q : Nat) : Int), .cst (.ref hf)] s4 := by
      simp [-ev_mLenX, x1, x2, mn]
    have sl : slots [some (.ref n1), some (.ref n2), some (.str w1), some (.str w2), some s.d, some (D.cst (.ref hf)), some (.ref r), none] [0, 1, 2, 3, 4] = some [.ref n1, .ref n2, .str w1, .str w2, s.d] := rfl
    have ch : mCallH hf 2 [0, 1, 2, 3, 4] F_first_spots F_first_unlike_differ (maCons (mVar 6) (maCons (mL (f2I minI) (maCons (mLenX 0 F_Film_len (mVar 0)) (maCons (mLenX 0 F_Film_len (mVar 1)) maNil))) (maCons (mVar 5) maNil))) [some (.ref n1), some (.ref n2), some (.str w1), some (.str w2), some s.d, some (.cst (.ref hf)), some (.ref r), none] s4 = .ok (.ref m) s5 := by
      unfold mCallH
      rw [xs]
      show (if hf = hf then (match slots [some (.ref n1), some (.ref n2), some (.str w1), some (.str w2), some s.d, some (D.cst (.ref hf)), some (.ref r), none] [0, 1, 2, 3, 4] with
        | some ws => F_first_spots hf (fdC F_first_unlike_differ ws) [.ref r, .int ((beats2 p q : Nat) : Int), .cst (.ref hf)] s4
        | none => .bad) else .bad) = _
      rw [if_pos rfl, sl]
      exact e5 hf
    rw [ev_msAsg, ev_mCall, ev_maCons, ch]
    simp [e6]
    rfl
  have isN := firstD_isN (n := beats2 p q) (F := firstC (diff2 p q w1 w2 s) (cells2 p q)) (st := s6)
  have w2' : ∀ hf : Addr, msIf (tAnd_ (tB_ (m2 fIsN (mVar 7) (mC .non))) (tB_ (m2 fNe (mLenX 0 F_Film_len (mVar 0)) (mLenX 0 F_Film_len (mVar 1))))) (msRet (mTup (maCons (mL (f2I minI) (maCons (mLenX 0 F_Film_len (mVar 0)) (maCons (mLenX 0 F_Film_len (mVar 1)) maNil))) (maCons (mC .non) maNil)))) msNil [some (.ref n1), some (.ref n2), some (.str w1), some (.str w2), some s.d, some (.cst (.ref hf)), some (.ref r), some (firstU p q w1 w2 s)] s6 = .nx [some (.ref n1), some (.ref n2), some (.str w1), some (.str w2), some s.d, some (.cst (.ref hf)), some (.ref r), some (firstU p q w1 w2 s)] s6 := fun hf => by
    have x1 := lenX_ok (k06.get0 h1 hn1) hp.l8 (l := [some (.ref n1), some (.ref n2), some (.str w1), some (.str w2), some s.d, some (.cst (.ref hf)), some (.ref r), some (firstU p q w1 w2 s)]) (i := 0) rfl
    have x2 := lenX_ok (k06.get0 h2 hn2) hq.l8 (l := [some (.ref n1), some (.ref n2), some (.str w1), some (.str w2), some s.d, some (.cst (.ref hf)), some (.ref r), some (firstU p q w1 w2 s)]) (i := 1) rfl
    have isN' : fIsN (firstU p q w1 w2 s) .non s6 = some (.bl (decide (∀ b, b < beats2 p q → firstC (diff2 p q w1 w2 s) (cells2 p q) b = none)), s6) := isN
    have x2' := x2
    rw [← he] at x2'
    cases z : decide (∀ b, b < beats2 p q → firstC (diff2 p q w1 w2 s) (cells2 p q) b = none) with
    | true =>
      rw [z] at isN'
      simp [-ev_mLenX, -ev_fIsN, isN', x1, x2']
    | false =>
      rw [z] at isN'
      simp [-ev_mLenX, -ev_fIsN, isN']
  refine def_rt rfl rfl (msDefR_at fun hf => ?_)
  refine (seq_nx (w0 hf)).trans ?_
  refine (seq_nx (w1' hf)).trans ?_
  refine (seq_nx (w2' hf)).trans ?_
  simp
end
end G


set_option Elab.async false
set_option linter.all false
set_option maxRecDepth 100000
set_option  maxHeartbeats   4000000
/-! The first in a rising list. -/
namespace G
open DV PySem L2
theorem find_least {α : Type} {lt : α → α → Prop} {P : α → Bool} : ∀ {xs : List α} {a : α}, xs.Pairwise lt → a ∈ xs → P a = true → (∀ b ∈ xs, P b = true → ¬ lt b a) → (∀ b ∈ xs, P b = true → ¬ lt b a → b = a ∨ lt a b) → xs.find? P = some a
  | [], a, _, h, _, _, _ => absurd h (by simp)
  | x :: xs, a, hs, h, hp, hl, ht => by
    have hs' := List.pairwise_cons.mp hs
    by_cases q : P x = true
    · rcases List.mem_cons.mp h with e | m
      · subst e
        exact List.find?_cons_of_pos q
      · exact absurd (hs'.1 a m) (hl x (by simp) q)
    · rcases List.mem_cons.mp h with e | m
      · subst e
        exact absurd hp q
      · rw [List.find?_cons_of_neg q]
        exact find_least hs'.2 m hp (fun b hb => hl b (List.mem_cons_of_mem _ hb)) (fun b hb => ht b (List.mem_cons_of_mem _ hb))
end G


set_option Elab.async false
set_option linter.all false
set_option maxRecDepth 100000
set_option  maxHeartbeats   4000000
/-! The second round against the first. -/
namespace G
open DV PySem L2
section
variable {n : Nat} {p : Pic} {who way : Str} {st : Store}
theorem again_differ_ok {x y : Int} (h : FilmAt st n p) (hn : n < st.nxt) (hp : p.Ok) (hw : TOk who) :
    ∃ dm st', F_unlike_again_differ [dotD (x, y), .ref n, .str who, .str way] st = .ok (.ref dm) st' ∧ Kp [] st st' ∧ st.nxt ≤ dm ∧ dm < st'.nxt ∧ st'.at_ dm = some (.lst ((diffN (turnS p who way 1 (p.cov x y)) (turnS p who way 2 (p.cov x y))).map fun b : Nat => D.int (b : Int))) := by
  obtain ⟨s1, cm, e1, e2, k1, hm1, hm2⟩ := covers_ok (x := x) (y := y) h hp.l8
  have h1 := k1.get0 h hn
  have n1 := Nat.lt_of_lt_of_le hn k1.le
  obtain ⟨m, s2, e3, k2, m1, v2, g2⟩ := played_turn_ok (way := way) (turn := 1) h1 n1 hp hp.inkOk (fun f hf => Pic.mem_inks hf) hw e2 hm2 Pic.cov_len (by decide) (by decide)
  have h2 := k2.get0 h1 n1
  have n2 := Nat.lt_of_lt_of_le n1 k2.le
  obtain ⟨m', s3, e4, k3, m1', v2', g3⟩ := played_turn_ok (way := way) (turn := 2) h2 n2 hp hp.inkOk (fun f hf => Pic.mem_inks hf) hw (k2.get0 e2 hm2) (Nat.lt_of_lt_of_le hm2 k2.le) Pic.cov_len (by decide) (by decide)
  have ln : (turnS p who way 1 (p.cov x y)).length ≤ 100 := by
    rw [turnS_len Pic.cov_len]
    have := hp.l8
    omega
  obtain ⟨dm, s4, e5, k4, d1, d2, d3⟩ := unlike_beats_ok (ss := turnS p who way 1 (p.cov x y)) (ts := turnS p who way 2 (p.cov x y)) hp.inkOk (turn_Ok fun f hf => Pic.mem_inks hf) (turn_Ok fun f hf => Pic.mem_inks hf) ln (k3.get0 g2 v2) g3 (Nat.lt_of_lt_of_le v2 k3.le) v2'
  have kk := (k1.trans (k2.trans k3))
  refine ⟨dm, s4, ?_, kk.trans k4, Nat.le_trans kk.le d1, d2, d3⟩
  have e3' : F_played_turn [.ref n, .ref cm, .str who, .int 1, .str way] s1 = .ok (.ref m) s2 := e3
  have e4' : F_played_turn [.ref n, .ref cm, .str who, .int 2, .str way] s2 = .ok (.ref m') s3 := e4
  simp [F_unlike_again_differ, dotD, e1, e3', e4', e5]
def diffA (p : Pic) (who way : Str) (c : Box) : List Nat := diffN (turnS p who way 1 (p.cov c.l c.t)) (turnS p who way 2 (p.cov c.l c.t))
/-- the first beat and spot at which the second round shows something else, None -/
def againU (p : Pic) (who way : Str) : D := firstD p.fs.length (firstC (diffA p who way) (cellsL p))
theorem unlike_again_ok (h : FilmAt st n p) (hn : n < st.nxt) (hp : p.Ok) (hw : who ∈ players) (hy : way ∈ ways) : ∃ st', F_unlike_again [.ref n, .str who, .str way] st = .ok (againU p who way) st' ∧ Kp [] st st' := by
  have ck := check_film_ok h
  have c1 := check_player_ok (st := st) hw
  have c2 := check_anew_ok (st := st) hy
  have q1 := parts_ok h hp.l8
  have a1 := width_ok h
  have a2 := height_ok h
  have k1 : Kp [] st (st.new (.lst (p.fs.map Fr.part))) := Kp.new
  obtain ⟨r, s4, e4, k4, r1, r2, r3⟩ := cells_of_ok (W := p.W) (Hh := p.Hh) (fs := p.fs) (st := st.new (.lst (p.fs.map Fr.part))) (m := st.nxt) Store.new_same (Nat.lt_succ_self _) (Nat.le_trans hp.l8 (by decide))
  rw [cellsD_eq] at r3
  have k04 := k1.trans k4
  have wt := players_ok who hw
  have hD : DiffAt (fdC F_unlike_again_differ [.ref n, .str who, .str way]) s4 p.fs.length (diffA p who way) (cellsL p) := fun c hc => by
    refine ⟨fun k hk => ?_, fun t ht => ?_⟩
    · obtain ⟨x, y, g3, g4, _⟩ := mem_diffN.mp hk
      have l1 := (List.getElem?_eq_some_iff.mp g3).1
      rw [turnS_len Pic.cov_len] at l1
      exact l1
    · exact again_differ_ok ((k04.trans ht).get0 h hn) (Nat.lt_of_lt_of_le hn (k04.trans ht).le) hp wt
  obtain ⟨m, s5, e5, k5, v1, v2⟩ := first_spots_ok (hF := fdC F_unlike_again_differ [.ref n, .str who, .str way]) (n := p.fs.length) (r := r) r3 r2 (by have := hp.l8; omega) hD
  obtain ⟨s6, e6, k6⟩ := first_pair_ok v2 v1
  refine ⟨s6, ?_, (k04.trans k5).trans k6⟩
  have w0 : ∀ hf : Addr, msAsg (mCall F_cells_of [] (maCons (mProp 0 F_Film_width (mVar 0)) (maCons (mProp 0 F_Film_height (mVar 0)) (maCons (mCall F_parts_in [] (maCons (mVar 0) maNil)) maNil)))) (tgName 4) [some (.ref n), some (.str who), some (.str way), some (.cst (.ref hf)), none] st = .nx [some (.ref n), some (.str who), some (.str way), some (.cst (.ref hf)), some (.ref r)] s4 := fun hf => by
    have f1 := h
    unfold FilmAt at f1
    simp [f1, a1, a2, q1, e4]
  have w1 : ∀ hf : Addr, mCall F_first_pair [] (maCons (mCallH hf 2 [0, 1, 2] F_first_spots F_unlike_again_differ (maCons (mVar 4) (maCons (mLenX 0 F_Film_len (mVar 0)) (maCons (mVar 3) maNil)))) maNil) [some (.ref n), some (.str who), some (.str way), some (.cst (.ref hf)), some (.ref r)] s4 = .ok (againU p who way) s6 := fun hf => by
    have x1 := lenX_ok (k04.get0 h hn) hp.l8 (l := [some (.ref n), some (.str who), some (.str way), some (.cst (.ref hf)), some (.ref r)]) (i := 0) rfl
    have xs : maCons (mVar 4) (maCons (mLenX 0 F_Film_len (mVar 0)) (maCons (mVar 3) maNil)) [some (.ref n), some (.str who), some (.str way), some (.cst (.ref hf)), some (.ref r)] s4 = .ok [.ref r, .int (p.fs.length : Int), .cst (.ref hf)] s4 := by
      simp [-ev_mLenX, x1]
    have sl : slots [some (.ref n), some (.str who), some (.str way), some (D.cst (.ref hf)), some (.ref r)] [0, 1, 2] = some [.ref n, .str who, .str way] := rfl
    have ch : mCallH hf 2 [0, 1, 2] F_first_spots F_unlike_again_differ (maCons (mVar 4) (maCons (mLenX 0 F_Film_len (mVar 0)) (maCons (mVar 3) maNil))) [some (.ref n), some (.str who), some (.str way), some (.cst (.ref hf)), some (.ref r)] s4 = .ok (.ref m) s5 := by
      unfold mCallH
      rw [xs]
      show (if hf = hf then (match slots [some (.ref n), some (.str who), some (.str way), some (D.cst (.ref hf)), some (.ref r)] [0, 1, 2] with
        | some ws => F_first_spots hf (fdC F_unlike_again_differ ws) [.ref r, .int (p.fs.length : Int), .cst (.ref hf)] s4
        | none => .bad) else .bad) = _
      rw [if_pos rfl, sl]
      exact e5 hf
    rw [ev_mCall, ev_maCons, ch]
    simp [e6]
    rfl
  refine def_rt rfl rfl ?_
  refine (seq_nx (by simp [ck] : msExpr (mCall F_check_film [] (maCons (mVar 0) maNil)) [some (.ref n), some (.str who), some (.str way), none, none] st = .nx [some (.ref n), some (.str who), some (.str way), none, none] st)).trans ?_
  refine (seq_nx (by simp [c1] : msExpr (mCall F_check_player [] (maCons (mVar 1) maNil)) [some (.ref n), some (.str who), some (.str way), none, none] st = .nx [some (.ref n), some (.str who), some (.str way), none, none] st)).trans ?_
  refine (seq_nx (by simp [c2] : msExpr (mCall F_check_anew [] (maCons (mVar 2) maNil)) [some (.ref n), some (.str who), some (.str way), none, none] st = .nx [some (.ref n), some (.str who), some (.str way), none, none] st)).trans ?_
  refine msDefR_at fun hf => ?_
  refine (seq_nx (w0 hf)).trans ?_
  rw [ev_msRet, w1 hf]
  simp
end
end G


set_option Elab.async false
set_option linter.all false
set_option maxRecDepth 100000
set_option  maxHeartbeats   4000000
/-! The first cell is the first spot; the rounds that a law plays. -/
namespace G
open DV PySem L2
def bef (a b : Int × Int) : Prop := a.2 < b.2 ∨ (a.2 = b.2 ∧ a.1 < b.1)
theorem bef_dots {W Hh : Int} : (dotsL W Hh).Pairwise bef := by
  unfold dotsL
  rw [List.pairwise_flatten]
  constructor
  · intro l hl
    obtain ⟨y, hy, rfl⟩ := List.mem_map.mp hl
    rw [List.pairwise_map]
    exact up_intL.imp fun h => .inr ⟨rfl, h⟩
  · rw [List.pairwise_map]
    refine up_intL.imp fun {a b} h p hp q hq => ?_
    obtain ⟨x, _, rfl⟩ := List.mem_map.mp hp
    obtain ⟨x', _, rfl⟩ := List.mem_map.mp hq
    exact .inl h
theorem zip_up : ∀ {xs : List Int}, xs.Pairwise (· < ·) → (xs.zip xs.tail).Pairwise fun p q => p.1 < q.1
  | [], _ => List.Pairwise.nil
  | [_], _ => List.Pairwise.nil
  | a :: b :: r, h => by
    have h' := List.pairwise_cons.mp h
    show ((a, b) :: (b :: r).zip (b :: r).tail).Pairwise _
    refine List.pairwise_cons.mpr ⟨fun q hq => ?_, zip_up h'.2⟩
    obtain ⟨c, d⟩ := q
    exact h'.1 c (List.of_mem_zip hq).1
theorem bef_cells {W Hh : Int} {fs : List Fr} : (cellsG W Hh fs).Pairwise fun c d => bef (c.l, c.t) (d.l, d.t) := by
  unfold cellsG
  rw [List.pairwise_flatten]
  constructor
  · intro l hl
    obtain ⟨y, hy, rfl⟩ := List.mem_map.mp hl
    rw [List.pairwise_map]
    exact (zip_up acr_up).imp fun h => .inr ⟨rfl, h⟩
  · rw [List.pairwise_map]
    refine (zip_up dwn_up).imp fun {a b} h p hp q hq => ?_
    obtain ⟨x, _, rfl⟩ := List.mem_map.mp hp
    obtain ⟨x', _, rfl⟩ := List.mem_map.mp hq
    exact .inl h
theorem find_first {α : Type} {lt : α → α → Prop} {P : α → Bool} : ∀ {xs : List α} {a : α}, xs.Pairwise lt → xs.find? P = some a → ∀ b ∈ xs, P b = true → b = a ∨ lt a b
  | [], _, _, h, _, _, _ => by simp at h
  | x :: xs, a, hs, h, b, hb, hp => by
    have hs' := List.pairwise_cons.mp hs
    by_cases q : P x = true
    · rw [List.find?_cons_of_pos q] at h
      cases h
      rcases List.mem_cons.mp hb with e | m
      · exact .inl e
      · exact .inr (hs'.1 b m)
    · rw [List.find?_cons_of_neg q] at h
      rcases List.mem_cons.mp hb with e | m
      · subst e; exact absurd hp q
      · exact find_first hs'.2 h b m hp
/-- the corner of the first cell at which something holds by the covering is the first spot -/
theorem find_dots {p : Pic} (hp : p.Ok) {P : List Bool → Bool} : ((cellsL p).find? fun c => P (p.cov c.l c.t)).map (fun c => (c.l, c.t)) = (dotsL p.W p.Hh).find? fun q => P (p.cov q.1 q.2) := by
  cases z : (cellsL p).find? fun c => P (p.cov c.l c.t) with
  | none =>
    symm
    simp only [Option.map_none]
    refine List.find?_eq_none.mpr fun q hq => ?_
    obtain ⟨c, hc, hh⟩ := Pic.cell_of_dot hq
    rw [cov_cell hc hh]
    exact List.find?_eq_none.mp z c hc
  | some c =>
    symm
    simp only [Option.map_some]
    have hc := List.mem_of_find?_eq_some z
    have hP := List.find?_some z
    refine find_least bef_dots (hp.dot hc) hP (fun b hb hb2 => ?_) (fun b _ _ hn => ?_)
    · obtain ⟨d, hd, hh⟩ := Pic.cell_of_dot hb
      rw [cov_cell hd hh] at hb2
      obtain ⟨h1, h2, h3, h4⟩ := hh
      rcases find_first (lt := fun c d => bef (c.l, c.t) (d.l, d.t)) bef_cells z d hd hb2 with e | e
      · subst e
        rintro (a | ⟨a, a2⟩)
        · simp only at a; omega
        · simp only at a a2; omega
      · rintro (a | ⟨a, a2⟩)
        · rcases e with e | ⟨e, e2⟩
          · simp only at a e; omega
          · simp only at a e e2; omega
        · rcases e with e | ⟨e, e2⟩
          · simp only at a a2 e; omega
          · simp only at a a2 e e2; omega
    · obtain ⟨x, y⟩ := b
      unfold bef at hn ⊢
      simp only [Prod.mk.injEq] at hn ⊢
      omega
/-! ### the rounds that a law plays -/
section
variable {p : Pic} {who : Str}
theorem rounds_loop {r : Nat} {x y : Int} {pat : Str → Col} {o4 : Option D} {I : List Str} (hw : TOk who) (hf : ∀ f ∈ p.fs, f.ink ∈ I) (hl : p.fs.length ≤ 50) : ∀ (ds : List D) (c : Col) (o7 o8 : Option D) (st : Store), PatAt st r I pat → r < st.nxt →
    ∃ o7' o8' st', loopS (tgName 7) law_rounds_L1 [] ds [some p.d, some (dotD (x, y)), some (.ref r), some (.str who), o4, some (.str "on"), some (colD c), o7, o8] st = .nx [some p.d, some (dotD (x, y)), some (.ref r), some (.str who), o4, some (.str "on"), some (colD (goC pat who true (covF p.fs x y) p.fs ds.length c)), o7', o8'] st' ∧ Kp [] st st'
  | [], c, o7, o8, st, _, _ => ⟨o7, o8, st, loopS_nil srcOk_nil, Kp.refl⟩
  | d :: ds, c, o7, o8, st, hp, hr => by
    obtain ⟨s1, e1, k1, n1, g1⟩ := play_ok (x := x) (y := y) (d1 := .int p.W) (d2 := .int p.Hh) (d3 := .tup (p.firm.map D.str)) (c := c) hw hf hl hp hr
    obtain ⟨o7', o8', s2, e2, k2⟩ := rounds_loop (x := x) (y := y) (o4 := o4) hw hf hl ds (lastC pat who (covF p.fs x y) p.fs c) (some d) (some (colD (lastC pat who (covF p.fs x y) p.fs c))) s1 (k1.get0 hp hr) (Nat.lt_of_lt_of_le hr k1.le)
    refine ⟨o7', o8', s2, ?_, k1.trans k2⟩
    have body : law_rounds_L1 [some p.d, some (dotD (x, y)), some (.ref r), some (.str who), o4, some (.str "on"), some (colD c), some d, o8] st = .nx [some p.d, some (dotD (x, y)), some (.ref r), some (.str who), o4, some (.str "on"), some (colD (lastC pat who (covF p.fs x y) p.fs c)), some d, some (colD (lastC pat who (covF p.fs x y) p.fs c))] s1 := by
      simp [law_rounds_L1, Pic.d, dotD, e1]
    rw [loopS_nx srcOk_nil (by rfl) body, e2]
    simp [goC]
theorem rounds_ok {r n : Nat} {x y : Int} {pat : Str → Col} {I : List Str} {st : Store} (hw : TOk who) (hf : ∀ f ∈ p.fs, f.ink ∈ I) (hl : p.fs.length ≤ 50) (hp : PatAt st r I pat) (hr : r < st.nxt) (hn : n ≤ 900) :
    ∃ m st', F_law_rounds [p.d, dotD (x, y), .ref r, .str who, .int ((n + 1 : Nat) : Int), .str "on"] st = .ok (.ref m) st' ∧ Kp [] st st' ∧ m < st'.nxt ∧ st'.at_ m = some (.lst ((colsC pat who (covF p.fs x y) p.fs (goC pat who true (covF p.fs x y) p.fs n none)).map colD)) := by
  obtain ⟨o7, o8, s1, e1, k1⟩ := rounds_loop (x := x) (y := y) (o4 := some (.int ((n + 1 : Nat) : Int))) hw hf hl ((List.range n).map fun k : Nat => D.int (k : Int)) none none none st hp hr
  rw [List.length_map, List.length_range] at e1
  obtain ⟨s2, e2, k2, n2, g2⟩ := play_ok (x := x) (y := y) (d1 := .int p.W) (d2 := .int p.Hh) (d3 := .tup (p.firm.map D.str)) (c := goC pat who true (covF p.fs x y) p.fs n none) hw hf hl (k1.get0 hp hr) (Nat.lt_of_lt_of_le hr k1.le)
  refine ⟨s1.nxt, s2, ?_, k1.trans k2, n2, g2⟩
  have rg := rng_len (n := n) (by omega) (m := m2 fSub (mVar 4) (mC (.int 1))) (l := [some p.d, some (dotD (x, y)), some (.ref r), some (.str who), some (.int ((n + 1 : Nat) : Int)), some (.str "on"), some .non, none, none]) (st := st) (by
    have : ((n : Nat) : Int) = ((n + 1 : Nat) : Int) - 1 := by omega
    rw [this]
    simp)
  have w1 : msAsg (mC .non) (tgName 6) [some p.d, some (dotD (x, y)), some (.ref r), some (.str who), some (.int ((n + 1 : Nat) : Int)), some (.str "on"), none, none, none] st = .nx [some p.d, some (dotD (x, y)), some (.ref r), some (.str who), some (.int ((n + 1 : Nat) : Int)), some (.str "on"), some .non, none, none] st := by simp
  refine def_rt rfl rfl ?_
  refine (seq_nx w1).trans ?_
  refine (seq_nx (for_is rg e1)).trans ?_
  simp [Pic.d, dotD, e2]
/-- what a round shows by colours -/
theorem turn_val {x y : Int} {n : Nat} (hf : ∀ f ∈ p.fs, f.ink ∈ inks) : ∀ pat ∈ patsL p.firm, colsC pat who (covF p.fs x y) p.fs (goC pat who true (covF p.fs x y) p.fs n none) = (turnS p who "on" (n + 1) (p.cov x y)).map fun s => valP pat s.row := fun pat hpat => by
  have g := go_nu (who := who) (bs := covF p.fs x y) (pats_full pat hpat) hf n nothing no_Ok
  have c := cols_nu (first := none) (who := who) (pats_full pat hpat) (covF p.fs x y) p.fs (goS p.firm who true (covF p.fs x y) p.fs n nothing) hf (go_Ok hf n _ no_Ok)
  rw [nu_no] at g
  rw [g, c]
  unfold turnS
  rw [show decide (("on" : Str) = "on") = true from decide_eq_true rfl, Nat.add_sub_cancel, covF_eq]
  exact List.map_congr_left fun s _ => nu_none
/-- two such rounds at a beat -/
theorem turn_sep {x y : Int} {n m b : Nat} (hf : ∀ f ∈ p.fs, f.ink ∈ inks) : ((patsL p.firm).all fun pat => decide ((colsC pat who (covF p.fs x y) p.fs (goC pat who true (covF p.fs x y) p.fs n none))[b]? = (colsC pat who (covF p.fs x y) p.fs (goC pat who true (covF p.fs x y) p.fs m none))[b]?)) = decide ((turnS p who "on" (n + 1) (p.cov x y))[b]? = (turnS p who "on" (m + 1) (p.cov x y))[b]?) := by
  rw [Bool.eq_iff_iff, List.all_eq_true, decide_eq_true_eq]
  constructor
  · intro h
    have l1 : (turnS p who "on" (n + 1) (p.cov x y)).length = p.fs.length := turnS_len Pic.cov_len
    have l2 : (turnS p who "on" (m + 1) (p.cov x y)).length = p.fs.length := turnS_len Pic.cov_len
    by_cases hb : b < p.fs.length
    · obtain ⟨s, hs⟩ : ∃ s, (turnS p who "on" (n + 1) (p.cov x y))[b]? = some s := ⟨_, List.getElem?_eq_getElem (by omega)⟩
      obtain ⟨t, ht⟩ : ∃ t, (turnS p who "on" (m + 1) (p.cov x y))[b]? = some t := ⟨_, List.getElem?_eq_getElem (by omega)⟩
      rw [hs, ht]
      congr 1
      have g1 := turn_Good hf s (List.mem_of_getElem? hs)
      have g2 := turn_Good hf t (List.mem_of_getElem? ht)
      refine sep_pats g1.1 g2.1 g1.2 g2.2 fun pat hpat => ?_
      have e := of_decide_eq_true (h pat hpat)
      rw [turn_val hf pat hpat, turn_val hf pat hpat, List.getElem?_map, List.getElem?_map, hs, ht] at e
      simpa using e
    · rw [List.getElem?_eq_none (by omega), List.getElem?_eq_none (by omega)]
  · intro h pat hpat
    rw [turn_val hf pat hpat, turn_val hf pat hpat, List.getElem?_map, List.getElem?_map, h]
    simp
end
end G


set_option Elab.async false
set_option linter.all false
set_option maxRecDepth 100000
set_option  maxHeartbeats   8000000
/-! law_k12_first_differences_by_trying: what its defs do, as functions. -/
namespace L12
open DV G PySem L2
noncomputable section
/-- _law_mate(_law_jar_here, _law_model_here): 0 _law_jar_here, 1 _law_model_here, 2 _law_rows, 3 _law_ink, 4 _law_rect_here, 5 _law_doom, 6 _law_way -/
def law_mate_L1 : MS := (msSeq (msAsg (mCall F_law_dip [] (maCons (mVar 0) (maCons (mC (.int 6)) maNil))) (tgName 6))
  (msSeq (msIf (tB_ (m2 fEq (mVar 6) (mC (.int 0))))
  (msAsg (mCall F_law_rect [] (maCons (mVar 0) (maCons (m2 fIx (mVar 1) (mC (.int 0))) (maCons (m2 fIx (mVar 1) (mC (.int 1))) maNil)))) (tgName 4))
  msNil)
  (msSeq (msIf (tB_ (m2 fEq (mVar 6) (mC (.int 1))))
  (msAsg (mCall F_law_pick [] (maCons (mVar 0) (maCons (mLst (maCons (mC (.str "stays")) (maCons (mC (.str "wiped")) (maCons (mC (.str "back")) maNil)))) maNil))) (tgName 5))
  msNil)
  (msSeq (msIf (tB_ (m2 fEq (mVar 6) (mC (.int 2))))
  (msAsg (mCall F_law_pick [] (maCons (mVar 0) (maCons (mLst (maCons (mC (.str "sky")) (maCons (mC (.str "a")) (maCons (mC (.str "bird2")) maNil)))) maNil))) (tgName 3))
  msNil)
  (msExpr (mM "list" fAppend (mVar 2) (maCons (mTup (maCons (mVar 3) (maCons (mVar 4) (maCons (mVar 5) maNil)))) maNil)))))))
def F_law_mate : FD := mDef 2 7 (msSeq (msAsg (mLst maNil) (tgName 2))
  (msSeq (msFor (miSeq (m2 fIx (mVar 1) (mC (.int 2)))) (tgTup 3 (tgCons (tgName 3) (tgCons (tgName 4) (tgCons (tgName 5) tgNil))))
  law_mate_L1)
  (msSeq (msIf (tB_ (m2 fEq (mCall F_law_dip [] (maCons (mVar 0) (maCons (mC (.int 5)) maNil))) (mC (.int 0))))
  (msAsg (mIf (tB_ (m2 fLt (mL (f1 lenD) (maCons (mVar 2) maNil)) (mC (.int 8)))) (m2 fAdd (mVar 2) (mSl (mVar 2) moNone (moSome (mC (.int 1))))) (mVar 2)) (tgName 2))
  msNil)
  (msSeq (msIf (tAnd_ (tB_ (m2 fEq (mCall F_law_dip [] (maCons (mVar 0) (maCons (mC (.int 6)) maNil))) (mC (.int 0)))) (tB_ (m2 fGt (mL (f1 lenD) (maCons (mVar 2) maNil)) (mC (.int 1)))))
  (msAsg (mSl (mVar 2) (moSome (mC (.int 1))) moNone) (tgName 2))
  msNil)
  (msRet (mTup (maCons (m2 fIx (mVar 1) (mC (.int 0))) (maCons (m2 fIx (mVar 1) (mC (.int 1))) (maCons (mL (f1 tupleD) (maCons (mVar 2) maNil)) (maCons (m2 fIx (mVar 1) (mC (.int 3))) maNil))))))))))
/-- _law_first(_law_some): 0 _law_some, 1 _law_spots, 2 _law_at, 3 _law_y, 4 _law_x, 5 _law_pair -/
def law_first_T1 : MT := (tB_ (m2 fNotN (m2 fIx (mVar 5) (mC (.int 1))) (mC .non)))
def law_first_C1 : ME := (mTup (maCons (m2 fIx (mVar 5) (mC (.int 0))) (maCons (m2 fIx (m2 fIx (mVar 5) (mC (.int 1))) (mC (.int 1))) (maCons (m2 fIx (m2 fIx (mVar 5) (mC (.int 1))) (mC (.int 0))) maNil))))
def F_law_first : FD := mDef 1 6 (msSeq (msAsg (mLc (miSeq (mVar 0)) (tgName 5) law_first_T1 law_first_C1 [5]) (tgName 1))
  (msSeq (msIf (tB_ (m2 fNe (mVar 1) (mLst maNil)))
  (msSeq (msAsg (mL (f1 minT) (maCons (mVar 1) maNil)) (tgTup 3 (tgCons (tgName 2) (tgCons (tgName 3) (tgCons (tgName 4) tgNil)))))
  (msRet (mTup (maCons (mVar 2) (maCons (mTup (maCons (mVar 4) (maCons (mVar 3) maNil))) maNil)))))
  msNil)
  (msRet (mIf (tB_ (m2 fNe (mVar 0) (mLst maNil))) (m2 fIx (mVar 0) (mC (.int 0))) (mC .non)))))
/-- _law_any(_law_model_here, _law_others, _law_whos): 0 _law_model_here, 1 _law_others, 2 _law_whos, 3 _law_found, 4 _law_pair -/
def law_any_T1 : MT := (tB_ (m2 fNotN (mVar 4) (mC .non)))
def F_law_any : FD := mDef 3 5 (msSeq (msAsg (mLst (maCons (mCall F_law_differ [] (maCons (mVar 0) (maCons (mVar 1) (maCons (mVar 2) (maCons (mC .non) maNil))))) (maCons (mCall F_law_differ [] (maCons (mVar 0) (maCons (mVar 1) (maCons (mVar 2) (maCons (mC (.int 77)) maNil))))) maNil))) (tgName 3))
  (msRet (mCall F_law_first [] (maCons (mLc (miSeq (mVar 3)) (tgName 4) law_any_T1 (mVar 4) [4]) maNil))))
/-- _law_right(_law_jar_here): 0 _law_jar_here, 1 _law_model_here, 2 _law_others, 3 _law_whos, 4 _law_reel, 5 _law_twin, 6 _law_due, 7 _law_said -/
def F_law_right : FD := mDef 1 8 (msSeq (msAsg (mCall F_law_model [] (maCons (mVar 0) (maCons (mC (.int 4)) (maCons (mC (.int 3)) (maCons (mC (.int 3)) maNil))))) (tgName 1))
  (msSeq (msAsg (mCall F_law_mate [] (maCons (mVar 0) (maCons (mVar 1) maNil))) (tgName 2))
  (msSeq (msPar3 3 4 5 (maCons (mLst (maCons (mCall F_law_who [] (maCons (mVar 0) maNil)) (maCons (mCall F_law_who [] (maCons (mVar 0) maNil)) maNil))) (maCons (mCall F_law_made [] (maCons (mVar 1) maNil)) (maCons (mCall F_law_made [] (maCons (mVar 2) maNil)) maNil))))
  (msSeq (msAsg (mCall F_law_differ [] (maCons (mVar 1) (maCons (mVar 2) (maCons (mVar 3) (maCons (mC .non) maNil))))) (tgName 6))
  (msSeq (msAsg (mLst (maCons (mCallK F_unlike 2 2 [.p 0, .p 1, .k 0, .k 1, .d 0] [(.str "empty")] (maCons (mVar 4) (maCons (mVar 5) maNil)) (maCons (m2 fIx (mVar 3) (mC (.int 0))) (maCons (m2 fIx (mVar 3) (mC (.int 1))) maNil))) maNil)) (tgName 7))
  (msSeq (msExpr (mM "list" fAppend (mVar 7) (maCons (mCallK F_unlike 0 5 [.k 4, .k 3, .k 2, .k 1, .k 0] [] maNil (maCons (mC (.str "empty")) (maCons (m2 fIx (mVar 3) (mC (.int 1))) (maCons (m2 fIx (mVar 3) (mC (.int 0))) (maCons (mVar 5) (maCons (mVar 4) maNil)))))) maNil)))
  (msSeq (msIf (tB_ (m2 fNe (mL (f1 reprD) (maCons (mVar 7) maNil)) (mL (f1 reprD) (maCons (mLst (maCons (mVar 6) (maCons (mVar 6) maNil))) maNil))))
  (msRet (mC (.bl false)))
  msNil)
  (msSeq (msIf (tB_ (m2 fNe (mL (f1 reprD) (maCons (mCallK F_alike 2 2 [.p 0, .p 1, .k 0, .k 1, .d 0] [(.str "empty")] (maCons (mVar 4) (maCons (mVar 5) maNil)) (maCons (m2 fIx (mVar 3) (mC (.int 0))) (maCons (m2 fIx (mVar 3) (mC (.int 1))) maNil))) maNil)) (mL (f1 reprD) (maCons (m2 fIsN (mVar 6) (mC .non)) maNil))))
  (msRet (mC (.bl false)))
  msNil)
  (msSeq (msAsg (mCall F_law_any [] (maCons (mVar 1) (maCons (mVar 2) (maCons (mVar 3) maNil)))) (tgName 6))
  (msSeq (msIf (tB_ (m2 fNe (mL (f1 reprD) (maCons (mCallK F_unlike 2 3 [.p 0, .p 1, .k 0, .k 1, .k 2] [] (maCons (mVar 4) (maCons (mVar 5) maNil)) (maCons (m2 fIx (mVar 3) (mC (.int 0))) (maCons (m2 fIx (mVar 3) (mC (.int 1))) (maCons (mC (.str "any")) maNil)))) maNil)) (mL (f1 reprD) (maCons (mVar 6) maNil))))
  (msRet (mC (.bl false)))
  msNil)
  (msSeq (msIf (tB_ (m2 fNe (mL (f1 reprD) (maCons (mCallK F_alike 0 5 [.k 1, .k 2, .k 4, .k 3, .k 0] [] maNil (maCons (mC (.str "any")) (maCons (mVar 4) (maCons (mVar 5) (maCons (m2 fIx (mVar 3) (mC (.int 1))) (maCons (m2 fIx (mVar 3) (mC (.int 0))) maNil)))))) maNil)) (mL (f1 reprD) (maCons (m2 fIsN (mVar 6) (mC .non)) maNil))))
  (msRet (mC (.bl false)))
  msNil)
  (msRet (m2 fEq (mL (f1 reprD) (maCons (mCall F_unlike [(.str "full"), (.str "full"), (.str "empty")] (maCons (mVar 4) (maCons (mVar 5) maNil))) maNil)) (mL (f1 reprD) (maCons (mCall F_law_differ [] (maCons (mVar 1) (maCons (mVar 2) (maCons (mLst (maCons (mC (.str "full")) (maCons (mC (.str "full")) maNil))) (maCons (mC .non) maNil))))) maNil)))))))))))))))
/-- law(_law_script): 0 _law_script, 1 _law_k -/
def law_C1 : ME := (mCall F_law_right [] (maCons (mCall F_law_jar [] (maCons (mVar 0) (maCons (mVar 1) maNil))) maNil))
def F_law : FD := mDef 1 2 (msRet (mL (f1 (allD true)) (maCons (mLc (miRng rng1 (maCons (mL (f2I maxI) (maCons (mC (.int 2)) (maCons (mL (f2I minI) (maCons (mL (f1 lenD) (maCons (mVar 0) maNil)) (maCons (mC (.int 4)) maNil))) maNil))) maNil)) (tgName 1) tYes_ law_C1 [1]) maNil)))
end
end L12


set_option Elab.async false
set_option linter.all false
set_option maxRecDepth 100000
set_option  maxHeartbeats   8000000
/-! law_k12_first_differences_by_trying: the derivations: the program does that. -/
namespace L12
open DV G PySem PySem.Spec PyProof.Rows L2 He NdefX
def clN : Nat → Str := fun n => match n with
  | 0 => "Film"
  | _ => ""
abbrev clA (K : PySem.W.Frag) : Nat → Addr := fun n => ga K (clN n)
def tabs (K : PySem.W.Frag) : List NTab := [((cT K ("first_unlike", none)).2, fun _ _ => "first_unlike.<locals>.differ")]
abbrev cl (K : PySem.W.Frag) (p : PP) : CL := CL.of (clA K) (tabs K) p
theorem restP {X : Cx} {a : Nat → Addr} {T : List NTab} {p1 : PP} {W : WX} {rest : List Stmt} {m : MS} (h : ∀ p2 : PP, p2 = p1 → SSs X (CL.of a T p2) W rest m) : SSs X (CL.of a T p1) W rest m := h p1 rfl
theorem kb0_unliket (D : Addr) (doc pm : Value) (an : Option Addr) (cdv ct : Value) (us mv ws : List Value) (h1 : us.length = 2) (h2 : mv.length = 1) (h3 : ws.length = 2) : KwChain D ((([("start", V.str "empty")] : List (Str × V)).map (·.1)).zip mv) (bindArgs (PySem.W.fnOf "unlike" "unlike" (defArgs s_unlike) (defBody s_unlike) (defScope s_unlike) .none (.ref D) doc pm an cdv ct) ⟨us, (["player", "second"] : List Str).zip ws⟩) ((["one", "other", "player", "second", "start"] : List Str).zip (arr [.p 0, .p 1, .k 0, .k 1, .d 0] us ws mv)) := by
  match us, mv, ws, h1, h2, h3 with
  | [_, _], [_], [_, _], _, _, _ =>
    refine ⟨_, _, _, _, _, _, rfl, rfl, ?_⟩
    rfl
theorem kb0_unlike {K : PySem.W.Frag} {fd : FuncData} (D : FunD K "unlike" "unlike" (defArgs s_unlike) (defBody s_unlike) (defScope s_unlike) [] [("player", V.str "full"), ("second", V.str "full"), ("start", V.str "empty")] (ga K "unlike") fd) : KB K fd ["one", "other", "player", "second", "start"] 2 ["player", "second"] [.p 0, .p 1, .k 0, .k 1, .d 0] (([("start", V.str "empty")] : List (Str × V)).map (·.2)) := kb_gd D 2 ["player", "second"] [("start", V.str "empty")] [.p 0, .p 1, .k 0, .k 1, .d 0] (by simp) (by simp) kb0_unliket
theorem kb1_aliket (D : Addr) (doc pm : Value) (an : Option Addr) (cdv ct : Value) (us mv ws : List Value) (h1 : us.length = 2) (h2 : mv.length = 1) (h3 : ws.length = 2) : KwChain D ((([("start", V.str "empty")] : List (Str × V)).map (·.1)).zip mv) (bindArgs (PySem.W.fnOf "alike" "alike" (defArgs s_alike) (defBody s_alike) (defScope s_alike) .none (.ref D) doc pm an cdv ct) ⟨us, (["player", "second"] : List Str).zip ws⟩) ((["one", "other", "player", "second", "start"] : List Str).zip (arr [.p 0, .p 1, .k 0, .k 1, .d 0] us ws mv)) := by
  match us, mv, ws, h1, h2, h3 with
  | [_, _], [_], [_, _], _, _, _ =>
    refine ⟨_, _, _, _, _, _, rfl, rfl, ?_⟩
    rfl
theorem kb1_alike {K : PySem.W.Frag} {fd : FuncData} (D : FunD K "alike" "alike" (defArgs s_alike) (defBody s_alike) (defScope s_alike) [] [("player", V.str "full"), ("second", V.str "full"), ("start", V.str "empty")] (ga K "alike") fd) : KB K fd ["one", "other", "player", "second", "start"] 2 ["player", "second"] [.p 0, .p 1, .k 0, .k 1, .d 0] (([("start", V.str "empty")] : List (Str × V)).map (·.2)) := kb_gd D 2 ["player", "second"] [("start", V.str "empty")] [.p 0, .p 1, .k 0, .k 1, .d 0] (by simp) (by simp) kb1_aliket
section
variable {P : Program} {w : World} {K : PySem.W.Frag} {mg : Str → Option Value} {base : Heap} {p : PP}
/-! _law_dip -/
theorem sc_law_dip : FnScope ["_law_jar_here", "_law_many", "_law_digit", "_law_seed"] ["_law_jar_here", "_law_many"] (defScope s_law_dip) := ⟨rfl, rfl, rfl, by decide +kernel, rfl, by decide +kernel, by decide +kernel⟩
abbrev GD_law_dip (P : Program) (w : World) (K : PySem.W.Frag) (mg : Str → Option Value) (base : Heap) (p : PP) : Prop := GD P w K mg base (cl K p) 1 (ga K "_law_dip") "_law_dip" "_law_dip" s_law_dip [] ["_law_jar_here", "_law_many"] F_law_dip
theorem bd_law_dip (kV doc pm : Value) (an : Option Addr) (cdv ct : Value) (us : List Value) (hl : us.length = (["_law_jar_here", "_law_many"] : List Str).length) : bindArgs (PySem.W.fnOf "_law_dip" "_law_dip" (defArgs s_law_dip) (defBody s_law_dip) (defScope s_law_dip) .none kV doc pm an cdv ct) ⟨us, []⟩ = pure ((["_law_jar_here", "_law_many"] : List Str).zip us) := match us, hl with | [_, _], _ => rfl
theorem ok_law_dip (T : Tx fx fn K mg) (TB : TBs base mg (csOf K tf)) : GD_law_dip P w K mg base p := by
  refine gd_of (T.says.def_ 0 (d := d_law_dip) rfl) sc_law_dip rfl rfl fun cdv A outer s H E hr tk => ?_
  exact (ss_cons (ss_sub hr.hu (s_op o_add (s_ix (x_ix hr.hu) (s_var 0) s_int) s_int) (s_var 0) s_int)
    (ss_cons (ss_if (t_cmp o_gt (s_ix (x_ix hr.hu) (s_var 0) s_int) s_int)
    (ss_cons (ss_set 2 sc_law_dip.nd (s_op o_mod (s_callTy c_int rfl (T.free 4) rfl (sa_cons (s_ix (x_ix hr.hu) (s_var 0) s_int) sa_nil)) (s_var 1)))
    (ss_cons (ss_sub hr.hu (s_op o_fdiv (s_callTy c_int rfl (T.free 4) rfl (sa_cons (s_ix (x_ix hr.hu) (s_var 0) s_int) sa_nil)) (s_var 1)) (s_var 0) s_int)
    (ss_one (ss_ret (s_var 2)))))
    ss_nil)
    (ss_cons (ss_set 3 sc_law_dip.nd (s_callTy c_int rfl (T.free 4) rfl (sa_cons (s_ix (x_ix hr.hu) (s_var 0) s_int) sa_nil)))
    (ss_cons (ss_sub hr.hu (s_op o_mod (s_callTy c_int rfl (T.free 4) rfl (sa_cons (s_op o_add (s_op o_add (s_op o_mul (s_var 3) s_int) (s_op o_mul (s_ix (x_ix hr.hu) (s_var 0) s_int) s_int)) s_int) sa_nil)) s_int) (s_var 0) s_int)
    (ss_one (ss_ret (s_op o_mod (s_callTy c_int rfl (T.free 4) rfl (sa_cons (s_op o_fdiv (s_ix (x_ix hr.hu) (s_var 0) s_int) s_int) sa_nil)) (s_var 1))))))))
/-! _law_rect -/
theorem sc_law_rect : FnScope ["_law_jar_here", "_law_wide", "_law_high", "_law_left", "_law_top"] ["_law_jar_here", "_law_wide", "_law_high"] (defScope s_law_rect) := ⟨rfl, rfl, rfl, by decide +kernel, rfl, by decide +kernel, by decide +kernel⟩
abbrev GD_law_rect (P : Program) (w : World) (K : PySem.W.Frag) (mg : Str → Option Value) (base : Heap) (p : PP) : Prop := GD P w K mg base (cl K p) 2 (ga K "_law_rect") "_law_rect" "_law_rect" s_law_rect [] ["_law_jar_here", "_law_wide", "_law_high"] F_law_rect
theorem bd_law_rect (kV doc pm : Value) (an : Option Addr) (cdv ct : Value) (us : List Value) (hl : us.length = (["_law_jar_here", "_law_wide", "_law_high"] : List Str).length) : bindArgs (PySem.W.fnOf "_law_rect" "_law_rect" (defArgs s_law_rect) (defBody s_law_rect) (defScope s_law_rect) .none kV doc pm an cdv ct) ⟨us, []⟩ = pure ((["_law_jar_here", "_law_wide", "_law_high"] : List Str).zip us) := match us, hl with | [_, _, _], _ => rfl
theorem ok_law_rect (T : Tx fx fn K mg) (TB : TBs base mg (csOf K tf)) : GD_law_rect P w K mg base p := by
  have ok_law_dip_ : GD_law_dip P w K mg base p := ok_law_dip T TB
  obtain ⟨fd_law_dip, G_law_dip, D_law_dip⟩ := ok_law_dip_.ex
  refine gd_of (T.says.def_ 1 (d := d_law_rect) rfl) sc_law_rect rfl rfl fun cdv A outer s H E hr tk => ?_
  exact (ss_cons (ss_par 3 4 rfl sc_law_rect.nd (sa_cons (s_cal ok_law_dip_ (hr.mono (by decide)) tk (T.glo 5) (sa_cons (s_var 0) (sa_cons (s_var 1) sa_nil)) bd_law_dip) (sa_cons (s_cal ok_law_dip_ (hr.mono (by decide)) tk (T.glo 5) (sa_cons (s_var 0) (sa_cons (s_var 2) sa_nil)) bd_law_dip) sa_nil)))
    (ss_one (ss_ret (s_tup (sa_cons (s_var 3) (sa_cons (s_var 4) (sa_cons (s_op o_add (s_op o_add (s_var 3) s_int) (s_cal ok_law_dip_ (hr.mono (by decide)) tk (T.glo 5) (sa_cons (s_var 0) (sa_cons (s_op o_sub (s_var 1) (s_var 3)) sa_nil)) bd_law_dip)) (sa_cons (s_op o_add (s_op o_add (s_var 4) s_int) (s_cal ok_law_dip_ (hr.mono (by decide)) tk (T.glo 5) (sa_cons (s_var 0) (sa_cons (s_op o_sub (s_var 2) (s_var 4)) sa_nil)) bd_law_dip)) sa_nil))))))))
/-! _law_pick -/
theorem sc_law_pick : FnScope ["_law_jar_here", "_law_menu", "_law_at"] ["_law_jar_here", "_law_menu"] (defScope s_law_pick) := ⟨rfl, rfl, rfl, by decide +kernel, rfl, by decide +kernel, by decide +kernel⟩
abbrev GD_law_pick (P : Program) (w : World) (K : PySem.W.Frag) (mg : Str → Option Value) (base : Heap) (p : PP) : Prop := GD P w K mg base (cl K p) 2 (ga K "_law_pick") "_law_pick" "_law_pick" s_law_pick [] ["_law_jar_here", "_law_menu"] F_law_pick
theorem bd_law_pick (kV doc pm : Value) (an : Option Addr) (cdv ct : Value) (us : List Value) (hl : us.length = (["_law_jar_here", "_law_menu"] : List Str).length) : bindArgs (PySem.W.fnOf "_law_pick" "_law_pick" (defArgs s_law_pick) (defBody s_law_pick) (defScope s_law_pick) .none kV doc pm an cdv ct) ⟨us, []⟩ = pure ((["_law_jar_here", "_law_menu"] : List Str).zip us) := match us, hl with | [_, _], _ => rfl
theorem ok_law_pick (T : Tx fx fn K mg) (TB : TBs base mg (csOf K tf)) : GD_law_pick P w K mg base p := by
  have ok_law_dip_ : GD_law_dip P w K mg base p := ok_law_dip T TB
  obtain ⟨fd_law_dip, G_law_dip, D_law_dip⟩ := ok_law_dip_.ex
  refine gd_of (T.says.def_ 2 (d := d_law_pick) rfl) sc_law_pick rfl rfl fun cdv A outer s H E hr tk => ?_
  exact (ss_cons (ss_set 2 sc_law_pick.nd (s_cal ok_law_dip_ (hr.mono (by decide)) tk (T.glo 5) (sa_cons (s_var 0) (sa_cons (s_callB c_len rfl (T.free 0) rfl (sa_cons (s_var 1) sa_nil)) sa_nil)) bd_law_dip))
    (ss_one (ss_ret (s_ix (x_ix hr.hu) (s_var 1) (s_var 2)))))
/-! _law_model -/
theorem sc_law_model : FnScope ["_law_jar_here", "_law_most", "_law_wide", "_law_high", "_law_inks", "_law_firm", "_law_across", "_law_down", "_law_rows", "_law_k", "_law_rect_here", "_law_ink"] ["_law_jar_here", "_law_most", "_law_wide", "_law_high"] (defScope s_law_model) := ⟨rfl, rfl, rfl, by decide +kernel, rfl, by decide +kernel, by decide +kernel⟩
abbrev GD_law_model (P : Program) (w : World) (K : PySem.W.Frag) (mg : Str → Option Value) (base : Heap) (p : PP) : Prop := GD P w K mg base (cl K p) 3 (ga K "_law_model") "_law_model" "_law_model" s_law_model [] ["_law_jar_here", "_law_most", "_law_wide", "_law_high"] F_law_model
theorem bd_law_model (kV doc pm : Value) (an : Option Addr) (cdv ct : Value) (us : List Value) (hl : us.length = (["_law_jar_here", "_law_most", "_law_wide", "_law_high"] : List Str).length) : bindArgs (PySem.W.fnOf "_law_model" "_law_model" (defArgs s_law_model) (defBody s_law_model) (defScope s_law_model) .none kV doc pm an cdv ct) ⟨us, []⟩ = pure ((["_law_jar_here", "_law_most", "_law_wide", "_law_high"] : List Str).zip us) := match us, hl with | [_, _, _, _], _ => rfl
theorem ok_law_model (T : Tx fx fn K mg) (TB : TBs base mg (csOf K tf)) : GD_law_model P w K mg base p := by
  have ok_law_dip_ : GD_law_dip P w K mg base p := ok_law_dip T TB
  obtain ⟨fd_law_dip, G_law_dip, D_law_dip⟩ := ok_law_dip_.ex
  have ok_law_rect_ : GD_law_rect P w K mg base p := ok_law_rect T TB
  obtain ⟨fd_law_rect, G_law_rect, D_law_rect⟩ := ok_law_rect_.ex
  have ok_law_pick_ : GD_law_pick P w K mg base p := ok_law_pick T TB
  obtain ⟨fd_law_pick, G_law_pick, D_law_pick⟩ := ok_law_pick_.ex
  refine gd_of (T.says.def_ 3 (d := d_law_model) rfl) sc_law_model rfl rfl fun cdv A outer s H E hr tk => ?_
  exact (ss_cons (ss_set 4 sc_law_model.nd (s_sl (s_lst (sa_cons s_str (sa_cons s_str (sa_cons s_str sa_nil)))) so_none (so_some (s_op o_add s_int (s_cal ok_law_dip_ (hr.mono (by decide)) tk (T.glo 5) (sa_cons (s_var 0) (sa_cons s_int sa_nil)) bd_law_dip)))))
    (ss_cons (ss_set 5 sc_law_model.nd (s_callTy c_tuple rfl (T.free 6) rfl (sa_cons (s_lc [("_law_ink", 11)] rfl sc_law_model.nd (i_seq (s_lst (sa_cons s_str (sa_cons s_str (sa_cons s_str (sa_cons s_str sa_nil)))))) (blkOk_by (N := ["_law_jar_here", "_law_most", "_law_wide", "_law_high", "_law_inks", "_law_firm", "_law_across", "_law_down", "_law_rows", "_law_k", "_law_rect_here", "_law_ink"]) (sc := defScope s_law_model) (own := [("_law_ink", 11)]) (by decide +kernel)) (fun _ _ _ _ _ => (g_name 11 sc_law_model.nd)) (fun _ _ _ _ _ => (ts_one (t_cmp (o_eq hr.hu) (s_cal ok_law_dip_ (hr.mono (by decide)) takes0 (T.glo 5) (sa_cons (s_var 0) (sa_cons s_int sa_nil)) bd_law_dip) s_int))) (fun _ _ _ _ _ => (s_var 11))) sa_nil)))
    (ss_cons (ss_par 6 7 rfl sc_law_model.nd (sa_cons (s_op o_add s_int (s_cal ok_law_dip_ (hr.mono (by decide)) tk (T.glo 5) (sa_cons (s_var 0) (sa_cons (s_var 2) sa_nil)) bd_law_dip)) (sa_cons (s_op o_add s_int (s_cal ok_law_dip_ (hr.mono (by decide)) tk (T.glo 5) (sa_cons (s_var 0) (sa_cons (s_var 3) sa_nil)) bd_law_dip)) sa_nil)))
    (ss_cons (ss_set 8 sc_law_model.nd (s_lst sa_nil))
    (ss_cons (ss_for (passes_of rfl) rfl (i_rng1 (T.free 3) (sa_cons (s_op o_add s_int (s_cal ok_law_dip_ (hr.mono (by decide)) tk (T.glo 5) (sa_cons (s_var 0) (sa_cons (s_var 1) sa_nil)) bd_law_dip)) sa_nil)) (g_name 9 sc_law_model.nd)
    (ss_cons (ss_set 10 sc_law_model.nd (s_if (t_cmp (o_eq hr.hu) (s_cal ok_law_dip_ (hr.mono (by decide)) tk (T.glo 5) (sa_cons (s_var 0) (sa_cons s_int sa_nil)) bd_law_dip) s_int) (s_tup (sa_cons s_int (sa_cons s_int (sa_cons (s_var 6) (sa_cons (s_var 7) sa_nil))))) (s_cal ok_law_rect_ (hr.mono (by decide)) tk (T.glo 7) (sa_cons (s_var 0) (sa_cons (s_var 6) (sa_cons (s_var 7) sa_nil))) bd_law_rect)))
    (ss_one (ss_expr (s_append (s_var 8) (s_tup (sa_cons (s_cal ok_law_pick_ (hr.mono (by decide)) tk (T.glo 8) (sa_cons (s_var 0) (sa_cons (s_var 4) sa_nil)) bd_law_pick) (sa_cons (s_var 10) (sa_cons (s_cal ok_law_pick_ (hr.mono (by decide)) tk (T.glo 8) (sa_cons (s_var 0) (sa_cons (s_lst (sa_cons s_str (sa_cons s_str (sa_cons s_str (sa_cons s_str sa_nil))))) sa_nil)) bd_law_pick) sa_nil)))))))))
    (ss_one (ss_ret (s_tup (sa_cons (s_var 6) (sa_cons (s_var 7) (sa_cons (s_callTy c_tuple rfl (T.free 6) rfl (sa_cons (s_var 8) sa_nil)) (sa_cons (s_var 5) sa_nil))))))))))))
/-! _law_mate -/
theorem sc_law_mate : FnScope ["_law_jar_here", "_law_model_here", "_law_rows", "_law_ink", "_law_rect_here", "_law_doom", "_law_way"] ["_law_jar_here", "_law_model_here"] (defScope s_law_mate) := ⟨rfl, rfl, rfl, by decide +kernel, rfl, by decide +kernel, by decide +kernel⟩
abbrev GD_law_mate (P : Program) (w : World) (K : PySem.W.Frag) (mg : Str → Option Value) (base : Heap) (p : PP) : Prop := GD P w K mg base (cl K p) 3 (ga K "_law_mate") "_law_mate" "_law_mate" s_law_mate [] ["_law_jar_here", "_law_model_here"] F_law_mate
theorem bd_law_mate (kV doc pm : Value) (an : Option Addr) (cdv ct : Value) (us : List Value) (hl : us.length = (["_law_jar_here", "_law_model_here"] : List Str).length) : bindArgs (PySem.W.fnOf "_law_mate" "_law_mate" (defArgs s_law_mate) (defBody s_law_mate) (defScope s_law_mate) .none kV doc pm an cdv ct) ⟨us, []⟩ = pure ((["_law_jar_here", "_law_model_here"] : List Str).zip us) := match us, hl with | [_, _], _ => rfl
theorem ok_law_mate (T : Tx fx fn K mg) (TB : TBs base mg (csOf K tf)) : GD_law_mate P w K mg base p := by
  have ok_law_dip_ : GD_law_dip P w K mg base p := ok_law_dip T TB
  obtain ⟨fd_law_dip, G_law_dip, D_law_dip⟩ := ok_law_dip_.ex
  have ok_law_rect_ : GD_law_rect P w K mg base p := ok_law_rect T TB
  obtain ⟨fd_law_rect, G_law_rect, D_law_rect⟩ := ok_law_rect_.ex
  have ok_law_pick_ : GD_law_pick P w K mg base p := ok_law_pick T TB
  obtain ⟨fd_law_pick, G_law_pick, D_law_pick⟩ := ok_law_pick_.ex
  refine gd_of (T.says.def_ 4 (d := d_law_mate) rfl) sc_law_mate rfl rfl fun cdv A outer s H E hr tk => ?_
  exact (ss_cons (ss_set 2 sc_law_mate.nd (s_lst sa_nil))
    (ss_cons (ss_for (passes_of rfl) rfl (i_seq (s_ix (x_ix hr.hu) (s_var 1) s_int)) (g_tup rfl (g_cons (g_name 3 sc_law_mate.nd) (g_cons (g_name 4 sc_law_mate.nd) (g_cons (g_name 5 sc_law_mate.nd) g_nil))))
    (ss_cons (ss_set 6 sc_law_mate.nd (s_cal ok_law_dip_ (hr.mono (by decide)) tk (T.glo 5) (sa_cons (s_var 0) (sa_cons s_int sa_nil)) bd_law_dip))
    (ss_cons (ss_if (t_cmp (o_eq hr.hu) (s_var 6) s_int)
    (ss_one (ss_set 4 sc_law_mate.nd (s_cal ok_law_rect_ (hr.mono (by decide)) tk (T.glo 7) (sa_cons (s_var 0) (sa_cons (s_ix (x_ix hr.hu) (s_var 1) s_int) (sa_cons (s_ix (x_ix hr.hu) (s_var 1) s_int) sa_nil))) bd_law_rect)))
    ss_nil)
    (ss_cons (ss_if (t_cmp (o_eq hr.hu) (s_var 6) s_int)
    (ss_one (ss_set 5 sc_law_mate.nd (s_cal ok_law_pick_ (hr.mono (by decide)) tk (T.glo 8) (sa_cons (s_var 0) (sa_cons (s_lst (sa_cons s_str (sa_cons s_str (sa_cons s_str sa_nil)))) sa_nil)) bd_law_pick)))
    ss_nil)
    (ss_cons (ss_if (t_cmp (o_eq hr.hu) (s_var 6) s_int)
    (ss_one (ss_set 3 sc_law_mate.nd (s_cal ok_law_pick_ (hr.mono (by decide)) tk (T.glo 8) (sa_cons (s_var 0) (sa_cons (s_lst (sa_cons s_str (sa_cons s_str (sa_cons s_str sa_nil)))) sa_nil)) bd_law_pick)))
    ss_nil)
    (ss_one (ss_expr (s_append (s_var 2) (s_tup (sa_cons (s_var 3) (sa_cons (s_var 4) (sa_cons (s_var 5) sa_nil))))))))))))
    (ss_cons (ss_if (t_cmp (o_eq hr.hu) (s_cal ok_law_dip_ (hr.mono (by decide)) tk (T.glo 5) (sa_cons (s_var 0) (sa_cons s_int sa_nil)) bd_law_dip) s_int)
    (ss_one (ss_set 2 sc_law_mate.nd (s_if (t_cmp o_lt (s_callB c_len rfl (T.free 0) rfl (sa_cons (s_var 2) sa_nil)) s_int) (s_op o_add (s_var 2) (s_sl (s_var 2) so_none (so_some s_int))) (s_var 2))))
    ss_nil)
    (ss_cons (ss_if (t_w (t_and (t_cmp (o_eq hr.hu) (s_cal ok_law_dip_ (hr.mono (by decide)) tk (T.glo 5) (sa_cons (s_var 0) (sa_cons s_int sa_nil)) bd_law_dip) s_int) (t_and1 (t_cmp o_gt (s_callB c_len rfl (T.free 0) rfl (sa_cons (s_var 2) sa_nil)) s_int))))
    (ss_one (ss_set 2 sc_law_mate.nd (s_sl (s_var 2) (so_some s_int) so_none)))
    ss_nil)
    (ss_one (ss_ret (s_tup (sa_cons (s_ix (x_ix hr.hu) (s_var 1) s_int) (sa_cons (s_ix (x_ix hr.hu) (s_var 1) s_int) (sa_cons (s_callTy c_tuple rfl (T.free 6) rfl (sa_cons (s_var 2) sa_nil)) (sa_cons (s_ix (x_ix hr.hu) (s_var 1) s_int) sa_nil)))))))))))
/-! _law_who -/
theorem sc_law_who : FnScope ["_law_jar_here"] ["_law_jar_here"] (defScope s_law_who) := ⟨rfl, rfl, rfl, by decide +kernel, rfl, by decide +kernel, by decide +kernel⟩
abbrev GD_law_who (P : Program) (w : World) (K : PySem.W.Frag) (mg : Str → Option Value) (base : Heap) (p : PP) : Prop := GD P w K mg base (cl K p) 3 (ga K "_law_who") "_law_who" "_law_who" s_law_who [] ["_law_jar_here"] F_law_who
theorem bd_law_who (kV doc pm : Value) (an : Option Addr) (cdv ct : Value) (us : List Value) (hl : us.length = (["_law_jar_here"] : List Str).length) : bindArgs (PySem.W.fnOf "_law_who" "_law_who" (defArgs s_law_who) (defBody s_law_who) (defScope s_law_who) .none kV doc pm an cdv ct) ⟨us, []⟩ = pure ((["_law_jar_here"] : List Str).zip us) := match us, hl with | [_], _ => rfl
theorem ok_law_who (T : Tx fx fn K mg) (TB : TBs base mg (csOf K tf)) : GD_law_who P w K mg base p := by
  have ok_law_pick_ : GD_law_pick P w K mg base p := ok_law_pick T TB
  obtain ⟨fd_law_pick, G_law_pick, D_law_pick⟩ := ok_law_pick_.ex
  refine gd_of (T.says.def_ 5 (d := d_law_who) rfl) sc_law_who rfl rfl fun cdv A outer s H E hr tk => ?_
  exact (ss_one (ss_ret (s_cal ok_law_pick_ (hr.mono (by decide)) tk (T.glo 8) (sa_cons (s_var 0) (sa_cons (s_lst (sa_cons s_str (sa_cons s_str (sa_cons s_str (sa_cons s_str (sa_cons s_str sa_nil)))))) sa_nil)) bd_law_pick)))
/-! is_integer -/
theorem sc_is_integer : FnScope ["value"] ["value"] (defScope s_is_integer) := ⟨rfl, rfl, rfl, by decide +kernel, rfl, by decide +kernel, by decide +kernel⟩
abbrev GD_is_integer (P : Program) (w : World) (K : PySem.W.Frag) (mg : Str → Option Value) (base : Heap) (p : PP) : Prop := GD P w K mg base (cl K p) 1 (ga K "is_integer") "is_integer" "is_integer" s_is_integer [] ["value"] F_is_integer
theorem bd_is_integer (kV doc pm : Value) (an : Option Addr) (cdv ct : Value) (us : List Value) (hl : us.length = (["value"] : List Str).length) : bindArgs (PySem.W.fnOf "is_integer" "is_integer" (defArgs s_is_integer) (defBody s_is_integer) (defScope s_is_integer) .none kV doc pm an cdv ct) ⟨us, []⟩ = pure ((["value"] : List Str).zip us) := match us, hl with | [_], _ => rfl
theorem ok_is_integer (T : Tx fx fn K mg) (TB : TBs base mg (csOf K tf)) : GD_is_integer P w K mg base p := by
  refine gd_of (T.says.def_ 6 (d := d_is_integer) rfl) sc_is_integer rfl rfl fun cdv A outer s H E hr tk => ?_
  exact (ss_one (ss_ret (s_and (s_isi isi_ty (ce_ty rfl (T.free 4) rfl) (s_var 0) (hm := T.free 12)) (s_one (s_not (s_isi isi_ty (ce_ty rfl (T.free 13) rfl) (s_var 0) (hm := T.free 12)))))))
/-! is_within -/
theorem sc_is_within : FnScope ["value", "low", "high"] ["value", "low", "high"] (defScope s_is_within) := ⟨rfl, rfl, rfl, by decide +kernel, rfl, by decide +kernel, by decide +kernel⟩
abbrev GD_is_within (P : Program) (w : World) (K : PySem.W.Frag) (mg : Str → Option Value) (base : Heap) (p : PP) : Prop := GD P w K mg base (cl K p) 2 (ga K "is_within") "is_within" "is_within" s_is_within [] ["value", "low", "high"] F_is_within
theorem bd_is_within (kV doc pm : Value) (an : Option Addr) (cdv ct : Value) (us : List Value) (hl : us.length = (["value", "low", "high"] : List Str).length) : bindArgs (PySem.W.fnOf "is_within" "is_within" (defArgs s_is_within) (defBody s_is_within) (defScope s_is_within) .none kV doc pm an cdv ct) ⟨us, []⟩ = pure ((["value", "low", "high"] : List Str).zip us) := match us, hl with | [_, _, _], _ => rfl
theorem ok_is_within (T : Tx fx fn K mg) (TB : TBs base mg (csOf K tf)) : GD_is_within P w K mg base p := by
  have ok_is_integer_ : GD_is_integer P w K mg base p := ok_is_integer T TB
  obtain ⟨fd_is_integer, G_is_integer, D_is_integer⟩ := ok_is_integer_.ex
  refine gd_of (T.says.def_ 7 (d := d_is_within) rfl) sc_is_within rfl rfl fun cdv A outer s H E hr tk => ?_
  exact (ss_one (ss_ret (s_and (s_cal ok_is_integer_ (hr.mono (by decide)) tk (T.glo 14) (sa_cons (s_var 0) sa_nil) bd_is_integer) (s_one (s_chain o_le o_le (s_var 1) (s_var 0) (s_var 2))))))
/-! check_size -/
theorem sc_check_size : FnScope ["size"] ["size"] (defScope s_check_size) := ⟨rfl, rfl, rfl, by decide +kernel, rfl, by decide +kernel, by decide +kernel⟩
abbrev GD_check_size (P : Program) (w : World) (K : PySem.W.Frag) (mg : Str → Option Value) (base : Heap) (p : PP) : Prop := GD P w K mg base (cl K p) 3 (ga K "check_size") "check_size" "check_size" s_check_size [] ["size"] F_check_size
theorem bd_check_size (kV doc pm : Value) (an : Option Addr) (cdv ct : Value) (us : List Value) (hl : us.length = (["size"] : List Str).length) : bindArgs (PySem.W.fnOf "check_size" "check_size" (defArgs s_check_size) (defBody s_check_size) (defScope s_check_size) .none kV doc pm an cdv ct) ⟨us, []⟩ = pure ((["size"] : List Str).zip us) := match us, hl with | [_], _ => rfl
theorem ok_check_size (T : Tx fx fn K mg) (TB : TBs base mg (csOf K tf)) : GD_check_size P w K mg base p := by
  have ok_is_within_ : GD_is_within P w K mg base p := ok_is_within T TB
  obtain ⟨fd_is_within, G_is_within, D_is_within⟩ := ok_is_within_.ex
  refine gd_of (T.says.def_ 8 (d := d_check_size) rfl) sc_check_size rfl rfl fun cdv A outer s H E hr tk => ?_
  exact (ss_one (ss_if (t_not (t_val (s_cal ok_is_within_ (hr.mono (by decide)) tk (T.glo 16) (sa_cons (s_var 0) (sa_cons s_int (sa_cons (s_dat (T.dat 15)) sa_nil))) bd_is_within)))
    (ss_one ss_never)
    ss_nil))
/-! is_name -/
theorem sc_is_name : FnScope ["value", "sign"] ["value"] (defScope s_is_name) := ⟨rfl, rfl, rfl, by decide +kernel, rfl, by decide +kernel, by decide +kernel⟩
abbrev GD_is_name (P : Program) (w : World) (K : PySem.W.Frag) (mg : Str → Option Value) (base : Heap) (p : PP) : Prop := GD P w K mg base (cl K p) 1 (ga K "is_name") "is_name" "is_name" s_is_name [] ["value"] F_is_name
theorem bd_is_name (kV doc pm : Value) (an : Option Addr) (cdv ct : Value) (us : List Value) (hl : us.length = (["value"] : List Str).length) : bindArgs (PySem.W.fnOf "is_name" "is_name" (defArgs s_is_name) (defBody s_is_name) (defScope s_is_name) .none kV doc pm an cdv ct) ⟨us, []⟩ = pure ((["value"] : List Str).zip us) := match us, hl with | [_], _ => rfl
theorem ok_is_name (T : Tx fx fn K mg) (TB : TBs base mg (csOf K tf)) : GD_is_name P w K mg base p := by
  refine gd_of (T.says.def_ 9 (d := d_is_name) rfl) sc_is_name rfl rfl fun cdv A outer s H E hr tk => ?_
  exact (ss_cons (ss_if (t_w (t_or (t_not (t_val (s_isi isi_ty (ce_ty rfl (T.free 20) rfl) (s_var 0) (hm := T.free 12)))) (t_or (t_not (t_chain o_le o_le s_int (s_callB c_len rfl (T.free 0) rfl (sa_cons (s_var 0) sa_nil)) (s_dat (T.dat 21)))) (t_or1 (t_cmp (o_nin hr.hu) (s_ix (x_ix hr.hu) (s_var 0) s_int) (s_dat (T.dat 22)))))))
    (ss_one (ss_ret s_bl))
    ss_nil)
    (ss_one (ss_ret (s_and (s_cmp (o_nin hr.hu) (s_var 0) (s_dat (T.dat 23))) (s_one (s_callB (c_all rfl) rfl (T.free 25) rfl (sa_cons (s_lc [("sign", 1)] rfl sc_is_name.nd (i_str (s_var 0)) (blkOk_by (N := ["value", "sign"]) (sc := defScope s_is_name) (own := [("sign", 1)]) (by decide +kernel)) (fun _ _ _ _ _ => (g_name 1 sc_is_name.nd)) (fun _ _ _ _ _ => ts_nil) (fun _ _ _ _ _ => (s_or (s_cmp (o_in hr.hu) (s_var 1) (s_dat (T.dat 22))) (s_one (s_cmp (o_in hr.hu) (s_var 1) (s_dat (T.dat 24))))))) sa_nil)))))))
/-! is_part -/
theorem sc_is_part : FnScope ["value", "width", "height", "left", "top", "right", "bottom", "edge"] ["value", "width", "height"] (defScope s_is_part) := ⟨rfl, rfl, rfl, by decide +kernel, rfl, by decide +kernel, by decide +kernel⟩
abbrev GD_is_part (P : Program) (w : World) (K : PySem.W.Frag) (mg : Str → Option Value) (base : Heap) (p : PP) : Prop := GD P w K mg base (cl K p) 2 (ga K "is_part") "is_part" "is_part" s_is_part [] ["value", "width", "height"] F_is_part
theorem bd_is_part (kV doc pm : Value) (an : Option Addr) (cdv ct : Value) (us : List Value) (hl : us.length = (["value", "width", "height"] : List Str).length) : bindArgs (PySem.W.fnOf "is_part" "is_part" (defArgs s_is_part) (defBody s_is_part) (defScope s_is_part) .none kV doc pm an cdv ct) ⟨us, []⟩ = pure ((["value", "width", "height"] : List Str).zip us) := match us, hl with | [_, _, _], _ => rfl
theorem ok_is_part (T : Tx fx fn K mg) (TB : TBs base mg (csOf K tf)) : GD_is_part P w K mg base p := by
  have ok_is_integer_ : GD_is_integer P w K mg base p := ok_is_integer T TB
  obtain ⟨fd_is_integer, G_is_integer, D_is_integer⟩ := ok_is_integer_.ex
  refine gd_of (T.says.def_ 10 (d := d_is_part) rfl) sc_is_part rfl rfl fun cdv A outer s H E hr tk => ?_
  exact (ss_cons (ss_if (t_w (t_or (t_not (t_val (s_isi isi_ty (ce_ty rfl (T.free 6) rfl) (s_var 0) (hm := T.free 12)))) (t_or (t_cmp (o_ne hr.hu) (s_callB c_len rfl (T.free 0) rfl (sa_cons (s_var 0) sa_nil)) s_int) (t_or1 (t_not (t_val (s_callB (c_all rfl) rfl (T.free 25) rfl (sa_cons (s_lc [("edge", 7)] rfl sc_is_part.nd (i_seq (s_var 0)) (blkOk_by (N := ["value", "width", "height", "left", "top", "right", "bottom", "edge"]) (sc := defScope s_is_part) (own := [("edge", 7)]) (by decide +kernel)) (fun _ _ _ _ _ => (g_name 7 sc_is_part.nd)) (fun _ _ _ _ _ => ts_nil) (fun _ _ _ _ _ => (s_cal ok_is_integer_ (hr.mono (by decide)) takes0 (T.glo 14) (sa_cons (s_var 7) sa_nil) bd_is_integer))) sa_nil))))))))
    (ss_one (ss_ret s_bl))
    ss_nil)
    (ss_cons (ss_asg (s_var 0) (g_tup rfl (g_cons (g_name 3 sc_is_part.nd) (g_cons (g_name 4 sc_is_part.nd) (g_cons (g_name 5 sc_is_part.nd) (g_cons (g_name 6 sc_is_part.nd) g_nil))))))
    (ss_one (ss_ret (s_and (s_chain3 o_le o_lt o_le s_int (s_var 3) (s_var 5) (s_var 1)) (s_one (s_chain3 o_le o_lt o_le s_int (s_var 4) (s_var 6) (s_var 2))))))))
/-! is_word -/
theorem sc_is_word : FnScope ["value", "words"] ["value", "words"] (defScope s_is_word) := ⟨rfl, rfl, rfl, by decide +kernel, rfl, by decide +kernel, by decide +kernel⟩
abbrev GD_is_word (P : Program) (w : World) (K : PySem.W.Frag) (mg : Str → Option Value) (base : Heap) (p : PP) : Prop := GD P w K mg base (cl K p) 1 (ga K "is_word") "is_word" "is_word" s_is_word [] ["value", "words"] F_is_word
theorem bd_is_word (kV doc pm : Value) (an : Option Addr) (cdv ct : Value) (us : List Value) (hl : us.length = (["value", "words"] : List Str).length) : bindArgs (PySem.W.fnOf "is_word" "is_word" (defArgs s_is_word) (defBody s_is_word) (defScope s_is_word) .none kV doc pm an cdv ct) ⟨us, []⟩ = pure ((["value", "words"] : List Str).zip us) := match us, hl with | [_, _], _ => rfl
theorem ok_is_word (T : Tx fx fn K mg) (TB : TBs base mg (csOf K tf)) : GD_is_word P w K mg base p := by
  refine gd_of (T.says.def_ 11 (d := d_is_word) rfl) sc_is_word rfl rfl fun cdv A outer s H E hr tk => ?_
  exact (ss_one (ss_ret (s_and (s_isi isi_ty (ce_ty rfl (T.free 20) rfl) (s_var 0) (hm := T.free 12)) (s_one (s_cmp (o_in hr.hu) (s_var 0) (s_var 1))))))
/-! is_frame -/
theorem sc_is_frame : FnScope ["value", "width", "height"] ["value", "width", "height"] (defScope s_is_frame) := ⟨rfl, rfl, rfl, by decide +kernel, rfl, by decide +kernel, by decide +kernel⟩
abbrev GD_is_frame (P : Program) (w : World) (K : PySem.W.Frag) (mg : Str → Option Value) (base : Heap) (p : PP) : Prop := GD P w K mg base (cl K p) 3 (ga K "is_frame") "is_frame" "is_frame" s_is_frame [] ["value", "width", "height"] F_is_frame
theorem bd_is_frame (kV doc pm : Value) (an : Option Addr) (cdv ct : Value) (us : List Value) (hl : us.length = (["value", "width", "height"] : List Str).length) : bindArgs (PySem.W.fnOf "is_frame" "is_frame" (defArgs s_is_frame) (defBody s_is_frame) (defScope s_is_frame) .none kV doc pm an cdv ct) ⟨us, []⟩ = pure ((["value", "width", "height"] : List Str).zip us) := match us, hl with | [_, _, _], _ => rfl
theorem ok_is_frame (T : Tx fx fn K mg) (TB : TBs base mg (csOf K tf)) : GD_is_frame P w K mg base p := by
  have ok_is_name_ : GD_is_name P w K mg base p := ok_is_name T TB
  obtain ⟨fd_is_name, G_is_name, D_is_name⟩ := ok_is_name_.ex
  have ok_is_part_ : GD_is_part P w K mg base p := ok_is_part T TB
  obtain ⟨fd_is_part, G_is_part, D_is_part⟩ := ok_is_part_.ex
  have ok_is_word_ : GD_is_word P w K mg base p := ok_is_word T TB
  obtain ⟨fd_is_word, G_is_word, D_is_word⟩ := ok_is_word_.ex
  refine gd_of (T.says.def_ 12 (d := d_is_frame) rfl) sc_is_frame rfl rfl fun cdv A outer s H E hr tk => ?_
  exact (ss_cons (ss_if (t_w (t_or (t_not (t_val (s_isi isi_ty (ce_ty rfl (T.free 6) rfl) (s_var 0) (hm := T.free 12)))) (t_or1 (t_cmp (o_ne hr.hu) (s_callB c_len rfl (T.free 0) rfl (sa_cons (s_var 0) sa_nil)) s_int))))
    (ss_one (ss_ret s_bl))
    ss_nil)
    (ss_one (ss_ret (s_and (s_cal ok_is_name_ (hr.mono (by decide)) tk (T.glo 26) (sa_cons (s_ix (x_ix hr.hu) (s_var 0) s_int) sa_nil) bd_is_name) (s_and (s_cal ok_is_part_ (hr.mono (by decide)) tk (T.glo 27) (sa_cons (s_ix (x_ix hr.hu) (s_var 0) s_int) (sa_cons (s_var 1) (sa_cons (s_var 2) sa_nil))) bd_is_part) (s_one (s_cal ok_is_word_ (hr.mono (by decide)) tk (T.glo 29) (sa_cons (s_ix (x_ix hr.hu) (s_var 0) s_int) (sa_cons (s_dat (T.dat 28)) sa_nil)) bd_is_word)))))))
/-! check_solid -/
theorem sc_check_solid : FnScope ["solid", "index", "name"] ["solid"] (defScope s_check_solid) := ⟨rfl, rfl, rfl, by decide +kernel, rfl, by decide +kernel, by decide +kernel⟩
abbrev GD_check_solid (P : Program) (w : World) (K : PySem.W.Frag) (mg : Str → Option Value) (base : Heap) (p : PP) : Prop := GD P w K mg base (cl K p) 2 (ga K "check_solid") "check_solid" "check_solid" s_check_solid [] ["solid"] F_check_solid
theorem bd_check_solid (kV doc pm : Value) (an : Option Addr) (cdv ct : Value) (us : List Value) (hl : us.length = (["solid"] : List Str).length) : bindArgs (PySem.W.fnOf "check_solid" "check_solid" (defArgs s_check_solid) (defBody s_check_solid) (defScope s_check_solid) .none kV doc pm an cdv ct) ⟨us, []⟩ = pure ((["solid"] : List Str).zip us) := match us, hl with | [_], _ => rfl
theorem ok_check_solid (T : Tx fx fn K mg) (TB : TBs base mg (csOf K tf)) : GD_check_solid P w K mg base p := by
  have ok_is_name_ : GD_is_name P w K mg base p := ok_is_name T TB
  obtain ⟨fd_is_name, G_is_name, D_is_name⟩ := ok_is_name_.ex
  refine gd_of (T.says.def_ 13 (d := d_check_solid) rfl) sc_check_solid rfl rfl fun cdv A outer s H E hr tk => ?_
  exact (ss_cons (ss_if (t_not (t_val (s_isi isi_ty (ce_ty rfl (T.free 6) rfl) (s_var 0) (hm := T.free 12))))
    (ss_one ss_never)
    ss_nil)
    (ss_one (ss_for (passes_of rfl) rfl (i_enum (T.free 18) (sa_cons (s_var 0) sa_nil)) (g_tup rfl (g_cons (g_name 1 sc_check_solid.nd) (g_cons (g_name 2 sc_check_solid.nd) g_nil)))
    (ss_one (ss_if (t_w (t_or (t_cmp (o_eq hr.hu) (s_var 1) (s_dat (T.dat 31))) (t_or (t_not (t_val (s_cal ok_is_name_ (hr.mono (by decide)) tk (T.glo 26) (sa_cons (s_var 2) sa_nil) bd_is_name))) (t_or1 (t_w (t_and (t_cmp o_gt (s_var 1) s_int) (t_and1 (t_cmp o_ge (s_ix (x_ix hr.hu) (s_var 0) (s_op o_sub (s_var 1) s_int)) (s_var 2)))))))))
    (ss_one ss_never)
    ss_nil)))))
/-! __init__ -/
theorem sc_Film_init : FnScope ["self", "width", "height", "frames", "solid", "index", "frame"] ["self", "width", "height", "frames", "solid"] (defScope s_Film_init) := ⟨rfl, rfl, rfl, by decide +kernel, rfl, by decide +kernel, by decide +kernel⟩
abbrev GD_Film_init (P : Program) (w : World) (K : PySem.W.Frag) (mg : Str → Option Value) (base : Heap) (p : PP) : Prop := GD P w K mg base (cl K p) 4 (ma K (ga K "Film") "__init__") "__init__" "Film.__init__" s_Film_init [] ["self", "width", "height", "frames", "solid"] F_Film_init
theorem ok_Film_init (T : Tx fx fn K mg) (TB : TBs base mg (csOf K tf)) : GD_Film_init P w K mg base p := by
  have ok_check_size_ : GD_check_size P w K mg base p := ok_check_size T TB
  obtain ⟨fd_check_size, G_check_size, D_check_size⟩ := ok_check_size_.ex
  have ok_is_frame_ : GD_is_frame P w K mg base p := ok_is_frame T TB
  obtain ⟨fd_is_frame, G_is_frame, D_is_frame⟩ := ok_is_frame_.ex
  have ok_check_solid_ : GD_check_solid P w K mg base p := ok_check_solid T TB
  obtain ⟨fd_check_solid, G_check_solid, D_check_solid⟩ := ok_check_solid_.ex
  refine gd_of (T.says.def_ 14 (d := d_Film_init) rfl) sc_Film_init rfl rfl fun cdv A outer s H E hr tk => ?_
  exact (ss_cons (ss_expr (s_cal ok_check_size_ (hr.mono (by decide)) tk (T.glo 17) (sa_cons (s_var 1) sa_nil) bd_check_size))
    (ss_cons (ss_expr (s_cal ok_check_size_ (hr.mono (by decide)) tk (T.glo 17) (sa_cons (s_var 2) sa_nil) bd_check_size))
    (ss_cons (ss_if (t_w (t_or (t_not (t_val (s_isi isi_ty (ce_ty rfl (T.free 6) rfl) (s_var 3) (hm := T.free 12)))) (t_or1 (t_cmp (o_eq hr.hu) (s_var 3) (s_tup sa_nil)))))
    (ss_one ss_never)
    ss_nil)
    (ss_cons (ss_for (passes_of rfl) rfl (i_enum (T.free 18) (sa_cons (s_var 3) sa_nil)) (g_tup rfl (g_cons (g_name 5 sc_Film_init.nd) (g_cons (g_name 6 sc_Film_init.nd) g_nil)))
    (ss_one (ss_if (t_w (t_or (t_cmp (o_eq hr.hu) (s_var 5) (s_dat (T.dat 19))) (t_or1 (t_not (t_val (s_cal ok_is_frame_ (hr.mono (by decide)) tk (T.glo 30) (sa_cons (s_var 6) (sa_cons (s_var 1) (sa_cons (s_var 2) sa_nil))) bd_is_frame))))))
    (ss_one ss_never)
    ss_nil)))
    (ss_cons (ss_expr (s_cal ok_check_solid_ (hr.mono (by decide)) tk (T.glo 32) (sa_cons (s_var 4) sa_nil) bd_check_solid))
    (ss_one (ss_fld (c := 0) (T.cls 33).cl (T.noat 34) (s_var 0) (s_tup (sa_cons (s_var 1) (sa_cons (s_var 2) (sa_cons (s_var 3) (sa_cons (s_var 4) sa_nil))))))))))))
/-! _law_made -/
theorem sc_law_made : FnScope ["_law_model_here"] ["_law_model_here"] (defScope s_law_made) := ⟨rfl, rfl, rfl, by decide +kernel, rfl, by decide +kernel, by decide +kernel⟩
abbrev GD_law_made (P : Program) (w : World) (K : PySem.W.Frag) (mg : Str → Option Value) (base : Heap) (p : PP) : Prop := GD P w K mg base (cl K p) 6 (ga K "_law_made") "_law_made" "_law_made" s_law_made [] ["_law_model_here"] F_law_made
theorem bd_law_made (kV doc pm : Value) (an : Option Addr) (cdv ct : Value) (us : List Value) (hl : us.length = (["_law_model_here"] : List Str).length) : bindArgs (PySem.W.fnOf "_law_made" "_law_made" (defArgs s_law_made) (defBody s_law_made) (defScope s_law_made) .none kV doc pm an cdv ct) ⟨us, []⟩ = pure ((["_law_model_here"] : List Str).zip us) := match us, hl with | [_], _ => rfl
theorem ok_law_made (T : Tx fx fn K mg) (TB : TBs base mg (csOf K tf)) : GD_law_made P w K mg base p := by
  have ok_Film_init_ : GD_Film_init P w K mg base p := ok_Film_init T TB
  obtain ⟨fd_Film_init, G_Film_init, D_Film_init⟩ := ok_Film_init_.ex
  refine gd_of (T.says.def_ 15 (d := d_law_made) rfl) sc_law_made rfl rfl fun cdv A outer s H E hr tk => ?_
  exact (ss_one (ss_ret (s_makeK (cl := cl K _) (c := 0) (n := 3) (T.mkr 35) G_Film_init (hr.mono (by decide)) tk (T.glo 36) (kb_plain (He5.fun_of D_Film_init) 4 ["solid"] [.p 0, .p 1, .p 2, .p 3, .k 0] (fun _ _ _ _ _ _ us ws h1 h2 => match us, ws, h1, h2 with | [_, _, _, _], [_], _, _ => rfl)) dfl_nil (sa_cons (s_ix (x_ix hr.hu) (s_var 0) s_int) (sa_cons (s_ix (x_ix hr.hu) (s_var 0) s_int) (sa_cons (s_ix (x_ix hr.hu) (s_var 0) s_int) sa_nil))) (sk_cons (s_ix (x_ix hr.hu) (s_var 0) s_int) sk_nil))))
/-! _law_dots -/
theorem sc_law_dots : FnScope ["_law_model_here", "_law_found", "_law_y", "_law_x"] ["_law_model_here"] (defScope s_law_dots) := ⟨rfl, rfl, rfl, by decide +kernel, rfl, by decide +kernel, by decide +kernel⟩
abbrev GD_law_dots (P : Program) (w : World) (K : PySem.W.Frag) (mg : Str → Option Value) (base : Heap) (p : PP) : Prop := GD P w K mg base (cl K p) 1 (ga K "_law_dots") "_law_dots" "_law_dots" s_law_dots [] ["_law_model_here"] F_law_dots
theorem bd_law_dots (kV doc pm : Value) (an : Option Addr) (cdv ct : Value) (us : List Value) (hl : us.length = (["_law_model_here"] : List Str).length) : bindArgs (PySem.W.fnOf "_law_dots" "_law_dots" (defArgs s_law_dots) (defBody s_law_dots) (defScope s_law_dots) .none kV doc pm an cdv ct) ⟨us, []⟩ = pure ((["_law_model_here"] : List Str).zip us) := match us, hl with | [_], _ => rfl
theorem ok_law_dots (T : Tx fx fn K mg) (TB : TBs base mg (csOf K tf)) : GD_law_dots P w K mg base p := by
  refine gd_of (T.says.def_ 16 (d := d_law_dots) rfl) sc_law_dots rfl rfl fun cdv A outer s H E hr tk => ?_
  exact (ss_cons (ss_set 1 sc_law_dots.nd (s_lst sa_nil))
    (ss_cons (ss_for (passes_of rfl) rfl (i_rng1 (T.free 3) (sa_cons (s_ix (x_ix hr.hu) (s_var 0) s_int) sa_nil)) (g_name 2 sc_law_dots.nd)
    (ss_one (ss_set 1 sc_law_dots.nd (s_op o_add (s_var 1) (s_lc [("_law_x", 3)] rfl sc_law_dots.nd (i_rng1 (T.free 3) (sa_cons (s_ix (x_ix hr.hu) (s_var 0) s_int) sa_nil)) (blkOk_by (N := ["_law_model_here", "_law_found", "_law_y", "_law_x"]) (sc := defScope s_law_dots) (own := [("_law_x", 3)]) (by decide +kernel)) (fun _ _ _ _ _ => (g_name 3 sc_law_dots.nd)) (fun _ _ _ _ _ => ts_nil) (fun _ _ _ _ _ => (s_tup (sa_cons (s_var 3) (sa_cons (s_var 2) sa_nil)))))))))
    (ss_one (ss_ret (s_var 1)))))
/-! _law_patterns -/
theorem sc_law_patterns : FnScope ["_law_firm", "_law_found", "_law_ink", "_law_longer", "_law_each", "_law_full", "_law_hole"] ["_law_firm"] (defScope s_law_patterns) := ⟨rfl, rfl, rfl, by decide +kernel, rfl, by decide +kernel, by decide +kernel⟩
abbrev GD_law_patterns (P : Program) (w : World) (K : PySem.W.Frag) (mg : Str → Option Value) (base : Heap) (p : PP) : Prop := GD P w K mg base (cl K p) 1 (ga K "_law_patterns") "_law_patterns" "_law_patterns" s_law_patterns [] ["_law_firm"] F_law_patterns
theorem bd_law_patterns (kV doc pm : Value) (an : Option Addr) (cdv ct : Value) (us : List Value) (hl : us.length = (["_law_firm"] : List Str).length) : bindArgs (PySem.W.fnOf "_law_patterns" "_law_patterns" (defArgs s_law_patterns) (defBody s_law_patterns) (defScope s_law_patterns) .none kV doc pm an cdv ct) ⟨us, []⟩ = pure ((["_law_firm"] : List Str).zip us) := match us, hl with | [_], _ => rfl
theorem ok_law_patterns (T : Tx fx fn K mg) (TB : TBs base mg (csOf K tf)) : GD_law_patterns P w K mg base p := by
  refine gd_of (T.says.def_ 17 (d := d_law_patterns) rfl) sc_law_patterns rfl rfl fun cdv A outer s H E hr tk => ?_
  exact (ss_cons (ss_set 1 sc_law_patterns.nd (s_lst (sa_cons s_dnew sa_nil)))
    (ss_cons (ss_for (passes_of rfl) rfl (i_seq (s_lst (sa_cons s_str (sa_cons s_str (sa_cons s_str sa_nil))))) (g_name 2 sc_law_patterns.nd)
    (ss_cons (ss_set 3 sc_law_patterns.nd (s_lst sa_nil))
    (ss_cons (ss_for (passes_of rfl) rfl (i_seq (s_var 1)) (g_name 4 sc_law_patterns.nd)
    (ss_cons (ss_set 5 sc_law_patterns.nd (s_callTy c_dict rfl (T.free 39) rfl (sa_cons (s_var 4) sa_nil)))
    (ss_cons (ss_sub hr.hu (s_op o_add (s_callB c_len rfl (T.free 0) rfl (sa_cons (s_var 4) sa_nil)) s_int) (s_var 5) (s_var 2))
    (ss_cons (ss_set 6 sc_law_patterns.nd (s_callTy c_dict rfl (T.free 39) rfl (sa_cons (s_var 4) sa_nil)))
    (ss_cons (ss_sub hr.hu s_non (s_var 6) (s_var 2))
    (ss_one (ss_set 3 sc_law_patterns.nd (s_op o_add (s_var 3) (s_if (t_cmp (o_in hr.hu) (s_var 2) (s_var 0)) (s_lst (sa_cons (s_var 5) sa_nil)) (s_lst (sa_cons (s_var 5) (sa_cons (s_var 6) sa_nil))))))))))))
    (ss_one (ss_set 1 sc_law_patterns.nd (s_var 3))))))
    (ss_one (ss_ret (s_var 1)))))
/-! _law_in -/
theorem sc_law_in : FnScope ["_law_rect_here", "_law_dot"] ["_law_rect_here", "_law_dot"] (defScope s_law_in) := ⟨rfl, rfl, rfl, by decide +kernel, rfl, by decide +kernel, by decide +kernel⟩
abbrev GD_law_in (P : Program) (w : World) (K : PySem.W.Frag) (mg : Str → Option Value) (base : Heap) (p : PP) : Prop := GD P w K mg base (cl K p) 1 (ga K "_law_in") "_law_in" "_law_in" s_law_in [] ["_law_rect_here", "_law_dot"] F_law_in
theorem bd_law_in (kV doc pm : Value) (an : Option Addr) (cdv ct : Value) (us : List Value) (hl : us.length = (["_law_rect_here", "_law_dot"] : List Str).length) : bindArgs (PySem.W.fnOf "_law_in" "_law_in" (defArgs s_law_in) (defBody s_law_in) (defScope s_law_in) .none kV doc pm an cdv ct) ⟨us, []⟩ = pure ((["_law_rect_here", "_law_dot"] : List Str).zip us) := match us, hl with | [_, _], _ => rfl
theorem ok_law_in (T : Tx fx fn K mg) (TB : TBs base mg (csOf K tf)) : GD_law_in P w K mg base p := by
  refine gd_of (T.says.def_ 18 (d := d_law_in) rfl) sc_law_in rfl rfl fun cdv A outer s H E hr tk => ?_
  exact (ss_one (ss_ret (s_and (s_cmp o_notN (s_var 0) s_non) (s_and (s_chain o_le o_lt (s_ix (x_ix hr.hu) (s_var 0) s_int) (s_ix (x_ix hr.hu) (s_var 1) s_int) (s_ix (x_ix hr.hu) (s_var 0) s_int)) (s_one (s_chain o_le o_lt (s_ix (x_ix hr.hu) (s_var 0) s_int) (s_ix (x_ix hr.hu) (s_var 1) s_int) (s_ix (x_ix hr.hu) (s_var 0) s_int)))))))
/-! _law_play -/
theorem sc_law_play : FnScope ["_law_model_here", "_law_dot", "_law_inks", "_law_who_here", "_law_there", "_law_found", "_law_ink", "_law_rect_here", "_law_doom", "_law_kept", "_law_inside"] ["_law_model_here", "_law_dot", "_law_inks", "_law_who_here", "_law_there"] (defScope s_law_play) := ⟨rfl, rfl, rfl, by decide +kernel, rfl, by decide +kernel, by decide +kernel⟩
abbrev GD_law_play (P : Program) (w : World) (K : PySem.W.Frag) (mg : Str → Option Value) (base : Heap) (p : PP) : Prop := GD P w K mg base (cl K p) 2 (ga K "_law_play") "_law_play" "_law_play" s_law_play [] ["_law_model_here", "_law_dot", "_law_inks", "_law_who_here", "_law_there"] F_law_play
theorem bd_law_play (kV doc pm : Value) (an : Option Addr) (cdv ct : Value) (us : List Value) (hl : us.length = (["_law_model_here", "_law_dot", "_law_inks", "_law_who_here", "_law_there"] : List Str).length) : bindArgs (PySem.W.fnOf "_law_play" "_law_play" (defArgs s_law_play) (defBody s_law_play) (defScope s_law_play) .none kV doc pm an cdv ct) ⟨us, []⟩ = pure ((["_law_model_here", "_law_dot", "_law_inks", "_law_who_here", "_law_there"] : List Str).zip us) := match us, hl with | [_, _, _, _, _], _ => rfl
theorem ok_law_play (T : Tx fx fn K mg) (TB : TBs base mg (csOf K tf)) : GD_law_play P w K mg base p := by
  have ok_law_in_ : GD_law_in P w K mg base p := ok_law_in T TB
  obtain ⟨fd_law_in, G_law_in, D_law_in⟩ := ok_law_in_.ex
  refine gd_of (T.says.def_ 19 (d := d_law_play) rfl) sc_law_play rfl rfl fun cdv A outer s H E hr tk => ?_
  exact (ss_cons (ss_set 5 sc_law_play.nd (s_lst sa_nil))
    (ss_cons (ss_for (passes_of rfl) rfl (i_seq (s_ix (x_ix hr.hu) (s_var 0) s_int)) (g_tup rfl (g_cons (g_name 6 sc_law_play.nd) (g_cons (g_name 7 sc_law_play.nd) (g_cons (g_name 8 sc_law_play.nd) g_nil))))
    (ss_cons (ss_par 9 10 rfl sc_law_play.nd (sa_cons (s_var 4) (sa_cons (s_cal ok_law_in_ (hr.mono (by decide)) tk (T.glo 41) (sa_cons (s_var 7) (sa_cons (s_var 1) sa_nil)) bd_law_in) sa_nil)))
    (ss_cons (ss_set 4 sc_law_play.nd (s_if (t_w (t_and (t_val (s_var 10)) (t_and1 (t_cmp o_notN (s_ix (x_ix hr.hu) (s_var 2) (s_var 6)) s_non)))) (s_ix (x_ix hr.hu) (s_var 2) (s_var 6)) (s_var 4)))
    (ss_cons (ss_expr (s_append (s_var 5) (s_var 4)))
    (ss_cons (ss_if (t_w (t_and (t_cmp (o_eq hr.hu) (s_var 8) s_str) (t_and1 (t_cmp (o_in hr.hu) (s_var 3) (s_lst (sa_cons s_str (sa_cons s_str sa_nil)))))))
    (ss_one (ss_set 8 sc_law_play.nd (s_if (t_cmp (o_eq hr.hu) (s_var 3) s_str) s_str s_str)))
    ss_nil)
    (ss_one (ss_if (t_w (t_and (t_cmp (o_eq hr.hu) (s_var 8) s_str) (t_and1 (t_w (t_or (t_val (s_var 10)) (t_or1 (t_cmp (o_eq hr.hu) (s_var 3) s_str)))))))
    (ss_one (ss_set 4 sc_law_play.nd s_non))
    (ss_one (ss_if (t_cmp (o_eq hr.hu) (s_var 8) s_str)
    (ss_one (ss_set 4 sc_law_play.nd (s_var 9)))
    ss_nil)))))))))
    (ss_one (ss_ret (s_tup (sa_cons (s_var 5) (sa_cons (s_var 4) sa_nil)))))))
/-! _law_differ -/
theorem sc_law_differ : FnScope ["_law_model_here", "_law_others", "_law_whos", "_law_first_here", "_law_beats", "_law_at", "_law_dot", "_law_inks", "_law_one_here"] ["_law_model_here", "_law_others", "_law_whos", "_law_first_here"] (defScope s_law_differ) := ⟨rfl, rfl, rfl, by decide +kernel, rfl, by decide +kernel, by decide +kernel⟩
abbrev GD_law_differ (P : Program) (w : World) (K : PySem.W.Frag) (mg : Str → Option Value) (base : Heap) (p : PP) : Prop := GD P w K mg base (cl K p) 3 (ga K "_law_differ") "_law_differ" "_law_differ" s_law_differ [] ["_law_model_here", "_law_others", "_law_whos", "_law_first_here"] F_law_differ
theorem bd_law_differ (kV doc pm : Value) (an : Option Addr) (cdv ct : Value) (us : List Value) (hl : us.length = (["_law_model_here", "_law_others", "_law_whos", "_law_first_here"] : List Str).length) : bindArgs (PySem.W.fnOf "_law_differ" "_law_differ" (defArgs s_law_differ) (defBody s_law_differ) (defScope s_law_differ) .none kV doc pm an cdv ct) ⟨us, []⟩ = pure ((["_law_model_here", "_law_others", "_law_whos", "_law_first_here"] : List Str).zip us) := match us, hl with | [_, _, _, _], _ => rfl
theorem ok_law_differ (T : Tx fx fn K mg) (TB : TBs base mg (csOf K tf)) : GD_law_differ P w K mg base p := by
  have ok_law_dots_ : GD_law_dots P w K mg base p := ok_law_dots T TB
  obtain ⟨fd_law_dots, G_law_dots, D_law_dots⟩ := ok_law_dots_.ex
  have ok_law_patterns_ : GD_law_patterns P w K mg base p := ok_law_patterns T TB
  obtain ⟨fd_law_patterns, G_law_patterns, D_law_patterns⟩ := ok_law_patterns_.ex
  have ok_law_play_ : GD_law_play P w K mg base p := ok_law_play T TB
  obtain ⟨fd_law_play, G_law_play, D_law_play⟩ := ok_law_play_.ex
  refine gd_of (T.says.def_ 20 (d := d_law_differ) rfl) sc_law_differ rfl rfl fun cdv A outer s H E hr tk => ?_
  exact (ss_cons (ss_set 4 sc_law_differ.nd (s_callB (c_min2 rfl) rfl (T.free 1) rfl (sa_cons (s_callB c_len rfl (T.free 0) rfl (sa_cons (s_ix (x_ix hr.hu) (s_var 0) s_int) sa_nil)) (sa_cons (s_callB c_len rfl (T.free 0) rfl (sa_cons (s_ix (x_ix hr.hu) (s_var 1) s_int) sa_nil)) sa_nil))))
    (ss_cons (ss_for (passes_of rfl) rfl (i_rng1 (T.free 3) (sa_cons (s_var 4) sa_nil)) (g_name 5 sc_law_differ.nd)
    (ss_one (ss_for (passes_of rfl) rfl (i_seq (s_cal ok_law_dots_ (hr.mono (by decide)) tk (T.glo 38) (sa_cons (s_var 0) sa_nil) bd_law_dots)) (g_name 6 sc_law_differ.nd)
    (ss_one (ss_for (passes_of rfl) rfl (i_seq (s_cal ok_law_patterns_ (hr.mono (by decide)) tk (T.glo 40) (sa_cons (s_ix (x_ix hr.hu) (s_var 0) s_int) sa_nil) bd_law_patterns)) (g_name 7 sc_law_differ.nd)
    (ss_cons (ss_set 8 sc_law_differ.nd (s_ix (x_ix hr.hu) (s_cal ok_law_play_ (hr.mono (by decide)) tk (T.glo 42) (sa_cons (s_var 0) (sa_cons (s_var 6) (sa_cons (s_var 7) (sa_cons (s_ix (x_ix hr.hu) (s_var 2) s_int) (sa_cons (s_var 3) sa_nil))))) bd_law_play) s_int))
    (ss_one (ss_if (t_cmp (o_ne hr.hu) (s_ix (x_ix hr.hu) (s_var 8) (s_var 5)) (s_ix (x_ix hr.hu) (s_ix (x_ix hr.hu) (s_cal ok_law_play_ (hr.mono (by decide)) tk (T.glo 42) (sa_cons (s_var 1) (sa_cons (s_var 6) (sa_cons (s_var 7) (sa_cons (s_ix (x_ix hr.hu) (s_var 2) s_int) (sa_cons (s_var 3) sa_nil))))) bd_law_play) s_int) (s_var 5)))
    (ss_one (ss_ret (s_tup (sa_cons (s_var 5) (sa_cons (s_var 6) sa_nil)))))
    ss_nil))))))))
    (ss_one (ss_ret (s_if (t_cmp (o_eq hr.hu) (s_callB c_len rfl (T.free 0) rfl (sa_cons (s_ix (x_ix hr.hu) (s_var 0) s_int) sa_nil)) (s_callB c_len rfl (T.free 0) rfl (sa_cons (s_ix (x_ix hr.hu) (s_var 1) s_int) sa_nil))) s_non (s_tup (sa_cons (s_var 4) (sa_cons s_non sa_nil))))))))
/-! check_film -/
theorem sc_check_film : FnScope ["value"] ["value"] (defScope s_check_film) := ⟨rfl, rfl, rfl, by decide +kernel, rfl, by decide +kernel, by decide +kernel⟩
abbrev GD_check_film (P : Program) (w : World) (K : PySem.W.Frag) (mg : Str → Option Value) (base : Heap) (p : PP) : Prop := GD P w K mg base (cl K p) 1 (ga K "check_film") "check_film" "check_film" s_check_film [] ["value"] F_check_film
theorem bd_check_film (kV doc pm : Value) (an : Option Addr) (cdv ct : Value) (us : List Value) (hl : us.length = (["value"] : List Str).length) : bindArgs (PySem.W.fnOf "check_film" "check_film" (defArgs s_check_film) (defBody s_check_film) (defScope s_check_film) .none kV doc pm an cdv ct) ⟨us, []⟩ = pure ((["value"] : List Str).zip us) := match us, hl with | [_], _ => rfl
theorem ok_check_film (T : Tx fx fn K mg) (TB : TBs base mg (csOf K tf)) : GD_check_film P w K mg base p := by
  refine gd_of (T.says.def_ 21 (d := d_check_film) rfl) sc_check_film rfl rfl fun cdv A outer s H E hr tk => ?_
  exact (ss_one (ss_if (t_not (t_val (s_isi (T.isi 44 33 (cl := cl K _) (c := 0)) (ce_own rfl (T.glo 36)) (s_var 0) (hm := T.free 12))))
    (ss_one ss_never)
    ss_nil))
/-! check_player -/
theorem sc_check_player : FnScope ["player"] ["player"] (defScope s_check_player) := ⟨rfl, rfl, rfl, by decide +kernel, rfl, by decide +kernel, by decide +kernel⟩
abbrev GD_check_player (P : Program) (w : World) (K : PySem.W.Frag) (mg : Str → Option Value) (base : Heap) (p : PP) : Prop := GD P w K mg base (cl K p) 2 (ga K "check_player") "check_player" "check_player" s_check_player [] ["player"] F_check_player
theorem bd_check_player (kV doc pm : Value) (an : Option Addr) (cdv ct : Value) (us : List Value) (hl : us.length = (["player"] : List Str).length) : bindArgs (PySem.W.fnOf "check_player" "check_player" (defArgs s_check_player) (defBody s_check_player) (defScope s_check_player) .none kV doc pm an cdv ct) ⟨us, []⟩ = pure ((["player"] : List Str).zip us) := match us, hl with | [_], _ => rfl
theorem ok_check_player (T : Tx fx fn K mg) (TB : TBs base mg (csOf K tf)) : GD_check_player P w K mg base p := by
  have ok_is_word_ : GD_is_word P w K mg base p := ok_is_word T TB
  obtain ⟨fd_is_word, G_is_word, D_is_word⟩ := ok_is_word_.ex
  refine gd_of (T.says.def_ 22 (d := d_check_player) rfl) sc_check_player rfl rfl fun cdv A outer s H E hr tk => ?_
  exact (ss_one (ss_if (t_not (t_val (s_cal ok_is_word_ (hr.mono (by decide)) tk (T.glo 29) (sa_cons (s_var 0) (sa_cons (s_dat (T.dat 46)) sa_nil)) bd_is_word)))
    (ss_one ss_never)
    ss_nil))
/-! check_start -/
theorem sc_check_start : FnScope ["start"] ["start"] (defScope s_check_start) := ⟨rfl, rfl, rfl, by decide +kernel, rfl, by decide +kernel, by decide +kernel⟩
abbrev GD_check_start (P : Program) (w : World) (K : PySem.W.Frag) (mg : Str → Option Value) (base : Heap) (p : PP) : Prop := GD P w K mg base (cl K p) 2 (ga K "check_start") "check_start" "check_start" s_check_start [] ["start"] F_check_start
theorem bd_check_start (kV doc pm : Value) (an : Option Addr) (cdv ct : Value) (us : List Value) (hl : us.length = (["start"] : List Str).length) : bindArgs (PySem.W.fnOf "check_start" "check_start" (defArgs s_check_start) (defBody s_check_start) (defScope s_check_start) .none kV doc pm an cdv ct) ⟨us, []⟩ = pure ((["start"] : List Str).zip us) := match us, hl with | [_], _ => rfl
theorem ok_check_start (T : Tx fx fn K mg) (TB : TBs base mg (csOf K tf)) : GD_check_start P w K mg base p := by
  have ok_is_word_ : GD_is_word P w K mg base p := ok_is_word T TB
  obtain ⟨fd_is_word, G_is_word, D_is_word⟩ := ok_is_word_.ex
  refine gd_of (T.says.def_ 23 (d := d_check_start) rfl) sc_check_start rfl rfl fun cdv A outer s H E hr tk => ?_
  exact (ss_one (ss_if (t_not (t_val (s_cal ok_is_word_ (hr.mono (by decide)) tk (T.glo 29) (sa_cons (s_var 0) (sa_cons (s_tup (sa_cons s_str (sa_cons s_str sa_nil))) sa_nil)) bd_is_word)))
    (ss_one ss_never)
    ss_nil))
/-! width -/
theorem sc_Film_width : FnScope ["self"] ["self"] (defScope s_Film_width) := ⟨rfl, rfl, rfl, by decide +kernel, rfl, by decide +kernel, by decide +kernel⟩
abbrev GD_Film_width (P : Program) (w : World) (K : PySem.W.Frag) (mg : Str → Option Value) (base : Heap) (p : PP) : Prop := GD P w K mg base (cl K p) 1 (pgA K "Film" "width") "width" "Film.width" s_Film_width [] ["self"] F_Film_width
theorem bd_Film_width (kV doc pm : Value) (an : Option Addr) (cdv ct : Value) (us : List Value) (hl : us.length = (["self"] : List Str).length) : bindArgs (PySem.W.fnOf "width" "Film.width" (defArgs s_Film_width) (defBody s_Film_width) (defScope s_Film_width) .none kV doc pm an cdv ct) ⟨us, []⟩ = pure ((["self"] : List Str).zip us) := match us, hl with | [_], _ => rfl
theorem b_Film_width {fd : FuncData} (D : FunD K "width" "Film.width" (defArgs s_Film_width) (defBody s_Film_width) (defScope s_Film_width) [] [] (pgA K "Film" "width") fd) : Binds K fd ["self"] [] := D.bindsN bd_Film_width
theorem ok_Film_width (T : Tx fx fn K mg) (TB : TBs base mg (csOf K tf)) : GD_Film_width P w K mg base p := by
  refine gd_of (T.says.def_ 24 (d := d_Film_width) rfl) sc_Film_width rfl rfl fun cdv A outer s H E hr tk => ?_
  exact (ss_one (ss_ret (s_ix (x_ix hr.hu) (s_fld (c := 0) (T.cls 33).cl (T.noat 34) (s_var 0)) s_int)))
/-! height -/
theorem sc_Film_height : FnScope ["self"] ["self"] (defScope s_Film_height) := ⟨rfl, rfl, rfl, by decide +kernel, rfl, by decide +kernel, by decide +kernel⟩
abbrev GD_Film_height (P : Program) (w : World) (K : PySem.W.Frag) (mg : Str → Option Value) (base : Heap) (p : PP) : Prop := GD P w K mg base (cl K p) 1 (pgA K "Film" "height") "height" "Film.height" s_Film_height [] ["self"] F_Film_height
theorem bd_Film_height (kV doc pm : Value) (an : Option Addr) (cdv ct : Value) (us : List Value) (hl : us.length = (["self"] : List Str).length) : bindArgs (PySem.W.fnOf "height" "Film.height" (defArgs s_Film_height) (defBody s_Film_height) (defScope s_Film_height) .none kV doc pm an cdv ct) ⟨us, []⟩ = pure ((["self"] : List Str).zip us) := match us, hl with | [_], _ => rfl
theorem b_Film_height {fd : FuncData} (D : FunD K "height" "Film.height" (defArgs s_Film_height) (defBody s_Film_height) (defScope s_Film_height) [] [] (pgA K "Film" "height") fd) : Binds K fd ["self"] [] := D.bindsN bd_Film_height
theorem ok_Film_height (T : Tx fx fn K mg) (TB : TBs base mg (csOf K tf)) : GD_Film_height P w K mg base p := by
  refine gd_of (T.says.def_ 25 (d := d_Film_height) rfl) sc_Film_height rfl rfl fun cdv A outer s H E hr tk => ?_
  exact (ss_one (ss_ret (s_ix (x_ix hr.hu) (s_fld (c := 0) (T.cls 33).cl (T.noat 34) (s_var 0)) s_int)))
/-! solid -/
theorem sc_Film_solid : FnScope ["self"] ["self"] (defScope s_Film_solid) := ⟨rfl, rfl, rfl, by decide +kernel, rfl, by decide +kernel, by decide +kernel⟩
abbrev GD_Film_solid (P : Program) (w : World) (K : PySem.W.Frag) (mg : Str → Option Value) (base : Heap) (p : PP) : Prop := GD P w K mg base (cl K p) 1 (pgA K "Film" "solid") "solid" "Film.solid" s_Film_solid [] ["self"] F_Film_solid
theorem bd_Film_solid (kV doc pm : Value) (an : Option Addr) (cdv ct : Value) (us : List Value) (hl : us.length = (["self"] : List Str).length) : bindArgs (PySem.W.fnOf "solid" "Film.solid" (defArgs s_Film_solid) (defBody s_Film_solid) (defScope s_Film_solid) .none kV doc pm an cdv ct) ⟨us, []⟩ = pure ((["self"] : List Str).zip us) := match us, hl with | [_], _ => rfl
theorem b_Film_solid {fd : FuncData} (D : FunD K "solid" "Film.solid" (defArgs s_Film_solid) (defBody s_Film_solid) (defScope s_Film_solid) [] [] (pgA K "Film" "solid") fd) : Binds K fd ["self"] [] := D.bindsN bd_Film_solid
theorem ok_Film_solid (T : Tx fx fn K mg) (TB : TBs base mg (csOf K tf)) : GD_Film_solid P w K mg base p := by
  refine gd_of (T.says.def_ 26 (d := d_Film_solid) rfl) sc_Film_solid rfl rfl fun cdv A outer s H E hr tk => ?_
  exact (ss_one (ss_ret (s_ix (x_ix hr.hu) (s_fld (c := 0) (T.cls 33).cl (T.noat 34) (s_var 0)) s_int)))
/-! do_fit -/
theorem sc_do_fit : FnScope ["one", "other"] ["one", "other"] (defScope s_do_fit) := ⟨rfl, rfl, rfl, by decide +kernel, rfl, by decide +kernel, by decide +kernel⟩
abbrev GD_do_fit (P : Program) (w : World) (K : PySem.W.Frag) (mg : Str → Option Value) (base : Heap) (p : PP) : Prop := GD P w K mg base (cl K p) 3 (ga K "do_fit") "do_fit" "do_fit" s_do_fit [] ["one", "other"] F_do_fit
theorem bd_do_fit (kV doc pm : Value) (an : Option Addr) (cdv ct : Value) (us : List Value) (hl : us.length = (["one", "other"] : List Str).length) : bindArgs (PySem.W.fnOf "do_fit" "do_fit" (defArgs s_do_fit) (defBody s_do_fit) (defScope s_do_fit) .none kV doc pm an cdv ct) ⟨us, []⟩ = pure ((["one", "other"] : List Str).zip us) := match us, hl with | [_, _], _ => rfl
theorem ok_do_fit (T : Tx fx fn K mg) (TB : TBs base mg (csOf K tf)) : GD_do_fit P w K mg base p := by
  have ok_Film_width_ : GD_Film_width P w K mg base p := ok_Film_width T TB
  obtain ⟨fd_Film_width, G_Film_width, D_Film_width⟩ := ok_Film_width_.ex
  have ok_Film_height_ : GD_Film_height P w K mg base p := ok_Film_height T TB
  obtain ⟨fd_Film_height, G_Film_height, D_Film_height⟩ := ok_Film_height_.ex
  have ok_Film_solid_ : GD_Film_solid P w K mg base p := ok_Film_solid T TB
  obtain ⟨fd_Film_solid, G_Film_solid, D_Film_solid⟩ := ok_Film_solid_.ex
  refine gd_of (T.says.def_ 27 (d := d_do_fit) rfl) sc_do_fit rfl rfl fun cdv A outer s H E hr tk => ?_
  exact (ss_one (ss_ret (s_cmp (o_eq hr.hu) (s_tup (sa_cons (s_prop (c := 0) (T.cls 33).cl (T.prop 49) G_Film_width (hr.mono (by decide)) (b_Film_width D_Film_width) (s_var 0)) (sa_cons (s_prop (c := 0) (T.cls 33).cl (T.prop 50) G_Film_height (hr.mono (by decide)) (b_Film_height D_Film_height) (s_var 0)) (sa_cons (s_prop (c := 0) (T.cls 33).cl (T.prop 51) G_Film_solid (hr.mono (by decide)) (b_Film_solid D_Film_solid) (s_var 0)) sa_nil)))) (s_tup (sa_cons (s_prop (c := 0) (T.cls 33).cl (T.prop 49) G_Film_width (hr.mono (by decide)) (b_Film_width D_Film_width) (s_var 1)) (sa_cons (s_prop (c := 0) (T.cls 33).cl (T.prop 50) G_Film_height (hr.mono (by decide)) (b_Film_height D_Film_height) (s_var 1)) (sa_cons (s_prop (c := 0) (T.cls 33).cl (T.prop 51) G_Film_solid (hr.mono (by decide)) (b_Film_solid D_Film_solid) (s_var 1)) sa_nil)))))))
/-! check_fit -/
theorem sc_check_fit : FnScope ["one", "other"] ["one", "other"] (defScope s_check_fit) := ⟨rfl, rfl, rfl, by decide +kernel, rfl, by decide +kernel, by decide +kernel⟩
abbrev GD_check_fit (P : Program) (w : World) (K : PySem.W.Frag) (mg : Str → Option Value) (base : Heap) (p : PP) : Prop := GD P w K mg base (cl K p) 4 (ga K "check_fit") "check_fit" "check_fit" s_check_fit [] ["one", "other"] F_check_fit
theorem bd_check_fit (kV doc pm : Value) (an : Option Addr) (cdv ct : Value) (us : List Value) (hl : us.length = (["one", "other"] : List Str).length) : bindArgs (PySem.W.fnOf "check_fit" "check_fit" (defArgs s_check_fit) (defBody s_check_fit) (defScope s_check_fit) .none kV doc pm an cdv ct) ⟨us, []⟩ = pure ((["one", "other"] : List Str).zip us) := match us, hl with | [_, _], _ => rfl
theorem ok_check_fit (T : Tx fx fn K mg) (TB : TBs base mg (csOf K tf)) : GD_check_fit P w K mg base p := by
  have ok_do_fit_ : GD_do_fit P w K mg base p := ok_do_fit T TB
  obtain ⟨fd_do_fit, G_do_fit, D_do_fit⟩ := ok_do_fit_.ex
  refine gd_of (T.says.def_ 28 (d := d_check_fit) rfl) sc_check_fit rfl rfl fun cdv A outer s H E hr tk => ?_
  exact (ss_one (ss_if (t_not (t_val (s_cal ok_do_fit_ (hr.mono (by decide)) tk (T.glo 52) (sa_cons (s_var 0) (sa_cons (s_var 1) sa_nil)) bd_do_fit)))
    (ss_one ss_never)
    ss_nil))
/-! frames -/
theorem sc_Film_frames : FnScope ["self"] ["self"] (defScope s_Film_frames) := ⟨rfl, rfl, rfl, by decide +kernel, rfl, by decide +kernel, by decide +kernel⟩
abbrev GD_Film_frames (P : Program) (w : World) (K : PySem.W.Frag) (mg : Str → Option Value) (base : Heap) (p : PP) : Prop := GD P w K mg base (cl K p) 1 (pgA K "Film" "frames") "frames" "Film.frames" s_Film_frames [] ["self"] F_Film_frames
theorem bd_Film_frames (kV doc pm : Value) (an : Option Addr) (cdv ct : Value) (us : List Value) (hl : us.length = (["self"] : List Str).length) : bindArgs (PySem.W.fnOf "frames" "Film.frames" (defArgs s_Film_frames) (defBody s_Film_frames) (defScope s_Film_frames) .none kV doc pm an cdv ct) ⟨us, []⟩ = pure ((["self"] : List Str).zip us) := match us, hl with | [_], _ => rfl
theorem b_Film_frames {fd : FuncData} (D : FunD K "frames" "Film.frames" (defArgs s_Film_frames) (defBody s_Film_frames) (defScope s_Film_frames) [] [] (pgA K "Film" "frames") fd) : Binds K fd ["self"] [] := D.bindsN bd_Film_frames
theorem ok_Film_frames (T : Tx fx fn K mg) (TB : TBs base mg (csOf K tf)) : GD_Film_frames P w K mg base p := by
  refine gd_of (T.says.def_ 29 (d := d_Film_frames) rfl) sc_Film_frames rfl rfl fun cdv A outer s H E hr tk => ?_
  exact (ss_one (ss_ret (s_ix (x_ix hr.hu) (s_fld (c := 0) (T.cls 33).cl (T.noat 34) (s_var 0)) s_int)))
/-! over -/
theorem sc_over : FnScope ["top", "bottom", "solid", "found", "name"] ["top", "bottom", "solid"] (defScope s_over) := ⟨rfl, rfl, rfl, by decide +kernel, rfl, by decide +kernel, by decide +kernel⟩
abbrev GD_over (P : Program) (w : World) (K : PySem.W.Frag) (mg : Str → Option Value) (base : Heap) (p : PP) : Prop := GD P w K mg base (cl K p) 1 (ga K "over") "over" "over" s_over [] ["top", "bottom", "solid"] F_over
theorem bd_over (kV doc pm : Value) (an : Option Addr) (cdv ct : Value) (us : List Value) (hl : us.length = (["top", "bottom", "solid"] : List Str).length) : bindArgs (PySem.W.fnOf "over" "over" (defArgs s_over) (defBody s_over) (defScope s_over) .none kV doc pm an cdv ct) ⟨us, []⟩ = pure ((["top", "bottom", "solid"] : List Str).zip us) := match us, hl with | [_, _, _], _ => rfl
theorem ok_over (T : Tx fx fn K mg) (TB : TBs base mg (csOf K tf)) : GD_over P w K mg base p := by
  refine gd_of (T.says.def_ 30 (d := d_over) rfl) sc_over rfl rfl fun cdv A outer s H E hr tk => ?_
  exact (ss_cons (ss_set 3 sc_over.nd (s_callTy c_list rfl (T.free 56) rfl (sa_cons (s_var 0) sa_nil)))
    (ss_cons (ss_for (passes_of rfl) rfl (i_seq (s_var 1)) (g_name 4 sc_over.nd)
    (ss_cons (ss_if (t_w (t_and (t_cmp (o_ne hr.hu) (s_var 3) (s_lst sa_nil)) (t_and1 (t_cmp (o_in hr.hu) (s_ix (x_ix hr.hu) (s_var 3) (s_un u_neg s_int)) (s_var 2)))))
    (ss_one ss_break)
    ss_nil)
    (ss_one (ss_if (t_cmp (o_nin hr.hu) (s_var 4) (s_var 3))
    (ss_one (ss_expr (s_append (s_var 3) (s_var 4))))
    ss_nil))))
    (ss_one (ss_ret (s_callTy c_tuple rfl (T.free 6) rfl (sa_cons (s_var 3) sa_nil))))))
/-! laid -/
theorem sc_laid : FnScope ["row", "stand", "solid", "found"] ["row", "stand", "solid"] (defScope s_laid) := ⟨rfl, rfl, rfl, by decide +kernel, rfl, by decide +kernel, by decide +kernel⟩
abbrev GD_laid (P : Program) (w : World) (K : PySem.W.Frag) (mg : Str → Option Value) (base : Heap) (p : PP) : Prop := GD P w K mg base (cl K p) 2 (ga K "laid") "laid" "laid" s_laid [] ["row", "stand", "solid"] F_laid
theorem bd_laid (kV doc pm : Value) (an : Option Addr) (cdv ct : Value) (us : List Value) (hl : us.length = (["row", "stand", "solid"] : List Str).length) : bindArgs (PySem.W.fnOf "laid" "laid" (defArgs s_laid) (defBody s_laid) (defScope s_laid) .none kV doc pm an cdv ct) ⟨us, []⟩ = pure ((["row", "stand", "solid"] : List Str).zip us) := match us, hl with | [_, _, _], _ => rfl
theorem ok_laid (T : Tx fx fn K mg) (TB : TBs base mg (csOf K tf)) : GD_laid P w K mg base p := by
  have ok_over_ : GD_over P w K mg base p := ok_over T TB
  obtain ⟨fd_over, G_over, D_over⟩ := ok_over_.ex
  refine gd_of (T.says.def_ 31 (d := d_laid) rfl) sc_laid rfl rfl fun cdv A outer s H E hr tk => ?_
  exact (ss_cons (ss_set 3 sc_laid.nd (s_cal ok_over_ (hr.mono (by decide)) tk (T.glo 57) (sa_cons (s_var 0) (sa_cons (s_ix (x_ix hr.hu) (s_var 1) s_int) (sa_cons (s_var 2) sa_nil))) bd_over))
    (ss_one (ss_ret (s_tup (sa_cons (s_var 3) (sa_cons (s_or (s_ix (x_ix hr.hu) (s_var 1) s_int) (s_one (s_and (s_cmp (o_ne hr.hu) (s_var 3) (s_tup sa_nil)) (s_one (s_cmp (o_in hr.hu) (s_ix (x_ix hr.hu) (s_var 3) (s_un u_neg s_int)) (s_var 2)))))) sa_nil))))))
/-! played_fate -/
theorem sc_played_fate : FnScope ["player", "fate"] ["player", "fate"] (defScope s_played_fate) := ⟨rfl, rfl, rfl, by decide +kernel, rfl, by decide +kernel, by decide +kernel⟩
abbrev GD_played_fate (P : Program) (w : World) (K : PySem.W.Frag) (mg : Str → Option Value) (base : Heap) (p : PP) : Prop := GD P w K mg base (cl K p) 1 (ga K "played_fate") "played_fate" "played_fate" s_played_fate [] ["player", "fate"] F_played_fate
theorem bd_played_fate (kV doc pm : Value) (an : Option Addr) (cdv ct : Value) (us : List Value) (hl : us.length = (["player", "fate"] : List Str).length) : bindArgs (PySem.W.fnOf "played_fate" "played_fate" (defArgs s_played_fate) (defBody s_played_fate) (defScope s_played_fate) .none kV doc pm an cdv ct) ⟨us, []⟩ = pure ((["player", "fate"] : List Str).zip us) := match us, hl with | [_, _], _ => rfl
theorem ok_played_fate (T : Tx fx fn K mg) (TB : TBs base mg (csOf K tf)) : GD_played_fate P w K mg base p := by
  refine gd_of (T.says.def_ 32 (d := d_played_fate) rfl) sc_played_fate rfl rfl fun cdv A outer s H E hr tk => ?_
  exact (ss_cons (ss_if (t_w (t_and (t_cmp (o_eq hr.hu) (s_var 1) s_str) (t_and1 (t_cmp (o_in hr.hu) (s_var 0) (s_tup (sa_cons s_str (sa_cons s_str sa_nil)))))))
    (ss_one (ss_ret (s_if (t_cmp (o_eq hr.hu) (s_var 0) s_str) s_str s_str)))
    ss_nil)
    (ss_one (ss_ret (s_var 1))))
/-! played -/
theorem sc_played : FnScope ["film", "covers", "player", "stand", "seen_there", "covered", "picture", "part", "fate", "shown"] ["film", "covers", "player", "stand"] (defScope s_played) := ⟨rfl, rfl, rfl, by decide +kernel, rfl, by decide +kernel, by decide +kernel⟩
abbrev GD_played (P : Program) (w : World) (K : PySem.W.Frag) (mg : Str → Option Value) (base : Heap) (p : PP) : Prop := GD P w K mg base (cl K p) 3 (ga K "played") "played" "played" s_played [] ["film", "covers", "player", "stand"] F_played
theorem bd_played (kV doc pm : Value) (an : Option Addr) (cdv ct : Value) (us : List Value) (hl : us.length = (["film", "covers", "player", "stand"] : List Str).length) : bindArgs (PySem.W.fnOf "played" "played" (defArgs s_played) (defBody s_played) (defScope s_played) .none kV doc pm an cdv ct) ⟨us, []⟩ = pure ((["film", "covers", "player", "stand"] : List Str).zip us) := match us, hl with | [_, _, _, _], _ => rfl
theorem ok_played (T : Tx fx fn K mg) (TB : TBs base mg (csOf K tf)) : GD_played P w K mg base p := by
  have ok_Film_frames_ : GD_Film_frames P w K mg base p := ok_Film_frames T TB
  obtain ⟨fd_Film_frames, G_Film_frames, D_Film_frames⟩ := ok_Film_frames_.ex
  have ok_laid_ : GD_laid P w K mg base p := ok_laid T TB
  obtain ⟨fd_laid, G_laid, D_laid⟩ := ok_laid_.ex
  have ok_Film_solid_ : GD_Film_solid P w K mg base p := ok_Film_solid T TB
  obtain ⟨fd_Film_solid, G_Film_solid, D_Film_solid⟩ := ok_Film_solid_.ex
  have ok_played_fate_ : GD_played_fate P w K mg base p := ok_played_fate T TB
  obtain ⟨fd_played_fate, G_played_fate, D_played_fate⟩ := ok_played_fate_.ex
  refine gd_of (T.says.def_ 33 (d := d_played) rfl) sc_played rfl rfl fun cdv A outer s H E hr tk => ?_
  exact (ss_cons (ss_set 4 sc_played.nd (s_lst sa_nil))
    (ss_cons (ss_for (passes_of rfl) rfl (i_zip (T.free 55) (sa_cons (s_var 1) (sa_cons (s_prop (c := 0) (T.cls 33).cl (T.prop 54) G_Film_frames (hr.mono (by decide)) (b_Film_frames D_Film_frames) (s_var 0)) sa_nil))) (g_tup rfl (g_cons (g_name 5 sc_played.nd) (g_cons (g_tup rfl (g_cons (g_name 6 sc_played.nd) (g_cons (g_name 7 sc_played.nd) (g_cons (g_name 8 sc_played.nd) g_nil)))) g_nil)))
    (ss_cons (ss_set 9 sc_played.nd (s_if (t_val (s_var 5)) (s_cal ok_laid_ (hr.mono (by decide)) tk (T.glo 58) (sa_cons (s_tup (sa_cons (s_var 6) sa_nil)) (sa_cons (s_var 3) (sa_cons (s_prop (c := 0) (T.cls 33).cl (T.prop 51) G_Film_solid (hr.mono (by decide)) (b_Film_solid D_Film_solid) (s_var 0)) sa_nil))) bd_laid) (s_var 3)))
    (ss_cons (ss_expr (s_append (s_var 4) (s_var 9)))
    (ss_cons (ss_set 8 sc_played.nd (s_cal ok_played_fate_ (hr.mono (by decide)) tk (T.glo 59) (sa_cons (s_var 2) (sa_cons (s_var 8) sa_nil)) bd_played_fate))
    (ss_one (ss_if (t_w (t_and (t_cmp (o_eq hr.hu) (s_var 8) s_str) (t_and1 (t_w (t_or (t_val (s_var 5)) (t_or1 (t_cmp (o_eq hr.hu) (s_var 2) s_str)))))))
    (ss_one (ss_set 3 sc_played.nd (s_dat (T.dat 60))))
    (ss_one (ss_if (t_cmp (o_ne hr.hu) (s_var 8) s_str)
    (ss_one (ss_set 3 sc_played.nd (s_var 9)))
    ss_nil))))))))
    (ss_one (ss_ret (s_tup (sa_cons (s_var 4) (sa_cons (s_var 3) sa_nil)))))))
/-! parts_in -/
theorem sc_parts_in : FnScope ["film", "picture", "part", "fate"] ["film"] (defScope s_parts_in) := ⟨rfl, rfl, rfl, by decide +kernel, rfl, by decide +kernel, by decide +kernel⟩
abbrev GD_parts_in (P : Program) (w : World) (K : PySem.W.Frag) (mg : Str → Option Value) (base : Heap) (p : PP) : Prop := GD P w K mg base (cl K p) 3 (ga K "parts_in") "parts_in" "parts_in" s_parts_in [] ["film"] F_parts_in
theorem bd_parts_in (kV doc pm : Value) (an : Option Addr) (cdv ct : Value) (us : List Value) (hl : us.length = (["film"] : List Str).length) : bindArgs (PySem.W.fnOf "parts_in" "parts_in" (defArgs s_parts_in) (defBody s_parts_in) (defScope s_parts_in) .none kV doc pm an cdv ct) ⟨us, []⟩ = pure ((["film"] : List Str).zip us) := match us, hl with | [_], _ => rfl
theorem ok_parts_in (T : Tx fx fn K mg) (TB : TBs base mg (csOf K tf)) : GD_parts_in P w K mg base p := by
  have ok_Film_frames_ : GD_Film_frames P w K mg base p := ok_Film_frames T TB
  obtain ⟨fd_Film_frames, G_Film_frames, D_Film_frames⟩ := ok_Film_frames_.ex
  refine gd_of (T.says.def_ 34 (d := d_parts_in) rfl) sc_parts_in rfl rfl fun cdv A outer s H E hr tk => ?_
  exact (ss_one (ss_ret (s_lc [("picture", 1), ("part", 2), ("fate", 3)] rfl sc_parts_in.nd (i_seq (s_prop (c := 0) (T.cls 33).cl (T.prop 54) G_Film_frames (hr.mono (by decide)) (b_Film_frames D_Film_frames) (s_var 0))) (blkOk_by (N := ["film", "picture", "part", "fate"]) (sc := defScope s_parts_in) (own := [("picture", 1), ("part", 2), ("fate", 3)]) (by decide +kernel)) (fun _ _ _ _ _ => (g_tup rfl (g_cons (g_name 1 sc_parts_in.nd) (g_cons (g_name 2 sc_parts_in.nd) (g_cons (g_name 3 sc_parts_in.nd) g_nil))))) (fun _ _ _ _ _ => ts_nil) (fun _ _ _ _ _ => (s_var 2)))))
/-! holds -/
theorem sc_holds : FnScope ["part", "spot"] ["part", "spot"] (defScope s_holds) := ⟨rfl, rfl, rfl, by decide +kernel, rfl, by decide +kernel, by decide +kernel⟩
abbrev GD_holds (P : Program) (w : World) (K : PySem.W.Frag) (mg : Str → Option Value) (base : Heap) (p : PP) : Prop := GD P w K mg base (cl K p) 1 (ga K "holds") "holds" "holds" s_holds [] ["part", "spot"] F_holds
theorem bd_holds (kV doc pm : Value) (an : Option Addr) (cdv ct : Value) (us : List Value) (hl : us.length = (["part", "spot"] : List Str).length) : bindArgs (PySem.W.fnOf "holds" "holds" (defArgs s_holds) (defBody s_holds) (defScope s_holds) .none kV doc pm an cdv ct) ⟨us, []⟩ = pure ((["part", "spot"] : List Str).zip us) := match us, hl with | [_, _], _ => rfl
theorem ok_holds (T : Tx fx fn K mg) (TB : TBs base mg (csOf K tf)) : GD_holds P w K mg base p := by
  refine gd_of (T.says.def_ 35 (d := d_holds) rfl) sc_holds rfl rfl fun cdv A outer s H E hr tk => ?_
  exact (ss_one (ss_ret (s_and (s_cmp o_notN (s_var 0) s_non) (s_and (s_chain o_le o_lt (s_ix (x_ix hr.hu) (s_var 0) s_int) (s_ix (x_ix hr.hu) (s_var 1) s_int) (s_ix (x_ix hr.hu) (s_var 0) s_int)) (s_one (s_chain o_le o_lt (s_ix (x_ix hr.hu) (s_var 0) s_int) (s_ix (x_ix hr.hu) (s_var 1) s_int) (s_ix (x_ix hr.hu) (s_var 0) s_int)))))))
/-! covers_at -/
theorem sc_covers_at : FnScope ["film", "spot", "part"] ["film", "spot"] (defScope s_covers_at) := ⟨rfl, rfl, rfl, by decide +kernel, rfl, by decide +kernel, by decide +kernel⟩
abbrev GD_covers_at (P : Program) (w : World) (K : PySem.W.Frag) (mg : Str → Option Value) (base : Heap) (p : PP) : Prop := GD P w K mg base (cl K p) 4 (ga K "covers_at") "covers_at" "covers_at" s_covers_at [] ["film", "spot"] F_covers_at
theorem bd_covers_at (kV doc pm : Value) (an : Option Addr) (cdv ct : Value) (us : List Value) (hl : us.length = (["film", "spot"] : List Str).length) : bindArgs (PySem.W.fnOf "covers_at" "covers_at" (defArgs s_covers_at) (defBody s_covers_at) (defScope s_covers_at) .none kV doc pm an cdv ct) ⟨us, []⟩ = pure ((["film", "spot"] : List Str).zip us) := match us, hl with | [_, _], _ => rfl
theorem ok_covers_at (T : Tx fx fn K mg) (TB : TBs base mg (csOf K tf)) : GD_covers_at P w K mg base p := by
  have ok_parts_in_ : GD_parts_in P w K mg base p := ok_parts_in T TB
  obtain ⟨fd_parts_in, G_parts_in, D_parts_in⟩ := ok_parts_in_.ex
  have ok_holds_ : GD_holds P w K mg base p := ok_holds T TB
  obtain ⟨fd_holds, G_holds, D_holds⟩ := ok_holds_.ex
  refine gd_of (T.says.def_ 36 (d := d_covers_at) rfl) sc_covers_at rfl rfl fun cdv A outer s H E hr tk => ?_
  exact (ss_one (ss_ret (s_lc [("part", 2)] rfl sc_covers_at.nd (i_seq (s_cal ok_parts_in_ (hr.mono (by decide)) tk (T.glo 61) (sa_cons (s_var 0) sa_nil) bd_parts_in)) (blkOk_by (N := ["film", "spot", "part"]) (sc := defScope s_covers_at) (own := [("part", 2)]) (by decide +kernel)) (fun _ _ _ _ _ => (g_name 2 sc_covers_at.nd)) (fun _ _ _ _ _ => ts_nil) (fun _ _ _ _ _ => (s_cal ok_holds_ (hr.mono (by decide)) takes0 (T.glo 62) (sa_cons (s_var 2) (sa_cons (s_var 1) sa_nil)) bd_holds)))))
/-! unlike_beats -/
theorem sc_unlike_beats : FnScope ["shown", "other", "beat", "pair"] ["shown", "other"] (defScope s_unlike_beats) := ⟨rfl, rfl, rfl, by decide +kernel, rfl, by decide +kernel, by decide +kernel⟩
abbrev GD_unlike_beats (P : Program) (w : World) (K : PySem.W.Frag) (mg : Str → Option Value) (base : Heap) (p : PP) : Prop := GD P w K mg base (cl K p) 1 (ga K "unlike_beats") "unlike_beats" "unlike_beats" s_unlike_beats [] ["shown", "other"] F_unlike_beats
theorem bd_unlike_beats (kV doc pm : Value) (an : Option Addr) (cdv ct : Value) (us : List Value) (hl : us.length = (["shown", "other"] : List Str).length) : bindArgs (PySem.W.fnOf "unlike_beats" "unlike_beats" (defArgs s_unlike_beats) (defBody s_unlike_beats) (defScope s_unlike_beats) .none kV doc pm an cdv ct) ⟨us, []⟩ = pure ((["shown", "other"] : List Str).zip us) := match us, hl with | [_, _], _ => rfl
theorem ok_unlike_beats (T : Tx fx fn K mg) (TB : TBs base mg (csOf K tf)) : GD_unlike_beats P w K mg base p := by
  refine gd_of (T.says.def_ 37 (d := d_unlike_beats) rfl) sc_unlike_beats rfl rfl fun cdv A outer s H E hr tk => ?_
  exact (ss_one (ss_ret (s_lc [("beat", 2), ("pair", 3)] rfl sc_unlike_beats.nd (i_enumZ (T.free 18) (T.free 55) (sa_cons (s_var 0) (sa_cons (s_var 1) sa_nil))) (blkOk_by (N := ["shown", "other", "beat", "pair"]) (sc := defScope s_unlike_beats) (own := [("beat", 2), ("pair", 3)]) (by decide +kernel)) (fun _ _ _ _ _ => (g_tup rfl (g_cons (g_name 2 sc_unlike_beats.nd) (g_cons (g_name 3 sc_unlike_beats.nd) g_nil)))) (fun _ _ _ _ _ => (ts_one (t_cmp (o_ne hr.hu) (s_ix (x_ix hr.hu) (s_var 3) s_int) (s_ix (x_ix hr.hu) (s_var 3) s_int)))) (fun _ _ _ _ _ => (s_var 2)))))
/-! borders_of -/
theorem sc_borders_of : FnScope ["width", "height", "parts", "across", "down", "part"] ["width", "height", "parts"] (defScope s_borders_of) := ⟨rfl, rfl, rfl, by decide +kernel, rfl, by decide +kernel, by decide +kernel⟩
abbrev GD_borders_of (P : Program) (w : World) (K : PySem.W.Frag) (mg : Str → Option Value) (base : Heap) (p : PP) : Prop := GD P w K mg base (cl K p) 1 (ga K "borders_of") "borders_of" "borders_of" s_borders_of [] ["width", "height", "parts"] F_borders_of
theorem bd_borders_of (kV doc pm : Value) (an : Option Addr) (cdv ct : Value) (us : List Value) (hl : us.length = (["width", "height", "parts"] : List Str).length) : bindArgs (PySem.W.fnOf "borders_of" "borders_of" (defArgs s_borders_of) (defBody s_borders_of) (defScope s_borders_of) .none kV doc pm an cdv ct) ⟨us, []⟩ = pure ((["width", "height", "parts"] : List Str).zip us) := match us, hl with | [_, _, _], _ => rfl
theorem ok_borders_of (T : Tx fx fn K mg) (TB : TBs base mg (csOf K tf)) : GD_borders_of P w K mg base p := by
  refine gd_of (T.says.def_ 38 (d := d_borders_of) rfl) sc_borders_of rfl rfl fun cdv A outer s H E hr tk => ?_
  exact (ss_cons (ss_set 3 sc_borders_of.nd (s_op o_add (s_op o_add (s_lst (sa_cons s_int (sa_cons (s_var 0) sa_nil))) (s_lc [("part", 5)] rfl sc_borders_of.nd (i_seq (s_var 2)) (blkOk_by (N := ["width", "height", "parts", "across", "down", "part"]) (sc := defScope s_borders_of) (own := [("part", 5)]) (by decide +kernel)) (fun _ _ _ _ _ => (g_name 5 sc_borders_of.nd)) (fun _ _ _ _ _ => ts_nil) (fun _ _ _ _ _ => (s_ix (x_ix hr.hu) (s_var 5) s_int)))) (s_lc [("part", 5)] rfl sc_borders_of.nd (i_seq (s_var 2)) (blkOk_by (N := ["width", "height", "parts", "across", "down", "part"]) (sc := defScope s_borders_of) (own := [("part", 5)]) (by decide +kernel)) (fun _ _ _ _ _ => (g_name 5 sc_borders_of.nd)) (fun _ _ _ _ _ => ts_nil) (fun _ _ _ _ _ => (s_ix (x_ix hr.hu) (s_var 5) s_int)))))
    (ss_cons (ss_set 4 sc_borders_of.nd (s_op o_add (s_op o_add (s_lst (sa_cons s_int (sa_cons (s_var 1) sa_nil))) (s_lc [("part", 5)] rfl sc_borders_of.nd (i_seq (s_var 2)) (blkOk_by (N := ["width", "height", "parts", "across", "down", "part"]) (sc := defScope s_borders_of) (own := [("part", 5)]) (by decide +kernel)) (fun _ _ _ _ _ => (g_name 5 sc_borders_of.nd)) (fun _ _ _ _ _ => ts_nil) (fun _ _ _ _ _ => (s_ix (x_ix hr.hu) (s_var 5) s_int)))) (s_lc [("part", 5)] rfl sc_borders_of.nd (i_seq (s_var 2)) (blkOk_by (N := ["width", "height", "parts", "across", "down", "part"]) (sc := defScope s_borders_of) (own := [("part", 5)]) (by decide +kernel)) (fun _ _ _ _ _ => (g_name 5 sc_borders_of.nd)) (fun _ _ _ _ _ => ts_nil) (fun _ _ _ _ _ => (s_ix (x_ix hr.hu) (s_var 5) s_int)))))
    (ss_one (ss_ret (s_tup (sa_cons (s_callTy c_tuple rfl (T.free 6) rfl (sa_cons (s_sortSet rfl (s_var 3) (T.free 66) (T.free 67)) sa_nil)) (sa_cons (s_callTy c_tuple rfl (T.free 6) rfl (sa_cons (s_sortSet rfl (s_var 4) (T.free 66) (T.free 67)) sa_nil)) sa_nil)))))))
/-! cells_of -/
theorem sc_cells_of : FnScope ["width", "height", "parts", "across", "down", "found", "top", "bottom", "left", "right"] ["width", "height", "parts"] (defScope s_cells_of) := ⟨rfl, rfl, rfl, by decide +kernel, rfl, by decide +kernel, by decide +kernel⟩
abbrev GD_cells_of (P : Program) (w : World) (K : PySem.W.Frag) (mg : Str → Option Value) (base : Heap) (p : PP) : Prop := GD P w K mg base (cl K p) 2 (ga K "cells_of") "cells_of" "cells_of" s_cells_of [] ["width", "height", "parts"] F_cells_of
theorem bd_cells_of (kV doc pm : Value) (an : Option Addr) (cdv ct : Value) (us : List Value) (hl : us.length = (["width", "height", "parts"] : List Str).length) : bindArgs (PySem.W.fnOf "cells_of" "cells_of" (defArgs s_cells_of) (defBody s_cells_of) (defScope s_cells_of) .none kV doc pm an cdv ct) ⟨us, []⟩ = pure ((["width", "height", "parts"] : List Str).zip us) := match us, hl with | [_, _, _], _ => rfl
theorem ok_cells_of (T : Tx fx fn K mg) (TB : TBs base mg (csOf K tf)) : GD_cells_of P w K mg base p := by
  have ok_borders_of_ : GD_borders_of P w K mg base p := ok_borders_of T TB
  obtain ⟨fd_borders_of, G_borders_of, D_borders_of⟩ := ok_borders_of_.ex
  refine gd_of (T.says.def_ 39 (d := d_cells_of) rfl) sc_cells_of rfl rfl fun cdv A outer s H E hr tk => ?_
  exact (ss_cons (ss_asg (s_cal ok_borders_of_ (hr.mono (by decide)) tk (T.glo 68) (sa_cons (s_var 0) (sa_cons (s_var 1) (sa_cons (s_var 2) sa_nil))) bd_borders_of) (g_tup rfl (g_cons (g_name 3 sc_cells_of.nd) (g_cons (g_name 4 sc_cells_of.nd) g_nil))))
    (ss_cons (ss_set 5 sc_cells_of.nd (s_lst sa_nil))
    (ss_cons (ss_for (passes_of rfl) rfl (i_zip (T.free 55) (sa_cons (s_var 4) (sa_cons (s_sl (s_var 4) (so_some s_int) so_none) sa_nil))) (g_tup rfl (g_cons (g_name 6 sc_cells_of.nd) (g_cons (g_name 7 sc_cells_of.nd) g_nil)))
    (ss_one (ss_for (passes_of rfl) rfl (i_zip (T.free 55) (sa_cons (s_var 3) (sa_cons (s_sl (s_var 3) (so_some s_int) so_none) sa_nil))) (g_tup rfl (g_cons (g_name 8 sc_cells_of.nd) (g_cons (g_name 9 sc_cells_of.nd) g_nil)))
    (ss_one (ss_expr (s_append (s_var 5) (s_tup (sa_cons (s_var 8) (sa_cons (s_var 6) (sa_cons (s_var 9) (sa_cons (s_var 7) sa_nil)))))))))))
    (ss_one (ss_ret (s_var 5))))))
/-! first_pair -/
theorem sc_first_pair : FnScope ["spots", "beat", "spot"] ["spots"] (defScope s_first_pair) := ⟨rfl, rfl, rfl, by decide +kernel, rfl, by decide +kernel, by decide +kernel⟩
abbrev GD_first_pair (P : Program) (w : World) (K : PySem.W.Frag) (mg : Str → Option Value) (base : Heap) (p : PP) : Prop := GD P w K mg base (cl K p) 1 (ga K "first_pair") "first_pair" "first_pair" s_first_pair [] ["spots"] F_first_pair
theorem bd_first_pair (kV doc pm : Value) (an : Option Addr) (cdv ct : Value) (us : List Value) (hl : us.length = (["spots"] : List Str).length) : bindArgs (PySem.W.fnOf "first_pair" "first_pair" (defArgs s_first_pair) (defBody s_first_pair) (defScope s_first_pair) .none kV doc pm an cdv ct) ⟨us, []⟩ = pure ((["spots"] : List Str).zip us) := match us, hl with | [_], _ => rfl
theorem ok_first_pair (T : Tx fx fn K mg) (TB : TBs base mg (csOf K tf)) : GD_first_pair P w K mg base p := by
  refine gd_of (T.says.def_ 40 (d := d_first_pair) rfl) sc_first_pair rfl rfl fun cdv A outer s H E hr tk => ?_
  exact (ss_cons (ss_for (passes_of rfl) rfl (i_enum (T.free 18) (sa_cons (s_var 0) sa_nil)) (g_tup rfl (g_cons (g_name 1 sc_first_pair.nd) (g_cons (g_name 2 sc_first_pair.nd) g_nil)))
    (ss_one (ss_if (t_cmp o_notN (s_var 2) s_non)
    (ss_one (ss_ret (s_tup (sa_cons (s_var 1) (sa_cons (s_var 2) sa_nil)))))
    ss_nil)))
    (ss_one (ss_ret s_non)))
/-! first_spots -/
theorem sc_first_spots : FnScope ["cells", "beats", "differ", "found", "left", "top", "right", "bottom", "beat"] ["cells", "beats", "differ"] (defScope s_first_spots) := ⟨rfl, rfl, rfl, by decide +kernel, rfl, by decide +kernel, by decide +kernel⟩
abbrev GD_first_spots (P : Program) (w : World) (K : PySem.W.Frag) (mg : Str → Option Value) (base : Heap) (p : PP) : Prop := GH P w K mg base (clA K) (tabs K) 6 5 (ga K "first_spots") "first_spots" "first_spots" s_first_spots ["cells", "beats", "differ"] 1 F_first_spots
theorem bd_first_spots (kV doc pm : Value) (an : Option Addr) (cdv ct : Value) (us : List Value) (hl : us.length = (["cells", "beats", "differ"] : List Str).length) : bindArgs (PySem.W.fnOf "first_spots" "first_spots" (defArgs s_first_spots) (defBody s_first_spots) (defScope s_first_spots) .none kV doc pm an cdv ct) ⟨us, []⟩ = pure ((["cells", "beats", "differ"] : List Str).zip us) := match us, hl with | [_, _, _], _ => rfl
theorem ok_first_spots (T : Tx fx fn K mg) (TB : TBs base mg (csOf K tf)) : GD_first_spots P w K mg base p := by
  refine gh_of (T.says.def_ 41 (d := d_first_spots) rfl) sc_first_spots rfl rfl fun p hf hF cdv A outer s H E C hr tk => ?_
  exact (ss_cons (ss_set 3 sc_first_spots.nd (s_op o_mul (s_lst (sa_cons s_non sa_nil)) (s_var 1)))
    (ss_cons (ss_for (passes_of rfl) rfl (i_seq (s_var 0)) (g_tup rfl (g_cons (g_name 4 sc_first_spots.nd) (g_cons (g_name 5 sc_first_spots.nd) (g_cons (g_name 6 sc_first_spots.nd) (g_cons (g_name 7 sc_first_spots.nd) g_nil)))))
    (ss_one (ss_for (passes_of rfl) rfl (i_seq (s_callC (i := 2) C (hr.mono (by decide)) tk (sa_cons (s_tup (sa_cons (s_var 4) (sa_cons (s_var 5) sa_nil))) sa_nil))) (g_name 8 sc_first_spots.nd)
    (ss_one (ss_if (t_cmp o_isN (s_ix (x_ix hr.hu) (s_var 3) (s_var 8)) s_non)
    (ss_one (ss_sub hr.hu (s_tup (sa_cons (s_var 4) (sa_cons (s_var 5) sa_nil))) (s_var 3) (s_var 8)))
    ss_nil)))))
    (ss_one (ss_ret (s_var 3)))))
/-! __len__ -/
theorem sc_Film_len : FnScope ["self"] ["self"] (defScope s_Film_len) := ⟨rfl, rfl, rfl, by decide +kernel, rfl, by decide +kernel, by decide +kernel⟩
abbrev GD_Film_len (P : Program) (w : World) (K : PySem.W.Frag) (mg : Str → Option Value) (base : Heap) (p : PP) : Prop := GD P w K mg base (cl K p) 3 (ma K (ga K "Film") "__len__") "__len__" "Film.__len__" s_Film_len [] ["self"] F_Film_len
theorem bd_Film_len (kV doc pm : Value) (an : Option Addr) (cdv ct : Value) (us : List Value) (hl : us.length = (["self"] : List Str).length) : bindArgs (PySem.W.fnOf "__len__" "Film.__len__" (defArgs s_Film_len) (defBody s_Film_len) (defScope s_Film_len) .none kV doc pm an cdv ct) ⟨us, []⟩ = pure ((["self"] : List Str).zip us) := match us, hl with | [_], _ => rfl
theorem b_Film_len {fd : FuncData} (D : FunD K "__len__" "Film.__len__" (defArgs s_Film_len) (defBody s_Film_len) (defScope s_Film_len) [] [] (ma K (ga K "Film") "__len__") fd) : Binds K fd ["self"] [] := D.bindsN bd_Film_len
theorem ok_Film_len (T : Tx fx fn K mg) (TB : TBs base mg (csOf K tf)) : GD_Film_len P w K mg base p := by
  have ok_Film_frames_ : GD_Film_frames P w K mg base p := ok_Film_frames T TB
  obtain ⟨fd_Film_frames, G_Film_frames, D_Film_frames⟩ := ok_Film_frames_.ex
  refine gd_of (T.says.def_ 42 (d := d_Film_len) rfl) sc_Film_len rfl rfl fun cdv A outer s H E hr tk => ?_
  exact (ss_one (ss_ret (s_callB c_len rfl (T.free 0) rfl (sa_cons (s_prop (c := 0) (T.cls 33).cl (T.prop 54) G_Film_frames (hr.mono (by decide)) (b_Film_frames D_Film_frames) (s_var 0)) sa_nil))))
/-! first_unlike -/
theorem sc_first_unlike : FnScope ["one", "other", "player", "second", "stand", "differ", "cells", "found"] ["one", "other", "player", "second", "stand"] (defScope s_first_unlike) := ⟨rfl, rfl, rfl, by decide +kernel, rfl, by decide +kernel, by decide +kernel⟩
abbrev GD_first_unlike (P : Program) (w : World) (K : PySem.W.Frag) (mg : Str → Option Value) (base : Heap) (p : PP) : Prop := GD P w K mg base (cl K p) 7 (ga K "first_unlike") "first_unlike" "first_unlike" s_first_unlike [] ["one", "other", "player", "second", "stand"] F_first_unlike
theorem bd_first_unlike (kV doc pm : Value) (an : Option Addr) (cdv ct : Value) (us : List Value) (hl : us.length = (["one", "other", "player", "second", "stand"] : List Str).length) : bindArgs (PySem.W.fnOf "first_unlike" "first_unlike" (defArgs s_first_unlike) (defBody s_first_unlike) (defScope s_first_unlike) .none kV doc pm an cdv ct) ⟨us, []⟩ = pure ((["one", "other", "player", "second", "stand"] : List Str).zip us) := match us, hl with | [_, _, _, _, _], _ => rfl
abbrev s_first_unlike_differ : Stmt := (defBody s_first_unlike).getD 0 (.Pass ⟨0, 0, 0, 0⟩)
theorem sc_first_unlike_differ : NScope ["spot", "one", "other", "player", "second", "stand", "shown"] ["spot"] ["one", "other", "player", "second", "stand"] (C8.fnScope s_first_unlike_differ) := nscope_by (by decide +kernel)
theorem hfree_first_unlike_differ : ∀ y ∈ (C8.fnScope s_first_unlike_differ).names, y.2 = .free → (defScope s_first_unlike).names.lookup y.1 = some .cell ∨ (defScope s_first_unlike).names.lookup y.1 = some .free := by decide +kernel
theorem hfr_first_unlike_differ : ∀ y ∈ (["one", "other", "player", "second", "stand"] : List Str), (y, NameKind.free) ∈ (C8.fnScope s_first_unlike_differ).names := by decide +kernel
theorem nf_first_unlike_differ (T : Tx fx fn K mg) (TB : TBs base mg (csOf K tf)) (hf : Addr) (ql : Str) (cells : List (Str × Addr)) (c1 : Addr) : NfS P w K mg base (clA K) (tabs K) 5 hf (NF.of s_first_unlike_differ "differ" ql cells c1) ["spot"] ["one", "other", "player", "second", "stand"] F_first_unlike_differ := by
  refine nfs_of (N := ["spot", "one", "other", "player", "second", "stand", "shown"]) sc_first_unlike_differ (fun doc pm ctv us hl => match us, hl with | [_], _ => rfl) rfl rfl fun p A outer s H E hr tk => ?_
  have ok_played_ : GD_played P w K mg base p := ok_played T TB
  obtain ⟨fd_played, G_played, D_played⟩ := ok_played_.ex
  have ok_covers_at_ : GD_covers_at P w K mg base p := ok_covers_at T TB
  obtain ⟨fd_covers_at, G_covers_at, D_covers_at⟩ := ok_covers_at_.ex
  have ok_unlike_beats_ : GD_unlike_beats P w K mg base p := ok_unlike_beats T TB
  obtain ⟨fd_unlike_beats, G_unlike_beats, D_unlike_beats⟩ := ok_unlike_beats_.ex
  exact (ss_cons (ss_set 6 sc_first_unlike_differ.nd (s_ix (x_ix hr.hu) (s_cal ok_played_ (hr.mono (by decide)) tk (T.glo 64) (sa_cons (s_var 1) (sa_cons (s_cal ok_covers_at_ (hr.mono (by decide)) tk (T.glo 63) (sa_cons (s_var 1) (sa_cons (s_var 0) sa_nil)) bd_covers_at) (sa_cons (s_var 3) (sa_cons (s_var 5) sa_nil)))) bd_played) s_int))
    (ss_one (ss_ret (s_cal ok_unlike_beats_ (hr.mono (by decide)) tk (T.glo 65) (sa_cons (s_var 6) (sa_cons (s_ix (x_ix hr.hu) (s_cal ok_played_ (hr.mono (by decide)) tk (T.glo 64) (sa_cons (s_var 2) (sa_cons (s_cal ok_covers_at_ (hr.mono (by decide)) tk (T.glo 63) (sa_cons (s_var 2) (sa_cons (s_var 0) sa_nil)) bd_covers_at) (sa_cons (s_var 4) (sa_cons (s_var 5) sa_nil)))) bd_played) s_int) sa_nil)) bd_unlike_beats))))
theorem ok_first_unlike (T : Tx fx fn K mg) (TB : TBs base mg (csOf K tf)) : GD_first_unlike P w K mg base p := by
  have ok_cells_of_ : GD_cells_of P w K mg base p := ok_cells_of T TB
  obtain ⟨fd_cells_of, G_cells_of, D_cells_of⟩ := ok_cells_of_.ex
  have ok_Film_width_ : GD_Film_width P w K mg base p := ok_Film_width T TB
  obtain ⟨fd_Film_width, G_Film_width, D_Film_width⟩ := ok_Film_width_.ex
  have ok_Film_height_ : GD_Film_height P w K mg base p := ok_Film_height T TB
  obtain ⟨fd_Film_height, G_Film_height, D_Film_height⟩ := ok_Film_height_.ex
  have ok_parts_in_ : GD_parts_in P w K mg base p := ok_parts_in T TB
  obtain ⟨fd_parts_in, G_parts_in, D_parts_in⟩ := ok_parts_in_.ex
  have ok_first_pair_ : GD_first_pair P w K mg base p := ok_first_pair T TB
  obtain ⟨fd_first_pair, G_first_pair, D_first_pair⟩ := ok_first_pair_.ex
  have ok_first_spots_ : GD_first_spots P w K mg base p := ok_first_spots T TB
  obtain ⟨fd_first_spots, G_first_spots, D_first_spots⟩ := ok_first_spots_.ex
  have ok_Film_len_ : GD_Film_len P w K mg base p := ok_Film_len T TB
  obtain ⟨fd_Film_len, G_Film_len, D_Film_len⟩ := ok_Film_len_.ex
  refine gd_ofC (T.says.def_ 43 (d := d_first_unlike) rfl) sc_first_unlike rfl rfl fun A outer s H E hr tk => ?_
  exact (ss_ndef (st := s_first_unlike_differ) (nm := fun _ _ => "first_unlike.<locals>.differ") (i := 5) rfl (TB _ (List.mem_map.mpr ⟨("first_unlike", none), by simp [tf], rfl⟩)) rfl (by unfold tabs; exact List.mem_cons_self ..) (by kernel_rfl) (fun t ht _ => by unfold tabs at ht; rw [List.mem_singleton.mp ht]) hfree_first_unlike_differ rfl rfl rfl sc_first_unlike.nd rfl (.inl rfl) (.inl rfl) (fun hf c1 => restP fun p2 hp2 => by
        have ok_cells_of_ : GD_cells_of P w K mg base p2 := ok_cells_of T TB
        obtain ⟨fd_cells_of, G_cells_of, D_cells_of⟩ := ok_cells_of_.ex
        have ok_Film_width_ : GD_Film_width P w K mg base p2 := ok_Film_width T TB
        obtain ⟨fd_Film_width, G_Film_width, D_Film_width⟩ := ok_Film_width_.ex
        have ok_Film_height_ : GD_Film_height P w K mg base p2 := ok_Film_height T TB
        obtain ⟨fd_Film_height, G_Film_height, D_Film_height⟩ := ok_Film_height_.ex
        have ok_parts_in_ : GD_parts_in P w K mg base p2 := ok_parts_in T TB
        obtain ⟨fd_parts_in, G_parts_in, D_parts_in⟩ := ok_parts_in_.ex
        have ok_first_pair_ : GD_first_pair P w K mg base p2 := ok_first_pair T TB
        obtain ⟨fd_first_pair, G_first_pair, D_first_pair⟩ := ok_first_pair_.ex
        have ok_first_spots_ : GD_first_spots P w K mg base p2 := ok_first_spots T TB
        obtain ⟨fd_first_spots, G_first_spots, D_first_spots⟩ := ok_first_spots_.ex
        have ok_Film_len_ : GD_Film_len P w K mg base p2 := ok_Film_len T TB
        obtain ⟨fd_Film_len, G_Film_len, D_Film_len⟩ := ok_Film_len_.ex
        subst hp2
        exact (ss_cons (ss_set 6 sc_first_unlike.nd (s_cal ok_cells_of_ (hr.mono (by decide)) tk (T.glo 69) (sa_cons (s_prop (c := 0) (T.cls 33).cl (T.prop 49) G_Film_width (hr.mono (by decide)) (b_Film_width D_Film_width) (s_var 0)) (sa_cons (s_prop (c := 0) (T.cls 33).cl (T.prop 50) G_Film_height (hr.mono (by decide)) (b_Film_height D_Film_height) (s_var 0)) (sa_cons (s_op o_add (s_cal ok_parts_in_ (hr.mono (by decide)) tk (T.glo 61) (sa_cons (s_var 0) sa_nil) bd_parts_in) (s_cal ok_parts_in_ (hr.mono (by decide)) tk (T.glo 61) (sa_cons (s_var 1) sa_nil) bd_parts_in)) sa_nil))) bd_cells_of))
          (ss_cons (ss_set 7 sc_first_unlike.nd (s_cal ok_first_pair_ (hr.mono (by decide)) tk (T.glo 72) (sa_cons (s_callH (q := 2) (js := [0, 1, 2, 3, 4]) (sc := C8.fnScope s_first_unlike_differ) G_first_spots (nf_first_unlike_differ T TB hf _ _ c1) (fun _ _ _ h => h.2) (hr.mono (by decide)) tk (T.glo 71) (T.kp 71) (D_first_spots.bindsN bd_first_spots) (sa_cons (s_var 6) (sa_cons (s_callB (c_min2 rfl) rfl (T.free 1) rfl (sa_cons (s_lenX (c := 0) (T.meth 70) G_Film_len (hr.mono (by decide)) (b_Film_len D_Film_len) (s_var 0) (T.free 0)) (sa_cons (s_lenX (c := 0) (T.meth 70) G_Film_len (hr.mono (by decide)) (b_Film_len D_Film_len) (s_var 1) (T.free 0)) sa_nil))) (sa_cons (s_var 5) sa_nil))) rfl rfl hfree_first_unlike_differ hfr_first_unlike_differ rfl (fun _ => rfl)) sa_nil) bd_first_pair))
          (ss_cons (ss_if (t_w (t_and (t_cmp o_isN (s_var 7) s_non) (t_and1 (t_cmp (o_ne hr.hu) (s_lenX (c := 0) (T.meth 70) G_Film_len (hr.mono (by decide)) (b_Film_len D_Film_len) (s_var 0) (T.free 0)) (s_lenX (c := 0) (T.meth 70) G_Film_len (hr.mono (by decide)) (b_Film_len D_Film_len) (s_var 1) (T.free 0))))))
          (ss_one (ss_ret (s_tup (sa_cons (s_callB (c_min2 rfl) rfl (T.free 1) rfl (sa_cons (s_lenX (c := 0) (T.meth 70) G_Film_len (hr.mono (by decide)) (b_Film_len D_Film_len) (s_var 0) (T.free 0)) (sa_cons (s_lenX (c := 0) (T.meth 70) G_Film_len (hr.mono (by decide)) (b_Film_len D_Film_len) (s_var 1) (T.free 0)) sa_nil))) (sa_cons s_non sa_nil)))))
          ss_nil)
          (ss_one (ss_ret (s_var 7))))))))
/-! unlike -/
theorem sc_unlike : FnScope ["one", "other", "player", "second", "start"] ["one", "other", "player", "second", "start"] (defScope s_unlike) := ⟨rfl, rfl, rfl, by decide +kernel, rfl, by decide +kernel, by decide +kernel⟩
abbrev GD_unlike (P : Program) (w : World) (K : PySem.W.Frag) (mg : Str → Option Value) (base : Heap) (p : PP) : Prop := GD P w K mg base (cl K p) 8 (ga K "unlike") "unlike" "unlike" s_unlike [("player", V.str "full"), ("second", V.str "full"), ("start", V.str "empty")] ["one", "other", "player", "second", "start"] F_unlike
theorem dd_unlike : Dfl K [(.str "full"), (.str "full"), (.str "empty")] (([("player", V.str "full"), ("second", V.str "full"), ("start", V.str "empty")] : List (Str × V)).map (·.2)) := fun _ _ _ => by simp only [List.map, VRs, VR]; exact ⟨_, _, rfl, rfl, ⟨_, _, rfl, rfl, ⟨_, _, rfl, rfl, rfl⟩⟩⟩
theorem bk_unlike (D : Addr) (doc pm : Value) (an : Option Addr) (cdv ct : Value) (us ks : List Value) (h1 : us.length = 2) (h2 : ks.length = ([("player", V.str "full"), ("second", V.str "full"), ("start", V.str "empty")] : List (Str × V)).length) : KwChain D ((([("player", V.str "full"), ("second", V.str "full"), ("start", V.str "empty")] : List (Str × V)).map (·.1)).zip ks) (bindArgs (PySem.W.fnOf "unlike" "unlike" (defArgs s_unlike) (defBody s_unlike) (defScope s_unlike) .none (.ref D) doc pm an cdv ct) ⟨us, []⟩) ((["one", "other", "player", "second", "start"] : List Str).zip (us ++ ks)) := match us, ks, h1, h2 with | [_, _], [_, _, _], _, _ => ⟨_, _, _, _, _, _, rfl, rfl, ⟨_, _, _, _, _, _, rfl, rfl, ⟨_, _, _, _, _, _, rfl, rfl, rfl⟩⟩⟩
theorem ok_unlike (T : Tx fx fn K mg) (TB : TBs base mg (csOf K tf)) : GD_unlike P w K mg base p := by
  have ok_check_film_ : GD_check_film P w K mg base p := ok_check_film T TB
  obtain ⟨fd_check_film, G_check_film, D_check_film⟩ := ok_check_film_.ex
  have ok_check_player_ : GD_check_player P w K mg base p := ok_check_player T TB
  obtain ⟨fd_check_player, G_check_player, D_check_player⟩ := ok_check_player_.ex
  have ok_check_start_ : GD_check_start P w K mg base p := ok_check_start T TB
  obtain ⟨fd_check_start, G_check_start, D_check_start⟩ := ok_check_start_.ex
  have ok_check_fit_ : GD_check_fit P w K mg base p := ok_check_fit T TB
  obtain ⟨fd_check_fit, G_check_fit, D_check_fit⟩ := ok_check_fit_.ex
  have ok_first_unlike_ : GD_first_unlike P w K mg base p := ok_first_unlike T TB
  obtain ⟨fd_first_unlike, G_first_unlike, D_first_unlike⟩ := ok_first_unlike_.ex
  refine gd_of (T.says.def_ 44 (d := d_unlike) rfl) sc_unlike rfl rfl fun cdv A outer s H E hr tk => ?_
  exact (ss_cons (ss_expr (s_cal ok_check_film_ (hr.mono (by decide)) tk (T.glo 45) (sa_cons (s_var 0) sa_nil) bd_check_film))
    (ss_cons (ss_expr (s_cal ok_check_film_ (hr.mono (by decide)) tk (T.glo 45) (sa_cons (s_var 1) sa_nil) bd_check_film))
    (ss_cons (ss_expr (s_cal ok_check_player_ (hr.mono (by decide)) tk (T.glo 47) (sa_cons (s_var 2) sa_nil) bd_check_player))
    (ss_cons (ss_expr (s_cal ok_check_player_ (hr.mono (by decide)) tk (T.glo 47) (sa_cons (s_var 3) sa_nil) bd_check_player))
    (ss_cons (ss_expr (s_cal ok_check_start_ (hr.mono (by decide)) tk (T.glo 48) (sa_cons (s_var 4) sa_nil) bd_check_start))
    (ss_cons (ss_expr (s_cal ok_check_fit_ (hr.mono (by decide)) tk (T.glo 53) (sa_cons (s_var 0) (sa_cons (s_var 1) sa_nil)) bd_check_fit))
    (ss_one (ss_ret (s_cal ok_first_unlike_ (hr.mono (by decide)) tk (T.glo 74) (sa_cons (s_var 0) (sa_cons (s_var 1) (sa_cons (s_var 2) (sa_cons (s_var 3) (sa_cons (s_if (t_cmp (o_eq hr.hu) (s_var 4) s_str) (s_dat (T.dat 60)) (s_dat (T.dat 73))) sa_nil))))) bd_first_unlike)))))))))
/-! alike -/
theorem sc_alike : FnScope ["one", "other", "player", "second", "start"] ["one", "other", "player", "second", "start"] (defScope s_alike) := ⟨rfl, rfl, rfl, by decide +kernel, rfl, by decide +kernel, by decide +kernel⟩
abbrev GD_alike (P : Program) (w : World) (K : PySem.W.Frag) (mg : Str → Option Value) (base : Heap) (p : PP) : Prop := GD P w K mg base (cl K p) 9 (ga K "alike") "alike" "alike" s_alike [("player", V.str "full"), ("second", V.str "full"), ("start", V.str "empty")] ["one", "other", "player", "second", "start"] F_alike
theorem dd_alike : Dfl K [(.str "full"), (.str "full"), (.str "empty")] (([("player", V.str "full"), ("second", V.str "full"), ("start", V.str "empty")] : List (Str × V)).map (·.2)) := fun _ _ _ => by simp only [List.map, VRs, VR]; exact ⟨_, _, rfl, rfl, ⟨_, _, rfl, rfl, ⟨_, _, rfl, rfl, rfl⟩⟩⟩
theorem bk_alike (D : Addr) (doc pm : Value) (an : Option Addr) (cdv ct : Value) (us ks : List Value) (h1 : us.length = 2) (h2 : ks.length = ([("player", V.str "full"), ("second", V.str "full"), ("start", V.str "empty")] : List (Str × V)).length) : KwChain D ((([("player", V.str "full"), ("second", V.str "full"), ("start", V.str "empty")] : List (Str × V)).map (·.1)).zip ks) (bindArgs (PySem.W.fnOf "alike" "alike" (defArgs s_alike) (defBody s_alike) (defScope s_alike) .none (.ref D) doc pm an cdv ct) ⟨us, []⟩) ((["one", "other", "player", "second", "start"] : List Str).zip (us ++ ks)) := match us, ks, h1, h2 with | [_, _], [_, _, _], _, _ => ⟨_, _, _, _, _, _, rfl, rfl, ⟨_, _, _, _, _, _, rfl, rfl, ⟨_, _, _, _, _, _, rfl, rfl, rfl⟩⟩⟩
theorem ok_alike (T : Tx fx fn K mg) (TB : TBs base mg (csOf K tf)) : GD_alike P w K mg base p := by
  have ok_unlike_ : GD_unlike P w K mg base p := ok_unlike T TB
  obtain ⟨fd_unlike, G_unlike, D_unlike⟩ := ok_unlike_.ex
  refine gd_of (T.says.def_ 45 (d := d_alike) rfl) sc_alike rfl rfl fun cdv A outer s H E hr tk => ?_
  exact (ss_one (ss_ret (s_cmp o_isN (s_callK (n := 2) G_unlike (hr.mono (by decide)) tk (T.glo 75) (T.kp 75) (kb_plain (He5.fun_of D_unlike) 2 ["player", "second", "start"] [.p 0, .p 1, .k 0, .k 1, .k 2] (fun _ _ _ _ _ _ us ws h1 h2 => match us, ws, h1, h2 with | [_, _], [_, _, _], _, _ => rfl)) dfl_nil (sa_cons (s_var 0) (sa_cons (s_var 1) sa_nil)) (sk_cons (s_var 2) (sk_cons (s_var 3) (sk_cons (s_var 4) sk_nil)))) s_non)))
/-! _law_first -/
theorem sc_law_first : FnScope ["_law_some", "_law_spots", "_law_at", "_law_y", "_law_x", "_law_pair"] ["_law_some"] (defScope s_law_first) := ⟨rfl, rfl, rfl, by decide +kernel, rfl, by decide +kernel, by decide +kernel⟩
abbrev GD_law_first (P : Program) (w : World) (K : PySem.W.Frag) (mg : Str → Option Value) (base : Heap) (p : PP) : Prop := GD P w K mg base (cl K p) 1 (ga K "_law_first") "_law_first" "_law_first" s_law_first [] ["_law_some"] F_law_first
theorem bd_law_first (kV doc pm : Value) (an : Option Addr) (cdv ct : Value) (us : List Value) (hl : us.length = (["_law_some"] : List Str).length) : bindArgs (PySem.W.fnOf "_law_first" "_law_first" (defArgs s_law_first) (defBody s_law_first) (defScope s_law_first) .none kV doc pm an cdv ct) ⟨us, []⟩ = pure ((["_law_some"] : List Str).zip us) := match us, hl with | [_], _ => rfl
theorem ok_law_first (T : Tx fx fn K mg) (TB : TBs base mg (csOf K tf)) : GD_law_first P w K mg base p := by
  refine gd_of (T.says.def_ 46 (d := d_law_first) rfl) sc_law_first rfl rfl fun cdv A outer s H E hr tk => ?_
  exact (ss_cons (ss_setLc 1 [("_law_pair", 5)] rfl sc_law_first.nd (i_seq (s_var 0)) (blkOk_by (N := ["_law_some", "_law_spots", "_law_at", "_law_y", "_law_x", "_law_pair"]) (sc := defScope s_law_first) (own := [("_law_pair", 5)]) (by decide +kernel)) (fun _ _ _ _ _ => (g_name 5 sc_law_first.nd)) (fun _ _ _ _ _ => (ts_one (t_cmp o_notN (s_ix (x_ix hr.hu) (s_var 5) s_int) s_non))) (fun _ _ _ _ _ => (s_tup (sa_cons (s_ix (x_ix hr.hu) (s_var 5) s_int) (sa_cons (s_ix (x_ix hr.hu) (s_ix (x_ix hr.hu) (s_var 5) s_int) s_int) (sa_cons (s_ix (x_ix hr.hu) (s_ix (x_ix hr.hu) (s_var 5) s_int) s_int) sa_nil))))) (sw_true rfl rfl rfl (by decide +kernel)))
    (ss_cons (ss_if (t_cmp (o_ne hr.hu) (s_var 1) (s_lst sa_nil))
    (ss_cons (ss_asg (s_callB (c_minT hr) rfl (T.free 1) rfl (sa_cons (s_var 1) sa_nil)) (g_tup rfl (g_cons (g_name 2 sc_law_first.nd) (g_cons (g_name 3 sc_law_first.nd) (g_cons (g_name 4 sc_law_first.nd) g_nil)))))
    (ss_one (ss_ret (s_tup (sa_cons (s_var 2) (sa_cons (s_tup (sa_cons (s_var 4) (sa_cons (s_var 3) sa_nil))) sa_nil))))))
    ss_nil)
    (ss_one (ss_ret (s_if (t_cmp (o_ne hr.hu) (s_var 0) (s_lst sa_nil)) (s_ix (x_ix hr.hu) (s_var 0) s_int) s_non)))))
/-! _law_any -/
theorem sc_law_any : FnScope ["_law_model_here", "_law_others", "_law_whos", "_law_found", "_law_pair"] ["_law_model_here", "_law_others", "_law_whos"] (defScope s_law_any) := ⟨rfl, rfl, rfl, by decide +kernel, rfl, by decide +kernel, by decide +kernel⟩
abbrev GD_law_any (P : Program) (w : World) (K : PySem.W.Frag) (mg : Str → Option Value) (base : Heap) (p : PP) : Prop := GD P w K mg base (cl K p) 4 (ga K "_law_any") "_law_any" "_law_any" s_law_any [] ["_law_model_here", "_law_others", "_law_whos"] F_law_any
theorem bd_law_any (kV doc pm : Value) (an : Option Addr) (cdv ct : Value) (us : List Value) (hl : us.length = (["_law_model_here", "_law_others", "_law_whos"] : List Str).length) : bindArgs (PySem.W.fnOf "_law_any" "_law_any" (defArgs s_law_any) (defBody s_law_any) (defScope s_law_any) .none kV doc pm an cdv ct) ⟨us, []⟩ = pure ((["_law_model_here", "_law_others", "_law_whos"] : List Str).zip us) := match us, hl with | [_, _, _], _ => rfl
theorem ok_law_any (T : Tx fx fn K mg) (TB : TBs base mg (csOf K tf)) : GD_law_any P w K mg base p := by
  have ok_law_differ_ : GD_law_differ P w K mg base p := ok_law_differ T TB
  obtain ⟨fd_law_differ, G_law_differ, D_law_differ⟩ := ok_law_differ_.ex
  have ok_law_first_ : GD_law_first P w K mg base p := ok_law_first T TB
  obtain ⟨fd_law_first, G_law_first, D_law_first⟩ := ok_law_first_.ex
  refine gd_of (T.says.def_ 47 (d := d_law_any) rfl) sc_law_any rfl rfl fun cdv A outer s H E hr tk => ?_
  exact (ss_cons (ss_set 3 sc_law_any.nd (s_lst (sa_cons (s_cal ok_law_differ_ (hr.mono (by decide)) tk (T.glo 43) (sa_cons (s_var 0) (sa_cons (s_var 1) (sa_cons (s_var 2) (sa_cons s_non sa_nil)))) bd_law_differ) (sa_cons (s_cal ok_law_differ_ (hr.mono (by decide)) tk (T.glo 43) (sa_cons (s_var 0) (sa_cons (s_var 1) (sa_cons (s_var 2) (sa_cons s_int sa_nil)))) bd_law_differ) sa_nil))))
    (ss_one (ss_ret (s_cal ok_law_first_ (hr.mono (by decide)) tk (T.glo 78) (sa_cons (s_lc [("_law_pair", 4)] rfl sc_law_any.nd (i_seq (s_var 3)) (blkOk_by (N := ["_law_model_here", "_law_others", "_law_whos", "_law_found", "_law_pair"]) (sc := defScope s_law_any) (own := [("_law_pair", 4)]) (by decide +kernel)) (fun _ _ _ _ _ => (g_name 4 sc_law_any.nd)) (fun _ _ _ _ _ => (ts_one (t_cmp o_notN (s_var 4) s_non))) (fun _ _ _ _ _ => (s_var 4))) sa_nil) bd_law_first))))
/-! _law_right -/
theorem sc_law_right : FnScope ["_law_jar_here", "_law_model_here", "_law_others", "_law_whos", "_law_reel", "_law_twin", "_law_due", "_law_said"] ["_law_jar_here"] (defScope s_law_right) := ⟨rfl, rfl, rfl, by decide +kernel, rfl, by decide +kernel, by decide +kernel⟩
abbrev GD_law_right (P : Program) (w : World) (K : PySem.W.Frag) (mg : Str → Option Value) (base : Heap) (p : PP) : Prop := GD P w K mg base (cl K p) 10 (ga K "_law_right") "_law_right" "_law_right" s_law_right [] ["_law_jar_here"] F_law_right
theorem bd_law_right (kV doc pm : Value) (an : Option Addr) (cdv ct : Value) (us : List Value) (hl : us.length = (["_law_jar_here"] : List Str).length) : bindArgs (PySem.W.fnOf "_law_right" "_law_right" (defArgs s_law_right) (defBody s_law_right) (defScope s_law_right) .none kV doc pm an cdv ct) ⟨us, []⟩ = pure ((["_law_jar_here"] : List Str).zip us) := match us, hl with | [_], _ => rfl
theorem ok_law_right (T : Tx fx fn K mg) (TB : TBs base mg (csOf K tf)) : GD_law_right P w K mg base p := by
  have ok_law_model_ : GD_law_model P w K mg base p := ok_law_model T TB
  obtain ⟨fd_law_model, G_law_model, D_law_model⟩ := ok_law_model_.ex
  have ok_law_mate_ : GD_law_mate P w K mg base p := ok_law_mate T TB
  obtain ⟨fd_law_mate, G_law_mate, D_law_mate⟩ := ok_law_mate_.ex
  have ok_law_who_ : GD_law_who P w K mg base p := ok_law_who T TB
  obtain ⟨fd_law_who, G_law_who, D_law_who⟩ := ok_law_who_.ex
  have ok_law_made_ : GD_law_made P w K mg base p := ok_law_made T TB
  obtain ⟨fd_law_made, G_law_made, D_law_made⟩ := ok_law_made_.ex
  have ok_law_differ_ : GD_law_differ P w K mg base p := ok_law_differ T TB
  obtain ⟨fd_law_differ, G_law_differ, D_law_differ⟩ := ok_law_differ_.ex
  have ok_unlike_ : GD_unlike P w K mg base p := ok_unlike T TB
  obtain ⟨fd_unlike, G_unlike, D_unlike⟩ := ok_unlike_.ex
  have ok_alike_ : GD_alike P w K mg base p := ok_alike T TB
  obtain ⟨fd_alike, G_alike, D_alike⟩ := ok_alike_.ex
  have ok_law_any_ : GD_law_any P w K mg base p := ok_law_any T TB
  obtain ⟨fd_law_any, G_law_any, D_law_any⟩ := ok_law_any_.ex
  refine gd_of (T.says.def_ 48 (d := d_law_right) rfl) sc_law_right rfl rfl fun cdv A outer s H E hr tk => ?_
  exact (ss_cons (ss_set 1 sc_law_right.nd (s_cal ok_law_model_ (hr.mono (by decide)) tk (T.glo 9) (sa_cons (s_var 0) (sa_cons s_int (sa_cons s_int (sa_cons s_int sa_nil)))) bd_law_model))
    (ss_cons (ss_set 2 sc_law_right.nd (s_cal ok_law_mate_ (hr.mono (by decide)) tk (T.glo 10) (sa_cons (s_var 0) (sa_cons (s_var 1) sa_nil)) bd_law_mate))
    (ss_cons (ss_par3 3 4 5 rfl sc_law_right.nd (sa_cons (s_lst (sa_cons (s_cal ok_law_who_ (hr.mono (by decide)) tk (T.glo 11) (sa_cons (s_var 0) sa_nil) bd_law_who) (sa_cons (s_cal ok_law_who_ (hr.mono (by decide)) tk (T.glo 11) (sa_cons (s_var 0) sa_nil) bd_law_who) sa_nil))) (sa_cons (s_cal ok_law_made_ (hr.mono (by decide)) tk (T.glo 37) (sa_cons (s_var 1) sa_nil) bd_law_made) (sa_cons (s_cal ok_law_made_ (hr.mono (by decide)) tk (T.glo 37) (sa_cons (s_var 2) sa_nil) bd_law_made) sa_nil))))
    (ss_cons (ss_set 6 sc_law_right.nd (s_cal ok_law_differ_ (hr.mono (by decide)) tk (T.glo 43) (sa_cons (s_var 1) (sa_cons (s_var 2) (sa_cons (s_var 3) (sa_cons s_non sa_nil)))) bd_law_differ))
    (ss_cons (ss_set 7 sc_law_right.nd (s_lst (sa_cons (s_callK (n := 2) G_unlike (hr.mono (by decide)) tk (T.glo 75) (T.kp 75) (kb0_unlike D_unlike) (fun _ _ _ => by simp only [List.map, VRs, VR]; exact ⟨_, _, rfl, rfl, rfl⟩) (sa_cons (s_var 4) (sa_cons (s_var 5) sa_nil)) (sk_cons (s_ix (x_ix hr.hu) (s_var 3) s_int) (sk_cons (s_ix (x_ix hr.hu) (s_var 3) s_int) sk_nil))) sa_nil)))
    (ss_cons (ss_expr (s_append (s_var 7) (s_callK0 G_unlike (hr.mono (by decide)) tk (T.glo 75) (T.kp 75) (kb_plain (He5.fun_of D_unlike) 0 ["start", "second", "player", "other", "one"] [.k 4, .k 3, .k 2, .k 1, .k 0] (fun _ _ _ _ _ _ us ws h1 h2 => match us, ws, h1, h2 with | [], [_, _, _, _, _], _, _ => rfl)) dfl_nil (sk_cons s_str (sk_cons (s_ix (x_ix hr.hu) (s_var 3) s_int) (sk_cons (s_ix (x_ix hr.hu) (s_var 3) s_int) (sk_cons (s_var 5) (sk_cons (s_var 4) sk_nil))))))))
    (ss_cons (ss_if (t_cmp (o_ne hr.hu) (s_callB (c_repr hr) rfl (T.free 76) rfl (sa_cons (s_var 7) sa_nil)) (s_callB (c_repr hr) rfl (T.free 76) rfl (sa_cons (s_lst (sa_cons (s_var 6) (sa_cons (s_var 6) sa_nil))) sa_nil)))
    (ss_one (ss_ret s_bl))
    ss_nil)
    (ss_cons (ss_if (t_cmp (o_ne hr.hu) (s_callB (c_repr hr) rfl (T.free 76) rfl (sa_cons (s_callK (n := 2) G_alike (hr.mono (by decide)) tk (T.glo 77) (T.kp 77) (kb1_alike D_alike) (fun _ _ _ => by simp only [List.map, VRs, VR]; exact ⟨_, _, rfl, rfl, rfl⟩) (sa_cons (s_var 4) (sa_cons (s_var 5) sa_nil)) (sk_cons (s_ix (x_ix hr.hu) (s_var 3) s_int) (sk_cons (s_ix (x_ix hr.hu) (s_var 3) s_int) sk_nil))) sa_nil)) (s_callB (c_repr hr) rfl (T.free 76) rfl (sa_cons (s_cmp o_isN (s_var 6) s_non) sa_nil)))
    (ss_one (ss_ret s_bl))
    ss_nil)
    (ss_cons (ss_set 6 sc_law_right.nd (s_cal ok_law_any_ (hr.mono (by decide)) tk (T.glo 79) (sa_cons (s_var 1) (sa_cons (s_var 2) (sa_cons (s_var 3) sa_nil))) bd_law_any))
    (ss_cons (ss_if (t_cmp (o_ne hr.hu) (s_callB (c_repr hr) rfl (T.free 76) rfl (sa_cons (s_callK (n := 2) G_unlike (hr.mono (by decide)) tk (T.glo 75) (T.kp 75) (kb_plain (He5.fun_of D_unlike) 2 ["player", "second", "start"] [.p 0, .p 1, .k 0, .k 1, .k 2] (fun _ _ _ _ _ _ us ws h1 h2 => match us, ws, h1, h2 with | [_, _], [_, _, _], _, _ => rfl)) dfl_nil (sa_cons (s_var 4) (sa_cons (s_var 5) sa_nil)) (sk_cons (s_ix (x_ix hr.hu) (s_var 3) s_int) (sk_cons (s_ix (x_ix hr.hu) (s_var 3) s_int) (sk_cons s_str sk_nil)))) sa_nil)) (s_callB (c_repr hr) rfl (T.free 76) rfl (sa_cons (s_var 6) sa_nil)))
    (ss_one (ss_ret s_bl))
    ss_nil)
    (ss_cons (ss_if (t_cmp (o_ne hr.hu) (s_callB (c_repr hr) rfl (T.free 76) rfl (sa_cons (s_callK0 G_alike (hr.mono (by decide)) tk (T.glo 77) (T.kp 77) (kb_plain (He5.fun_of D_alike) 0 ["start", "one", "other", "second", "player"] [.k 1, .k 2, .k 4, .k 3, .k 0] (fun _ _ _ _ _ _ us ws h1 h2 => match us, ws, h1, h2 with | [], [_, _, _, _, _], _, _ => rfl)) dfl_nil (sk_cons s_str (sk_cons (s_var 4) (sk_cons (s_var 5) (sk_cons (s_ix (x_ix hr.hu) (s_var 3) s_int) (sk_cons (s_ix (x_ix hr.hu) (s_var 3) s_int) sk_nil)))))) sa_nil)) (s_callB (c_repr hr) rfl (T.free 76) rfl (sa_cons (s_cmp o_isN (s_var 6) s_non) sa_nil)))
    (ss_one (ss_ret s_bl))
    ss_nil)
    (ss_one (ss_ret (s_cmp (o_eq hr.hu) (s_callB (c_repr hr) rfl (T.free 76) rfl (sa_cons (s_calD 2 ok_unlike_ (hr.mono (by decide)) tk (T.glo 75) dd_unlike (sa_cons (s_var 4) (sa_cons (s_var 5) sa_nil)) (by simp) rfl bk_unlike) sa_nil)) (s_callB (c_repr hr) rfl (T.free 76) rfl (sa_cons (s_cal ok_law_differ_ (hr.mono (by decide)) tk (T.glo 43) (sa_cons (s_var 1) (sa_cons (s_var 2) (sa_cons (s_lst (sa_cons s_str (sa_cons s_str sa_nil))) (sa_cons s_non sa_nil)))) bd_law_differ) sa_nil))))))))))))))))
/-! _law_jar -/
theorem sc_law_jar : FnScope ["_law_script", "_law_k", "_law_mixed", "_law_cell", "_law_own", "_law_digits"] ["_law_script", "_law_k"] (defScope s_law_jar) := ⟨rfl, rfl, rfl, by decide +kernel, rfl, by decide +kernel, by decide +kernel⟩
abbrev GD_law_jar (P : Program) (w : World) (K : PySem.W.Frag) (mg : Str → Option Value) (base : Heap) (p : PP) : Prop := GD P w K mg base (cl K p) 1 (ga K "_law_jar") "_law_jar" "_law_jar" s_law_jar [] ["_law_script", "_law_k"] F_law_jar
theorem bd_law_jar (kV doc pm : Value) (an : Option Addr) (cdv ct : Value) (us : List Value) (hl : us.length = (["_law_script", "_law_k"] : List Str).length) : bindArgs (PySem.W.fnOf "_law_jar" "_law_jar" (defArgs s_law_jar) (defBody s_law_jar) (defScope s_law_jar) .none kV doc pm an cdv ct) ⟨us, []⟩ = pure ((["_law_script", "_law_k"] : List Str).zip us) := match us, hl with | [_, _], _ => rfl
theorem ok_law_jar (T : Tx fx fn K mg) (TB : TBs base mg (csOf K tf)) : GD_law_jar P w K mg base p := by
  refine gd_of (T.says.def_ 49 (d := d_law_jar) rfl) sc_law_jar rfl rfl fun cdv A outer s H E hr tk => ?_
  exact (ss_cons (ss_set 2 sc_law_jar.nd (s_op o_add (s_op o_mul (s_op o_mul s_int (s_op o_add (s_var 1) s_int)) (s_op o_add (s_var 1) s_int)) (s_op o_mul s_int (s_callB c_len rfl (T.free 0) rfl (sa_cons (s_var 0) sa_nil)))))
    (ss_cons (ss_for (passes_of rfl) rfl (i_seq (s_sl (s_var 0) so_none (so_some s_int))) (g_name 3 sc_law_jar.nd)
    (ss_one (ss_set 2 sc_law_jar.nd (s_op o_mod (s_callTy c_int rfl (T.free 4) rfl (sa_cons (s_op o_add (s_op o_mul (s_var 2) s_int) (s_var 3)) sa_nil)) s_int))))
    (ss_cons (ss_set 4 sc_law_jar.nd (s_if (t_cmp o_lt (s_var 1) (s_callB c_len rfl (T.free 0) rfl (sa_cons (s_var 0) sa_nil))) (s_ix (x_ix hr.hu) (s_var 0) (s_var 1)) s_int))
    (ss_cons (ss_set 5 sc_law_jar.nd (s_if (t_w (t_or (t_cmp o_lt (s_var 4) s_int) (t_or1 (t_cmp o_ge (s_var 4) (s_op o_pow s_int s_int))))) (s_callB c_abs rfl (T.free 80) rfl (sa_cons (s_var 4) sa_nil)) s_int))
    (ss_one (ss_ret (s_lst (sa_cons (s_var 5) (sa_cons (s_op o_mod (s_callTy c_int rfl (T.free 4) rfl (sa_cons (s_op o_add (s_op o_add (s_op o_mul (s_var 2) s_int) (s_op o_mul (s_var 4) s_int)) (s_op o_mul s_int (s_op o_add (s_var 1) s_int))) sa_nil)) s_int) (sa_cons s_int sa_nil))))))))))
/-! law -/
theorem sc_law : FnScope ["_law_script", "_law_k"] ["_law_script"] (defScope s_law) := ⟨rfl, rfl, rfl, by decide +kernel, rfl, by decide +kernel, by decide +kernel⟩
abbrev GD_law (P : Program) (w : World) (K : PySem.W.Frag) (mg : Str → Option Value) (base : Heap) (p : PP) : Prop := GD P w K mg base (cl K p) 11 (ga K "law") "law" "law" s_law [] ["_law_script"] F_law
theorem bd_law (kV doc pm : Value) (an : Option Addr) (cdv ct : Value) (us : List Value) (hl : us.length = (["_law_script"] : List Str).length) : bindArgs (PySem.W.fnOf "law" "law" (defArgs s_law) (defBody s_law) (defScope s_law) .none kV doc pm an cdv ct) ⟨us, []⟩ = pure ((["_law_script"] : List Str).zip us) := match us, hl with | [_], _ => rfl
theorem ok_law (T : Tx fx fn K mg) (TB : TBs base mg (csOf K tf)) : GD_law P w K mg base p := by
  have ok_law_right_ : GD_law_right P w K mg base p := ok_law_right T TB
  obtain ⟨fd_law_right, G_law_right, D_law_right⟩ := ok_law_right_.ex
  have ok_law_jar_ : GD_law_jar P w K mg base p := ok_law_jar T TB
  obtain ⟨fd_law_jar, G_law_jar, D_law_jar⟩ := ok_law_jar_.ex
  refine gd_of (T.says.def_ 50 (d := d_law) rfl) sc_law rfl rfl fun cdv A outer s H E hr tk => ?_
  exact (ss_one (ss_ret (s_callB (c_all rfl) rfl (T.free 25) rfl (sa_cons (s_lc [("_law_k", 1)] rfl sc_law.nd (i_rng1 (T.free 3) (sa_cons (s_callB (c_max2 rfl) rfl (T.free 2) rfl (sa_cons s_int (sa_cons (s_callB (c_min2 rfl) rfl (T.free 1) rfl (sa_cons (s_callB c_len rfl (T.free 0) rfl (sa_cons (s_var 0) sa_nil)) (sa_cons s_int sa_nil))) sa_nil))) sa_nil)) (blkOk_by (N := ["_law_script", "_law_k"]) (sc := defScope s_law) (own := [("_law_k", 1)]) (by decide +kernel)) (fun _ _ _ _ _ => (g_name 1 sc_law.nd)) (fun _ _ _ _ _ => ts_nil) (fun _ _ _ _ _ => (s_cal ok_law_right_ (hr.mono (by decide)) takes0 (T.glo 82) (sa_cons (s_cal ok_law_jar_ (hr.mono (by decide)) takes0 (T.glo 81) (sa_cons (s_var 0) (sa_cons (s_var 1) sa_nil)) bd_law_jar) sa_nil) bd_law_right))) sa_nil))))
end
end L12


set_option Elab.async false
set_option linter.all false
set_option maxRecDepth 100000
set_option  maxHeartbeats   4000000
/-! From the second round on all rounds are alike; corners; reprs of sheets. -/
namespace G
open DV PySem L2
theorem stepC_kind {pat : Str → Col} {who : Str} {b : Bool} {f : Fr} : (∀ c, stepC pat who c b f = c) ∨ ∃ k, ∀ c, stepC pat who c b f = k := by
  unfold stepC
  by_cases h1 : fateOf who f.doom = "wiped" ∧ (b = true ∨ who = "blanks")
  · exact .inr ⟨none, fun c => by rw [if_pos h1]⟩
  · by_cases h2 : fateOf who f.doom = "back"
    · exact .inl fun c => by rw [if_neg h1, if_pos h2]
    · by_cases h3 : b = true ∧ (pat f.ink).isSome = true
      · exact .inr ⟨pat f.ink, fun c => by rw [if_neg h1, if_neg h2, if_pos h3]⟩
      · exact .inl fun c => by rw [if_neg h1, if_neg h2, if_neg h3]
theorem lastC_kind {pat : Str → Col} {who : Str} : ∀ (bs : List Bool) (fs : List Fr), (∀ c, lastC pat who bs fs c = c) ∨ ∃ k, ∀ c, lastC pat who bs fs c = k
  | [], fs => .inl fun c => by simp [lastC]
  | _ :: _, [] => .inl fun c => by simp [lastC]
  | b :: bs, f :: fs => by
    simp only [lastC]
    rcases lastC_kind (pat := pat) (who := who) bs fs with h | ⟨k, h⟩
    · rcases stepC_kind (pat := pat) (who := who) (b := b) (f := f) with h2 | ⟨k, h2⟩
      · exact .inl fun c => by rw [h, h2]
      · exact .inr ⟨k, fun c => by rw [h, h2]⟩
    · exact .inr ⟨k, fun c => h _⟩
theorem lastC_idem {pat : Str → Col} {who : Str} {bs : List Bool} {fs : List Fr} {c : Col} : lastC pat who bs fs (lastC pat who bs fs c) = lastC pat who bs fs c := by
  rcases lastC_kind (pat := pat) (who := who) bs fs with h | ⟨k, h⟩
  · rw [h, h]
  · rw [h, h]
/-- a second round leaves what the first one left -/
theorem last_idem {firm : List Str} {who : Str} {bs : List Bool} {fs : List Fr} (hf : ∀ f ∈ fs, f.ink ∈ inks) : lastS firm who bs fs (lastS firm who bs fs nothing) = lastS firm who bs fs nothing := by
  have g1 : (lastS firm who bs fs nothing).Good firm inks := last_Good _ _ _ hf no_Good
  have c1 : (lastS firm who bs fs nothing).closed = true := last_closed _ _ _ rfl
  refine sep_pats (last_Good _ _ _ hf g1) g1 (last_closed _ _ _ c1) c1 fun q hq => ?_
  have fl := pats_full q hq
  have e1 := last_nu (first := none) (who := who) fl bs fs nothing hf no_Ok
  have e2 := last_nu (first := none) (who := who) fl bs fs (lastS firm who bs fs nothing) hf g1.ok
  rw [← nu_none, ← nu_none, ← e2, ← e1, lastC_idem]
theorem go_settled {firm : List Str} {who : Str} {bs : List Bool} {fs : List Fr} (hf : ∀ f ∈ fs, f.ink ∈ inks) : ∀ n : Nat, goS firm who true bs fs n (lastS firm who bs fs nothing) = lastS firm who bs fs nothing
  | 0 => rfl
  | n + 1 => by
    unfold goS
    rw [if_pos rfl, last_idem hf]
    exact go_settled hf n
section
variable {p : Pic} {who way : Str} {turn b : Nat}
theorem turn_again {bs : List Bool} (hf : ∀ f ∈ p.fs, f.ink ∈ inks) (h : 2 ≤ turn) : turnS p who "on" turn bs = turnS p who "on" 2 bs := by
  obtain ⟨t, rfl⟩ : ∃ t, turn = t + 2 := ⟨turn - 2, by omega⟩
  have e : ∀ n : Nat, goS p.firm who true bs p.fs (n + 1) nothing = lastS p.firm who bs p.fs nothing := fun n => by
    show goS p.firm who true bs p.fs n (if true = true then lastS p.firm who bs p.fs nothing else nothing) = _
    rw [if_pos rfl, go_settled hf]
  unfold turnS
  rw [show decide (("on" : Str) = "on") = true from decide_eq_true rfl, show t + 2 - 1 = t + 1 by omega, show 2 - 1 = 0 + 1 by omega, e, e]
theorem turn_clean {bs : List Bool} : turnS p who "clean" turn bs = turnS p who "on" 1 bs := by
  have ne : ¬ (("clean" : Str) = "on") := by decide +kernel
  unfold turnS
  rw [decide_eq_false ne, go_clean]
  rfl
theorem sheet_again (hf : ∀ f ∈ p.fs, f.ink ∈ inks) (h : 2 ≤ turn) : sheetP p who "on" turn b = sheetP p who "on" 2 b := by
  unfold sheetP lineP seenR
  simp only [turn_again hf h]
theorem sheet_clean : sheetP p who "clean" turn b = sheetP p who "on" 1 b := by
  unfold sheetP lineP seenR
  simp only [turn_clean]
/-! ### reprs -/
theorem row_repr (hp : p.Ok) {bs : List Bool} {st : Store} : reprD (rowD (seenR p who way turn bs b)) st = some (.str (rowP (seenR p who way turn bs b)).shown, st) := by
  obtain ⟨h1, h2⟩ := seenR_name (who := who) (way := way) (turn := turn) (b := b) (bs := bs) hp
  exact repr_tup (row_data fun z hz => (h1 z hz).1) (shw_row h1 h2) (by decide)
def lineQ (xs : List (List Str)) : PyData := .tuple (xs.map rowP)
def sheetQ (xs : List (List (List Str))) : PyData := .tuple (xs.map lineQ)
theorem sheet_repr (hp : p.Ok) {st : Store} : reprD (sheetD (sheetP p who way turn b)) st = some (.str (sheetQ (sheetP p who way turn b)).shown, st) := by
  have la := acr_len hp.l8
  have ld := dwn_len hp.l8
  have hr : ∀ line ∈ sheetP p who way turn b, line.length ≤ 18 ∧ ∀ r ∈ line, (∀ z ∈ r, TOk z ∧ z.length ≤ 8) ∧ r.length ≤ 40 := fun line hl => by
    obtain ⟨t, ht, rfl⟩ := List.mem_map.mp hl
    refine ⟨by unfold lineP; rw [List.length_map, List.length_dropLast]; omega, fun r hr => ?_⟩
    obtain ⟨l, hl', rfl⟩ := List.mem_map.mp hr
    exact seenR_name hp
  have hd : toData st 20 (sheetD (sheetP p who way turn b)) = some (sheetQ (sheetP p who way turn b)) := by
    refine toData_tup (n := 19) (optL_map fun line hl => ?_)
    refine toData_tup (n := 18) (optL_map fun r hr' => ?_)
    exact row_data fun z hz => ((hr line hl).2 r hr').1 z hz |>.1
  refine repr_tup hd (shw_tuple (n := 100000) fun d hd => ?_) (by rw [List.length_map]; unfold sheetP; rw [List.length_map, List.length_dropLast]; omega)
  obtain ⟨line, hl, rfl⟩ := List.mem_map.mp hd
  obtain ⟨l1, l2⟩ := hr line hl
  refine (shw_tuple (n := 4000) fun e he => ?_).mono (by rw [List.length_map]; omega)
  obtain ⟨r, hr', rfl⟩ := List.mem_map.mp he
  obtain ⟨r1, r2⟩ := l2 r hr'
  exact shw_row r1 r2
theorem row_ne {xs ys : List Str} {st : Store} (hx : ∀ z ∈ xs, TOk z) (hy : ∀ z ∈ ys, TOk z) : fNe (rowD xs) (rowD ys) st = some (.bl (!decide (xs = ys)), st) := by
  have e1 : toData st 20 (rowD xs) = some (rowP xs) := row_data hx
  have e2 : toData st 20 (rowD ys) = some (rowP ys) := row_data hy
  have sc : scalEq (rowD xs) (rowD ys) = none := rfl
  unfold fNe dataEq
  rw [sc]
  simp only [e1, e2, Option.map_some]
  have : PyData.eqv (rowP xs) (rowP ys) = decide (xs = ys) := by
    show PyData.eqvAll (xs.map PyData.str) (ys.map PyData.str) = _
    exact eqvAll_strs
  rw [this]
end
/-! ### corners -/
theorem zip_fst : ∀ (xs : List Int), (xs.zip xs.tail).map Prod.fst = xs.dropLast
  | [] => rfl
  | [_] => rfl
  | a :: b :: r => by
    have := zip_fst (b :: r)
    show a :: ((b :: r).zip (b :: r).tail).map Prod.fst = _
    rw [this]
    rfl
def cornL (p : Pic) : List (Int × Int) := ((downP p.Hh p.fs).dropLast.map fun t => (acrossP p.W p.fs).dropLast.map fun l => (l, t)).flatten
theorem cells_corn {p : Pic} : (cellsL p).map (fun c => (c.l, c.t)) = cornL p := by
  unfold cellsL cellsG cornL
  rw [List.map_flatten, List.map_map, ← zip_fst (downP p.Hh p.fs), List.map_map]
  congr 1
  refine List.map_congr_left fun q _ => ?_
  simp only [Function.comp_def, List.map_map]
  rw [← zip_fst (acrossP p.W p.fs), List.map_map]
  rfl
theorem find_corn {p : Pic} {Q : Int × Int → Bool} : ((cellsL p).find? fun c => Q (c.l, c.t)).map (fun c => (c.l, c.t)) = (cornL p).find? Q := by
  rw [← cells_corn, List.find?_map]
  rfl
theorem find_grid {Q : Int × Int → Bool} {xs : List Int} : ∀ (ys : List Int), ((ys.map fun t => xs.map fun l => (l, t)).flatten).find? Q = (match ys.find? fun t => (xs.find? fun l => Q (l, t)).isSome with
    | some t => (xs.find? fun l => Q (l, t)).map fun l => (l, t)
    | none => none)
  | [] => rfl
  | y :: ys => by
    rw [List.map_cons, List.flatten_cons, List.find?_append, find_grid ys, List.find?_map, List.find?_cons]
    show ((xs.find? fun l => Q (l, y)).map fun l => (l, y)).or _ = _
    cases z : xs.find? fun l => Q (l, y) with
    | some l => simp [z]
    | none => simp
theorem zip_find {Q : Int → Bool} {xs : List Int} : xs.find? Q = (xs.zipIdx.find? fun q => Q q.1).map Prod.fst := by
  have h : xs.find? Q = (xs.zipIdx.map Prod.fst).find? Q := by
    rw [List.zipIdx_map_fst]
  rw [h, List.find?_map]
  rfl
theorem zip_rng {xs : List Int} : (List.range xs.length).map (fun k : Nat => D.int (k : Int)) = xs.zipIdx.map fun q => D.int (q.2 : Int) := by
  have h : xs.zipIdx.map Prod.snd = List.range' 0 xs.length := List.zipIdx_map_snd 0 xs
  rw [List.range_eq_range', ← h, List.map_map]
  rfl
/-! ### films put great -/
def Fr.far (f : Fr) (k : Int) : Fr := ⟨f.ink, f.l * k, f.t * k, f.r * k, f.b * k, f.doom⟩
def Pic.far (p : Pic) (k : Int) : Pic := ⟨p.W * k, p.Hh * k, p.fs.map fun f => f.far k, p.firm⟩
theorem far_fr {f : Fr} {W Hh k : Int} (h : f.Ok W Hh) (hk : 1 ≤ k) : (f.far k).Ok (W * k) (Hh * k) :=
  ⟨h.ink, Int.mul_nonneg h.l0 (by omega), Int.mul_lt_mul_of_pos_right h.lr (by omega), Int.mul_le_mul_of_nonneg_right h.rW (by omega), Int.mul_nonneg h.t0 (by omega), Int.mul_lt_mul_of_pos_right h.tb (by omega), Int.mul_le_mul_of_nonneg_right h.bH (by omega), h.doom⟩
theorem far_ok {p : Pic} {k w h : Int} {m : Nat} (hp : p.Drawn m w h) (hk : 1 ≤ k) (hk2 : k ≤ 100000000000) (hw : w ≤ 10) (hh : h ≤ 10) : (p.far k).Ok := by
  have w1 : p.W * k ≤ 10 * k := Int.mul_le_mul_of_nonneg_right (by have := hp.Ww; omega) (by omega)
  have h1 : p.Hh * k ≤ 10 * k := Int.mul_le_mul_of_nonneg_right (by have := hp.Hw; omega) (by omega)
  have w0 : 1 * k ≤ p.W * k := Int.mul_le_mul_of_nonneg_right hp.W0 (by omega)
  have h0 : 1 * k ≤ p.Hh * k := Int.mul_le_mul_of_nonneg_right hp.H0 (by omega)
  refine ⟨?_, ?_, ?_, ?_, ?_, ?_, ?_, hp.firm⟩
  · show 1 ≤ p.W * k; omega
  · show p.W * k ≤ _; omega
  · show 1 ≤ p.Hh * k; omega
  · show p.Hh * k ≤ _; omega
  · show p.fs.map _ ≠ []
    have := hp.ne
    simpa using this
  · show (p.fs.map _).length ≤ 8
    rw [List.length_map]
    exact hp.l8
  · intro f hf
    obtain ⟨g, hg, rfl⟩ := List.mem_map.mp hf
    exact far_fr (hp.fr g hg) hk
theorem far_inks {p : Pic} {k : Int} (h : ∀ f ∈ p.fs, f.ink ∈ inks) : ∀ f ∈ (p.far k).fs, f.ink ∈ inks := fun f hf => by
  obtain ⟨g, hg, rfl⟩ := List.mem_map.mp hf
  exact h g hg
end G


set_option Elab.async false
set_option linter.all false
set_option maxRecDepth 100000
set_option  maxHeartbeats   4000000
/-! The first difference of two films with any number of frames. -/
namespace G
open DV PySem L2
section
variable {n1 n2 : Nat} {p q : Pic} {w1 w2 : Str} {s : Stand} {st : Store}
/-- whether they show the same as far as both go -/
def noneU (p q : Pic) (w1 w2 : Str) (s : Stand) : Bool := decide (∀ b, b < beats2 p q → firstC (diff2 p q w1 w2 s) (cells2 p q) b = none)
def unlikeU (p q : Pic) (w1 w2 : Str) (s : Stand) : D := if (noneU p q w1 w2 s && !decide (p.fs.length = q.fs.length)) = true then .tup [.int ((beats2 p q : Nat) : Int), .non] else firstU p q w1 w2 s
/-- first_unlike -/
theorem first_unlike_all (h1 : FilmAt st n1 p) (h2 : FilmAt st n2 q) (hn1 : n1 < st.nxt) (hn2 : n2 < st.nxt) (hp : p.Ok) (hq : q.Ok) (t1 : TOk w1) (t2 : TOk w2) (hs : s.Ok p.inks) (hs2 : s.Ok q.inks) (hI : InkOk (p.inks ++ q.inks)) (hl : (p.fs ++ q.fs).length ≤ 12) :
    ∃ st', F_first_unlike [.ref n1, .ref n2, .str w1, .str w2, s.d] st = .ok (unlikeU p q w1 w2 s) st' ∧ Kp [] st st' := by
  have q1 := parts_ok h1 hp.l8
  have k1 : Kp [] st (st.new (.lst (p.fs.map Fr.part))) := Kp.new
  have q2 := parts_ok (k1.get0 h2 hn2) hq.l8
  have k2 : Kp [] (st.new (.lst (p.fs.map Fr.part))) ((st.new (.lst (p.fs.map Fr.part))).new (.lst (q.fs.map Fr.part))) := Kp.new
  have a1 := width_ok h1
  have a2 := height_ok h1
  let s2 := (st.new (.lst (p.fs.map Fr.part))).new (.lst (q.fs.map Fr.part))
  have g1 : s2.at_ st.nxt = some (.lst (p.fs.map Fr.part)) := k2.get0 Store.new_same (Nat.lt_succ_self _)
  have g2 : s2.at_ (st.nxt + 1) = some (.lst (q.fs.map Fr.part)) := Store.new_same
  let s3 := s2.new (.lst ((p.fs ++ q.fs).map Fr.part))
  have k3 : Kp [] s2 s3 := Kp.new
  have kk : Kp [] st s3 := (k1.trans k2).trans k3
  obtain ⟨r, s4, e4, k4, r1, r2, r3⟩ := cells_of_ok (W := p.W) (Hh := p.Hh) (fs := p.fs ++ q.fs) (st := s3) (m := s2.nxt) Store.new_same (Nat.lt_succ_self _) hl
  rw [cellsD_eq] at r3
  have k04 := kk.trans k4
  have hD : DiffAt (fdC F_first_unlike_differ [.ref n1, .ref n2, .str w1, .str w2, s.d]) s4 (beats2 p q) (diff2 p q w1 w2 s) (cells2 p q) := fun c hc => by
    refine ⟨fun k hk => ?_, fun t ht => ?_⟩
    · obtain ⟨x, y, g3, g4, _⟩ := mem_diffN.mp hk
      have l1 := (List.getElem?_eq_some_iff.mp g3).1
      have l2 := (List.getElem?_eq_some_iff.mp g4).1
      unfold shown at l1 l2
      rw [showS_len _ _ _ Pic.cov_len] at l1 l2
      unfold beats2
      omega
    · exact differ_ok ((k04.trans ht).get0 h1 hn1) ((k04.trans ht).get0 h2 hn2) (Nat.lt_of_lt_of_le hn1 (k04.trans ht).le) (Nat.lt_of_lt_of_le hn2 (k04.trans ht).le) hp hq t1 t2 hs hs2 hI
  have bn : beats2 p q ≤ 100 := by
    unfold beats2
    have := hp.l8
    omega
  obtain ⟨m, s5, e5, k5, v1, v2⟩ := first_spots_ok (hF := fdC F_first_unlike_differ [.ref n1, .ref n2, .str w1, .str w2, s.d]) (n := beats2 p q) (r := r) r3 r2 bn hD
  obtain ⟨s6, e6, k6⟩ := first_pair_ok v2 v1
  have k05 := k04.trans k5
  have k06 := k05.trans k6
  refine ⟨s6, ?_, k06⟩
  have w0 : ∀ hf : Addr, msAsg (mCall F_cells_of [] (maCons (mProp 0 F_Film_width (mVar 0)) (maCons (mProp 0 F_Film_height (mVar 0)) (maCons (m2 fAdd (mCall F_parts_in [] (maCons (mVar 0) maNil)) (mCall F_parts_in [] (maCons (mVar 1) maNil))) maNil)))) (tgName 6) [some (.ref n1), some (.ref n2), some (.str w1), some (.str w2), some s.d, some (.cst (.ref hf)), none, none] st = .nx [some (.ref n1), some (.ref n2), some (.str w1), some (.str w2), some s.d, some (.cst (.ref hf)), some (.ref r), none] s4 := fun hf => by
    have z : (p.fs.map Fr.part).length + (q.fs.map Fr.part).length ≤ sizeLine := small_line (by simp at hl ⊢; omega)
    have ad : fAdd (.ref st.nxt) (.ref (st.nxt + 1)) s2 = some (.ref s2.nxt, s3) := by
      simp only [ev_fAdd, g1, g2, if_pos z]
      show some (D.ref s2.nxt, s2.new (.lst (p.fs.map Fr.part ++ q.fs.map Fr.part))) = some (D.ref s2.nxt, s2.new (.lst ((p.fs ++ q.fs).map Fr.part)))
      rw [List.map_append]
    have f1 := h1
    unfold FilmAt at f1
    have e4' : F_cells_of [.int p.W, .int p.Hh, .ref (st.nxt + 1 + 1)] (((st.new (.lst (p.fs.map Fr.part))).new (.lst (q.fs.map Fr.part))).new (.lst (p.fs.map Fr.part ++ q.fs.map Fr.part))) = .ok (.ref r) s4 := by
      rw [← List.map_append]
      exact e4
    simp [-ev_fAdd, f1, a1, a2, q1, q2, ad, s2, s3, e4']
  have w1' : ∀ hf : Addr, msAsg (mCall F_first_pair [] (maCons (mCallH hf 2 [0, 1, 2, 3, 4] F_first_spots F_first_unlike_differ (maCons (mVar 6) (maCons (mL (f2I minI) (maCons (mLenX 0 F_Film_len (mVar 0)) (maCons (mLenX 0 F_Film_len (mVar 1)) maNil))) (maCons (mVar 5) maNil)))) maNil)) (tgName 7) [some (.ref n1), some (.ref n2), some (.str w1), some (.str w2), some s.d, some (.cst (.ref hf)), some (.ref r), none] s4 = .nx [some (.ref n1), some (.ref n2), some (.str w1), some (.str w2), some s.d, some (.cst (.ref hf)), some (.ref r), some (firstU p q w1 w2 s)] s6 := fun hf => by
    have x1 := lenX_ok (k04.get0 h1 hn1) hp.l8 (l := [some (.ref n1), some (.ref n2), some (.str w1), some (.str w2), some s.d, some (.cst (.ref hf)), some (.ref r), none]) (i := 0) rfl
    have x2 := lenX_ok (k04.get0 h2 hn2) hq.l8 (l := [some (.ref n1), some (.ref n2), some (.str w1), some (.str w2), some s.d, some (.cst (.ref hf)), some (.ref r), none]) (i := 1) rfl
    have mn : (if q.fs.length < p.fs.length then (q.fs.length : Int) else (p.fs.length : Int)) = ((beats2 p q : Nat) : Int) := by
      unfold beats2
      split <;> omega
    have xs : maCons (mVar 6) (maCons (mL (f2I minI) (maCons (mLenX 0 F_Film_len (mVar 0)) (maCons (mLenX 0 F_Film_len (mVar 1)) maNil))) (maCons (mVar 5) maNil)) [some (.ref n1), some (.ref n2), some (.str w1), some (.str w2), some s.d, some (.cst (.ref hf)), some (.ref r), none] s4 = .ok [.ref r, .int ((beats2 p q : Nat) : Int), .cst (.ref hf)] s4 := by
      simp [-ev_mLenX, x1, x2, mn]
    have sl : slots [some (.ref n1), some (.ref n2), some (.str w1), some (.str w2), some s.d, some (D.cst (.ref hf)), some (.ref r), none] [0, 1, 2, 3, 4] = some [.ref n1, .ref n2, .str w1, .str w2, s.d] := rfl
    have ch : mCallH hf 2 [0, 1, 2, 3, 4] F_first_spots F_first_unlike_differ (maCons (mVar 6) (maCons (mL (f2I minI) (maCons (mLenX 0 F_Film_len (mVar 0)) (maCons (mLenX 0 F_Film_len (mVar 1)) maNil))) (maCons (mVar 5) maNil))) [some (.ref n1), some (.ref n2), some (.str w1), some (.str w2), some s.d, some (.cst (.ref hf)), some (.ref r), none] s4 = .ok (.ref m) s5 := by
      unfold mCallH
      rw [xs]
      show (if hf = hf then (match slots [some (.ref n1), some (.ref n2), some (.str w1), some (.str w2), some s.d, some (D.cst (.ref hf)), some (.ref r), none] [0, 1, 2, 3, 4] with
        | some ws => F_first_spots hf (fdC F_first_unlike_differ ws) [.ref r, .int ((beats2 p q : Nat) : Int), .cst (.ref hf)] s4
        | none => .bad) else .bad) = _
      rw [if_pos rfl, sl]
      exact e5 hf
    rw [ev_msAsg, ev_mCall, ev_maCons, ch]
    simp [e6]
    rfl
  have isN := firstD_isN (n := beats2 p q) (F := firstC (diff2 p q w1 w2 s) (cells2 p q)) (st := s6)
  have isN' : fIsN (firstU p q w1 w2 s) .non s6 = some (.bl (noneU p q w1 w2 s), s6) := isN
  refine def_rt rfl rfl (msDefR_at fun hf => ?_)
  refine (seq_nx (w0 hf)).trans ?_
  refine (seq_nx (w1' hf)).trans ?_
  have x1 := lenX_ok (k06.get0 h1 hn1) hp.l8 (l := [some (.ref n1), some (.ref n2), some (.str w1), some (.str w2), some s.d, some (.cst (.ref hf)), some (.ref r), some (firstU p q w1 w2 s)]) (i := 0) rfl
  have x2 := lenX_ok (k06.get0 h2 hn2) hq.l8 (l := [some (.ref n1), some (.ref n2), some (.str w1), some (.str w2), some s.d, some (.cst (.ref hf)), some (.ref r), some (firstU p q w1 w2 s)]) (i := 1) rfl
  have mn : (if q.fs.length < p.fs.length then (q.fs.length : Int) else (p.fs.length : Int)) = ((beats2 p q : Nat) : Int) := by
    unfold beats2
    split <;> omega
  unfold unlikeU
  cases z : noneU p q w1 w2 s with
  | false =>
    rw [z] at isN'
    simp [-ev_mLenX, -ev_fIsN, isN']
  | true =>
    rw [z] at isN'
    by_cases he : p.fs.length = q.fs.length
    · have x2' := x2
      rw [← he] at x2'
      simp [-ev_mLenX, -ev_fIsN, isN', x1, x2', he]
    · have ne : ¬ ((p.fs.length : Int) = (q.fs.length : Int)) := by omega
      simp [-ev_mLenX, -ev_fIsN, isN', x1, x2, he, ne, mn]
end
end G


set_option Elab.async false
set_option linter.all false
set_option maxRecDepth 100000
set_option  maxHeartbeats   4000000
/-! Stands from any screen; the first difference by colours. -/
namespace G
open DV PySem L2
theorem not_firm {firm I : List Str} {s : Stand} (h : s.Good firm I) (hl : lastIn firm s.row ≠ true) : ∀ z ∈ s.row, z ∉ firm := fun z hz hf => by
  rcases List.eq_nil_or_concat s.row with e | ⟨ys, y, e⟩
  · rw [e] at hz; simp at hz
  · have e : s.row = ys ++ [y] := by simpa using e
    have hd := h.drop
    rw [e] at hz hd hl
    rcases List.mem_append.mp hz with m | m
    · refine hd z ?_ hf
      rw [List.dropLast_concat]
      exact m
    · rw [List.mem_singleton.mp m] at hf
      refine hl ?_
      unfold lastIn
      rw [List.getLast?_concat]
      simpa using hf
/-- stands that no choice tells apart, from nothing and from a colour -/
theorem sep_any {firm : List Str} {c : Int} {s t : Stand} (hs : s.Good firm inks) (ht : t.Good firm inks) (h : ∀ q ∈ patsL firm, nu q none s = nu q none t ∧ nu q (some c) s = nu q (some c) t) : s = t := by
  have e : s.row = t.row := sep hueL_inj hs.ok.nd ht.ok.nd hs.ok.inks ht.ok.inks hs.drop ht.drop fun g h1 h2 => by
    obtain ⟨q, hq, e⟩ := pats_all h1
    rw [← valP_congr e hs.ok.inks, ← valP_congr e ht.ok.inks, ← nu_none, ← nu_none]
    exact (h q hq).1
  have key : ∀ {s t : Stand}, s.Good firm inks → t.Good firm inks → s.row = t.row → (∀ q ∈ patsL firm, nu q (some c) s = nu q (some c) t) → s.closed = true → t.closed = false → False := fun {s t} hs ht e h cs ct => by
    have nf : ∀ z ∈ t.row, z ∉ firm := not_firm ht fun w => by
      have := ht.last w
      rw [ct] at this
      cases this
    obtain ⟨q, hq, e2⟩ := pats_all (h := t.row) nf
    have v : valP q t.row = none := by
      rw [valP_congr e2 ht.ok.inks]
      exact holed_pre _ fun _ h => h
    have z := h q hq
    rw [nu_closed cs, e, v] at z
    unfold nu at z
    rw [if_pos ⟨v, ct⟩] at z
    cases z
  obtain ⟨r, k⟩ := s
  obtain ⟨r2, k2⟩ := t
  simp only at e
  subst e
  cases k with
  | true => cases k2 with
    | true => rfl
    | false => exact (key hs ht rfl (fun q hq => (h q hq).2) rfl rfl).elim
  | false => cases k2 with
    | true => exact (key ht hs rfl (fun q hq => (h q hq).2.symm) rfl rfl).elim
    | false => rfl
/-! ### the first spot of cells of any frames -/
theorem find_dotsG {W Hh : Int} {fs : List Fr} (h0 : 0 ≤ W) (h1 : 0 ≤ Hh) (hf : ∀ f ∈ fs, f.Ok W Hh) {P : List Bool → Bool} : ((cellsG W Hh fs).find? fun c => P (covF fs c.l c.t)).map (fun c => (c.l, c.t)) = (dotsL W Hh).find? fun q => P (covF fs q.1 q.2) := by
  have cv : ∀ {c : Box} {x y : Int}, c ∈ cellsG W Hh fs → c.has x y → covF fs x y = covF fs c.l c.t := fun hc hh => List.map_congr_left fun f hf => cell_same hc hh f hf
  have cd : ∀ {q : Int × Int}, q ∈ dotsL W Hh → ∃ c ∈ cellsG W Hh fs, c.has q.1 q.2 := fun {q} hq => by
    obtain ⟨x, y⟩ := q
    have := mem_dotsL.mp hq
    exact cell_of this.1 this.2.1 this.2.2.1 this.2.2.2
  cases z : (cellsG W Hh fs).find? fun c => P (covF fs c.l c.t) with
  | none =>
    symm
    simp only [Option.map_none]
    refine List.find?_eq_none.mpr fun q hq => ?_
    obtain ⟨c, hc, hh⟩ := cd hq
    rw [cv hc hh]
    exact List.find?_eq_none.mp z c hc
  | some c =>
    symm
    simp only [Option.map_some]
    have hc := List.mem_of_find?_eq_some z
    have hP := List.find?_some z
    have on := cell_on h0 h1 hf hc
    refine find_least bef_dots (mem_dotsL.mpr (by omega)) hP (fun b hb hb2 => ?_) (fun b _ _ hn => ?_)
    · obtain ⟨d, hd, hh⟩ := cd hb
      rw [cv hd hh] at hb2
      obtain ⟨h1, h2, h3, h4⟩ := hh
      rcases find_first (lt := fun c d => bef (c.l, c.t) (d.l, d.t)) bef_cells z d hd hb2 with e | e
      · subst e
        rintro (a | ⟨a, a2⟩)
        · simp only at a; omega
        · simp only at a a2; omega
      · rintro (a | ⟨a, a2⟩)
        · rcases e with e | ⟨e, e2⟩
          · simp only at a e; omega
          · simp only at a e e2; omega
        · rcases e with e | ⟨e, e2⟩
          · simp only at a a2 e; omega
          · simp only at a a2 e e2; omega
    · obtain ⟨x, y⟩ := b
      unfold bef at hn ⊢
      simp only [Prod.mk.injEq] at hn ⊢
      omega
/-! ### searches by beat and spot -/
abbrev Spot := Nat × Int × Int
def bef3 (a b : Spot) : Prop := a.1 < b.1 ∨ (a.1 = b.1 ∧ bef a.2 b.2)
def allL (n : Nat) (ds : List (Int × Int)) : List Spot := ((List.range n).map fun b => ds.map fun q => (b, q)).flatten
theorem bef_all {n : Nat} {W Hh : Int} : (allL n (dotsL W Hh)).Pairwise bef3 := by
  unfold allL
  rw [List.pairwise_flatten]
  constructor
  · intro l hl
    obtain ⟨b, hb, rfl⟩ := List.mem_map.mp hl
    rw [List.pairwise_map]
    exact bef_dots.imp fun h => .inr ⟨rfl, h⟩
  · rw [List.pairwise_map]
    refine List.pairwise_lt_range.imp fun {a b} h p hp q hq => ?_
    obtain ⟨x, _, rfl⟩ := List.mem_map.mp hp
    obtain ⟨x', _, rfl⟩ := List.mem_map.mp hq
    exact .inl h
theorem mem_all {n : Nat} {ds : List (Int × Int)} {a : Spot} : a ∈ allL n ds ↔ a.1 < n ∧ a.2 ∈ ds := by
  obtain ⟨b, q⟩ := a
  unfold allL
  simp only [List.mem_flatten, List.mem_map]
  constructor
  · rintro ⟨l, ⟨b', hb, rfl⟩, h⟩
    obtain ⟨q', hq, e⟩ := List.mem_map.mp h
    cases e
    exact ⟨List.mem_range.mp hb, hq⟩
  · rintro ⟨h1, h2⟩
    exact ⟨_, ⟨b, List.mem_range.mpr h1, rfl⟩, List.mem_map.mpr ⟨q, h2, rfl⟩⟩
def srch (P : Nat → Int × Int → Bool) (n : Nat) (ds : List (Int × Int)) : Option Spot := (allL n ds).find? fun a => P a.1 a.2
theorem find_rows {P : Nat → Int × Int → Bool} {ds : List (Int × Int)} : ∀ (bs : List Nat), ((bs.map fun b => ds.map fun q => ((b, q) : Spot)).flatten).find? (fun a => P a.1 a.2) = (match bs.find? fun b => (ds.find? (P b)).isSome with
    | some b => (ds.find? (P b)).map fun q => (b, q)
    | none => none)
  | [] => rfl
  | b :: bs => by
    rw [List.map_cons, List.flatten_cons, List.find?_append, find_rows bs, List.find?_map, List.find?_cons]
    show ((ds.find? (P b)).map fun q => ((b, q) : Spot)).or _ = _
    cases z : ds.find? (P b) with
    | some l => simp [z]
    | none => simp
theorem srch_eq {P : Nat → Int × Int → Bool} {n : Nat} {ds : List (Int × Int)} : srch P n ds = (match (List.range n).find? fun b => (ds.find? (P b)).isSome with
    | some b => (ds.find? (P b)).map fun q => (b, q)
    | none => none) := find_rows _
theorem srch_congr {P Q : Nat → Int × Int → Bool} {n : Nat} {ds : List (Int × Int)} (h : ∀ b, b < n → ∀ q ∈ ds, P b q = Q b q) : srch P n ds = srch Q n ds := by
  unfold srch
  have key : ∀ (xs : List Spot), (∀ a ∈ xs, a.1 < n ∧ a.2 ∈ ds) → xs.find? (fun a => P a.1 a.2) = xs.find? fun a => Q a.1 a.2 := by
    intro xs
    induction xs with
    | nil => intro _; rfl
    | cons x xs ih =>
      intro hx
      simp only [List.find?_cons]
      rw [h x.1 (hx x (by simp)).1 x.2 (hx x (by simp)).2, ih fun a ha => hx a (List.mem_cons_of_mem _ ha)]
  exact key _ fun a ha => mem_all.mp ha
def spotD : Option Spot → D
  | some a => .tup [.int (a.1 : Int), dotD a.2]
  | none => .non
/-- what is told: a beat and a spot; the number of beats if just that differs -/
def outD (n : Nat) (eq : Bool) : Option Spot → D
  | some a => .tup [.int (a.1 : Int), dotD a.2]
  | none => if eq = true then .non else .tup [.int (n : Int), .non]
theorem firstD_srch {P : Nat → Int × Int → Bool} {n : Nat} {ds : List (Int × Int)} {F : Nat → Option (Int × Int)} (h : ∀ b, b < n → F b = ds.find? (P b)) : firstD n F = spotD (srch P n ds) := by
  rw [srch_eq]
  have key : ∀ (xs : List Nat), (∀ b ∈ xs, b < n) → xs.find? (fun b => (F b).isSome) = xs.find? fun b => (ds.find? (P b)).isSome := by
    intro xs
    induction xs with
    | nil => intro _; rfl
    | cons x xs ih =>
      intro hx
      simp only [List.find?_cons]
      rw [h x (hx x (by simp)), ih fun b hb => hx b (List.mem_cons_of_mem _ hb)]
  unfold firstD
  rw [key _ fun b hb => List.mem_range.mp hb]
  cases z : (List.range n).find? fun b => (ds.find? (P b)).isSome with
  | none => rfl
  | some b =>
    have hb := List.mem_range.mp (List.mem_of_find?_eq_some z)
    have hs := List.find?_some z
    simp only
    rw [h b hb]
    cases y : ds.find? (P b) with
    | none => rw [y] at hs; cases hs
    | some q => rfl
instance (a b : Spot) : Decidable (bef3 a b) := by unfold bef3 bef; infer_instance
/-- the first of one or of another kind -/
theorem find_or {xs : List Spot} {P Q : Spot → Bool} (hs : xs.Pairwise bef3) : xs.find? (fun a => P a || Q a) = (match xs.find? P, xs.find? Q with
    | none, y => y
    | some a, none => some a
    | some a, some b => if bef3 b a then some b else some a) := by
  induction xs with
  | nil => rfl
  | cons x xs ih =>
    have hs' := List.pairwise_cons.mp hs
    have irr : ∀ a b : Spot, bef3 a b → ¬ bef3 b a := fun a b h h2 => by
      obtain ⟨a1, a2, a3⟩ := a
      obtain ⟨b1, b2, b3⟩ := b
      unfold bef3 bef at h h2
      simp only at h h2
      omega
    have self : ∀ a : Spot, ¬ bef3 a a := fun a h => irr a a h h
    simp only [List.find?_cons]
    cases hp : P x <;> cases hq : Q x
    · simp only [Bool.or_false, Bool.false_eq_true]
      exact ih hs'.2
    · simp only [Bool.or_true]
      cases y : xs.find? P with
      | none => rfl
      | some a => simp only; rw [if_pos (hs'.1 a (List.mem_of_find?_eq_some y))]
    · simp only [Bool.or_false]
      cases y : xs.find? Q with
      | none => rfl
      | some b => simp only; rw [if_neg (irr _ _ (hs'.1 b (List.mem_of_find?_eq_some y)))]
    · simp only [Bool.or_self]
      rw [if_neg (self x)]
/-! ### two films by colours -/
/-- whether they differ at a beat and a spot for some choice of holes, from a colour or nothing -/
def difP (p q : Pic) (w1 w2 : Str) (c : Col) (b : Nat) (pt : Int × Int) : Bool := !(patsL p.firm).all fun pat => decide ((colsC pat w1 (covF p.fs pt.1 pt.2) p.fs c)[b]? = (colsC pat w2 (covF q.fs pt.1 pt.2) q.fs c)[b]?)
section
variable {p q : Pic} {w1 w2 : Str}
/-- what is shown at a beat -/
theorem cols_from {pat : Pat} {w : Str} {p : Pic} {s : Stand} {c : Col} {x y : Int} (hp : ∀ f ∈ p.fs, f.ink ∈ inks) (hq : Full p.firm inks pat) (hs : s.Ok inks) (e : nu pat c s = c) : colsC pat w (covF p.fs x y) p.fs c = (shown p w s (p.cov x y)).map (nu pat c) := by
  have := cols_nu (first := c) (who := w) hq (covF p.fs x y) p.fs s hp hs
  rw [e] at this
  rw [this]
  rfl
theorem cov_both {p q : Pic} {x y : Int} : covF (p.fs ++ q.fs) x y = p.cov x y ++ q.cov x y := by
  unfold covF
  rw [List.map_append]
  rfl
theorem firm_eq (h : q.firm = p.firm) {pat : Pat} (hq : Full p.firm inks pat) : Full q.firm inks pat := by rw [h]; exact hq
theorem difP_none (hp : ∀ f ∈ p.fs, f.ink ∈ inks) (hq : ∀ f ∈ q.fs, f.ink ∈ inks) (hf : q.firm = p.firm) {b : Nat} {pt : Int × Int} (h1 : b < p.fs.length) (h2 : b < q.fs.length) : difP p q w1 w2 none b pt = !decide ((shown p w1 nothing (p.cov pt.1 pt.2))[b]? = (shown q w2 nothing (q.cov pt.1 pt.2))[b]?) := by
  unfold difP
  congr 1
  obtain ⟨s, hs⟩ : ∃ s, (shown p w1 nothing (p.cov pt.1 pt.2))[b]? = some s := ⟨_, List.getElem?_eq_getElem (by unfold shown; rw [showS_len _ _ _ Pic.cov_len]; exact h1)⟩
  obtain ⟨t, ht⟩ : ∃ t, (shown q w2 nothing (q.cov pt.1 pt.2))[b]? = some t := ⟨_, List.getElem?_eq_getElem (by unfold shown; rw [showS_len _ _ _ Pic.cov_len]; exact h2)⟩
  have gs : s.Good p.firm inks := show_Good _ _ _ hp no_Good s (List.mem_of_getElem? hs)
  have gt : t.Good p.firm inks := by rw [← hf]; exact show_Good _ _ _ hq no_Good t (List.mem_of_getElem? ht)
  have cs : s.closed = true := show_closed _ _ _ rfl s (List.mem_of_getElem? hs)
  have ct : t.closed = true := show_closed _ _ _ rfl t (List.mem_of_getElem? ht)
  have ev : ∀ pat ∈ patsL p.firm, ((colsC pat w1 (covF p.fs pt.1 pt.2) p.fs none)[b]? = (colsC pat w2 (covF q.fs pt.1 pt.2) q.fs none)[b]?) ↔ valP pat s.row = valP pat t.row := fun pat hpat => by
    have fl := pats_full pat hpat
    rw [cols_from (s := nothing) hp fl no_Ok nu_no, cols_from (s := nothing) hq (firm_eq hf fl) no_Ok nu_no, List.getElem?_map, List.getElem?_map, hs, ht]
    simp only [Option.map_some, Option.some.injEq, nu_none]
  rw [hs, ht, Bool.eq_iff_iff, List.all_eq_true, decide_eq_true_eq]
  constructor
  · intro h
    rw [sep_pats gs gt cs ct fun pat hpat => (ev pat hpat).mp (of_decide_eq_true (h pat hpat))]
  · intro h pat hpat
    refine decide_eq_true ((ev pat hpat).mpr ?_)
    rw [Option.some.inj h]
theorem difP_any (hp : ∀ f ∈ p.fs, f.ink ∈ inks) (hq : ∀ f ∈ q.fs, f.ink ∈ inks) (hf : q.firm = p.firm) {b : Nat} {c : Int} {pt : Int × Int} (h1 : b < p.fs.length) (h2 : b < q.fs.length) : (difP p q w1 w2 none b pt || difP p q w1 w2 (some c) b pt) = !decide ((shown p w1 anything (p.cov pt.1 pt.2))[b]? = (shown q w2 anything (q.cov pt.1 pt.2))[b]?) := by
  obtain ⟨s, hs⟩ : ∃ s, (shown p w1 anything (p.cov pt.1 pt.2))[b]? = some s := ⟨_, List.getElem?_eq_getElem (by unfold shown; rw [showS_len _ _ _ Pic.cov_len]; exact h1)⟩
  obtain ⟨t, ht⟩ : ∃ t, (shown q w2 anything (q.cov pt.1 pt.2))[b]? = some t := ⟨_, List.getElem?_eq_getElem (by unfold shown; rw [showS_len _ _ _ Pic.cov_len]; exact h2)⟩
  have gs : s.Good p.firm inks := show_Good _ _ _ hp any_Good s (List.mem_of_getElem? hs)
  have gt : t.Good p.firm inks := by rw [← hf]; exact show_Good _ _ _ hq any_Good t (List.mem_of_getElem? ht)
  have ev : ∀ c0 : Col, ∀ pat ∈ patsL p.firm, ((colsC pat w1 (covF p.fs pt.1 pt.2) p.fs c0)[b]? = (colsC pat w2 (covF q.fs pt.1 pt.2) q.fs c0)[b]?) ↔ nu pat c0 s = nu pat c0 t := fun c0 pat hpat => by
    have fl := pats_full pat hpat
    rw [cols_from (s := anything) hp fl any_Ok nu_any, cols_from (s := anything) hq (firm_eq hf fl) any_Ok nu_any, List.getElem?_map, List.getElem?_map, hs, ht]
    simp only [Option.map_some, Option.some.injEq]
  have al : ∀ c0 : Col, difP p q w1 w2 c0 b pt = true ↔ ∃ pat ∈ patsL p.firm, nu pat c0 s ≠ nu pat c0 t := fun c0 => by
    unfold difP
    simp only [Bool.not_eq_true', List.all_eq_false, decide_eq_true_eq]
    constructor
    · rintro ⟨pat, h1, h2⟩
      exact ⟨pat, h1, fun e => h2 ((ev c0 pat h1).mpr e)⟩
    · rintro ⟨pat, h1, h2⟩
      exact ⟨pat, h1, fun e => h2 ((ev c0 pat h1).mp e)⟩
  rw [hs, ht, Bool.eq_iff_iff, Bool.or_eq_true, al, al]
  simp only [Bool.not_eq_true', decide_eq_false_iff_not, Option.some.injEq]
  constructor
  · rintro (⟨pat, h1, h2⟩ | ⟨pat, h1, h2⟩) e
    · exact h2 (by rw [e])
    · exact h2 (by rw [e])
  · intro h
    by_cases z : ∃ pat ∈ patsL p.firm, nu pat none s ≠ nu pat none t
    · exact .inl z
    · refine .inr (Classical.byContradiction fun y => h (sep_any (c := c) gs gt fun pat hpat => ⟨?_, ?_⟩))
      · exact Classical.byContradiction fun e => z ⟨pat, hpat, e⟩
      · exact Classical.byContradiction fun e => y ⟨pat, hpat, e⟩
/-- the program's search as a search over all spots -/
theorem unlikeU_srch {s : Stand} {P : Nat → Int × Int → Bool} (hp : p.Ok) (hqf : ∀ f ∈ q.fs, f.Ok p.W p.Hh) (hP : ∀ b, b < beats2 p q → ∀ pt, P b pt = !decide ((shown p w1 s (p.cov pt.1 pt.2))[b]? = (shown q w2 s (q.cov pt.1 pt.2))[b]?)) : unlikeU p q w1 w2 s = outD (beats2 p q) (decide (p.fs.length = q.fs.length)) (srch P (beats2 p q) (dotsL p.W p.Hh)) := by
  have F : ∀ b, b < beats2 p q → firstC (diff2 p q w1 w2 s) (cells2 p q) b = (dotsL p.W p.Hh).find? (P b) := fun b hb => by
    have b1 : b < p.fs.length := by unfold beats2 at hb; omega
    have b2 : b < q.fs.length := by unfold beats2 at hb; omega
    have z := find_dotsG (W := p.W) (Hh := p.Hh) (fs := p.fs ++ q.fs) (by have := hp.W0; omega) (by have := hp.H0; omega) (fun f hf => by
      rcases List.mem_append.mp hf with m | m
      · exact hp.fr f m
      · exact hqf f m) (P := fun bs => !decide ((shown p w1 s (bs.take p.fs.length))[b]? = (shown q w2 s (bs.drop p.fs.length))[b]?))
    have tk : ∀ x y : Int, (covF (p.fs ++ q.fs) x y).take p.fs.length = p.cov x y := fun x y => by
      rw [cov_both, ← (Pic.cov_len (p := p) (x := x) (y := y)), List.take_left]
    have dr : ∀ x y : Int, (covF (p.fs ++ q.fs) x y).drop p.fs.length = q.cov x y := fun x y => by
      rw [cov_both, ← (Pic.cov_len (p := p) (x := x) (y := y)), List.drop_left]
    simp only [tk, dr] at z
    have h1 : (fun c : Box => decide (b ∈ diff2 p q w1 w2 s c)) = fun c => !decide ((shown p w1 s (p.cov c.l c.t))[b]? = (shown q w2 s (q.cov c.l c.t))[b]?) := by
      funext c
      obtain ⟨u, hu⟩ : ∃ u, (shown p w1 s (p.cov c.l c.t))[b]? = some u := ⟨_, List.getElem?_eq_getElem (by unfold shown; rw [showS_len _ _ _ Pic.cov_len]; exact b1)⟩
      obtain ⟨v, hv⟩ : ∃ v, (shown q w2 s (q.cov c.l c.t))[b]? = some v := ⟨_, List.getElem?_eq_getElem (by unfold shown; rw [showS_len _ _ _ Pic.cov_len]; exact b2)⟩
      rw [Bool.eq_iff_iff]
      unfold diff2
      simp only [decide_eq_true_eq, Bool.not_eq_true', decide_eq_false_iff_not, mem_diffN]
      rw [hu, hv]
      constructor
      · rintro ⟨s', t', a1, a2, a3⟩ e
        cases a1; cases a2
        exact a3 (Option.some.inj e)
      · intro h
        exact ⟨u, v, rfl, rfl, fun e => h (by rw [e])⟩
    have h2 : P b = fun pt => !decide ((shown p w1 s (p.cov pt.1 pt.2))[b]? = (shown q w2 s (q.cov pt.1 pt.2))[b]?) := funext fun pt => hP b hb pt
    unfold firstC cells2
    rw [h1, h2]
    exact z
  have fd := firstD_srch F
  have nn : noneU p q w1 w2 s = (srch P (beats2 p q) (dotsL p.W p.Hh)).isNone := by
    have z := firstD_non (n := beats2 p q) (F := firstC (diff2 p q w1 w2 s) (cells2 p q))
    unfold noneU
    rw [fd] at z
    cases y : srch P (beats2 p q) (dotsL p.W p.Hh) with
    | none =>
      rw [y] at z
      exact decide_eq_true (z.mp rfl)
    | some a =>
      rw [y] at z
      exact decide_eq_false fun h => by
        have := z.mpr h
        cases this
  unfold unlikeU firstU
  rw [fd, nn]
  cases y : srch P (beats2 p q) (dotsL p.W p.Hh) with
  | some a => simp [outD, spotD]
  | none =>
    by_cases e : p.fs.length = q.fs.length
    · simp [outD, spotD, e]
    · simp [outD, e]
end
end G


set_option Elab.async false
set_option linter.all false
set_option maxRecDepth 100000
set_option  maxHeartbeats   4000000
/-! The law's own search for the first difference of two films. -/
namespace G
open DV PySem L2
section
variable {wl : Nat} {p q : Pic} {w1 w2 : Str} {c : Col}
theorem differ_L1 {b : Nat} {pt : Int × Int} {pat : Pat} {r : Nat} {o4 o8 : Option D} {st : Store} (t1 : TOk w1) (t2 : TOk w2) (ip : ∀ f ∈ p.fs, f.ink ∈ inks) (iq : ∀ f ∈ q.fs, f.ink ∈ inks) (lp : p.fs.length ≤ 50) (lq : q.fs.length ≤ 50) (hb1 : b < p.fs.length) (hb2 : b < q.fs.length) (hwl : st.at_ wl = some (.lst [.str w1, .str w2])) (hwn : wl < st.nxt) (ha : PatOk st inks (r, pat)) :
    (if decide ((colsC pat w1 (covF p.fs pt.1 pt.2) p.fs c)[b]? = (colsC pat w2 (covF q.fs pt.1 pt.2) q.fs c)[b]?) = true then ∃ (o8' : Option D) (st2 : Store), law_differ_L1 [some p.d, some q.d, some (.ref wl), some (colD c), o4, some (.int (b : Int)), some (dotD pt), some (.ref r), o8] st = .nx [some p.d, some q.d, some (.ref wl), some (colD c), o4, some (.int (b : Int)), some (dotD pt), some (.ref r), o8'] st2 ∧ Kp [] st st2
     else ∃ st2, law_differ_L1 [some p.d, some q.d, some (.ref wl), some (colD c), o4, some (.int (b : Int)), some (dotD pt), some (.ref r), o8] st = .rt (.tup [.int (b : Int), dotD pt]) st2 ∧ Kp [] st st2) := by
  obtain ⟨s1, e1, k1, n1, g1⟩ := play_ok (x := pt.1) (y := pt.2) (d1 := .int p.W) (d2 := .int p.Hh) (d3 := .tup (p.firm.map D.str)) (c := c) t1 ip lp ha.2 ha.1
  have ha1 := ha.mv0 k1
  have hw1 := k1.get0 hwl hwn
  obtain ⟨s2, e2, k2, n2, g2⟩ := play_ok (x := pt.1) (y := pt.2) (d1 := .int q.W) (d2 := .int q.Hh) (d3 := .tup (q.firm.map D.str)) (c := c) t2 iq lq ha1.2 ha1.1
  have g3 := k2.get0 g1 n1
  have lc1 : (colsC pat w1 (covF p.fs pt.1 pt.2) p.fs c).length = p.fs.length := colsC_len _ _ _ (by unfold covF; simp)
  have lc2 : (colsC pat w2 (covF q.fs pt.1 pt.2) q.fs c).length = q.fs.length := colsC_len _ _ _ (by unfold covF; simp)
  obtain ⟨c1, hc1⟩ : ∃ x, (colsC pat w1 (covF p.fs pt.1 pt.2) p.fs c)[b]? = some x := ⟨_, List.getElem?_eq_getElem (by omega)⟩
  obtain ⟨c2, hc2⟩ : ∃ x, (colsC pat w2 (covF q.fs pt.1 pt.2) q.fs c)[b]? = some x := ⟨_, List.getElem?_eq_getElem (by omega)⟩
  have x1 : atI ((colsC pat w1 (covF p.fs pt.1 pt.2) p.fs c).map colD) (b : Int) = some (colD c1) := ev_atI (by omega) (by rw [List.getElem?_map]; simp [hc1])
  have x2 : atI ((colsC pat w2 (covF q.fs pt.1 pt.2) q.fs c).map colD) (b : Int) = some (colD c2) := ev_atI (by omega) (by rw [List.getElem?_map]; simp [hc2])
  have ne := col_ne (a := c1) (b := c2) (st := s2)
  have e1' : F_law_play [p.d, dotD pt, .ref r, .str w1, colD c] st = .ok (.tup [.ref st.nxt, colD (lastC pat w1 (covF p.fs pt.1 pt.2) p.fs c)]) s1 := e1
  have e2' : F_law_play [q.d, dotD pt, .ref r, .str w2, colD c] s1 = .ok (.tup [.ref s1.nxt, colD (lastC pat w2 (covF q.fs pt.1 pt.2) q.fs c)]) s2 := e2
  have w0 : msAsg (m2 fIx (mCall F_law_play [] (maCons (mVar 0) (maCons (mVar 6) (maCons (mVar 7) (maCons (m2 fIx (mVar 2) (mC (.int 0))) (maCons (mVar 3) maNil)))))) (mC (.int 0))) (tgName 8) [some p.d, some q.d, some (.ref wl), some (colD c), o4, some (.int (b : Int)), some (dotD pt), some (.ref r), o8] st = .nx [some p.d, some q.d, some (.ref wl), some (colD c), o4, some (.int (b : Int)), some (dotD pt), some (.ref r), some (.ref st.nxt)] s1 := by
    simp [hwl, e1']
  unfold law_differ_L1
  rw [seq_nx w0, hc1, hc2]
  have dc : decide (some c1 = some c2) = decide (c1 = c2) := decide_eq_decide.mpr Option.some_inj
  rw [dc]
  have kk := k1.trans k2
  cases z : decide (c1 = c2) with
  | true =>
    rw [z] at ne
    simp only [if_true]
    refine ⟨some (.ref st.nxt), s2, ?_, kk⟩
    simp [-ev_fNe, g1, x1, hw1, e2', g2, x2, ne, Bool.not_true]
  | false =>
    rw [z] at ne
    simp only [Bool.false_eq_true, if_false]
    refine ⟨s2, ?_, kk⟩
    simp [-ev_fNe, g1, x1, hw1, e2', g2, x2, ne]
theorem differ_L2 {b : Nat} {pt : Int × Int} {o4 o7 o8 : Option D} {st : Store} (t1 : TOk w1) (t2 : TOk w2) (hft : ∀ z ∈ p.firm, TOk z) (ip : ∀ f ∈ p.fs, f.ink ∈ inks) (iq : ∀ f ∈ q.fs, f.ink ∈ inks) (lp : p.fs.length ≤ 50) (lq : q.fs.length ≤ 50) (hb1 : b < p.fs.length) (hb2 : b < q.fs.length) (hwl : st.at_ wl = some (.lst [.str w1, .str w2])) (hwn : wl < st.nxt) :
    (if difP p q w1 w2 c b pt = true then ∃ st2, law_differ_L2 [some p.d, some q.d, some (.ref wl), some (colD c), o4, some (.int (b : Int)), some (dotD pt), o7, o8] st = .rt (.tup [.int (b : Int), dotD pt]) st2 ∧ Kp [] st st2
     else ∃ (o7' o8' : Option D) (st2 : Store), law_differ_L2 [some p.d, some q.d, some (.ref wl), some (colD c), o4, some (.int (b : Int)), some (dotD pt), o7, o8] st = .nx [some p.d, some q.d, some (.ref wl), some (colD c), o4, some (.int (b : Int)), some (dotD pt), o7', o8'] st2 ∧ Kp [] st st2) := by
  have lp' := pats_loop (J := fun l => ∃ o7 o8, l = [some p.d, some q.d, some (.ref wl), some (colD c), o4, some (.int (b : Int)), some (dotD pt), o7, o8]) (body := law_differ_L1) (i := 7) (Q := fun pat => decide ((colsC pat w1 (covF p.fs pt.1 pt.2) p.fs c)[b]? = (colsC pat w2 (covF q.fs pt.1 pt.2) q.fs c)[b]?)) (bad := .tup [.int (b : Int), dotD pt]) (firm := p.firm) (l := [some p.d, some q.d, some (.ref wl), some (colD c), o4, some (.int (b : Int)), some (dotD pt), o7, o8]) (st := st) (mi := miSeq (mCall F_law_patterns [] (maCons (m2 fIx (mVar 0) (mC (.int 3))) maNil))) hft
    (fun m s1 e xs h => by simp [Pic.d, e, h]) ⟨_, _, rfl⟩ (fun pat hpat r l st3 hl hk3 ha => by
      obtain ⟨o7, o8, rfl⟩ := hl
      simp only [List.set_cons_succ, List.set_cons_zero]
      have := differ_L1 (pt := pt) (c := c) (o4 := o4) (o8 := o8) t1 t2 ip iq lp lq hb1 hb2 (hk3.get0 hwl hwn) (Nat.lt_of_lt_of_le hwn hk3.le) ha
      split
      · rename_i z
        rw [if_pos z] at this
        obtain ⟨o8', s3, e, k⟩ := this
        exact ⟨_, s3, e, ⟨_, _, rfl⟩, k⟩
      · rename_i z
        rw [if_neg z] at this
        exact this)
  unfold law_differ_L2 difP
  cases z : (patsL p.firm).all fun pat => decide ((colsC pat w1 (covF p.fs pt.1 pt.2) p.fs c)[b]? = (colsC pat w2 (covF q.fs pt.1 pt.2) q.fs c)[b]?) with
  | true =>
    rw [if_pos z] at lp'
    obtain ⟨l2, s3, e, ⟨o7', o8', rfl⟩, k⟩ := lp'
    rw [if_neg (by decide)]
    exact ⟨o7', o8', s3, e, k⟩
  | false =>
    rw [if_neg (by rw [z]; decide)] at lp'
    rw [if_pos (by decide)]
    exact lp'
def difB2 (p q : Pic) (w1 w2 : Str) (c : Col) (b : Nat) : Option (Int × Int) := (dotsL p.W p.Hh).find? (difP p q w1 w2 c b)
theorem differ_L3 {b : Nat} {o4 o6 o7 o8 : Option D} {st : Store} (t1 : TOk w1) (t2 : TOk w2) (hft : ∀ z ∈ p.firm, TOk z) (ip : ∀ f ∈ p.fs, f.ink ∈ inks) (iq : ∀ f ∈ q.fs, f.ink ∈ inks) (lp : p.fs.length ≤ 50) (lq : q.fs.length ≤ 50) (hW : 0 < p.W) (hW2 : p.W ≤ 30) (hH : 0 < p.Hh) (hH2 : p.Hh ≤ 30) (hb1 : b < p.fs.length) (hb2 : b < q.fs.length) (hwl : st.at_ wl = some (.lst [.str w1, .str w2])) (hwn : wl < st.nxt) :
    (if (difB2 p q w1 w2 c b).isSome = true then ∃ st2, law_differ_L3 [some p.d, some q.d, some (.ref wl), some (colD c), o4, some (.int (b : Int)), o6, o7, o8] st = .rt (.tup [.int (b : Int), optD (difB2 p q w1 w2 c b)]) st2 ∧ Kp [] st st2
     else ∃ (l2 : DV.Loc) (st2 : Store), law_differ_L3 [some p.d, some q.d, some (.ref wl), some (colD c), o4, some (.int (b : Int)), o6, o7, o8] st = .nx l2 st2 ∧ (∃ o5 o6 o7 o8, l2 = [some p.d, some q.d, some (.ref wl), some (colD c), o4, o5, o6, o7, o8]) ∧ Kp [] st st2) := by
  obtain ⟨m, s1, e1, h1, h2, k1⟩ := dots_ok (p := p) (d3 := .tup (p.fs.map Fr.d)) (d4 := .tup (p.firm.map D.str)) (st := st) hW hW2 hH hH2
  have it : miSeq (mCall F_law_dots [] (maCons (mVar 0) maNil)) [some p.d, some q.d, some (.ref wl), some (colD c), o4, some (.int (b : Int)), o6, o7, o8] st = .ok ⟨[(m, (dotsL p.W p.Hh).map dotD)], (dotsL p.W p.Hh).map dotD⟩ s1 := by
    simp [Pic.d, e1, h2]
  have lp' := loopS_find (t := tgName 6) (body := law_differ_L2) (k := dotD) (P := difP p q w1 w2 c b) (J := fun l => ∃ o6 o7 o8, l = [some p.d, some q.d, some (.ref wl), some (colD c), o4, some (.int (b : Int)), o6, o7, o8]) (bad := fun pt => .tup [.int (b : Int), dotD pt]) (src_one h2 h1) (dotsL p.W p.Hh) (fun pt hq l st2 hl hk => by
    obtain ⟨o6, o7, o8, rfl⟩ := hl
    refine ⟨_, rfl, ?_⟩
    simp only [List.set_cons_succ, List.set_cons_zero]
    have := differ_L2 (pt := pt) (c := c) (o4 := o4) (o7 := o7) (o8 := o8) t1 t2 hft ip iq lp lq hb1 hb2 ((k1.trans hk).get0 hwl hwn) (Nat.lt_of_lt_of_le hwn (k1.trans hk).le)
    split
    · rename_i z
      rw [if_pos z] at this
      exact this
    · rename_i z
      rw [if_neg z] at this
      obtain ⟨o7', o8', s3, e, k⟩ := this
      exact ⟨_, s3, e, ⟨_, _, _, rfl⟩, k⟩) _ s1 ⟨o6, o7, o8, rfl⟩ Kp.refl
  unfold difB2
  cases z : (dotsL p.W p.Hh).find? (difP p q w1 w2 c b) with
  | some pt =>
    rw [z] at lp'
    obtain ⟨st', e, k⟩ := lp'
    simp only [Option.isSome_some, if_true]
    exact ⟨st', for_is it e, k1.trans k⟩
  | none =>
    rw [z] at lp'
    obtain ⟨l', st', e, ⟨a, c, d, rfl⟩, k⟩ := lp'
    simp only [Option.isSome_none, Bool.false_eq_true, if_false]
    exact ⟨_, st', for_is it e, ⟨_, _, _, _, rfl⟩, k1.trans k⟩
/-- what the law's own search tells -/
def dueD (p q : Pic) (w1 w2 : Str) (c : Col) : D := outD (beats2 p q) (decide (p.fs.length = q.fs.length)) (srch (difP p q w1 w2 c) (beats2 p q) (dotsL p.W p.Hh))
theorem differ_tells {st : Store} (t1 : TOk w1) (t2 : TOk w2) (hft : ∀ z ∈ p.firm, TOk z) (ip : ∀ f ∈ p.fs, f.ink ∈ inks) (iq : ∀ f ∈ q.fs, f.ink ∈ inks) (lp : p.fs.length ≤ 50) (lq : q.fs.length ≤ 50) (hW : 0 < p.W) (hW2 : p.W ≤ 30) (hH : 0 < p.Hh) (hH2 : p.Hh ≤ 30) (hwl : st.at_ wl = some (.lst [.str w1, .str w2])) (hwn : wl < st.nxt) : ∃ st', F_law_differ [p.d, q.d, .ref wl, colD c] st = .ok (dueD p q w1 w2 c) st' ∧ Kp [] st st' := by
  have mn : minI (p.fs.length : Int) (q.fs.length : Int) = ((beats2 p q : Nat) : Int) := by
    unfold minI beats2
    split <;> omega
  have w0 : msAsg (mL (f2I minI) (maCons (mL (f1 lenD) (maCons (m2 fIx (mVar 0) (mC (.int 2))) maNil)) (maCons (mL (f1 lenD) (maCons (m2 fIx (mVar 1) (mC (.int 2))) maNil)) maNil))) (tgName 4) [some p.d, some q.d, some (.ref wl), some (colD c), none, none, none, none, none] st = .nx [some p.d, some q.d, some (.ref wl), some (colD c), some (.int ((beats2 p q : Nat) : Int)), none, none, none, none] st := by
    simp [-ev_minI, Pic.d, mn]
  have hbn : beats2 p q ≤ 1000 := by unfold beats2; omega
  have it := rng_len (n := beats2 p q) (m := mVar 4) (l := [some p.d, some q.d, some (.ref wl), some (colD c), some (.int ((beats2 p q : Nat) : Int)), none, none, none, none]) (st := st) hbn rfl
  have lp' := loopS_find (t := tgName 5) (body := law_differ_L3) (srcs := []) (k := fun k : Nat => D.int (k : Int)) (P := fun b => (difB2 p q w1 w2 c b).isSome) (J := fun l => ∃ o5 o6 o7 o8, l = [some p.d, some q.d, some (.ref wl), some (colD c), some (.int ((beats2 p q : Nat) : Int)), o5, o6, o7, o8]) (bad := fun b => .tup [.int (b : Int), optD (difB2 p q w1 w2 c b)]) (st0 := st) src_nil (List.range (beats2 p q)) (fun b hb l st2 hl hk => by
    obtain ⟨o5, o6, o7, o8, rfl⟩ := hl
    refine ⟨_, rfl, ?_⟩
    simp only [List.set_cons_succ, List.set_cons_zero]
    have hb' := List.mem_range.mp hb
    unfold beats2 at hb'
    exact differ_L3 t1 t2 hft ip iq lp lq hW hW2 hH hH2 (by omega) (by omega) (hk.get0 hwl hwn) (Nat.lt_of_lt_of_le hwn hk.le)) _ st ⟨none, none, none, none, rfl⟩ Kp.refl
  unfold dueD
  rw [srch_eq]
  unfold difB2 at lp'
  cases z : (List.range (beats2 p q)).find? fun b => ((dotsL p.W p.Hh).find? (difP p q w1 w2 c b)).isSome with
  | some b =>
    rw [z] at lp'
    obtain ⟨st', e, k⟩ := lp'
    have hs := List.find?_some z
    refine ⟨st', ?_, k⟩
    have r : F_law_differ [p.d, q.d, .ref wl, colD c] st = .ok (.tup [.int (b : Int), optD ((dotsL p.W p.Hh).find? (difP p q w1 w2 c b))]) st' := def_rt rfl rfl ((seq_nx w0).trans (seq_rt (for_is it e)))
    rw [r]
    simp only
    cases y : (dotsL p.W p.Hh).find? (difP p q w1 w2 c b) with
    | none => rw [y] at hs; cases hs
    | some pt => rfl
  | none =>
    rw [z] at lp'
    obtain ⟨l', st', e, ⟨a, c', d, f, rfl⟩, k⟩ := lp'
    refine ⟨st', def_rt rfl rfl ((seq_nx w0).trans ((seq_nx (for_is it e)).trans ?_)), k⟩
    by_cases he : p.fs.length = q.fs.length
    · simp [Pic.d, he, outD]
    · have ne : ¬ ((p.fs.length : Int) = (q.fs.length : Int)) := by omega
      simp [Pic.d, he, ne, outD]
end
end G


set_option Elab.async false
set_option linter.all false
set_option maxRecDepth 100000
set_option  maxHeartbeats   4000000
/-! k12: first differences. -/
namespace L12
open DV G PySem L2
/-! ### a film that fits -/
section
variable {j : Nat} {p : Pic}
theorem mate_loop {rs : Nat} {o1 : Option D} (hW : 0 < p.W) (hW2 : p.W < 1073741824) (hH : 0 < p.Hh) (hH2 : p.Hh < 1073741824) (hrj : rs ≠ j) : ∀ (fs gs : List Fr) (x3 x4 x5 x6 : Option D) (st : Store), (∀ f ∈ fs, f.Ok p.W p.Hh ∧ f.ink ∈ inks) → (∀ f ∈ gs, f.Ok p.W p.Hh ∧ f.ink ∈ inks) → gs.length + fs.length ≤ 100 → JarAt st j → j < st.nxt → st.at_ rs = some (.lst (gs.map Fr.d)) → rs < st.nxt → o1 = some p.d →
    ∃ (hs : List Fr) (y3 y4 y5 y6 : Option D) (st' : Store), loopS (tgTup 3 (tgCons (tgName 3) (tgCons (tgName 4) (tgCons (tgName 5) tgNil)))) law_mate_L1 [] (fs.map Fr.d) [some (.ref j), o1, some (.ref rs), x3, x4, x5, x6] st = .nx [some (.ref j), o1, some (.ref rs), y3, y4, y5, y6] st' ∧ hs.length = gs.length + fs.length ∧ (∀ f ∈ hs, f.Ok p.W p.Hh ∧ f.ink ∈ inks) ∧ st'.at_ rs = some (.lst (hs.map Fr.d)) ∧ JarAt st' j ∧ Kp [j, rs] st st'
  | [], gs, x3, x4, x5, x6, st, _, hg, _, hj, _, hr, _, _ => ⟨gs, x3, x4, x5, x6, st, loopS_nil srcOk_nil, rfl, hg, hr, hj, Kp.refl⟩
  | f :: fs, gs, x3, x4, x5, x6, st, hf, hg, hl, hj, hjn, hr, hrn, h1 => by
    obtain ⟨fo, fi⟩ := hf f (by simp)
    obtain ⟨k, s1, k0, k1, e1, p1, j1⟩ := dip_ok (n := 6) hj (by omega) (by omega)
    have n1 := Nat.lt_of_lt_of_le hjn p1.le
    subst h1
    -- the part
    obtain ⟨l, t, r, b, s2, l0, lr, rW, t0, tb, bH, e2, p2, j2⟩ : ∃ l t r b s2, 0 ≤ l ∧ l < r ∧ r ≤ p.W ∧ 0 ≤ t ∧ t < b ∧ b ≤ p.Hh ∧ msIf (tB_ (m2 fEq (mVar 6) (mC (.int 0)))) (msAsg (mCall F_law_rect [] (maCons (mVar 0) (maCons (m2 fIx (mVar 1) (mC (.int 0))) (maCons (m2 fIx (mVar 1) (mC (.int 1))) maNil)))) (tgName 4)) msNil [some (.ref j), some p.d, some (.ref rs), some (.str f.ink), some f.part, some (.str f.doom), some (.int k)] s1 = .nx [some (.ref j), some p.d, some (.ref rs), some (.str f.ink), some (.tup [.int l, .int t, .int r, .int b]), some (.str f.doom), some (.int k)] s2 ∧ Kp [j] s1 s2 ∧ JarAt s2 j := by
      by_cases z : k = 0
      · obtain ⟨l, t, r, b, s2, h1, h2, h3, h4, h5, h6, h7, h8, h9⟩ := rect_ok j1 hW hW2 hH hH2
        exact ⟨l, t, r, b, s2, h1, h2, h3, h4, h5, h6, by simp [z, Pic.d, h7], h8, h9⟩
      · exact ⟨f.l, f.t, f.r, f.b, s1, fo.l0, fo.lr, fo.rW, fo.t0, fo.tb, fo.bH, by simp [z, Fr.part], Kp.refl, j1⟩
    have n2 := Nat.lt_of_lt_of_le n1 p2.le
    -- the fate
    obtain ⟨dm, s3, hdm, e3, p3, j3⟩ : ∃ dm s3, dm ∈ dooms ∧ msIf (tB_ (m2 fEq (mVar 6) (mC (.int 1)))) (msAsg (mCall F_law_pick [] (maCons (mVar 0) (maCons (mLst (maCons (mC (.str "stays")) (maCons (mC (.str "wiped")) (maCons (mC (.str "back")) maNil)))) maNil))) (tgName 5)) msNil [some (.ref j), some p.d, some (.ref rs), some (.str f.ink), some (.tup [.int l, .int t, .int r, .int b]), some (.str f.doom), some (.int k)] s2 = .nx [some (.ref j), some p.d, some (.ref rs), some (.str f.ink), some (.tup [.int l, .int t, .int r, .int b]), some (.str dm), some (.int k)] s3 ∧ Kp [j] s2 s3 ∧ JarAt s3 j := by
      by_cases z : k = 1
      · obtain ⟨d, s3, h1, h2, h3, h4⟩ := pick_ok (m := s2.nxt) (ds := dooms.map D.str) (st := s2.new (.lst (dooms.map D.str))) (j2.new n2) Store.new_same (by omega) (Nat.lt_succ_self _) (by decide) (by decide)
        obtain ⟨dm, hdm, rfl⟩ := List.mem_map.mp h1
        have ls : dooms.map D.str = [.str "stays", .str "wiped", .str "back"] := rfl
        rw [ls] at h2
        have zz : (3 : Nat) ≤ sizeLine := small_line (by decide)
        exact ⟨dm, s3, hdm, by simp [z, zz, h2], Kp.new.trans h3, h4⟩
      · exact ⟨f.doom, s2, fo.doom, by simp [z], Kp.refl, j2⟩
    have n3 := Nat.lt_of_lt_of_le n2 p3.le
    -- the picture
    obtain ⟨ik, s4, hik, e4, p4, j4⟩ : ∃ ik s4, ik ∈ inks ∧ msIf (tB_ (m2 fEq (mVar 6) (mC (.int 2)))) (msAsg (mCall F_law_pick [] (maCons (mVar 0) (maCons (mLst (maCons (mC (.str "sky")) (maCons (mC (.str "a")) (maCons (mC (.str "bird2")) maNil)))) maNil))) (tgName 3)) msNil [some (.ref j), some p.d, some (.ref rs), some (.str f.ink), some (.tup [.int l, .int t, .int r, .int b]), some (.str dm), some (.int k)] s3 = .nx [some (.ref j), some p.d, some (.ref rs), some (.str ik), some (.tup [.int l, .int t, .int r, .int b]), some (.str dm), some (.int k)] s4 ∧ Kp [j] s3 s4 ∧ JarAt s4 j := by
      by_cases z : k = 2
      · obtain ⟨d, s4, h1, h2, h3, h4⟩ := pick_ok (m := s3.nxt) (ds := inks.map D.str) (st := s3.new (.lst (inks.map D.str))) (j3.new n3) Store.new_same (by omega) (Nat.lt_succ_self _) (by decide) (by decide)
        obtain ⟨ik, hik, rfl⟩ := List.mem_map.mp h1
        have ls : inks.map D.str = [.str "sky", .str "a", .str "bird2"] := rfl
        rw [ls] at h2
        have zz : (3 : Nat) ≤ sizeLine := small_line (by decide)
        exact ⟨ik, s4, hik, by simp [z, zz, h2], Kp.new.trans h3, h4⟩
      · exact ⟨f.ink, s3, fi, by simp [z], Kp.refl, j3⟩
    have n4 := Nat.lt_of_lt_of_le n3 p4.le
    have q4 : Kp [j] st s4 := p1.trans (p2.trans (p3.trans p4))
    have r4 := q4.get hr hrn (by simpa using hrj)
    let g : Fr := ⟨ik, l, t, r, b, dm⟩
    have gok : g.Ok p.W p.Hh ∧ g.ink ∈ inks := ⟨⟨inks_name hik, l0, lr, rW, t0, tb, bH, hdm⟩, hik⟩
    have ln : (gs.map Fr.d).length < sizeLine := Nat.lt_of_lt_of_le (by rw [List.length_map]; simp at hl; omega) (show 1000 ≤ sizeLine by decide)
    have ln2 : gs.length < sizeLine := by simpa using ln
    have body : law_mate_L1 [some (.ref j), some p.d, some (.ref rs), some (.str f.ink), some f.part, some (.str f.doom), x6] st = .nx [some (.ref j), some p.d, some (.ref rs), some (.str ik), some (.tup [.int l, .int t, .int r, .int b]), some (.str dm), some (.int k)] (s4.put rs (.lst (gs.map Fr.d ++ [g.d]))) := by
      have w0 : msAsg (mCall F_law_dip [] (maCons (mVar 0) (maCons (mC (.int 6)) maNil))) (tgName 6) [some (.ref j), some p.d, some (.ref rs), some (.str f.ink), some f.part, some (.str f.doom), x6] st = .nx [some (.ref j), some p.d, some (.ref rs), some (.str f.ink), some f.part, some (.str f.doom), some (.int k)] s1 := by simp [e1]
      refine (seq_nx w0).trans ((seq_nx e2).trans ((seq_nx e3).trans ((seq_nx e4).trans ?_)))
      simp [r4, ln2, g, Fr.d, Fr.part]
    have q6 : Kp [j, rs] st (s4.put rs (.lst (gs.map Fr.d ++ [g.d]))) := (q4.more (by simp)).trans (Kp.put (by simp))
    have j6 : JarAt (s4.put rs (.lst (gs.map Fr.d ++ [g.d]))) j := j4.mv (js := [rs]) (Kp.put (by simp)) n4 (by simpa using hrj.symm)
    obtain ⟨hs, y3, y4, y5, y6, s5, f1, f2, f3, f4, f5, f6⟩ := mate_loop (o1 := some p.d) hW hW2 hH hH2 hrj fs (gs ++ [g]) (some (.str ik)) (some (.tup [.int l, .int t, .int r, .int b])) (some (.str dm)) (some (.int k)) (s4.put rs (.lst (gs.map Fr.d ++ [g.d]))) (fun x hx => hf x (List.mem_cons_of_mem _ hx)) (fun x hx => by
      rcases List.mem_append.mp hx with m | m
      · exact hg x m
      · rw [List.mem_singleton.mp m]; exact gok) (by simp at hl ⊢; omega) j6 n4 (by rw [Store.put_same]; simp) (Nat.lt_of_lt_of_le hrn q4.le) rfl
    refine ⟨hs, y3, y4, y5, y6, s5, ?_, by simp at f2 ⊢; omega, f3, f4, f5, q6.trans f6⟩
    rw [List.map_cons, loopS_nx srcOk_nil (l1 := [some (.ref j), some p.d, some (.ref rs), some (.str f.ink), some f.part, some (.str f.doom), x6]) (by simp [Fr.d]) body]
    exact f1
theorem mate_ok {st : Store} (hp : p.Drawn 4 3 3) (hj : JarAt st j) (hjn : j < st.nxt) : ∃ (q : Pic) (st' : Store), F_law_mate [.ref j, p.d] st = .ok q.d st' ∧ q.Drawn 5 3 3 ∧ q.W = p.W ∧ q.Hh = p.Hh ∧ q.firm = p.firm ∧ Kp [j] st st' ∧ JarAt st' j := by
  have W0 := hp.W0; have H0 := hp.H0; have Ww := hp.Ww; have Hw := hp.Hw; have lm := hp.lm
  have ne : 1 ≤ p.fs.length := List.length_pos_iff.mpr hp.ne
  obtain ⟨hs, y3, y4, y5, y6, s1, e1, l1, h1, g1, j1, k1⟩ := mate_loop (p := p) (rs := st.nxt) (o1 := some p.d) (by omega) (by omega) (by omega) (by omega) (show st.nxt ≠ j by omega) p.fs [] none none none none (st.new (.lst [])) (fun f hf => ⟨hp.fr f hf, hp.inks f hf⟩) (by simp) (by simp; omega) (hj.new hjn) (by show j < st.nxt + 1; omega) Store.new_same (Nat.lt_succ_self _) rfl
  simp only [List.length_nil, Nat.zero_add] at l1
  have kk1 : Kp [j] st s1 := by
    have : Kp [st.nxt, j] st s1 := (Kp.new (js := [st.nxt, j])).trans (k1.more (by simp))
    exact this.drop (Nat.le_refl _)
  have n1 : st.nxt < s1.nxt := Nat.lt_of_lt_of_le (Nat.lt_succ_self _) k1.le
  have n1j := Nat.lt_of_lt_of_le hjn kk1.le
  -- one more
  obtain ⟨a, s2, a0, a1, e2, k2, j2⟩ := dip_ok (n := 5) j1 (by omega) (by omega)
  obtain ⟨m2', us, s3, e3, g3, m3, k3, u0, u1, hu, j3, hj3⟩ : ∃ (m : Nat) (us : List Fr) (s3 : Store), msIf (tB_ (m2 fEq (mCall F_law_dip [] (maCons (mVar 0) (maCons (mC (.int 5)) maNil))) (mC (.int 0)))) (msAsg (mIf (tB_ (m2 fLt (mL (f1 lenD) (maCons (mVar 2) maNil)) (mC (.int 8)))) (m2 fAdd (mVar 2) (mSl (mVar 2) moNone (moSome (mC (.int 1))))) (mVar 2)) (tgName 2)) msNil [some (.ref j), some p.d, some (.ref st.nxt), y3, y4, y5, y6] s1 = .nx [some (.ref j), some p.d, some (.ref m), y3, y4, y5, y6] s3 ∧ s3.at_ m = some (.lst (us.map Fr.d)) ∧ m < s3.nxt ∧ Kp [j] s1 s3 ∧ 1 ≤ us.length ∧ us.length ≤ 5 ∧ (∀ f ∈ us, f.Ok p.W p.Hh ∧ f.ink ∈ inks) ∧ JarAt s3 j ∧ m ≠ j := by
    have g2 := k2.get g1 n1 (by simp; omega)
    by_cases z : a = 0
    · obtain ⟨f, fs, hfs⟩ : ∃ f fs, hs = f :: fs := by
        cases hs with
        | nil => simp at l1; omega
        | cons f fs => exact ⟨f, fs, rfl⟩
      have cu : cutD (hs.map Fr.d) none (some 1) = [f.d] := by rw [hfs]; rfl
      have z8 : ((hs.length : Nat) : Int) < 8 := by omega
      have z1 : hs.length + 1 ≤ sizeLine := small_line (by omega)
      have g2' : (s2.new (.lst [f.d])).at_ st.nxt = some (.lst (hs.map Fr.d)) := (Kp.new (js := [])).get0 g2 (Nat.lt_of_lt_of_le n1 k2.le)
      refine ⟨s2.nxt + 1, hs ++ [f], (s2.new (.lst [f.d])).new (.lst (hs.map Fr.d ++ [f.d])), ?_, by rw [List.map_append]; exact Store.new_same, Nat.lt_succ_self _, k2.trans (Kp.new.trans Kp.new), by simp, by simp; omega, fun x hx => ?_, (j2.new (Nat.lt_of_lt_of_le n1j k2.le)).new (Nat.lt_succ_of_lt (Nat.lt_of_lt_of_le n1j k2.le)), by have := Nat.lt_of_lt_of_le n1j k2.le; omega⟩
      · have ne2 : s2.nxt ≠ st.nxt := by have := k2.le; omega
        simp [e2, z, g2, z8, cu, g2', z1]
      · rcases List.mem_append.mp hx with m | m
        · exact h1 x m
        · rw [List.mem_singleton.mp m]
          exact h1 f (by rw [hfs]; simp)
    · exact ⟨st.nxt, hs, s2, by simp [e2, z], g2, Nat.lt_of_lt_of_le n1 k2.le, k2, by omega, by omega, h1, j2, by omega⟩
  -- the first one left out
  have n3j := Nat.lt_of_lt_of_le n1j k3.le
  obtain ⟨c, s4, c0, c1, e4, k4, j4⟩ := dip_ok (n := 6) j3 (by omega) (by omega)
  obtain ⟨m5, vs, s5, e5, g5, m5', k5, v0, v1, hv, j5⟩ : ∃ (m : Nat) (vs : List Fr) (s5 : Store), msIf (tAnd_ (tB_ (m2 fEq (mCall F_law_dip [] (maCons (mVar 0) (maCons (mC (.int 6)) maNil))) (mC (.int 0)))) (tB_ (m2 fGt (mL (f1 lenD) (maCons (mVar 2) maNil)) (mC (.int 1))))) (msAsg (mSl (mVar 2) (moSome (mC (.int 1))) moNone) (tgName 2)) msNil [some (.ref j), some p.d, some (.ref m2'), y3, y4, y5, y6] s3 = .nx [some (.ref j), some p.d, some (.ref m), y3, y4, y5, y6] s5 ∧ s5.at_ m = some (.lst (vs.map Fr.d)) ∧ m < s5.nxt ∧ Kp [j] s3 s5 ∧ 1 ≤ vs.length ∧ vs.length ≤ 5 ∧ (∀ f ∈ vs, f.Ok p.W p.Hh ∧ f.ink ∈ inks) ∧ JarAt s5 j := by
    have hmj : m2' ≠ j := hj3
    have g4 := k4.get g3 m3 (by simpa using hmj)
    by_cases z : c = 0
    · by_cases y : 1 < us.length
      · obtain ⟨f, fs, hfs⟩ : ∃ f fs, us = f :: fs := by
          cases us with
          | nil => simp at y
          | cons f fs => exact ⟨f, fs, rfl⟩
        have cu : cutD (us.map Fr.d) (some 1) none = fs.map Fr.d := by
          rw [hfs]
          unfold cutD
          have a1 : HT.sIx ((f :: fs).map Fr.d).length 0 (some 1) = 1 := by
            show (if (1 : Int) < 0 then (1 + (((f :: fs).map Fr.d).length : Int)).toNat else min (1 : Int).toNat ((f :: fs).map Fr.d).length) = 1
            rw [if_neg (by omega)]
            simp
          have a2 : HT.sIx ((f :: fs).map Fr.d).length ((f :: fs).map Fr.d).length none = ((f :: fs).map Fr.d).length := rfl
          rw [a1, a2]
          simp only [List.map_cons, List.length_cons, Nat.add_sub_cancel, List.drop_succ_cons, List.drop_zero]
          exact List.take_of_length_le (Nat.le_refl _)
        have y' : ((us.length : Nat) : Int) > 1 := by omega
        rw [hfs] at y u1 hu
        refine ⟨s4.nxt, fs, s4.new (.lst (fs.map Fr.d)), ?_, Store.new_same, Nat.lt_succ_self _, k4.trans Kp.new, by simp at y; omega, by simp at u1; omega, fun x hx => hu x (List.mem_cons_of_mem _ hx), j4.new (Nat.lt_of_lt_of_le n3j k4.le)⟩
        simp [e4, z, g4, y', cu]
      · have y' : ¬ ((us.length : Nat) : Int) > 1 := by omega
        exact ⟨m2', us, s4, by simp [e4, z, g4]; omega, g4, Nat.lt_of_lt_of_le m3 k4.le, k4, u0, u1, hu, j4⟩
    · exact ⟨m2', us, s4, by simp [e4, z], g4, Nat.lt_of_lt_of_le m3 k4.le, k4, u0, u1, hu, j4⟩
  refine ⟨⟨p.W, p.Hh, vs, p.firm⟩, s5, ?_, ⟨⟨hp.W0, hp.W1, hp.H0, hp.H1, ?_, ?_, fun f hf => (hv f hf).1, hp.firm⟩, hp.Ww, hp.Hw, v1, fun f hf => (hv f hf).2, hp.sub⟩, rfl, rfl, rfl, kk1.trans (k3.trans k5), j5⟩
  · have w0 : msAsg (mLst maNil) (tgName 2) [some (.ref j), some p.d, none, none, none, none, none] st = .nx [some (.ref j), some p.d, some (.ref st.nxt), none, none, none, none] (st.new (.lst [])) := by simp
    have it : miSeq (m2 fIx (mVar 1) (mC (.int 2))) [some (.ref j), some p.d, some (.ref st.nxt), none, none, none, none] (st.new (.lst [])) = .ok ⟨[], p.fs.map Fr.d⟩ (st.new (.lst [])) := by simp [Pic.d]
    refine def_rt rfl rfl ((seq_nx w0).trans ((seq_nx (for_is it e1)).trans ((seq_nx e3).trans ((seq_nx e5).trans ?_))))
    simp [Pic.d, g5]
  · show vs ≠ []
    intro e
    rw [e] at v0
    simp at v0
  · show vs.length ≤ 8
    omega
end
/-! ### the first of some -/
def k3 (a : Spot) : D := .tup [.int (a.1 : Int), .int a.2.2, .int a.2.1]
def elD (n : Nat) : Option Spot → D
  | some a => .tup [.int (a.1 : Int), dotD a.2]
  | none => .tup [.int (n : Int), .non]
theorem lex3 {a b : Spot} : lexLtI [(b.1 : Int), b.2.2, b.2.1] [(a.1 : Int), a.2.2, a.2.1] = decide (bef3 b a) := by
  obtain ⟨a1, a2, a3⟩ := a
  obtain ⟨b1, b2, b3⟩ := b
  unfold bef3 bef
  simp only [lexLtI]
  by_cases h1 : b1 = a1
  · subst h1
    by_cases h2 : b3 = a3
    · subst h2
      by_cases h3 : b2 = a2
      · subst h3; simp
      · simp [h3]
    · simp [h2]
  · have h1' : ¬ ((b1 : Int) = (a1 : Int)) := by omega
    simp only [h1', if_false, h1, false_and, or_false]
    exact decide_eq_decide.mpr (by omega)
theorem min_one {m : Nat} {a : Spot} {st : Store} (h : st.at_ m = some (.lst [k3 a])) : minT (.ref m) st = some (k3 a, st) := by
  unfold k3 at h ⊢
  simp [minT, h, tupI, optL, intD?, argBest]
theorem min_two {m : Nat} {a b : Spot} {st : Store} (h : st.at_ m = some (.lst [k3 a, k3 b])) : minT (.ref m) st = some (if bef3 b a then k3 b else k3 a, st) := by
  have l := lex3 (a := a) (b := b)
  unfold k3 at h ⊢
  by_cases z : bef3 b a
  · rw [decide_eq_true z] at l
    simp [minT, h, tupI, optL, intD?, argBest, l, z]
  · rw [decide_eq_false z] at l
    simp [minT, h, tupI, optL, intD?, argBest, l, z]
theorem ne_nil {st : Store} {m1 m2 : Nat} {xs : List D} {ps : List PyData} (e1 : st.at_ m1 = some (.lst xs)) (e2 : st.at_ m2 = some (.lst [])) (h : optL (toData st 19) xs = some ps) : fNe (.ref m1) (.ref m2) st = some (.bl (!xs.isEmpty), st) := by
  have d1 : toData st 20 (.ref m1) = some (.list ps) := data_lst e1 h
  have d2 : toData st 20 (.ref m2) = some (.list []) := data_lst e2 rfl
  have sc : scalEq (.ref m1) (.ref m2) = none := rfl
  unfold fNe dataEq
  rw [sc]
  simp only [d1, d2, Option.map_some]
  cases xs with
  | nil =>
    simp only [optL, Option.some.injEq] at h
    subst h
    rfl
  | cons x xs =>
    unfold optL at h
    cases q : toData st 19 x with
    | none => rw [q] at h; cases h
    | some z =>
      rw [q] at h
      simp only at h
      cases q2 : optL (toData st 19) xs with
      | none => rw [q2] at h; cases h
      | some zs =>
        rw [q2] at h
        cases h
        rfl
theorem filt_some : ∀ (es : List (Option Spot)), (es.filter (·.isSome)).map (fun e => match e with
    | some a => k3 a
    | none => D.non) = (es.filterMap id).map k3
  | [] => rfl
  | none :: es => by simpa using filt_some es
  | some a :: es => by simpa using filt_some es
def bestE (n : Nat) (es : List (Option Spot)) : D := match es.filterMap id with
  | [] => (match es with
    | [] => .non
    | e :: _ => elD n e)
  | [a] => elD n (some a)
  | a :: b :: _ => if bef3 b a then elD n (some b) else elD n (some a)
theorem first_ok {n m : Nat} {es : List (Option Spot)} {st : Store} (h : st.at_ m = some (.lst (es.map (elD n)))) (hm : m < st.nxt) (hl : es.length ≤ 2) : ∃ st', F_law_first [.ref m] st = .ok (bestE n es) st' ∧ Kp [] st st' := by
  obtain ⟨s1, e1, k1⟩ := loopC_filter (t := tgName 5) (mt := law_first_T1) (me := law_first_C1) (srcs := [(m, es.map (elD n))]) (l0 := [some (.ref m), none, none, none, none, none]) (k := elD n) (P := fun e => e.isSome) (f := fun e => match e with
    | some a => k3 a
    | none => D.non) (st0 := st) (src_one h hm) es (fun e he s hk => by
    cases e with
    | some a => exact ⟨[some (.ref m), none, none, none, none, some (elD n (some a))], s, rfl, by simp [law_first_T1, elD, dotD], Kp.refl, fun _ => ⟨s, by simp [law_first_C1, elD, dotD, k3], Kp.refl⟩⟩
    | none => exact ⟨[some (.ref m), none, none, none, none, some (elD n none)], s, rfl, by simp [law_first_T1, elD], Kp.refl, fun z => by cases z⟩) st Kp.refl
  rw [filt_some] at e1
  have hfl : (es.filterMap id).length ≤ 2 := Nat.le_trans (List.length_filterMap_le _ _) hl
  have hz : ((es.filterMap id).map k3).length ≤ sizeLine := by rw [List.length_map]; exact small_line (by omega)
  have hz2 : (es.filterMap id).length ≤ sizeLine := small_line (by omega)
  let s2 := s1.new (.lst ((es.filterMap id).map k3))
  have g2 : s2.at_ s1.nxt = some (.lst ((es.filterMap id).map k3)) := Store.new_same
  let s3 := s2.new (.lst [])
  have k13 : Kp [] st s3 := k1.trans (Kp.new.trans Kp.new)
  have g3 : s3.at_ s1.nxt = some (.lst ((es.filterMap id).map k3)) := (Kp.new (js := [])).get0 g2 (Nat.lt_succ_self _)
  have gm : s3.at_ m = some (.lst (es.map (elD n))) := k13.get0 h hm
  have w0 : msAsg (mLc (miSeq (mVar 0)) (tgName 5) law_first_T1 law_first_C1 [5]) (tgName 1) [some (.ref m), none, none, none, none, none] st = .nx [some (.ref m), some (.ref s1.nxt), none, none, none, none] s2 := by
    have wl : wipeL [some (.ref m), none, none, none, none, none] [5] = [some (.ref m), none, none, none, none, none] := rfl
    have it : miSeq (mVar 0) [some (.ref m), none, none, none, none, none] st = .ok ⟨[(m, es.map (elD n))], es.map (elD n)⟩ st := by simp [h]
    rw [ev_msAsg, ev_mLc, it]
    simp only [ev_bind_ok, wl, e1]
    simp [hz2, s2]
  have od : ∀ as : List Spot, optL (toData s3 19) (as.map k3) = some (as.map fun a => .tuple [.int (a.1 : Int), .int a.2.2, .int a.2.1]) := fun as => optL_map fun a _ => rfl
  have g3n : s3.at_ s2.nxt = some (.lst []) := Store.new_same
  have nn := ne_nil (st := s3) (m1 := s1.nxt) (m2 := s2.nxt) g3 g3n (od _)
  refine ⟨if (es.filterMap id).isEmpty = true then s3.new (.lst []) else s3, ?_, by split <;> first | exact k13.trans Kp.new | exact k13⟩
  refine def_rt rfl rfl ((seq_nx w0).trans ?_)
  unfold bestE
  cases q : es.filterMap id with
  | nil =>
    rw [q] at nn g3
    have w1 : msIf (tB_ (m2 fNe (mVar 1) (mLst maNil))) (msSeq (msAsg (mL (f1 minT) (maCons (mVar 1) maNil)) (tgTup 3 (tgCons (tgName 2) (tgCons (tgName 3) (tgCons (tgName 4) tgNil))))) (msRet (mTup (maCons (mVar 2) (maCons (mTup (maCons (mVar 4) (maCons (mVar 3) maNil))) maNil))))) msNil [some (.ref m), some (.ref s1.nxt), none, none, none, none] s2 = .nx [some (.ref m), some (.ref s1.nxt), none, none, none, none] s3 := by
      have nn' : fNe (.ref s1.nxt) (.ref s2.nxt) (s2.new (.lst [])) = some (.bl false, s3) := nn
      simp [-ev_fNe, nn']
    refine (seq_nx w1).trans ?_
    have od2 : ∃ ps, optL (toData (s3.new (.lst [])) 19) (es.map (elD n)) = some ps := ⟨_, optL_map (g := fun e => match e with
      | some a => PyData.tuple [.int (a.1 : Int), .tuple [.int a.2.1, .int a.2.2]]
      | none => .tuple [.int (n : Int), .none]) fun e _ => by cases e <;> rfl⟩
    obtain ⟨ps, hps⟩ := od2
    have gm' : (s3.new (.lst [])).at_ m = some (.lst (es.map (elD n))) := (Kp.new (js := [])).get0 gm (Nat.lt_of_lt_of_le hm k13.le)
    have n2 := ne_nil (m2 := s3.nxt) gm' Store.new_same hps
    have n2' : fNe (.ref m) (.ref s3.nxt) (s3.new (.lst [])) = some (.bl (!(es.map (elD n)).isEmpty), s3.new (.lst [])) := n2
    cases es with
    | nil => simp [-ev_fNe, n2']
    | cons e es =>
      have at0 : atI ((e :: es).map (elD n)) 0 = some (elD n e) := ev_atI (by omega) rfl
      simp [-ev_fNe, n2', gm', at0]
  | cons a as =>
    cases as with
    | nil =>
      rw [q] at nn g3
      have nn' : fNe (.ref s1.nxt) (.ref s2.nxt) (s2.new (.lst [])) = some (.bl true, s3) := nn
      have mo := min_one g3
      unfold k3 at mo
      simp [-ev_fNe, nn', mo, elD, dotD]
    | cons b bs =>
      have hb : bs = [] := by
        rw [q] at hfl
        simp at hfl
        exact hfl
      subst hb
      rw [q] at nn g3
      have nn' : fNe (.ref s1.nxt) (.ref s2.nxt) (s2.new (.lst [])) = some (.bl true, s3) := nn
      have mo := min_two g3
      by_cases z : bef3 b a
      · rw [if_pos z] at mo
        unfold k3 at mo
        simp [-ev_fNe, nn', mo, elD, dotD, z]
      · rw [if_neg z] at mo
        unfold k3 at mo
        simp [-ev_fNe, nn', mo, elD, dotD, z]
end L12


set_option Elab.async false
set_option linter.all false
set_option maxRecDepth 100000
set_option  maxHeartbeats   4000000
/-! k12: the end. -/
namespace L12
open DV G PySem L2
theorem out_notN {n : Nat} {eq : Bool} {o : Option Spot} {st : Store} : fNotN (outD n eq o) .non st = some (.bl (o.isSome || !eq), st) := by
  cases o with
  | some a => rfl
  | none => cases eq <;> rfl
theorem out_isN {n : Nat} {eq : Bool} {o : Option Spot} {st : Store} : fIsN (outD n eq o) .non st = some (.bl (o.isNone && eq), st) := by
  cases o with
  | some a => rfl
  | none => cases eq <;> rfl
section
variable {p q : Pic} {w1 w2 : Str} {wl : Nat}
/-- two films as the law draws them -/
structure Two (p q : Pic) : Prop where
  dp : p.Drawn 4 3 3
  dq : q.Drawn 5 3 3
  W : q.W = p.W
  Hh : q.Hh = p.Hh
  firm : q.firm = p.firm
theorem tells {c : Col} {st : Store} (T : Two p q) (h1 : w1 ∈ players) (h2 : w2 ∈ players) (hwl : st.at_ wl = some (.lst [.str w1, .str w2])) (hwn : wl < st.nxt) : ∃ st', F_law_differ [p.d, q.d, .ref wl, colD c] st = .ok (dueD p q w1 w2 c) st' ∧ Kp [] st st' := by
  have a := T.dp.l8; have b := T.dq.l8; have c1 := T.dp.W0; have c2 := T.dp.Ww; have c3 := T.dp.H0; have c4 := T.dp.Hw
  exact differ_tells (players_ok _ h1) (players_ok _ h2) T.dp.firm.t T.dp.inks T.dq.inks (by omega) (by omega) (by omega) (by omega) (by omega) (by omega) hwl hwn
/-- both starts -/
def anyD (p q : Pic) (w1 w2 : Str) : D := outD (beats2 p q) (decide (p.fs.length = q.fs.length)) (srch (fun b pt => difP p q w1 w2 none b pt || difP p q w1 w2 (some 77) b pt) (beats2 p q) (dotsL p.W p.Hh))
theorem any_ok {st : Store} (T : Two p q) (h1 : w1 ∈ players) (h2 : w2 ∈ players) (hwl : st.at_ wl = some (.lst [.str w1, .str w2])) (hwn : wl < st.nxt) : ∃ st', F_law_any [p.d, q.d, .ref wl] st = .ok (anyD p q w1 w2) st' ∧ Kp [] st st' := by
  obtain ⟨s1, e1, k1⟩ := tells (c := none) T h1 h2 hwl hwn
  obtain ⟨s2, e2, k2⟩ := tells (c := some 77) T h1 h2 (k1.get0 hwl hwn) (Nat.lt_of_lt_of_le hwn k1.le)
  let n := beats2 p q
  let eq := decide (p.fs.length = q.fs.length)
  obtain ⟨o1, ho1⟩ : ∃ o, o = srch (difP p q w1 w2 none) (beats2 p q) (dotsL p.W p.Hh) := ⟨_, rfl⟩
  obtain ⟨o2, ho2⟩ : ∃ o, o = srch (difP p q w1 w2 (some 77)) (beats2 p q) (dotsL p.W p.Hh) := ⟨_, rfl⟩
  have e1' : F_law_differ [p.d, q.d, .ref wl, .non] st = .ok (outD n eq o1) s1 := by rw [ho1]; exact e1
  have e2' : F_law_differ [p.d, q.d, .ref wl, .int 77] s1 = .ok (outD n eq o2) s2 := by rw [ho2]; exact e2
  let s3 := s2.new (.lst [outD n eq o1, outD n eq o2])
  obtain ⟨s4, e4, k4⟩ := loopC_filter (t := tgName 4) (mt := law_any_T1) (me := mVar 4) (srcs := [(s2.nxt, [o1, o2].map (outD n eq))]) (l0 := [some p.d, some q.d, some (.ref wl), some (.ref s2.nxt), none]) (k := outD n eq) (P := fun o => o.isSome || !eq) (f := outD n eq) (st0 := s3) (src_one Store.new_same (Nat.lt_succ_self _)) [o1, o2] (fun o ho s hk => by
    have z := out_notN (n := n) (eq := eq) (o := o) (st := s)
    exact ⟨[some p.d, some q.d, some (.ref wl), some (.ref s2.nxt), some (outD n eq o)], s, rfl, by simp [-ev_fNotN, law_any_T1, z], Kp.refl, fun _ => ⟨s, by simp, Kp.refl⟩⟩) s3 Kp.refl
  have fe : ([o1, o2].filter fun o => o.isSome || !eq).map (outD n eq) = ([o1, o2].filter fun o => o.isSome || !eq).map (elD n) := List.map_congr_left fun o ho => by
    have hp := (List.mem_filter.mp ho).2
    cases o with
    | some a => rfl
    | none =>
      have : eq = false := by simpa using hp
      rw [this]
      rfl
  rw [fe] at e4
  have ln : ([o1, o2].filter fun o => o.isSome || !eq).length ≤ 2 := List.length_filter_le _ _
  have hz : (([o1, o2].filter fun o => o.isSome || !eq).map (elD n)).length ≤ sizeLine := by rw [List.length_map]; exact small_line (by omega)
  let s5 := s4.new (.lst (([o1, o2].filter fun o => o.isSome || !eq).map (elD n)))
  obtain ⟨s6, e6, k6⟩ := first_ok (n := n) (m := s4.nxt) (es := [o1, o2].filter fun o => o.isSome || !eq) (st := s5) Store.new_same (Nat.lt_succ_self _) ln
  refine ⟨s6, ?_, k1.trans (k2.trans ((Kp.new (c := .lst [outD n eq o1, outD n eq o2])).trans (k4.trans ((Kp.new (c := .lst (([o1, o2].filter fun o => o.isSome || !eq).map (elD n)))).trans k6))))⟩
  have w0 : msAsg (mLst (maCons (mCall F_law_differ [] (maCons (mVar 0) (maCons (mVar 1) (maCons (mVar 2) (maCons (mC .non) maNil))))) (maCons (mCall F_law_differ [] (maCons (mVar 0) (maCons (mVar 1) (maCons (mVar 2) (maCons (mC (.int 77)) maNil))))) maNil))) (tgName 3) [some p.d, some q.d, some (.ref wl), none, none] st = .nx [some p.d, some q.d, some (.ref wl), some (.ref s2.nxt), none] s3 := by
    simp [e1', e2', s3]
  have lc1 : mLc (miSeq (mVar 3)) (tgName 4) law_any_T1 (mVar 4) [4] [some p.d, some q.d, some (.ref wl), some (.ref s2.nxt), none] s3 = .ok (.ref s4.nxt) s5 := by
    have wl' : wipeL [some p.d, some q.d, some (.ref wl), some (.ref s2.nxt), none] [4] = [some p.d, some q.d, some (.ref wl), some (.ref s2.nxt), none] := rfl
    have it : miSeq (mVar 3) [some p.d, some q.d, some (.ref wl), some (.ref s2.nxt), none] s3 = .ok ⟨[(s2.nxt, [o1, o2].map (outD n eq))], [o1, o2].map (outD n eq)⟩ s3 := by
      have : s3.at_ s2.nxt = some (.lst [outD n eq o1, outD n eq o2]) := Store.new_same
      simp [this]
    rw [ev_mLc, it]
    simp only [ev_bind_ok, wl', e4]
    rw [if_pos hz]
  refine def_rt rfl rfl ((seq_nx w0).trans ?_)
  rw [ev_msRet, ev_mCall, ev_maCons, lc1]
  simp only [ev_bind_ok, ev_maNil, List.append_nil, e6, ev_toS_ok]
  congr 1
  unfold anyD
  have fo := find_or (xs := allL (beats2 p q) (dotsL p.W p.Hh)) (P := fun a => difP p q w1 w2 none a.1 a.2) (Q := fun a => difP p q w1 w2 (some 77) a.1 a.2) bef_all
  have so : srch (fun b pt => difP p q w1 w2 none b pt || difP p q w1 w2 (some 77) b pt) (beats2 p q) (dotsL p.W p.Hh) = (match o1, o2 with
    | none, y => y
    | some a, none => some a
    | some a, some b => if bef3 b a then some b else some a) := by
    rw [ho1, ho2]
    exact fo
  rw [so]
  show bestE n _ = outD n eq _
  cases o1 with
  | none =>
    cases o2 with
    | none => cases eq <;> rfl
    | some b => cases eq <;> rfl
  | some a =>
    cases o2 with
    | none => cases eq <;> rfl
    | some b =>
      by_cases z : bef3 b a
      · cases eq <;> simp [bestE, z, elD, outD]
      · cases eq <;> simp [bestE, z, elD, outD]
/-! ### the program -/
def due0 (p q : Pic) (w1 w2 : Str) (start : Str) : D := if start = "empty" then dueD p q w1 w2 none else anyD p q w1 w2
def from0 (start : Str) : Stand := if start = "empty" then nothing else anything
theorem unlike_due (T : Two p q) {start : Str} : unlikeU p q w1 w2 (from0 start) = due0 p q w1 w2 start := by
  have qf : ∀ f ∈ q.fs, f.Ok p.W p.Hh := fun f hf => by rw [← T.W, ← T.Hh]; exact T.dq.fr f hf
  unfold from0 due0
  by_cases z : start = "empty"
  · rw [if_pos z, if_pos z]
    exact unlikeU_srch T.dp.toOk qf fun b hb pt => difP_none T.dp.inks T.dq.inks T.firm (by unfold beats2 at hb; omega) (by unfold beats2 at hb; omega)
  · rw [if_neg z, if_neg z]
    exact unlikeU_srch T.dp.toOk qf fun b hb pt => difP_any T.dp.inks T.dq.inks T.firm (by unfold beats2 at hb; omega) (by unfold beats2 at hb; omega)
variable {n1 n2 : Nat} {st : Store}
theorem fit_ok (T : Two p q) (h1 : FilmAt st n1 p) (h2 : FilmAt st n2 q) : F_check_fit [.ref n1, .ref n2] st = .ok .non st := by
  have a1 := width_ok h1; have a2 := height_ok h1; have a3 := solid_ok h1
  have b1 := width_ok h2; have b2 := height_ok h2; have b3 := solid_ok h2
  rw [T.W] at b1
  rw [T.Hh] at b2
  rw [T.firm] at b3
  have sl : toData st 20 (.tup [.int p.W, .int p.Hh, .tup (p.firm.map D.str)]) = some (.tuple [.int p.W, .int p.Hh, .tuple (p.firm.map PyData.str)]) := by
    refine toData_tup ?_
    simp only [optL, toData_tup (toData_strs T.dp.firm.t)]
    rfl
  have eq : fEq (.tup [.int p.W, .int p.Hh, .tup (p.firm.map D.str)]) (.tup [.int p.W, .int p.Hh, .tup (p.firm.map D.str)]) st = some (.bl true, st) := by
    have sc : scalEq (.tup [.int p.W, .int p.Hh, .tup (p.firm.map D.str)]) (.tup [.int p.W, .int p.Hh, .tup (p.firm.map D.str)]) = none := rfl
    unfold fEq dataEq
    rw [sc]
    simp only [sl, Option.map_some]
    have : PyData.eqv (.tuple [.int p.W, .int p.Hh, .tuple (p.firm.map PyData.str)]) (.tuple [.int p.W, .int p.Hh, .tuple (p.firm.map PyData.str)]) = true := by
      show (PyData.eqv (.int p.W) (.int p.W) && (PyData.eqv (.int p.Hh) (.int p.Hh) && (PyData.eqvAll (p.firm.map PyData.str) (p.firm.map PyData.str) && true))) = true
      rw [eqvAll_strs]
      simp [PyData.eqv]
    rw [this]
  have fit : F_do_fit [.ref n1, .ref n2] st = .ok (.bl true) st := by
    have hf := h1
    have hg := h2
    unfold FilmAt at hf hg
    simp [-ev_fEq, F_do_fit, hf, hg, a1, a2, a3, b1, b2, b3, eq]
  simp [F_check_fit, fit]
def starts : List Str := ["empty", "any"]
theorem unlike_ok {start : Str} (T : Two p q) (hs : start ∈ starts) (c1 : w1 ∈ players) (c2 : w2 ∈ players) (h1 : FilmAt st n1 p) (h2 : FilmAt st n2 q) (hn1 : n1 < st.nxt) (hn2 : n2 < st.nxt) : ∃ st', F_unlike [.ref n1, .ref n2, .str w1, .str w2, .str start] st = .ok (due0 p q w1 w2 start) st' ∧ Kp [] st st' := by
  have f1 := check_film_ok h1
  have f2 := check_film_ok h2
  have p1 := check_player_ok (st := st) c1
  have p2 := check_player_ok (st := st) c2
  have c3 : F_check_start [.str start] st = .ok .non st := by
    have ht : ∀ y ∈ starts, TOk y := by decide +kernel
    have := is_word_ok (x := start) (ys := starts) (st := st) (ht _ hs) ht hs
    have e : starts.map D.str = [.str "empty", .str "any"] := rfl
    rw [e] at this
    simp [F_check_start, this]
  have c4 := fit_ok T h1 h2
  have ok1 : (from0 start).Ok p.inks := by unfold from0; split <;> first | exact no_Ok | exact any_Ok
  have ok2 : (from0 start).Ok q.inks := by unfold from0; split <;> first | exact no_Ok | exact any_Ok
  have hI : InkOk (p.inks ++ q.inks) := ⟨fun z hz => by
    rcases List.mem_append.mp hz with m | m
    · exact T.dp.toOk.inkOk.t z m
    · exact T.dq.toOk.inkOk.t z m, by have := T.dp.lm; have := T.dq.lm; simp [Pic.inks]; omega⟩
  have ln : (p.fs ++ q.fs).length ≤ 12 := by have := T.dp.lm; have := T.dq.lm; simp; omega
  obtain ⟨s1, e1, k1⟩ := first_unlike_all (w1 := w1) (w2 := w2) (s := from0 start) h1 h2 hn1 hn2 T.dp.toOk T.dq.toOk (players_ok _ c1) (players_ok _ c2) ok1 ok2 hI ln
  rw [unlike_due T] at e1
  refine ⟨s1, ?_, k1⟩
  have nd : nothing.d = .tup [.tup [], .bl true] := rfl
  have ad : anything.d = .tup [.tup [], .bl false] := rfl
  unfold from0 at e1
  by_cases z : start = "empty"
  · rw [if_pos z, nd] at e1
    subst z
    simp [F_unlike, f1, f2, p1, p2, c3, c4, e1]
  · rw [if_neg z, ad] at e1
    simp [F_unlike, f1, f2, p1, p2, c3, c4, e1, z]
def isN0 (p q : Pic) (w1 w2 : Str) (start : Str) : Bool := match due0 p q w1 w2 start with
  | .non => true
  | _ => false
theorem due_isN {start : Str} {st : Store} : fIsN (due0 p q w1 w2 start) .non st = some (.bl (isN0 p q w1 w2 start), st) := by
  have key : ∀ (n : Nat) (eq : Bool) (o : Option Spot), fIsN (outD n eq o) .non st = some (.bl (match outD n eq o with
    | .non => true
    | _ => false), st) := fun n eq o => by
    cases o with
    | some a => rfl
    | none => cases eq <;> rfl
  unfold isN0 due0
  split
  · exact key _ _ _
  · exact key _ _ _
theorem alike_ok {start : Str} (T : Two p q) (hs : start ∈ starts) (c1 : w1 ∈ players) (c2 : w2 ∈ players) (h1 : FilmAt st n1 p) (h2 : FilmAt st n2 q) (hn1 : n1 < st.nxt) (hn2 : n2 < st.nxt) : ∃ st', F_alike [.ref n1, .ref n2, .str w1, .str w2, .str start] st = .ok (.bl (isN0 p q w1 w2 start)) st' ∧ Kp [] st st' := by
  obtain ⟨s1, e1, k1⟩ := unlike_ok T hs c1 c2 h1 h2 hn1 hn2
  have z := due_isN (p := p) (q := q) (w1 := w1) (w2 := w2) (start := start) (st := s1)
  refine ⟨s1, ?_, k1⟩
  simp [-ev_fIsN, F_alike, arr, Src.of, e1, z]
theorem due_shw {start : Str} (T : Two p q) : ∃ d, (∀ st : Store, toData st 19 (due0 p q w1 w2 start) = some d) ∧ Shw d 200 ∧ ∃ x : Str, ∀ st : Store, reprD (due0 p q w1 w2 start) st = some (.str x, st) := by
  have key : ∀ (P : Nat → Int × Int → Bool) (eq : Bool), ∃ d, (∀ st : Store, toData st 19 (outD (beats2 p q) eq (srch P (beats2 p q) (dotsL p.W p.Hh))) = some d) ∧ Shw d 200 ∧ ∃ x : Str, ∀ st : Store, reprD (outD (beats2 p q) eq (srch P (beats2 p q) (dotsL p.W p.Hh))) st = some (.str x, st) := fun P eq => by
    have l8 := T.dp.l8
    have bn : beats2 p q ≤ 8 := by unfold beats2; omega
    cases z : srch P (beats2 p q) (dotsL p.W p.Hh) with
    | none =>
      cases eq with
      | true => exact ⟨.none, fun st => rfl, shw_none.mono (by decide), "None", fun st => rfl⟩
      | false =>
        have a5 : Shw (.tuple [.int ((beats2 p q : Nat) : Int), .none]) 200 := (shw_tuple (n := 14) fun d hd => by
          simp only [List.mem_cons, List.not_mem_nil, or_false] at hd
          rcases hd with rfl | rfl
          · exact shw_int (by show beats2 p q < _; omega)
          · exact shw_none.mono (by decide)).mono (by simp)
        exact ⟨_, fun st => rfl, a5, _, fun st => repr_tup rfl a5 (by decide)⟩
    | some a =>
      obtain ⟨b, x, y⟩ := a
      have hm := mem_all.mp (List.mem_of_find?_eq_some z)
      have hb : b < beats2 p q := hm.1
      have hq := mem_dotsL.mp (show (x, y) ∈ dotsL p.W p.Hh from hm.2)
      have w3 := T.dp.Ww
      have h3 := T.dp.Hw
      have a1 : Shw (.int (b : Int)) 14 := shw_int (by show b < _; omega)
      have a2 : Shw (.int x) 14 := shw_int (by omega)
      have a3 : Shw (.int y) 14 := shw_int (by omega)
      have a4 : Shw (.tuple [.int x, .int y]) 35 := (shw_tuple (n := 14) fun d hd => by
        simp only [List.mem_cons, List.not_mem_nil, or_false] at hd
        rcases hd with rfl | rfl
        · exact a2
        · exact a3).mono (by simp)
      have a5 : Shw (.tuple [.int (b : Int), .tuple [.int x, .int y]]) 200 := (shw_tuple (n := 35) fun d hd => by
        simp only [List.mem_cons, List.not_mem_nil, or_false] at hd
        rcases hd with rfl | rfl
        · exact a1.mono (by decide)
        · exact a4).mono (by simp)
      exact ⟨_, fun st => rfl, a5, _, fun st => repr_tup rfl a5 (by decide)⟩
  unfold due0
  split
  · exact key _ _
  · exact key _ _
end
/-- an if that would return where two texts are unlike -/
theorem same_if {a b : ME} {l : DV.Loc} {st s1 s2 : Store} {x : Str} (ea : a l st = .ok (.str x) s1) (eb : b l s1 = .ok (.str x) s2) : msIf (tB_ (m2 fNe a b)) (msRet (mC (.bl false))) msNil l st = .nx l s2 := by
  rw [ev_msIf, ev_tB_, ev_m2, ea]
  simp only [ev_bind_ok]
  rw [eb]
  simp [-ev_dataEq, str_same]
theorem repr_of {a : ME} {l : DV.Loc} {st s1 : Store} {d : D} {x : Str} (e : a l st = .ok d s1) (r : reprD d s1 = some (.str x, s1)) : mL (f1 reprD) (maCons a maNil) l st = .ok (.str x) s1 := by
  rw [ev_mL, ev_maCons, e]
  simp [r]
theorem right_ok {j : Nat} {st : Store} (hj : JarAt st j) (hjn : j < st.nxt) : ∃ st', F_law_right [.ref j] st = .ok (.bl true) st' ∧ st.nxt ≤ st'.nxt := by
  obtain ⟨p, s1, hp, e1, k1, j1⟩ := model_ok 4 3 3 (by decide) (by decide) (by decide) (by decide) (by decide) (by decide) hj hjn
  have n1j := Nat.lt_of_lt_of_le hjn k1.le
  obtain ⟨q, s2, e2, hq, hW, hH, hf, k2, j2⟩ := mate_ok hp j1 n1j
  have T : Two p q := ⟨hp, hq, hW, hH, hf⟩
  have n2j := Nat.lt_of_lt_of_le n1j k2.le
  obtain ⟨w1, s3, c1, e3, k3, j3⟩ := who_ok j2 n2j
  have n3j := Nat.lt_of_lt_of_le n2j k3.le
  obtain ⟨w2, s4, c2, e4, k4, j4⟩ := who_ok j3 n3j
  let s5 := s4.new (.lst [.str w1, .str w2])
  obtain ⟨s6, e6, F6, k6, n6⟩ := made_ok (st := s5) hp.toOk
  obtain ⟨s7, e7, G7, k7, n7⟩ := made_ok (st := s6) hq.toOk
  have wl7 : s7.at_ s4.nxt = some (.lst [.str w1, .str w2]) := (k6.trans k7).get0 Store.new_same (Nat.lt_succ_self _)
  have wn7 : s4.nxt < s7.nxt := Nat.lt_of_lt_of_le (Nat.lt_succ_self _) (k6.trans k7).le
  have F7 := k7.get0 F6 n6
  have m7 := Nat.lt_of_lt_of_le n6 k7.le
  have se : ("empty" : Str) ∈ starts := by decide +kernel
  have sa : ("any" : Str) ∈ starts := by decide +kernel
  -- what is due
  obtain ⟨s8, e8, k8⟩ := tells (c := none) T c1 c2 wl7 wn7
  have due1 : dueD p q w1 w2 none = due0 p q w1 w2 "empty" := by unfold due0; rw [if_pos rfl]
  rw [due1] at e8
  obtain ⟨s9, e9, k9⟩ := unlike_ok T se c1 c2 (k8.get0 F7 m7) (k8.get0 G7 n7) (Nat.lt_of_lt_of_le m7 k8.le) (Nat.lt_of_lt_of_le n7 k8.le)
  let s10 := s9.new (.lst [due0 p q w1 w2 "empty"])
  have k710 : Kp [] s7 s10 := k8.trans (k9.trans Kp.new)
  obtain ⟨s11, e11, k11⟩ := unlike_ok T se c1 c2 (k710.get0 F7 m7) (k710.get0 G7 n7) (Nat.lt_of_lt_of_le m7 k710.le) (Nat.lt_of_lt_of_le n7 k710.le)
  have g11 : s11.at_ s9.nxt = some (.lst [due0 p q w1 w2 "empty"]) := k11.get0 Store.new_same (Nat.lt_succ_self _)
  let s12 := s11.put s9.nxt (.lst [due0 p q w1 w2 "empty", due0 p q w1 w2 "empty"])
  have k912 : Kp [s9.nxt] s9 s12 := ((Kp.new (c := .lst [due0 p q w1 w2 "empty"])).trans (k11.nil)).trans (Kp.put (by simp))
  have k712 : Kp [] s7 s12 := (k8.trans k9).trans (k912.drop (Nat.le_refl _))
  have g12 : s12.at_ s9.nxt = some (.lst [due0 p q w1 w2 "empty", due0 p q w1 w2 "empty"]) := Store.put_same
  let s13 := s12.new (.lst [due0 p q w1 w2 "empty", due0 p q w1 w2 "empty"])
  have k713 : Kp [] s7 s13 := k712.trans Kp.new
  obtain ⟨d, hd, hs, x, hx⟩ := due_shw (w1 := w1) (w2 := w2) (start := "empty") T
  have dat : ∀ (t : Store) (m : Nat), t.at_ m = some (.lst [due0 p q w1 w2 "empty", due0 p q w1 w2 "empty"]) → reprD (.ref m) t = some (.str (PyData.shown (.list [d, d])), t) := fun t m e => by
    refine repr_ref (data_lst e (by simp only [optL, hd])) (shw_list (n := 200) fun z hz => ?_) (by simp)
    simp only [List.mem_cons, List.not_mem_nil, or_false] at hz
    rcases hz with rfl | rfl <;> exact hs
  have r1 : reprD (.ref s9.nxt) s12 = _ := dat _ _ g12
  have r2 : reprD (.ref s12.nxt) s13 = _ := dat _ _ Store.new_same
  obtain ⟨s14, e14, k14⟩ := alike_ok T se c1 c2 (k713.get0 F7 m7) (k713.get0 G7 n7) (Nat.lt_of_lt_of_le m7 k713.le) (Nat.lt_of_lt_of_le n7 k713.le)
  have k714 := k713.trans k14
  have z14 := due_isN (p := p) (q := q) (w1 := w1) (w2 := w2) (start := "empty") (st := s14)
  obtain ⟨s15, e15, k15⟩ := any_ok T c1 c2 (k714.get0 wl7 wn7) (Nat.lt_of_lt_of_le wn7 k714.le)
  have ne : ¬ (("any" : Str) = "empty") := by decide +kernel
  have due2 : anyD p q w1 w2 = due0 p q w1 w2 "any" := by unfold due0; rw [if_neg ne]
  rw [due2] at e15
  have k715 := k714.trans k15
  obtain ⟨s16, e16, k16⟩ := unlike_ok T sa c1 c2 (k715.get0 F7 m7) (k715.get0 G7 n7) (Nat.lt_of_lt_of_le m7 k715.le) (Nat.lt_of_lt_of_le n7 k715.le)
  have k716 := k715.trans k16
  obtain ⟨d2, hd2, hs2, x2, hx2⟩ := due_shw (w1 := w1) (w2 := w2) (start := "any") T
  obtain ⟨s17, e17, k17⟩ := alike_ok T sa c1 c2 (k716.get0 F7 m7) (k716.get0 G7 n7) (Nat.lt_of_lt_of_le m7 k716.le) (Nat.lt_of_lt_of_le n7 k716.le)
  have k717 := k716.trans k17
  have z17 := due_isN (p := p) (q := q) (w1 := w1) (w2 := w2) (start := "any") (st := s17)
  have fp : ("full" : Str) ∈ players := by decide +kernel
  obtain ⟨s18, e18, k18⟩ := unlike_ok T se fp fp (k717.get0 F7 m7) (k717.get0 G7 n7) (Nat.lt_of_lt_of_le m7 k717.le) (Nat.lt_of_lt_of_le n7 k717.le)
  let s19 := s18.new (.lst [.str "full", .str "full"])
  obtain ⟨s20, e20, k20⟩ := tells (c := none) (wl := s18.nxt) (st := s19) T fp fp Store.new_same (Nat.lt_succ_self _)
  have due3 : dueD p q "full" "full" none = due0 p q "full" "full" "empty" := by unfold due0; rw [if_pos rfl]
  rw [due3] at e20
  obtain ⟨d3, hd3, hs3, x3, hx3⟩ := due_shw (w1 := "full") (w2 := "full") (start := "empty") T
  refine ⟨s20, ?_, ?_⟩
  · have w1' : msAsg (mCall F_law_model [] (maCons (mVar 0) (maCons (mC (.int 4)) (maCons (mC (.int 3)) (maCons (mC (.int 3)) maNil))))) (tgName 1) [some (.ref j), none, none, none, none, none, none, none] st = .nx [some (.ref j), some p.d, none, none, none, none, none, none] s1 := by
      have e1' : F_law_model [.ref j, .int 4, .int 3, .int 3] st = .ok p.d s1 := e1
      simp [e1']
    have w2' : msAsg (mCall F_law_mate [] (maCons (mVar 0) (maCons (mVar 1) maNil))) (tgName 2) [some (.ref j), some p.d, none, none, none, none, none, none] s1 = .nx [some (.ref j), some p.d, some q.d, none, none, none, none, none] s2 := by
      simp [e2]
    have w3' : msPar3 3 4 5 (maCons (mLst (maCons (mCall F_law_who [] (maCons (mVar 0) maNil)) (maCons (mCall F_law_who [] (maCons (mVar 0) maNil)) maNil))) (maCons (mCall F_law_made [] (maCons (mVar 1) maNil)) (maCons (mCall F_law_made [] (maCons (mVar 2) maNil)) maNil))) [some (.ref j), some p.d, some q.d, none, none, none, none, none] s2 = .nx [some (.ref j), some p.d, some q.d, some (.ref s4.nxt), some (.ref s5.nxt), some (.ref s6.nxt), none, none] s7 := by
      have e6' : F_law_made [p.d] (s4.new (.lst [.str w1, .str w2])) = .ok (.ref s5.nxt) s6 := e6
      simp [e3, e4, e6', e7]
    have w4' : msAsg (mCall F_law_differ [] (maCons (mVar 1) (maCons (mVar 2) (maCons (mVar 3) (maCons (mC .non) maNil))))) (tgName 6) [some (.ref j), some p.d, some q.d, some (.ref s4.nxt), some (.ref s5.nxt), some (.ref s6.nxt), none, none] s7 = .nx [some (.ref j), some p.d, some q.d, some (.ref s4.nxt), some (.ref s5.nxt), some (.ref s6.nxt), some (due0 p q w1 w2 "empty"), none] s8 := by
      have ar : maCons (mVar 1) (maCons (mVar 2) (maCons (mVar 3) (maCons (mC .non) maNil))) [some (.ref j), some p.d, some q.d, some (.ref s4.nxt), some (.ref s5.nxt), some (.ref s6.nxt), none, none] s7 = .ok [p.d, q.d, .ref s4.nxt, .non] s7 := rfl
      rw [ev_msAsg, ev_mCall, ar, ev_bind_ok, List.append_nil]
      have e8' : F_law_differ [p.d, q.d, .ref s4.nxt, .non] s7 = .ok (due0 p q w1 w2 "empty") s8 := e8
      rw [e8']
      rfl
    have ix0 : ∀ t : Store, Kp [] s7 t → fIx (.ref s4.nxt) (.int 0) t = some (.str w1, t) := fun t k => by simp [k.get0 wl7 wn7]
    have ix1 : ∀ t : Store, Kp [] s7 t → fIx (.ref s4.nxt) (.int 1) t = some (.str w2, t) := fun t k => by simp [k.get0 wl7 wn7]
    have i8a := ix0 s8 k8; have i8b := ix1 s8 k8; have i10a := ix0 s10 k710; have i10b := ix1 s10 k710
    have i13a := ix0 s13 k713; have i13b := ix1 s13 k713; have i15a := ix0 s15 k715; have i15b := ix1 s15 k715; have i16a := ix0 s16 k716; have i16b := ix1 s16 k716
    have w5' : msAsg (mLst (maCons (mCallK F_unlike 2 2 [.p 0, .p 1, .k 0, .k 1, .d 0] [(.str "empty")] (maCons (mVar 4) (maCons (mVar 5) maNil)) (maCons (m2 fIx (mVar 3) (mC (.int 0))) (maCons (m2 fIx (mVar 3) (mC (.int 1))) maNil))) maNil)) (tgName 7) [some (.ref j), some p.d, some q.d, some (.ref s4.nxt), some (.ref s5.nxt), some (.ref s6.nxt), some (due0 p q w1 w2 "empty"), none] s8 = .nx [some (.ref j), some p.d, some q.d, some (.ref s4.nxt), some (.ref s5.nxt), some (.ref s6.nxt), some (due0 p q w1 w2 "empty"), some (.ref s9.nxt)] s10 := by
      simp [-ev_fIx, arr, Src.of, i8a, i8b, e9, s10]
    have w6' : msExpr (mM "list" fAppend (mVar 7) (maCons (mCallK F_unlike 0 5 [.k 4, .k 3, .k 2, .k 1, .k 0] [] maNil (maCons (mC (.str "empty")) (maCons (m2 fIx (mVar 3) (mC (.int 1))) (maCons (m2 fIx (mVar 3) (mC (.int 0))) (maCons (mVar 5) (maCons (mVar 4) maNil)))))) maNil)) [some (.ref j), some p.d, some q.d, some (.ref s4.nxt), some (.ref s5.nxt), some (.ref s6.nxt), some (due0 p q w1 w2 "empty"), some (.ref s9.nxt)] s10 = .nx [some (.ref j), some p.d, some q.d, some (.ref s4.nxt), some (.ref s5.nxt), some (.ref s6.nxt), some (due0 p q w1 w2 "empty"), some (.ref s9.nxt)] s12 := by
      have g10 : s10.at_ s9.nxt = some (.lst [due0 p q w1 w2 "empty"]) := Store.new_same
      have zl : (1 : Nat) < sizeLine := Nat.lt_of_lt_of_le (by decide) (show 1000 ≤ sizeLine by decide)
      simp [-ev_fIx, arr, Src.of, i10a, i10b, e11, g10, g11, zl, s12]
    have w7' : msIf (tB_ (m2 fNe (mL (f1 reprD) (maCons (mVar 7) maNil)) (mL (f1 reprD) (maCons (mLst (maCons (mVar 6) (maCons (mVar 6) maNil))) maNil)))) (msRet (mC (.bl false))) msNil [some (.ref j), some p.d, some q.d, some (.ref s4.nxt), some (.ref s5.nxt), some (.ref s6.nxt), some (due0 p q w1 w2 "empty"), some (.ref s9.nxt)] s12 = .nx [some (.ref j), some p.d, some q.d, some (.ref s4.nxt), some (.ref s5.nxt), some (.ref s6.nxt), some (due0 p q w1 w2 "empty"), some (.ref s9.nxt)] s13 :=
      same_if (repr_of (d := .ref s9.nxt) (by simp) r1) (repr_of (d := .ref s12.nxt) (s1 := s13) (by simp [s13]) r2)
    have rb : ∀ (b : Bool) (t : Store), reprD (.bl b) t = some (.str (if b then "True" else "False"), t) := fun b t => rfl
    have w8' : msIf (tB_ (m2 fNe (mL (f1 reprD) (maCons (mCallK F_alike 2 2 [.p 0, .p 1, .k 0, .k 1, .d 0] [(.str "empty")] (maCons (mVar 4) (maCons (mVar 5) maNil)) (maCons (m2 fIx (mVar 3) (mC (.int 0))) (maCons (m2 fIx (mVar 3) (mC (.int 1))) maNil))) maNil)) (mL (f1 reprD) (maCons (m2 fIsN (mVar 6) (mC .non)) maNil)))) (msRet (mC (.bl false))) msNil [some (.ref j), some p.d, some q.d, some (.ref s4.nxt), some (.ref s5.nxt), some (.ref s6.nxt), some (due0 p q w1 w2 "empty"), some (.ref s9.nxt)] s13 = .nx [some (.ref j), some p.d, some q.d, some (.ref s4.nxt), some (.ref s5.nxt), some (.ref s6.nxt), some (due0 p q w1 w2 "empty"), some (.ref s9.nxt)] s14 :=
      same_if (repr_of (s1 := s14) (d := .bl (isN0 p q w1 w2 "empty")) (by simp [-ev_fIx, arr, Src.of, i13a, i13b, e14]) (rb _ _)) (repr_of (d := .bl (isN0 p q w1 w2 "empty")) (by simp [-ev_fIsN, z14]) (rb _ _))
    have w9' : msAsg (mCall F_law_any [] (maCons (mVar 1) (maCons (mVar 2) (maCons (mVar 3) maNil)))) (tgName 6) [some (.ref j), some p.d, some q.d, some (.ref s4.nxt), some (.ref s5.nxt), some (.ref s6.nxt), some (due0 p q w1 w2 "empty"), some (.ref s9.nxt)] s14 = .nx [some (.ref j), some p.d, some q.d, some (.ref s4.nxt), some (.ref s5.nxt), some (.ref s6.nxt), some (due0 p q w1 w2 "any"), some (.ref s9.nxt)] s15 := by
      have ar : maCons (mVar 1) (maCons (mVar 2) (maCons (mVar 3) maNil)) [some (.ref j), some p.d, some q.d, some (.ref s4.nxt), some (.ref s5.nxt), some (.ref s6.nxt), some (due0 p q w1 w2 "empty"), some (.ref s9.nxt)] s14 = .ok [p.d, q.d, .ref s4.nxt] s14 := rfl
      rw [ev_msAsg, ev_mCall, ar, ev_bind_ok, List.append_nil, e15]
      rfl
    have w10' : msIf (tB_ (m2 fNe (mL (f1 reprD) (maCons (mCallK F_unlike 2 3 [.p 0, .p 1, .k 0, .k 1, .k 2] [] (maCons (mVar 4) (maCons (mVar 5) maNil)) (maCons (m2 fIx (mVar 3) (mC (.int 0))) (maCons (m2 fIx (mVar 3) (mC (.int 1))) (maCons (mC (.str "any")) maNil)))) maNil)) (mL (f1 reprD) (maCons (mVar 6) maNil)))) (msRet (mC (.bl false))) msNil [some (.ref j), some p.d, some q.d, some (.ref s4.nxt), some (.ref s5.nxt), some (.ref s6.nxt), some (due0 p q w1 w2 "any"), some (.ref s9.nxt)] s15 = .nx [some (.ref j), some p.d, some q.d, some (.ref s4.nxt), some (.ref s5.nxt), some (.ref s6.nxt), some (due0 p q w1 w2 "any"), some (.ref s9.nxt)] s16 :=
      same_if (repr_of (s1 := s16) (d := due0 p q w1 w2 "any") (by simp [-ev_fIx, arr, Src.of, i15a, i15b, e16]) (hx2 _)) (repr_of (d := due0 p q w1 w2 "any") (by simp) (hx2 _))
    have w11' : msIf (tB_ (m2 fNe (mL (f1 reprD) (maCons (mCallK F_alike 0 5 [.k 1, .k 2, .k 4, .k 3, .k 0] [] maNil (maCons (mC (.str "any")) (maCons (mVar 4) (maCons (mVar 5) (maCons (m2 fIx (mVar 3) (mC (.int 1))) (maCons (m2 fIx (mVar 3) (mC (.int 0))) maNil)))))) maNil)) (mL (f1 reprD) (maCons (m2 fIsN (mVar 6) (mC .non)) maNil)))) (msRet (mC (.bl false))) msNil [some (.ref j), some p.d, some q.d, some (.ref s4.nxt), some (.ref s5.nxt), some (.ref s6.nxt), some (due0 p q w1 w2 "any"), some (.ref s9.nxt)] s16 = .nx [some (.ref j), some p.d, some q.d, some (.ref s4.nxt), some (.ref s5.nxt), some (.ref s6.nxt), some (due0 p q w1 w2 "any"), some (.ref s9.nxt)] s17 :=
      same_if (repr_of (s1 := s17) (d := .bl (isN0 p q w1 w2 "any")) (by simp [-ev_fIx, arr, Src.of, i16a, i16b, e17]) (rb _ _)) (repr_of (d := .bl (isN0 p q w1 w2 "any")) (by simp [-ev_fIsN, z17]) (rb _ _))
    have w12' : msRet (m2 fEq (mL (f1 reprD) (maCons (mCall F_unlike [(.str "full"), (.str "full"), (.str "empty")] (maCons (mVar 4) (maCons (mVar 5) maNil))) maNil)) (mL (f1 reprD) (maCons (mCall F_law_differ [] (maCons (mVar 1) (maCons (mVar 2) (maCons (mLst (maCons (mC (.str "full")) (maCons (mC (.str "full")) maNil))) (maCons (mC .non) maNil))))) maNil))) [some (.ref j), some p.d, some q.d, some (.ref s4.nxt), some (.ref s5.nxt), some (.ref s6.nxt), some (due0 p q w1 w2 "any"), some (.ref s9.nxt)] s17 = .rt (.bl true) s20 := by
      have e20' : F_law_differ [p.d, q.d, .ref s18.nxt, .non] s19 = .ok (due0 p q "full" "full" "empty") s20 := e20
      have ar : maCons (mVar 1) (maCons (mVar 2) (maCons (mLst (maCons (mC (.str "full")) (maCons (mC (.str "full")) maNil))) (maCons (mC .non) maNil))) [some (.ref j), some p.d, some q.d, some (.ref s4.nxt), some (.ref s5.nxt), some (.ref s6.nxt), some (due0 p q w1 w2 "any"), some (.ref s9.nxt)] s18 = .ok [p.d, q.d, .ref s18.nxt, .non] s19 := by
        simp [s19]
      have b1 := repr_of (a := mCall F_unlike [(.str "full"), (.str "full"), (.str "empty")] (maCons (mVar 4) (maCons (mVar 5) maNil))) (l := [some (.ref j), some p.d, some q.d, some (.ref s4.nxt), some (.ref s5.nxt), some (.ref s6.nxt), some (due0 p q w1 w2 "any"), some (.ref s9.nxt)]) (st := s17) (d := due0 p q "full" "full" "empty") (s1 := s18) (by simp [e18]) (hx3 _)
      have b2 := repr_of (a := mCall F_law_differ [] (maCons (mVar 1) (maCons (mVar 2) (maCons (mLst (maCons (mC (.str "full")) (maCons (mC (.str "full")) maNil))) (maCons (mC .non) maNil))))) (l := [some (.ref j), some p.d, some q.d, some (.ref s4.nxt), some (.ref s5.nxt), some (.ref s6.nxt), some (due0 p q w1 w2 "any"), some (.ref s9.nxt)]) (st := s18) (d := due0 p q "full" "full" "empty") (s1 := s20) (by
        rw [ev_mCall, ar, ev_bind_ok, List.append_nil]
        exact e20') (hx3 _)
      rw [ev_msRet, ev_m2, b1]
      simp only [ev_bind_ok]
      rw [b2]
      simp [-ev_dataEq, str_same]
    exact def_rt rfl rfl ((seq_nx w1').trans ((seq_nx w2').trans ((seq_nx w3').trans ((seq_nx w4').trans ((seq_nx w5').trans ((seq_nx w6').trans ((seq_nx w7').trans ((seq_nx w8').trans ((seq_nx w9').trans ((seq_nx w10').trans ((seq_nx w11').trans w12')))))))))))
  · have a := k1.le; have b := k2.le; have c := k3.le; have d := k4.le; have e := (k6.trans k7).le; have f := k717.le; have g := k18.le; have h := k20.le
    have x1 : s4.nxt + 1 ≤ s7.nxt := e
    have x2 : s18.nxt + 1 ≤ s20.nxt := h
    omega
theorem law_ok (ns : List Int) (hn : ns.length ≤ 63) : ∃ st', F_law [.rol (ns.map D.int)] ⟨0, fun _ => none⟩ = .ok (.bl true) st' :=
  law_all (R := F_law_right) (n := 4) (fun j st h1 h2 => right_ok h1 h2) hn (by decide)
end L12


set_option Elab.async false
set_option linter.all false
set_option maxRecDepth 100000
set_option maxHeartbeats 0
/-! law_k12_first_differences_by_trying: the end. -/
namespace L12
open DV G PySem PySem.Spec PyProof.Rows L2 He NdefX
theorem facts {P : Program} {w : World} {K : PySem.W.Frag} {h : Heap} {mg : Str → Option Value} {f : Addr} (X : K.In h) (G : h.Ns mainGlobals mg) (hfa : mg ("law" : Str) = some (.ref f)) (c : SaysV fx fn K) :
    ∃ fd : FuncData, (∀ (s : Shared) (u : Value), BindsTo s fd ⟨[u], []⟩ [("_law_script", u)]) ∧ ∀ base : Heap, K.In base → base.Ns mainGlobals mg → TBs base mg (csOf K tf) → FnS P w K mg base (cl K PP.all) 11 f fd ["_law_script"] F_law := by
  have T : Tx fx fn K mg := ⟨c, h, X, G⟩
  have e := hfa.symm.trans (T.glo 83)
  cases e
  obtain ⟨fd, D⟩ := c.def_ 50 (d := d_law) rfl
  refine ⟨fd, fun s u => FunD.bindsA (ps := ["_law_script"]) D (fun kV doc pm an cdv ct us hl => bd_law kV doc pm an cdv ct us hl) s [u] rfl, fun base _ _ TB => ?_⟩
  obtain ⟨fd2, G2, D2⟩ := (ok_law (P := P) (w := w) (base := base) (p := PP.all) T TB).ex
  obtain ⟨_, _, _, _, _, _, _, _, _, _, _, l1, _⟩ := D.ex
  obtain ⟨_, _, _, _, _, _, _, _, _, _, _, l2, _⟩ := D2.ex
  have z := l1.symm.trans l2
  cases z
  exact G2
theorem tabs_in {K : PySem.W.Frag} : TabsIn (cl K PP.all) (csOf K tf) := fun t ht => by
  have ht : t ∈ tabs K := ht
  unfold tabs at ht
  rw [List.mem_singleton.mp ht]
  exact ⟨_, List.mem_map.mpr ⟨_, List.mem_cons_self .., rfl⟩, rfl⟩
end L12
open PySem PySem.W PySem.Calls PyProof.Rows
theorem PySem.Challenge.cw_tidyframes_k12_first_differences_by_tryi_holds : PySem.Challenge.rw_tidyframes_k12_first_differences_by_tryi.Holds := by
  w_on; o_law
  refine HandSHeadRun.head_any (r := OpenLaw.row PySem.Challenge.rw_tidyframes_k12_first_differences_by_tryi) (q := view (OpenLaw.row PySem.Challenge.rw_tidyframes_k12_first_differences_by_tryi).prog [82]) (H := L12.hk) (ob := L12.ob) (M := 20000) (loose := L12.looseAll) (d := HandSHeadRun.topDef (OpenLaw.row PySem.Challenge.rw_tidyframes_k12_first_differences_by_tryi).prog 82) (kwd := []) L12.ob_eq
    (by kernel_rfl) (fun s => by kernel_rfl) L12.run (by kernel_rfl) (by kernel_rfl) (by kernel_rfl) (by rfl) (by first | assumption | decide +kernel) (by decide +kernel) ⟨rfl, rfl, rfl, rfl, rfl, by decide +kernel⟩ ?hw ?hc
  case hw => w_witness2
  case hc =>
    refine DV.walkG (l := PySem.Challenge.rw_tidyframes_k12_first_differences_by_tryi) (k := 11) (x := "_law_script") (F := L12.F_law) rfl (by kernel_rfl) ⟨rfl, by decide, by decide⟩ ?G L12.law_ok
    intro w mg fa h Y G hmg0
    obtain ⟨K, KX, c⟩ := Y
    have hmg : mg ("law" : PySem.Str) = some (.ref fa) := by
      have e : (HandSHeadRun.topDef (OpenLaw.row PySem.Challenge.rw_tidyframes_k12_first_differences_by_tryi).prog 82).name = ("law" : PySem.Str) := by kernel_rfl
      rw [← e]
      exact hmg0
    obtain ⟨fd, hb, hF⟩ := L12.facts (P := (PySem.Challenge.rw_tidyframes_k12_first_differences_by_tryi).prog) (w := w) KX G hmg c.t
    refine ⟨K, L12.cl K DV.PP.all, fd, DV.csOf K L12.tf, KX, fun y hy => ?_, fun y hy => ?_, fun y hy => ?_, fun _ _ _ => trivial, L12.tabs_in, hb, hF⟩
    · obtain ⟨q, hq, rfl⟩ := List.mem_map.mp hy
      exact c.empty q hq
    · obtain ⟨q, hq, rfl⟩ := List.mem_map.mp hy
      exact c.out q hq
    · obtain ⟨q, hq, rfl⟩ := List.mem_map.mp hy
      exact PySem.W.codeHd_of_K KX (c.hd q hq)


