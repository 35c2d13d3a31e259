import PyProof.Rows.All
import Wide.All
import OpenK.AllK
import Wide.FinOn
import KE.KStateDown
import HandS.ForMost
import HandS.ExcField
import HandS.Head0
import HandS.Head1
import HandS.Head2
import HandS.Head3
import HandS.HeadEnd
import HandS.HeadHook1
import HandS.HeadHook2
import KE.KSuper
import KE.KExcSuper
import KE.KOpsOwn
import HandS.Exc
import HandS.WordsExc
import HandS.Star
import HandS.ExcInit
import HandS.SlotsOwn
import HandS.TryMany
import HandS.GenList
import HandS.Defaults
import HandS.More
import KE.KDictWalk
import KE.KDictOf
import HandS.OwnIter
import HandS.IterNext
import HandS.IterVal
import HandS.Iter
import HandS.Zip
import PyProof.EnumMake
import HandS.Evl
import HandS.IsInst
import HandS.Property
import HandS.Gcd
import HandS.Wide
import HandS.DictComp
import HandS.WordsDict
import HandS.RaiseMore
import HandS.Text
import HandS.Flow
import HandS.TupAny
import PySem.Challenge.RW_dearestshelf_k77_whole_desk_undo
set_option Elab.async false
set_option linter.all false
set_option maxRecDepth 100000
set_option maxHeartbeats 0
set_option exponentiation.threshold 10000
/-! K6A: the text's statements, the facts asked of the head; the head's run, apart; the law's end over a walk. -/
namespace K7
open PySem PySem.Spec PyProof.Rows L2
/-- one def: where it stands, its names, its statement, its defaults, the class in its cell -/
structure DX where
  ad : PySem.W.Frag → Addr
  name : Str
  qual : Str
  st : Stmt
  dfl : List He.Dv := []
  kls : Option Str := none
abbrev FnW2 : Type := Option (Str × Str × Arguments × FuncBody × Scope × Addr × List Str × Addr)
def fnW2 (K : PySem.W.Frag) (a : Addr) : FnW2 := match K.lookup a with
  | some ⟨_, _, .func fd, _⟩ => some (fd.name, fd.qualname, fd.params, fd.body, fd.scope, fd.globals, fd.closure.map (·.1), fd.builtins)
  | _ => none
def DX.val (d : DX) : FnW2 := some (d.name, d.qual, defArgs d.st, .stmts (defBody d.st), defScope d.st, mainGlobals, (match d.kls with | some _ => ["__class__"] | none => []), builtinsNs)
def klsV (K : PySem.W.Frag) (C : Str) (cc : Addr) : Bool := match K.lookup cc with
  | some ⟨_, _, .cell (some (.ref a)), _⟩ => decide (a = He.ga K C)
  | _ => false
def klsF (file : Str) : Option Value → Bool
  | some (.str z _) => (file == z)
  | _ => false
def klsC (K : PySem.W.Frag) (file : Str) : Value → Bool
  | .ref cda => (match K.lookup cda with
    | some ⟨_, _, .fields vs, _⟩ => klsF file vs[2]?
    | _ => false)
  | _ => false
def klsB (K : PySem.W.Frag) (file : Str) (fd : FuncData) : Option Str → Bool
  | none => true
  | some C => (match fd.closure with
    | [(_, cc)] => klsV K C cc
    | _ => false) && klsC K file fd.code
def DX.ok (K : PySem.W.Frag) (file : Str) (d : DX) : Bool := PySem.W.keepIn K (.ref (d.ad K)) && (match K.lookup (d.ad K) with
  | some ⟨_, _, .func fd, _⟩ => PySem.W.codeIn K fd.code d.qual && (He.dflB K fd.defaults (d.dfl.map (He.Dv.v K)) && klsB K file fd d.kls)
  | _ => false)
abbrev AlX : Type := Bool × List FnW2
def obsX (file : Str) (fa : List He.Fa) (fx : List (PySem.W.Frag → Bool)) (fn : List DX) (K : PySem.W.Frag) : AlX := ((fa.all fun f => f.ok K) && ((fx.all fun f => f K) && fn.all fun d => d.ok K file), fn.map fun d => fnW2 K (d.ad K))
def valX (fn : List DX) : AlX := (true, fn.map DX.val)
def SaysX (file : Str) (fa : List He.Fa) (fx : List (PySem.W.Frag → Bool)) (fn : List DX) (K : PySem.W.Frag) : Prop := obsX file fa fx fn K = valX fn
/-- what a class finds -/
def bFn (C m : PySem.W.Frag → Addr) (n : Str) (K : PySem.W.Frag) : Bool := decide (PySem.W.findIn K (.ref (C K)) n = some (some (.ref (m K))))
def bCon (C : Str) (f : Str) (z : Int) (K : PySem.W.Frag) : Bool := match PySem.W.findIn K (.ref (He.ga K C)) f with
  | some (some (.int j t)) => decide (j = z) && decide (PySem.W.specialIn K (.int j t) "__get__" = some none)
  | _ => false
def bOex (C : Str) (K : PySem.W.Frag) : Bool := (match K.lookup (He.ga K C) with
  | some ⟨.type "type", _, .cls cd, sl⟩ => (match cd.mro, sl.toList with
    | .ref C' :: bm, [_, _, _, _, some (.builtin n), _] => C' == He.ga K C && (n == "ValueError.__new__" && (!cd.hasDel && (PySem.HandSPX.refsVE bm && cd.hasDict)))
    | _, _ => false)
  | _ => false) && (decide (PySem.W.findIn K (.ref (He.ga K C)) "__setattr__" = some (some (.builtin "object.__setattr__"))) && (decide (PySem.W.subIn K (.ref (He.ga K C)) (.type "BaseException") = some true) && (decide (PySem.W.typeIn K (.ref (He.ga K C)) = some (.type "type")) && PySem.W.keepIn K (.ref (He.ga K C)))))
/-- its __init__ -/
def bIni (C : Str) (K : PySem.W.Frag) : Bool := decide (PySem.W.findIn K (.ref (He.ga K C)) "__init__" = some (some (.ref (He.ma K (He.ga K C) "__init__")))) && decide (PySem.W.typeIn K (.ref (He.ma K (He.ga K C) "__init__")) = some (.type "function"))
/-- what super() needs of the class -/
def bSup (C : Str) (K : PySem.W.Frag) : Bool := (PySem.W.clsIn K (He.ga K C)).isSome && (decide (PySem.W.mroIn K (He.ga K C) (.ref (He.ga K C)) = some true) && decide (PySem.W.nsIn K cStatics "thirdparty.any" = some none))
def bSupE (C : Str) (K : PySem.W.Frag) : Bool := decide (PySem.W.ks_superIn K (He.ga K C) (He.ga K C) "__init__" = some (some (.builtin "ValueError.__init__"))) && decide (PySem.W.subIn K (.ref (He.ga K C)) (.type "ValueError") = some true)
def bSupK (C D m : Str) (K : PySem.W.Frag) : Bool := decide (PySem.W.ks_superIn K (He.ga K C) (He.ga K C) m = some (some (.ref (He.ma K (He.ga K D) m)))) && (decide (PySem.W.typeIn K (.ref (He.ma K (He.ga K D) m)) = some (.type "function")) && PySem.W.fnIn K (He.ma K (He.ga K D) m))
def bBin (C : Str) (op : Operator) (K : PySem.W.Frag) : Bool := PySem.W.selfFirst K (He.ga K C) && (decide (PySem.W.findIn K (.ref (He.ga K C)) (PySem.dunder op.info.2) = some (some (.ref (He.ma K (He.ga K C) (PySem.dunder op.info.2))))) && (PySem.W.isFn K (.ref (He.ma K (He.ga K C) (PySem.dunder op.info.2))) &&
  ((match PySem.W.findIn K (.ref (He.ga K C)) (PySem.dunderR op.info.2) with
    | some none => true
    | some (some (.ref _)) => true
    | _ => false) && ((PySem.W.findIn K (.type "int") (PySem.dunder op.info.2)).isSome && ((PySem.W.findIn K (.type "int") (PySem.dunderR op.info.2)).isSome && decide (PySem.W.subIn K (.type "int") (.ref (He.ga K C)) = some false))))))
def bCmp (C : Str) (op : CmpOp) (K : PySem.W.Frag) : Bool := decide (PySem.W.findIn K (.ref (He.ga K C)) (cmpInfo op).2.1 = some (some (.ref (He.ma K (He.ga K C) (cmpInfo op).2.1)))) && (PySem.W.isFn K (.ref (He.ma K (He.ga K C) (cmpInfo op).2.1)) && decide (PySem.W.subIn K (.type "int") (.ref (He.ga K C)) = some false))
/-- a special of a class: where, a function, kept -/
def bSpc (C m : Str) (K : PySem.W.Frag) : Bool := decide (PySem.W.findIn K (.ref (He.ga K C)) m = some (some (.ref (He.ma K (He.ga K C) m)))) && (PySem.W.isFn K (.ref (He.ma K (He.ga K C) m)) && (decide (PySem.W.typeIn K (.ref (He.ma K (He.ga K C) m)) = some (.type "function")) && PySem.W.fnIn K (He.ma K (He.ga K C) m)))
/-- a getter -/
def pAd (C f : Str) (K : PySem.W.Frag) : Addr := match PySem.W.recIn K (He.ma K (He.ga K C) f) "property" with
  | some (.ref g :: _) => g
  | _ => 0
def bProp (C f : Str) (K : PySem.W.Frag) : Bool := decide (PySem.W.findIn K (.ref (He.ga K C)) f = some (some (.ref (He.ma K (He.ga K C) f)))) && (decide (PySem.W.specialIn K (.ref (He.ma K (He.ga K C) f)) "__get__" = some (some (.builtin "property.__get__"))) && (decide (PySem.W.takesIn K (.ref (He.ma K (He.ga K C) f)) = some true) && (match PySem.W.recIn K (He.ma K (He.ga K C) f) "property" with
  | some (.ref _ :: _) => true
  | _ => false)))
def bTy (C : Str) (K : PySem.W.Frag) : Bool := decide (PySem.W.findIn K (.ref (He.ga K C)) "__class__" = some (some (.builtin "object.__class__"))) && (decide (PySem.W.specialIn K (.builtin "object.__class__") "__get__" = some (some (.builtin "getset_descriptor.__get__"))) && (decide (PySem.W.takesIn K (.builtin "object.__class__") = some true) && decide (PySem.W.mroIn K (He.ga K C) (.type "object") = some true)))
def bBlt (x : Str) (n : String) (K : PySem.W.Frag) : Bool := decide (PySem.W.nsIn K mainGlobals x = some (some (.builtin n)))
def top (i : Nat) : Stmt := PySem.Challenge.pw_dearestshelf_k77_whole_desk_undo.main.body.getD i (.Pass ⟨0, 0, 0, 0⟩)
def clsBody : Stmt → List Stmt
  | .ClassDef _ _ _ b _ _ _ _ _ _ _ => b
  | _ => []
def mem (i j : Nat) : Stmt := (clsBody (top i)).getD j (.Pass ⟨0, 0, 0, 0⟩)
def fileC : Str := "/claim/cut.py"
abbrev s_check_lot : Stmt := top 14
abbrev s_check_prices : Stmt := top 15
abbrev s_lot_at : Stmt := top 16
abbrev s_dearest_order : Stmt := top 18
abbrev s_is_name : Stmt := top 35
abbrev s_check_least : Stmt := top 36
abbrev s_best_of : Stmt := top 37
abbrev s__law_cell : Stmt := top 41
abbrev s__law_draws : Stmt := top 42
abbrev s__law_own_cell : Stmt := top 43
abbrev s__law_is_int : Stmt := top 44
abbrev s__law_is_ratio : Stmt := top 45
abbrev s__law_same_lot : Stmt := top 46
abbrev s__law_refused : Stmt := top 47
abbrev s__law_signs : Stmt := top 48
abbrev s__law_any_name : Stmt := top 49
abbrev s__law_is_name : Stmt := top 50
abbrev s__law_move : Stmt := top 51
abbrev s__law_pairs : Stmt := top 52
abbrev s__law_place : Stmt := top 53
abbrev s__law_changed : Stmt := top 54
abbrev s__law_do : Stmt := top 55
abbrev s__law_tried : Stmt := top 56
abbrev s__law_due : Stmt := top 57
abbrev s__law_after : Stmt := top 58
abbrev s__law_told_right : Stmt := top 59
abbrev s__law_desk_right : Stmt := top 60
abbrev s__law_look : Stmt := top 61
abbrev s__law_steps : Stmt := top 62
abbrev s__law_stands : Stmt := top 63
abbrev s__law_back : Stmt := top 64
abbrev s_law : Stmt := top 65
abbrev s_BadNumber___init__ : Stmt := mem 8 0
abbrev s_TooMany___init__ : Stmt := mem 9 0
abbrev s_BadName___init__ : Stmt := mem 10 0
abbrev s_KnownName___init__ : Stmt := mem 11 0
abbrev s_UnknownName___init__ : Stmt := mem 12 0
abbrev s_Ratio___init__ : Stmt := mem 22 0
abbrev s_Ratio___add__ : Stmt := mem 22 1
abbrev s_Ratio___mul__ : Stmt := mem 22 5
abbrev s_Ratio___lt__ : Stmt := mem 22 13
abbrev s_Ratio___gt__ : Stmt := mem 22 15
abbrev s_Choice___init__ : Stmt := mem 24 0
abbrev s_Choice_gains : Stmt := mem 24 2
abbrev s_Choice_pick : Stmt := mem 24 3
abbrev s_Choice_climb : Stmt := mem 24 5
abbrev s_Choice_best : Stmt := mem 24 6
abbrev s_AtMost___init__ : Stmt := mem 25 0
abbrev s_AtMost_pick : Stmt := mem 25 2
abbrev s_Rule___init__ : Stmt := mem 27 2
abbrev s_Rule_shares : Stmt := mem 27 3
abbrev s_Rule_worth : Stmt := mem 27 5
abbrev s_Weighted___init__ : Stmt := mem 29 0
abbrev s_Weighted_total_of : Stmt := mem 29 1
abbrev s_Weighted_shares : Stmt := mem 29 2
abbrev s_State___init__ : Stmt := mem 38 0
abbrev s_Desk___init__ : Stmt := mem 39 0
abbrev s_Desk__change : Stmt := mem 39 1
abbrev s_Desk__change_rows : Stmt := mem 39 2
abbrev s_Desk__check_known : Stmt := mem 39 3
abbrev s_Desk_put : Stmt := mem 39 4
abbrev s_Desk_drop : Stmt := mem 39 5
abbrev s_Desk_set_price : Stmt := mem 39 6
abbrev s_Desk_set_weight : Stmt := mem 39 7
abbrev s_Desk_reprice : Stmt := mem 39 8
abbrev s_Desk_set_aside : Stmt := mem 39 9
abbrev s_Desk_set_limit : Stmt := mem 39 10
abbrev s_Desk_undo : Stmt := mem 39 11
abbrev s_Desk_weight_of : Stmt := mem 39 12
abbrev s_Desk_limit : Stmt := mem 39 13
abbrev s_Desk_aside_weight : Stmt := mem 39 15
abbrev s_Desk_best_lot : Stmt := mem 39 16
abbrev s_Desk_best_worth : Stmt := mem 39 17
abbrev s_Desk___getitem__ : Stmt := mem 39 18
abbrev s_Desk___setitem__ : Stmt := mem 39 19
abbrev s_Desk___contains__ : Stmt := mem 39 20
abbrev s_Desk___len__ : Stmt := mem 39 21
abbrev s_Desk___iter__ : Stmt := mem 39 22
def d_check_lot : DX := ⟨fun K => He.ga K "check_lot", "check_lot", "check_lot", s_check_lot, [], none⟩
def d_check_prices : DX := ⟨fun K => He.ga K "check_prices", "check_prices", "check_prices", s_check_prices, [], none⟩
def d_lot_at : DX := ⟨fun K => He.ga K "lot_at", "lot_at", "lot_at", s_lot_at, [], none⟩
def d_dearest_order : DX := ⟨fun K => He.ga K "dearest_order", "dearest_order", "dearest_order", s_dearest_order, [], none⟩
def d_is_name : DX := ⟨fun K => He.ga K "is_name", "is_name", "is_name", s_is_name, [], none⟩
def d_check_least : DX := ⟨fun K => He.ga K "check_least", "check_least", "check_least", s_check_least, [], none⟩
def d_best_of : DX := ⟨fun K => He.ga K "best_of", "best_of", "best_of", s_best_of, [], none⟩
def d__law_cell : DX := ⟨fun K => He.ga K "_law_cell", "_law_cell", "_law_cell", s__law_cell, [], none⟩
def d__law_draws : DX := ⟨fun K => He.ga K "_law_draws", "_law_draws", "_law_draws", s__law_draws, [], none⟩
def d__law_own_cell : DX := ⟨fun K => He.ga K "_law_own_cell", "_law_own_cell", "_law_own_cell", s__law_own_cell, [], none⟩
def d__law_is_int : DX := ⟨fun K => He.ga K "_law_is_int", "_law_is_int", "_law_is_int", s__law_is_int, [], none⟩
def d__law_is_ratio : DX := ⟨fun K => He.ga K "_law_is_ratio", "_law_is_ratio", "_law_is_ratio", s__law_is_ratio, [], none⟩
def d__law_same_lot : DX := ⟨fun K => He.ga K "_law_same_lot", "_law_same_lot", "_law_same_lot", s__law_same_lot, [], none⟩
def d__law_refused : DX := ⟨fun K => He.ga K "_law_refused", "_law_refused", "_law_refused", s__law_refused, [], none⟩
def d__law_signs : DX := ⟨fun K => He.ga K "_law_signs", "_law_signs", "_law_signs", s__law_signs, [], none⟩
def d__law_any_name : DX := ⟨fun K => He.ga K "_law_any_name", "_law_any_name", "_law_any_name", s__law_any_name, [], none⟩
def d__law_is_name : DX := ⟨fun K => He.ga K "_law_is_name", "_law_is_name", "_law_is_name", s__law_is_name, [], none⟩
def d__law_move : DX := ⟨fun K => He.ga K "_law_move", "_law_move", "_law_move", s__law_move, [], none⟩
def d__law_pairs : DX := ⟨fun K => He.ga K "_law_pairs", "_law_pairs", "_law_pairs", s__law_pairs, [], none⟩
def d__law_place : DX := ⟨fun K => He.ga K "_law_place", "_law_place", "_law_place", s__law_place, [], none⟩
def d__law_changed : DX := ⟨fun K => He.ga K "_law_changed", "_law_changed", "_law_changed", s__law_changed, [], none⟩
def d__law_do : DX := ⟨fun K => He.ga K "_law_do", "_law_do", "_law_do", s__law_do, [], none⟩
def d__law_tried : DX := ⟨fun K => He.ga K "_law_tried", "_law_tried", "_law_tried", s__law_tried, [], none⟩
def d__law_due : DX := ⟨fun K => He.ga K "_law_due", "_law_due", "_law_due", s__law_due, [], none⟩
def d__law_after : DX := ⟨fun K => He.ga K "_law_after", "_law_after", "_law_after", s__law_after, [], none⟩
def d__law_told_right : DX := ⟨fun K => He.ga K "_law_told_right", "_law_told_right", "_law_told_right", s__law_told_right, [], none⟩
def d__law_desk_right : DX := ⟨fun K => He.ga K "_law_desk_right", "_law_desk_right", "_law_desk_right", s__law_desk_right, [], none⟩
def d__law_look : DX := ⟨fun K => He.ga K "_law_look", "_law_look", "_law_look", s__law_look, [], none⟩
def d__law_steps : DX := ⟨fun K => He.ga K "_law_steps", "_law_steps", "_law_steps", s__law_steps, [], none⟩
def d__law_stands : DX := ⟨fun K => He.ga K "_law_stands", "_law_stands", "_law_stands", s__law_stands, [], none⟩
def d__law_back : DX := ⟨fun K => He.ga K "_law_back", "_law_back", "_law_back", s__law_back, [], none⟩
def d_law : DX := ⟨fun K => He.ga K "law", "law", "law", s_law, [], none⟩
def d_BadNumber___init__ : DX := ⟨fun K => He.ma K (He.ga K "BadNumber") "__init__", "__init__", "BadNumber.__init__", s_BadNumber___init__, [], (some "BadNumber")⟩
def d_TooMany___init__ : DX := ⟨fun K => He.ma K (He.ga K "TooMany") "__init__", "__init__", "TooMany.__init__", s_TooMany___init__, [], (some "TooMany")⟩
def d_BadName___init__ : DX := ⟨fun K => He.ma K (He.ga K "BadName") "__init__", "__init__", "BadName.__init__", s_BadName___init__, [], (some "BadName")⟩
def d_KnownName___init__ : DX := ⟨fun K => He.ma K (He.ga K "KnownName") "__init__", "__init__", "KnownName.__init__", s_KnownName___init__, [], (some "KnownName")⟩
def d_UnknownName___init__ : DX := ⟨fun K => He.ma K (He.ga K "UnknownName") "__init__", "__init__", "UnknownName.__init__", s_UnknownName___init__, [], (some "UnknownName")⟩
def d_Ratio___init__ : DX := ⟨fun K => He.ma K (He.ga K "Ratio") "__init__", "__init__", "Ratio.__init__", s_Ratio___init__, [.int 1], none⟩
def d_Ratio___add__ : DX := ⟨fun K => He.ma K (He.ga K "Ratio") "__add__", "__add__", "Ratio.__add__", s_Ratio___add__, [], none⟩
def d_Ratio___mul__ : DX := ⟨fun K => He.ma K (He.ga K "Ratio") "__mul__", "__mul__", "Ratio.__mul__", s_Ratio___mul__, [], none⟩
def d_Ratio___lt__ : DX := ⟨fun K => He.ma K (He.ga K "Ratio") "__lt__", "__lt__", "Ratio.__lt__", s_Ratio___lt__, [], none⟩
def d_Ratio___gt__ : DX := ⟨fun K => He.ma K (He.ga K "Ratio") "__gt__", "__gt__", "Ratio.__gt__", s_Ratio___gt__, [], none⟩
def d_Choice___init__ : DX := ⟨fun K => He.ma K (He.ga K "Choice") "__init__", "__init__", "Choice.__init__", s_Choice___init__, [], none⟩
def d_Choice_gains : DX := ⟨fun K => He.ma K (He.ga K "Choice") "gains", "gains", "Choice.gains", s_Choice_gains, [], none⟩
def d_Choice_pick : DX := ⟨fun K => He.ma K (He.ga K "Choice") "pick", "pick", "Choice.pick", s_Choice_pick, [], none⟩
def d_Choice_climb : DX := ⟨fun K => He.ma K (He.ga K "Choice") "climb", "climb", "Choice.climb", s_Choice_climb, [], none⟩
def d_Choice_best : DX := ⟨fun K => He.ma K (He.ga K "Choice") "best", "best", "Choice.best", s_Choice_best, [], none⟩
def d_AtMost___init__ : DX := ⟨fun K => He.ma K (He.ga K "AtMost") "__init__", "__init__", "AtMost.__init__", s_AtMost___init__, [], (some "AtMost")⟩
def d_AtMost_pick : DX := ⟨fun K => He.ma K (He.ga K "AtMost") "pick", "pick", "AtMost.pick", s_AtMost_pick, [], (some "AtMost")⟩
def d_Rule___init__ : DX := ⟨fun K => He.ma K (He.ga K "Rule") "__init__", "__init__", "Rule.__init__", s_Rule___init__, [], none⟩
def d_Rule_shares : DX := ⟨fun K => He.ma K (He.ga K "Rule") "shares", "shares", "Rule.shares", s_Rule_shares, [], none⟩
def d_Rule_worth : DX := ⟨fun K => He.ma K (He.ga K "Rule") "worth", "worth", "Rule.worth", s_Rule_worth, [], none⟩
def d_Weighted___init__ : DX := ⟨fun K => He.ma K (He.ga K "Weighted") "__init__", "__init__", "Weighted.__init__", s_Weighted___init__, [], (some "Weighted")⟩
def d_Weighted_total_of : DX := ⟨fun K => He.ma K (He.ga K "Weighted") "total_of", "total_of", "Weighted.total_of", s_Weighted_total_of, [], none⟩
def d_Weighted_shares : DX := ⟨fun K => He.ma K (He.ga K "Weighted") "shares", "shares", "Weighted.shares", s_Weighted_shares, [], (some "Weighted")⟩
def d_State___init__ : DX := ⟨fun K => He.ma K (He.ga K "State") "__init__", "__init__", "State.__init__", s_State___init__, [], none⟩
def d_Desk___init__ : DX := ⟨fun K => He.ma K (He.ga K "Desk") "__init__", "__init__", "Desk.__init__", s_Desk___init__, [], none⟩
def d_Desk__change : DX := ⟨fun K => He.ma K (He.ga K "Desk") "_change", "_change", "Desk._change", s_Desk__change, [], none⟩
def d_Desk__change_rows : DX := ⟨fun K => He.ma K (He.ga K "Desk") "_change_rows", "_change_rows", "Desk._change_rows", s_Desk__change_rows, [], none⟩
def d_Desk__check_known : DX := ⟨fun K => He.ma K (He.ga K "Desk") "_check_known", "_check_known", "Desk._check_known", s_Desk__check_known, [], none⟩
def d_Desk_put : DX := ⟨fun K => He.ma K (He.ga K "Desk") "put", "put", "Desk.put", s_Desk_put, [], none⟩
def d_Desk_drop : DX := ⟨fun K => He.ma K (He.ga K "Desk") "drop", "drop", "Desk.drop", s_Desk_drop, [], none⟩
def d_Desk_set_price : DX := ⟨fun K => He.ma K (He.ga K "Desk") "set_price", "set_price", "Desk.set_price", s_Desk_set_price, [], none⟩
def d_Desk_set_weight : DX := ⟨fun K => He.ma K (He.ga K "Desk") "set_weight", "set_weight", "Desk.set_weight", s_Desk_set_weight, [], none⟩
def d_Desk_reprice : DX := ⟨fun K => He.ma K (He.ga K "Desk") "reprice", "reprice", "Desk.reprice", s_Desk_reprice, [], none⟩
def d_Desk_set_aside : DX := ⟨fun K => He.ma K (He.ga K "Desk") "set_aside", "set_aside", "Desk.set_aside", s_Desk_set_aside, [], none⟩
def d_Desk_set_limit : DX := ⟨fun K => He.ma K (He.ga K "Desk") "set_limit", "set_limit", "Desk.set_limit", s_Desk_set_limit, [], none⟩
def d_Desk_undo : DX := ⟨fun K => He.ma K (He.ga K "Desk") "undo", "undo", "Desk.undo", s_Desk_undo, [], none⟩
def d_Desk_weight_of : DX := ⟨fun K => He.ma K (He.ga K "Desk") "weight_of", "weight_of", "Desk.weight_of", s_Desk_weight_of, [], none⟩
def d_Desk_limit : DX := ⟨fun K => pAd "Desk" "limit" K, "limit", "Desk.limit", s_Desk_limit, [], none⟩
def d_Desk_aside_weight : DX := ⟨fun K => pAd "Desk" "aside_weight" K, "aside_weight", "Desk.aside_weight", s_Desk_aside_weight, [], none⟩
def d_Desk_best_lot : DX := ⟨fun K => pAd "Desk" "best_lot" K, "best_lot", "Desk.best_lot", s_Desk_best_lot, [], none⟩
def d_Desk_best_worth : DX := ⟨fun K => pAd "Desk" "best_worth" K, "best_worth", "Desk.best_worth", s_Desk_best_worth, [], none⟩
def d_Desk___getitem__ : DX := ⟨fun K => He.ma K (He.ga K "Desk") "__getitem__", "__getitem__", "Desk.__getitem__", s_Desk___getitem__, [], none⟩
def d_Desk___setitem__ : DX := ⟨fun K => He.ma K (He.ga K "Desk") "__setitem__", "__setitem__", "Desk.__setitem__", s_Desk___setitem__, [], none⟩
def d_Desk___contains__ : DX := ⟨fun K => He.ma K (He.ga K "Desk") "__contains__", "__contains__", "Desk.__contains__", s_Desk___contains__, [], none⟩
def d_Desk___len__ : DX := ⟨fun K => He.ma K (He.ga K "Desk") "__len__", "__len__", "Desk.__len__", s_Desk___len__, [], none⟩
def d_Desk___iter__ : DX := ⟨fun K => He.ma K (He.ga K "Desk") "__iter__", "__iter__", "Desk.__iter__", s_Desk___iter__, [], none⟩
def fa : List He.Fa := [.glo "check_lot", .keep "check_lot", .glo "check_prices", .keep "check_prices", .glo "lot_at", .keep "lot_at", .glo "dearest_order", .keep "dearest_order", .glo "is_name", .keep "is_name", .glo "check_least", .keep "check_least", .glo "best_of", .keep "best_of", .glo "_law_cell", .keep "_law_cell", .glo "_law_draws", .keep "_law_draws", .glo "_law_own_cell", .keep "_law_own_cell", .glo "_law_is_int", .keep "_law_is_int", .glo "_law_is_ratio", .keep "_law_is_ratio", .glo "_law_same_lot", .keep "_law_same_lot", .glo "_law_refused", .keep "_law_refused", .glo "_law_signs", .keep "_law_signs", .glo "_law_any_name", .keep "_law_any_name", .glo "_law_is_name", .keep "_law_is_name", .glo "_law_move", .keep "_law_move", .glo "_law_pairs", .keep "_law_pairs", .glo "_law_place", .keep "_law_place", .glo "_law_changed", .keep "_law_changed", .glo "_law_do", .keep "_law_do", .glo "_law_tried", .keep "_law_tried", .glo "_law_due", .keep "_law_due", .glo "_law_after", .keep "_law_after", .glo "_law_told_right", .keep "_law_told_right", .glo "_law_desk_right", .keep "_law_desk_right", .glo "_law_look", .keep "_law_look", .glo "_law_steps", .keep "_law_steps", .glo "_law_stands", .keep "_law_stands", .glo "_law_back", .keep "_law_back", .glo "law", .keep "law", .glo "BadNumber", .keep "BadNumber", .glo "TooMany", .keep "TooMany", .glo "BadName", .keep "BadName", .glo "KnownName", .keep "KnownName", .glo "UnknownName", .keep "UnknownName", .glo "Ratio", .keep "Ratio", .glo "Choice", .keep "Choice", .glo "AtMost", .keep "AtMost", .glo "Rule", .keep "Rule", .glo "Weighted", .keep "Weighted", .glo "State", .keep "State", .glo "Desk", .keep "Desk", .glo "ZeroBottom", .keep "ZeroBottom", .glo "BadLot", .keep "BadLot", .glo "NothingToUndo", .keep "NothingToUndo", .free "range", .free "len", .free "int", .free "min", .free "sum", .free "all", .free "sorted", .free "isinstance", .free "iter", .free "list", .free "dict", .free "tuple", .free "enumerate", .free "zip", .free "str", .free "bool", .free "super", .free "NotImplemented", .int "MOST_THINGS" 24, .int "LONGEST_NAME" 12, .str "LETTERS" "abcdefghijklmnopqrstuvwxyz", .cls "Ratio", .mkr "Ratio", .noat "Ratio" "top", .noat "Ratio" "bottom", .cls "Choice", .mkr "Choice", .noat "Choice" "rule", .noat "Choice" "prices", .cls "AtMost", .mkr "AtMost", .noat "AtMost" "rule", .noat "AtMost" "prices", .noat "AtMost" "most", .cls "Weighted", .mkr "Weighted", .noat "Weighted" "many", .noat "Weighted" "weights", .noat "Weighted" "aside", .cls "State", .mkr "State", .noat "State" "rows", .noat "State" "aside", .noat "State" "cap", .noat "State" "top_names", .noat "State" "top_worth", .cls "Desk", .mkr "Desk", .noat "Desk" "_state", .noat "Desk" "_past", .meth "Choice" "gains", .meth "Choice" "pick", .meth "Choice" "climb", .meth "Choice" "best", .meth "AtMost" "gains", .meth "AtMost" "pick", .meth "AtMost" "climb", .meth "AtMost" "best", .meth "Weighted" "worth", .meth "Weighted" "shares", .meth "Weighted" "total_of", .meth "Desk" "__init__", .meth "Desk" "_change", .meth "Desk" "_change_rows", .meth "Desk" "_check_known", .meth "Desk" "put", .meth "Desk" "drop", .meth "Desk" "set_price", .meth "Desk" "set_weight", .meth "Desk" "reprice", .meth "Desk" "set_aside", .meth "Desk" "set_limit", .meth "Desk" "undo", .meth "Desk" "weight_of", .meth "Desk" "__getitem__", .meth "Desk" "__setitem__", .meth "Desk" "__contains__", .meth "Desk" "__len__", .meth "Desk" "__iter__", .exc "ZeroBottom", .exc "BadLot", .exc "NothingToUndo", .exm "BadName" "BadName" true, .exm "KnownName" "BadName" false, .exm "KnownName" "KnownName" true, .exm "UnknownName" "BadName" false, .exm "UnknownName" "KnownName" false, .exm "UnknownName" "UnknownName" true, .exm "BadNumber" "BadName" false, .exm "BadNumber" "KnownName" false, .exm "BadNumber" "UnknownName" false, .exm "BadNumber" "BadNumber" true, .exm "TooMany" "BadName" false, .exm "TooMany" "KnownName" false, .exm "TooMany" "UnknownName" false, .exm "TooMany" "BadNumber" false, .exm "TooMany" "TooMany" true, .exm "NothingToUndo" "BadName" false, .exm "NothingToUndo" "KnownName" false, .exm "NothingToUndo" "UnknownName" false, .exm "NothingToUndo" "BadNumber" false, .exm "NothingToUndo" "TooMany" false, .exm "NothingToUndo" "NothingToUndo" true]
def fx : List (PySem.W.Frag → Bool) := [bCon "Weighted" "MOST" 24, bOex "BadNumber", bIni "BadNumber", bSup "BadNumber", bSupE "BadNumber", fun K => xfB K (He.ga K "BadNumber"), fun K => decide (PySem.W.findIn K (.ref (He.ga K "BadNumber")) "what" = some none), fun K => decide (PySem.W.findIn K (.ref (He.ga K "BadNumber")) "at" = some none), bOex "TooMany", bIni "TooMany", bSup "TooMany", bSupE "TooMany", fun K => xfB K (He.ga K "TooMany"), fun K => decide (PySem.W.findIn K (.ref (He.ga K "TooMany")) "many" = some none), fun K => decide (PySem.W.findIn K (.ref (He.ga K "TooMany")) "most" = some none), bOex "BadName", bIni "BadName", bSup "BadName", bSupE "BadName", fun K => xfB K (He.ga K "BadName"), fun K => decide (PySem.W.findIn K (.ref (He.ga K "BadName")) "name" = some none), bOex "KnownName", bIni "KnownName", bSup "KnownName", bSupE "KnownName", fun K => xfB K (He.ga K "KnownName"), fun K => decide (PySem.W.findIn K (.ref (He.ga K "KnownName")) "name" = some none), bOex "UnknownName", bIni "UnknownName", bSup "UnknownName", bSupE "UnknownName", fun K => xfB K (He.ga K "UnknownName"), fun K => decide (PySem.W.findIn K (.ref (He.ga K "UnknownName")) "name" = some none), bSupK "Weighted" "Rule" "__init__", bSupK "Weighted" "Rule" "shares", bSupK "AtMost" "Choice" "__init__", bSupK "AtMost" "Choice" "pick", bSup "Weighted", bSup "AtMost", bBin "Ratio" .Add, bBin "Ratio" .Mult, bCmp "Ratio" .Lt, bCmp "Ratio" .Gt, bSpc "Desk" "__getitem__", bSpc "Desk" "__setitem__", bSpc "Desk" "__contains__", bSpc "Desk" "__len__", bSpc "Desk" "__iter__", bProp "Desk" "limit", bProp "Desk" "aside_weight", bProp "Desk" "best_lot", bProp "Desk" "best_worth", bBlt "gcd" "math.gcd", fun K => decide (PySem.W.kitOne K (.type "int") (.type "int") = some true), fun K => decide (PySem.W.kitOne K (.type "int") (.type "bool") = some false), fun K => decide (PySem.W.kitOne K (.type "int") (.type "str") = some false), fun K => decide (PySem.W.kitOne K (.type "str") (.type "str") = some true), fun K => decide (PySem.W.kitOne K (.type "tuple") (.type "tuple") = some true), fun K => decide (PySem.W.kitOne K (.type "list") (.type "list") = some true), fun K => decide (PySem.W.kitOne K (.ref (He.ga K "Ratio")) (.type "int") = some false), fun K => decide (PySem.W.kitOne K (.ref (He.ga K "Ratio")) (.ref (He.ga K "Ratio")) = some true), fun K => decide (He.ma K (He.ga K "AtMost") "gains" = He.ma K (He.ga K "Choice") "gains"), fun K => decide (He.ma K (He.ga K "AtMost") "climb" = He.ma K (He.ga K "Choice") "climb"), fun K => decide (He.ma K (He.ga K "AtMost") "best" = He.ma K (He.ga K "Choice") "best"), fun K => decide (He.ma K (He.ga K "Weighted") "worth" = He.ma K (He.ga K "Rule") "worth"), fun K => decide (He.ga K "State" ≠ He.ga K "Desk"), fun K => decide (He.ga K "Ratio" ≠ He.ga K "Desk"), bTy "Ratio", fun K => PySem.W.noSeq K (He.ga K "Desk")]
def fn : List DX := [d_check_lot, d_check_prices, d_lot_at, d_dearest_order, d_is_name, d_check_least, d_best_of, d__law_cell, d__law_draws, d__law_own_cell, d__law_is_int, d__law_is_ratio, d__law_same_lot, d__law_refused, d__law_signs, d__law_any_name, d__law_is_name, d__law_move, d__law_pairs, d__law_place, d__law_changed, d__law_do, d__law_tried, d__law_due, d__law_after, d__law_told_right, d__law_desk_right, d__law_look, d__law_steps, d__law_stands, d__law_back, d_law, d_BadNumber___init__, d_TooMany___init__, d_BadName___init__, d_KnownName___init__, d_UnknownName___init__, d_Ratio___init__, d_Ratio___add__, d_Ratio___mul__, d_Ratio___lt__, d_Ratio___gt__, d_Choice___init__, d_Choice_gains, d_Choice_pick, d_Choice_climb, d_Choice_best, d_AtMost___init__, d_AtMost_pick, d_Rule___init__, d_Rule_shares, d_Rule_worth, d_Weighted___init__, d_Weighted_total_of, d_Weighted_shares, d_State___init__, d_Desk___init__, d_Desk__change, d_Desk__change_rows, d_Desk__check_known, d_Desk_put, d_Desk_drop, d_Desk_set_price, d_Desk_set_weight, d_Desk_reprice, d_Desk_set_aside, d_Desk_set_limit, d_Desk_undo, d_Desk_weight_of, d_Desk_limit, d_Desk_aside_weight, d_Desk_best_lot, d_Desk_best_worth, d_Desk___getitem__, d_Desk___setitem__, d_Desk___contains__, d_Desk___len__, d_Desk___iter__]
def rngs (l : List (Nat × Nat)) : List Nat := l.flatMap fun p => List.range' p.1 (p.2 + 1 - p.1)
def asL : List Nat := rngs [(0, 0), (2, 4), (6, 6), (43, 49), (57, 60), (70, 72), (82, 84), (94, 96), (106, 108), (114, 114), (125, 129), (135, 135), (146, 150), (156, 156), (167, 171), (177, 177), (188, 192), (198, 198), (209, 213), (216, 255), (263, 263), (269, 270), (276, 277), (283, 284), (290, 291), (297, 298), (304, 305), (311, 312), (318, 319), (325, 326), (332, 333), (339, 340), (346, 347), (353, 354), (360, 361), (367, 368), (374, 375), (381, 382), (388, 389), (395, 396), (403, 405), (407, 411), (426, 427), (433, 434), (438, 439), (443, 444), (450, 451), (457, 458), (464, 470), (476, 476), (487, 488), (495, 496), (501, 505), (520, 521), (525, 526), (532, 533), (539, 540), (546, 547), (553, 559), (565, 565), (576, 577), (581, 582), (589, 590), (596, 597), (603, 607), (610, 631), (644, 650), (665, 666), (672, 673), (679, 680), (686, 687), (693, 694), (698, 699), (705, 706), (712, 713), (719, 720), (726, 727), (733, 734), (740, 741), (747, 748), (754, 755), (764, 765), (771, 773), (779, 781), (787, 789), (795, 796), (802, 803), (809, 810), (816, 817), (823, 829), (832, 996)]
def obsYG (file : Str) (fa : List He.Fa) (fx : List (PySem.W.Frag → Bool)) (fn : List DX) (g : Addr → Option Obj) : AlX := obsX file fa fx fn (He.frG g asL)
def hookY (file : Str) (fa : List He.Fa) (fx : List (PySem.W.Frag → Bool)) (fn : List DX) : PySem.W.Hook where
  α := AlX
  obs := fun s => obsYG file fa fx fn s.heap.get?
  val := fun _ => valX fn
  says := fun _ h => ∃ K : PySem.W.Frag, K.In h ∧ SaysX file fa fx fn K
  of := fun _ _ e => ⟨_, He.frG_in, e⟩
  keeps := fun _ _ _ ⟨K, hK, c⟩ k => ⟨K, PySem.W.Frag.In.keeps hK k, c⟩
abbrev hkL : PySem.W.Hook := hookY fileC fa fx fn
abbrev RWr : PySem.W.OpenRow := PySem.W.OpenLaw.row PySem.Challenge.rw_dearestshelf_k77_whole_desk_undo
def obL (s : PySem.W.SharedT) : AlX := obsYG fileC fa fx fn (HandSHeadRun.getT s)
theorem obL_eq (s : PySem.W.SharedT) : obL s = hkL.obs s.abs := by
  have e : HandSHeadRun.getT s = s.abs.heap.get? := funext (HandSHeadRun.getT_eq s)
  show obsYG fileC fa fx fn (HandSHeadRun.getT s) = obsYG fileC fa fx fn s.abs.heap.get?
  rw [e]
abbrev qL : Program := PySem.W.view RWr.prog [0, 65]
def loose1 : List PySem.Str := ["_wall", "__name__", "ShelfError", "ZeroBottom", "BadText", "BadLot", "NothingToUndo", "BadNumber", "TooMany", "BadName", "KnownName", "UnknownName"]
def loose2 : List PySem.Str := ["check_lot", "check_prices", "lot_at", "lots", "dearest_order", "DIGITS", "read_whole", "Ratio", "Choice", "AtMost", "Rule", "Weighted"]
def loose3 : List PySem.Str := ["dearer_than_worth", "LETTERS", "MOST_THINGS", "LONGEST_NAME", "is_name", "check_least", "best_of", "State", "Desk", "_law_cell", "_law_draws", "_law_own_cell"]
def loose4 : List PySem.Str := ["_law_is_int", "_law_is_ratio", "_law_same_lot", "_law_refused", "_law_signs", "_law_any_name", "_law_is_name", "_law_move", "_law_pairs", "_law_place", "_law_changed", "_law_do"]
def loose5 : List PySem.Str := ["_law_tried", "_law_due", "_law_after", "_law_told_right", "_law_desk_right", "_law_look", "_law_steps", "_law_stands", "_law_back"]
abbrev looseL : List PySem.Str := loose1 ++ (loose2 ++ (loose3 ++ (loose4 ++ (loose5))))
/-! the run: each part apart (memory) -/
noncomputable abbrev whole (w : World) : Option (Shared × PySem.W.SharedT) := HandSHeadRun.wholeF (fun p => HandSHeadRun.stepQ (HandSHeadRun.denQ HandSHeadRun.tabQ) p w) HandSHeadRun.fenceQ 20000 RWr.prog
theorem run1 (w : World) : (whole w).map (fun x => HandSHeadRun.looksF RWr.prog x.1.heap x.2.abs) = some true := by kernel_rfl
theorem run2 (w : World) : (whole w).map (fun x => HandSHeadRun.seenQ qL looseL (PySem.importedModules RWr.prog.main.body) (fun s => PySem.W.xlAt qL [] s && PySem.W.recOk RWr.toRowW.records s) x.2.abs) = some (PySem.W.openGood qL looseL) := by kernel_rfl
noncomputable abbrev frL (s : PySem.W.SharedT) : PySem.W.Frag := He.frG (HandSHeadRun.getT s) asL
theorem run3a (w : World) : (whole w).map (fun x => fa.all fun f => f.ok (frL x.2)) = some true := by kernel_rfl
theorem run3b (w : World) : (whole w).map (fun x => fx.all fun f => f (frL x.2)) = some true := by kernel_rfl
theorem run3c (w : World) : (whole w).map (fun x => fn.all fun d => d.ok (frL x.2) fileC) = some true := by kernel_rfl
theorem run3d (w : World) : (whole w).map (fun x => fn.map fun d => fnW2 (frL x.2) (d.ad (frL x.2))) = some (fn.map DX.val) := by kernel_rfl
theorem map4 {α β : Type} {o : Option α} {A B C : α → Bool} {D : α → β} {d : β} (h1 : o.map A = some true) (h2 : o.map B = some true) (h3 : o.map C = some true) (h4 : o.map D = some d) : o.map (fun x => ((A x && (B x && C x), D x) : Bool × β)) = some (true, d) := by
  cases o with
  | none => cases h1
  | some x =>
    have q1 : A x = true := Option.some.inj h1
    have q2 : B x = true := Option.some.inj h2
    have q3 : C x = true := Option.some.inj h3
    have q4 : D x = d := Option.some.inj h4
    show some ((A x && (B x && C x), D x) : Bool × β) = _
    rw [q1, q2, q3, q4]
    rfl
theorem run3 (w : World) : (whole w).map (fun x => obL x.2) = some (valX fn) := map4 (run3a w) (run3b w) (run3c w) (run3d w)
theorem map3 {α β γ δ : Type} {o : Option α} {A : α → β} {B : α → γ} {C : α → δ} {a : β} {b : γ} {c : δ} (h1 : o.map A = some a) (h2 : o.map B = some b) (h3 : o.map C = some c) : o.map (fun x => (A x, B x, C x)) = some (a, b, c) := by
  cases o with
  | none => cases h1
  | some x =>
    cases h1
    cases h2
    cases h3
    rfl
theorem run (w : World) : HandSHeadRun.RunEqI RWr qL hkL obL 20000 looseL w := map3 (run1 w) (run2 w) (run3 w)
end K7
open PySem PySem.W PySem.Calls PyProof.Rows in
theorem K7.whole_law (walk : PySem.W.WalkO K7.qL K7.looseL (PySem.W.XL K7.qL []) K7.hkL.says K7.RWr.toRowW (HandSHeadRun.topDef K7.RWr.prog 65) [] fun f vs => PySem.call f vs) : PySem.Challenge.rw_dearestshelf_k77_whole_desk_undo.Holds := by
  w_on; o_law
  refine HandSHeadRun.head_imp (r := K7.RWr) (q := K7.qL) (H := K7.hkL) (ob := K7.obL) (M := 20000) (loose := K7.looseL) (d := HandSHeadRun.topDef K7.RWr.prog 65) (kwd := []) K7.obL_eq K7.run (by kernel_rfl) (by kernel_rfl) (by kernel_rfl) (by rfl) (by first | assumption | decide +kernel) (by decide +kernel) ⟨rfl, rfl, rfl, rfl, rfl, by decide +kernel⟩ ?hw walk
  w_witness2

/-! K7A: defs whose body's first statement is a super() call: the frame, the call. -/
namespace K7
open PySem PySem.Spec PyProof.Rows L2

/-! ### a frame with own cells and the class cell -/
/-- names: the parameters first; __class__ alone is free -/
structure FnScopeS (N P : List Str) (sc : Scope) : Prop where
  kind : sc.kind = .function
  co : sc.isCoroutine = false
  gen : sc.isGenerator = false
  nd : N.Nodup
  pre : N.take P.length = P
  par : ∀ x ∈ P, sc.names.lookup x = some .local ∨ sc.names.lookup x = some .cell
  fre : ∀ y ∈ sc.names, y.2 = .free → y.1 = ("__class__" : Str)
  ncl : ∀ y ∈ sc.names, y.2 = .cell → y.1 ≠ ("__class__" : Str)

theorem cells_app : ∀ (names : List (Str × NameKind)) (n : Nat) (acc : List (Str × Addr)), cellsFrom n names acc = cellsFrom n names [] ++ acc
  | [], n, acc => rfl
  | (y, k) :: r, n, acc => by
    unfold cellsFrom
    split
    · rw [cells_app r (n + 1) ((y, n) :: acc), cells_app r (n + 1) [(y, n)], List.append_assoc]
      rfl
    · exact cells_app r n acc
theorem cells_names : ∀ (names : List (Str × NameKind)) (n : Nat) {y : Str} {c : Addr}, (y, c) ∈ cellsFrom n names [] → (y, NameKind.cell) ∈ names
  | [], n, y, c, h => by cases h
  | (z, k) :: r, n, y, c, h => by
    unfold cellsFrom at h
    split at h
    · rename_i hk
      rw [cells_app] at h
      rcases List.mem_append.mp h with h | h
      · exact List.mem_cons_of_mem _ (cells_names r (n + 1) h)
      · have e := List.mem_singleton.mp h
        have hk' : k = .cell := by simpa using hk
        rw [hk', (Prod.mk.inj e).1]
        exact List.mem_cons_self
    · exact List.mem_cons_of_mem _ (cells_names r n h)
theorem look_app {α : Type} {l m : List (Str × α)} {x : Str} {c : α} (h : l.lookup x = some c) : (List.append l m).lookup x = some c := by
  show (l ++ m).lookup x = some c
  rw [List.lookup_append, h]; rfl
theorem look_app0 {α : Type} {l m : List (Str × α)} {x : Str} (h : l.lookup x = none) : (List.append l m).lookup x = m.lookup x := by
  show (l ++ m).lookup x = m.lookup x
  rw [List.lookup_append, h]; rfl
theorem look_none {α : Type} {l : List (Str × α)} {x : Str} (h : ∀ v, (x, v) ∉ l) : l.lookup x = none := by
  cases e : l.lookup x with
  | none => rfl
  | some v => exact absurd (PySem.mem_of_lookup e) (h v)

abbrev cellsS (n : Nat) (sc : Scope) (cc : Addr) : List (Str × Addr) := List.append (cellsFrom n sc.names []) [(("__class__" : Str), cc)]
abbrev envS (qual : Str) (scope : Scope) (L f : Addr) (cd : Value) (cc : Addr) : Env := PySem.W.envX qual scope L f cd (cellsS (L + 1) scope cc)

section
variable {M : Model} {A : Around} {E : Value → Shared → Prop} {s₀ s : Shared} {m cm : Str → Option Value} {env : Env} {cs : List (Str × Addr)}
theorem stLS {n : Str} {v : Value} {Q : Unit → Shared → Prop} (x : InCallC s₀ env.locals m cs cm s) (hk : env.scope.kind = .function) (hl : env.kindOf n = some .local)
    (h : ∀ s', InCallC s₀ env.locals (fun y => if y = n then some v else m y) cs cm s' → Q () s') : wpAny M A (storeName env n v) Q E s := by
  refine wpAny_storeName_local hl x.toInCall.ns (fun h' hn' hs' => h _ ⟨⟨?_, hn', fun b o e => ?_, x.toInCall.fresh⟩, fun k c hc => ?_, x.apart, x.above⟩) (by rw [hk]; rfl)
  · obtain ⟨h₁, tk, rfl⟩ := x.toInCall.same
    exact ⟨h', _, rfl⟩
  · exact hs'.extBut b o (Nat.ne_of_lt (Nat.lt_of_lt_of_le (Heap.lt_size e) x.toInCall.fresh)) (x.toInCall.keep b o e)
  · exact (x.cell k c hc).sameBut hs' (Nat.ne_of_gt (x.above k c (PySem.mem_of_lookup hc)))
theorem stCS {n : Str} {c : Addr} {v : Value} {Q : Unit → Shared → Prop} (x : InCallC s₀ env.locals m cs cm s) (hk : env.scope.kind = .function) (hl : env.kindOf n = some .cell)
    (hce : env.cells.lookup n = some c) (hc : cs.lookup n = some c)
    (h : ∀ s', InCallC s₀ env.locals m cs (fun y => if y = n then some v else cm y) s' → Q () s') : wpAny M A (storeName env n v) Q E s := by
  have hLc := x.above n c (PySem.mem_of_lookup hc)
  refine wpAny_storeName_cell hk hl hce (x.cell n c hc) fun h' hc' hs' => h _ ⟨⟨?_, x.toInCall.ns.sameBut hs' (Nat.ne_of_lt hLc), fun b o e => ?_, x.toInCall.fresh⟩, fun k c' hk' => ?_, x.apart, x.above⟩
  · obtain ⟨h₁, tk, rfl⟩ := x.toInCall.same
    exact ⟨h', _, rfl⟩
  · exact hs'.extBut b o (Nat.ne_of_lt (Nat.lt_trans (Nat.lt_of_lt_of_le (Heap.lt_size e) x.toInCall.fresh) hLc)) (x.toInCall.keep b o e)
  · by_cases hkn : k = n
    · subst hkn
      rw [hc] at hk'; cases hk'
      simpa using hc'
    · rw [if_neg hkn]
      exact (x.cell k c' hk').sameBut hs' fun e => hkn (name_of_addr x.apart (PySem.mem_of_lookup hk') (e ▸ PySem.mem_of_lookup hc))
theorem bindParamsS (f : Str × Value → PUnit → Sem (ForInStep PUnit)) (hf : ∀ n v u, f (n, v) u = (do storeName env n v; pure (.yield ⟨⟩))) (hk : env.scope.kind = .function)
    (hcs : ∀ n c, cs.lookup n = some c → env.cells.lookup n = some c) :
    ∀ (binds : List (Str × Value)) (m cm : Str → Option Value) (s : Shared) (Q : PUnit → Shared → Prop), InCallC s₀ env.locals m cs cm s →
      (∀ x ∈ binds, env.kindOf x.1 = some .local ∨ (env.kindOf x.1 = some .cell ∧ (cs.lookup x.1).isSome = true)) →
      (∀ s', InCallC s₀ env.locals (bindL env.kindOf binds m) cs (bindC env.kindOf binds cm) s' → Q ⟨⟩ s') → wpAny M A (forIn binds ⟨⟩ f) Q E s
  | [], m, cm, s, Q, x, _, h => by rw [List.forIn_nil]; exact wpAny_pure (h s x)
  | (n, v) :: r, m, cm, s, Q, x, hkind, h => by
    rw [List.forIn_cons, hf]
    have hr : ∀ y ∈ r, env.kindOf y.1 = some .local ∨ (env.kindOf y.1 = some .cell ∧ (cs.lookup y.1).isSome = true) := fun y hy => hkind y (List.mem_cons_of_mem _ hy)
    rcases hkind (n, v) List.mem_cons_self with hl | ⟨hl, hc⟩
    · refine wpAny_bind (wpAny_bind (stLS x hk hl fun s' x' => wpAny_pure (bindParamsS f hf hk hcs r _ _ s' Q x' hr fun s'' x'' => h s'' ?_)))
      unfold bindL bindC; rw [if_pos hl, if_pos hl]; exact x''
    · obtain ⟨c, hc⟩ := Option.isSome_iff_exists.mp hc
      have hnl : ¬ env.kindOf n = some .local := by rw [hl]; decide
      refine wpAny_bind (wpAny_bind (stCS x hk hl (hcs n c hc) hc fun s' x' => wpAny_pure (bindParamsS f hf hk hcs r _ _ s' Q x' hr fun s'' x'' => h s'' ?_)))
      unfold bindL bindC; rw [if_neg hnl, if_neg hnl]; exact x''
end
theorem newEnvS {M : Model} {A : Around} {E : Value → Shared → Prop} {s : Shared} {scope : Scope} {globals : Addr} {binds : List (Str × Value)} {qual : Str} {func : Option Addr} {code : Value} {builtins cc : Addr} {Q : Env → Shared → Prop}
    (hk : scope.kind = .function)
    (hkind : ∀ x ∈ binds, scope.names.lookup x.1 = some .local ∨ (scope.names.lookup x.1 = some .cell ∧ ((cellsFrom (s.heap.objs.size + 1) scope.names []).lookup x.1).isSome = true))
    (hQ : ∀ env, env = newEnv scope s.heap.objs.size globals (cellsS (s.heap.objs.size + 1) scope cc) qual func code none builtins →
      ∀ s', InCallC s env.locals (bindL env.kindOf binds fun _ => none) (cellsFrom (s.heap.objs.size + 1) scope.names []) (bindC env.kindOf binds fun _ => none) s' → Q env s') :
    wpAny M A (newFunctionEnv scope globals [("__class__", cc)] binds qual func code none builtins) Q E s := by
  simp only [newFunctionEnv, Option.isSome_none, Bool.false_eq_true, if_false]
  refine wpAny_bind (wpAny_alloc ?_)
  refine wpAny_bind (wpAny_layCells _ (fun name kind cells => by cases hkc : kind == NameKind.cell <;> simp [hkc]) _ _ _ _ ?_)
  have ok := cellsFrom_ok scope.names (s.heap.push { cls := .type "frame", data := .dict #[] }) (s.heap.objs.size + 1) [] ⟨fun _ _ hm => (nomatch hm), List.Pairwise.nil⟩ (by rw [Heap.size_push]; exact Nat.le_refl _)
  rw [Heap.size_push] at ok
  rw [show ({ s with heap := s.heap.push { cls := .type "frame", data := .dict #[] } } : Shared).heap.objs.size = s.heap.objs.size + 1 from Heap.size_push .., cells_app]
  refine wpAny_bind (bindParamsS (s₀ := s) (env := newEnv scope s.heap.objs.size globals (cellsS (s.heap.objs.size + 1) scope cc) qual func code none builtins) (cs := cellsFrom (s.heap.objs.size + 1) scope.names [])
    _ (fun _ _ _ => rfl) hk (fun n c h => look_app h) binds (fun _ => none) (fun _ => none) _ _
    ⟨⟨⟨_, _, rfl⟩, (Heap.Ns.new s.heap (.type "frame")).keeps (pushCells_keeps _ _), fun b o e => pushCells_keeps _ _ b o (Heap.get?_push_of_some _ e), Nat.le_refl _⟩,
      fun n c hc => (ok.empty n c (PySem.mem_of_lookup hc)).1, ok.apart, fun n c hm => (ok.empty n c hm).2⟩
    hkind fun s' x => wpAny_pure (hQ _ rfl s' x))

/-- the context of such a def's body -/
def cxS (P : Program) (w : World) (K : PySem.W.Frag) (mg : Str → Option Value) (base : Heap) (N : List Str) (qual : Str) (scope : Scope) (f : Addr) (cd : Value) (cc : Addr) (A : Around) (outer : List Env) (s : Shared) (H : Hp) (E : XK) : Cx where
  prog := P
  w := w
  K := K
  mg := mg
  base := base
  A := A.deeper (envS qual scope s.heap.objs.size f cd cc)
  N := N
  s_0 := s
  H_0 := H
  env := envS qual scope s.heap.objs.size f cd cc
  outer := outer
  stack := envS qual scope s.heap.objs.size f cd cc :: outer
  ex := []
  calm := true
  fn := fun x => !(decide (x = ("__class__" : Str)))
  pn := []
  xe := fun e s' => wpAny (model P w) (A.deeper (envS qual scope s.heap.objs.size f cd cc)) (leaving (envS qual scope s.heap.objs.size f cd cc) e) (fun _ s'' => L2.CX P w outer H s E e s'') (fun e' s'' => L2.CX P w outer H s E e' s'') s'

theorem inv_startS {P : Program} {w : World} {K : PySem.W.Frag} {mg : Str → Option Value} {base : Heap} {N ps : List Str} {qual : Str} {scope : Scope} {f cc : Addr} {cd : Value} {A : Around} {outer : List Env} {s s1 : Shared} {H : Hp} {E : XK} {us : List Value} {vs : List V} {oc : Obj} {v0 : Option Value}
    (S : FnScopeS N ps scope) (hd : A.handled = none) (e0 : Env0 P w K mg base A outer s H) (hl : vs.length = ps.length) (r : Vals vs us) (hcc : base.get? cc = some oc) (hoc : oc.data = .cell v0)
    (x : InCallC s s.heap.objs.size (bindL (envS qual scope s.heap.objs.size f cd cc).kindOf (ps.zip us) fun _ => none) (cellsFrom (s.heap.objs.size + 1) scope.names []) (bindC (envS qual scope s.heap.objs.size f cd cc).kindOf (ps.zip us) fun _ => none) s1) :
    Inv (cxS P w K mg base N qual scope f cd cc A outer s H E) [] (L2.start N vs) H s1 := by
  have hpl : ps.length ≤ N.length := by have := congrArg List.length S.pre; rw [List.length_take] at this; omega
  obtain ⟨h1, tk, rfl, hk⟩ := x.done
  have noA : ∀ b : Addr, b ∉ (cxS P w K mg base N qual scope f cd cc A outer s H E).ex := fun b z => absurd (show b ∈ ([] : List Addr) from z) (by simp)
  have ccs := e0.bs cc oc hcc
  have split : ∀ {y : Str} {c : Addr}, (cellsS (s.heap.objs.size + 1) scope cc).lookup y = some c → ((cellsFrom (s.heap.objs.size + 1) scope.names []).lookup y = some c) ∨ (y = ("__class__" : Str) ∧ c = cc) := fun {y c} h => by
    cases e : (cellsFrom (s.heap.objs.size + 1) scope.names []).lookup y with
    | some c' => rw [look_app e] at h; exact .inl h
    | none =>
      rw [look_app0 e] at h
      have hm := PySem.mem_of_lookup h
      have e2 := List.mem_singleton.mp hm
      exact .inr ⟨(Prod.mk.inj e2).1, (Prod.mk.inj e2).2⟩
  have above : ∀ {y : Str} {c : Addr}, (cellsFrom (s.heap.objs.size + 1) scope.names []).lookup y = some c → s.heap.objs.size < c := fun {y c} h => x.above y c (PySem.mem_of_lookup h)
  have cclt : cc < s.heap.objs.size := Heap.lt_size ccs.1
  have noclass : (cellsFrom (s.heap.objs.size + 1) scope.names []).lookup ("__class__" : Str) = none := look_none fun v hm => S.ncl _ (cells_names _ _ hm) rfl rfl
  refine ⟨⟨e0.mod, S.kind, rfl, rfl, Nat.le_refl _, fun y z c h1 h2 => ?_, fun y hy => ?_, fun y c hfn h => ?_, fun _ => hd, Around.frames_deeper e0.frames, .inr ⟨rfl, rfl⟩, fun b z => absurd z (noA b), e0.bs, e0.bsz, fun b _ _ => noA b, fun b z => absurd z (noA b), e0.funs, e0.frf⟩,
    rfl, e0.bare, Un.kept hk, ⟨_, x.toInCall.ns, fun i y v h1 h2 h3 => ?_⟩, fun y c h => ?_, e0.hok.fresh (Nat.le_refl _), fun y c h => ?_, fun p hp => absurd (show p ∈ ([] : List (Addr × Obj)) from hp) (by simp), e0.hok.kept hk, ?_⟩
  · rcases split h1 with a | ⟨ay, ac⟩ <;> rcases split h2 with b | ⟨bz, bc⟩
    · exact name_of_addr x.apart (PySem.mem_of_lookup a) (PySem.mem_of_lookup b)
    · have := above a; rw [bc] at this; exact absurd (Nat.lt_trans cclt this) (Nat.lt_irrefl _)
    · have := above b; rw [ac] at this; exact absurd (Nat.lt_trans cclt this) (Nat.lt_irrefl _)
    · rw [ay, bz]
  · have hy : scope.names.lookup y = some .cell ∨ scope.names.lookup y = some .free := hy
    rcases hy with hy | hy
    · obtain ⟨c, e⟩ := cell_has (n := s.heap.objs.size + 1) hy
      exact ⟨c, (show (cellsS (s.heap.objs.size + 1) scope cc).lookup y = some c from look_app (m := [(("__class__" : Str), cc)]) e)⟩
    · have e := S.fre _ (PySem.mem_of_lookup hy) rfl
      have e : y = ("__class__" : Str) := e
      subst e
      refine ⟨cc, ?_⟩
      show (cellsS (s.heap.objs.size + 1) scope cc).lookup ("__class__" : Str) = some cc
      refine (look_app0 (m := [(("__class__" : Str), cc)]) noclass).trans ?_
      exact List.lookup_cons_self
  · rcases split h with a | ⟨ay, ac⟩
    · exact Nat.le_of_lt (above a)
    · have hfn : (!(decide (y = ("__class__" : Str)))) = true := hfn
      rw [ay] at hfn
      simp at hfn
  · have hi : i < vs.length := by
      unfold L2.start at h2
      by_cases hi : i < vs.length
      · exact hi
      · rw [List.getElem?_append_right (by simpa using hi)] at h2
        rw [List.getElem?_replicate] at h2
        split at h2 <;> cases h2
    have ha : vs[i]? = some v := by
      unfold L2.start at h2
      rw [List.getElem?_append_left (by simpa using hi), List.getElem?_map] at h2
      cases e : vs[i]? with
      | none => rw [e] at h2; cases h2
      | some a => rw [e] at h2; cases h2; rfl
    obtain ⟨u, hu, rv⟩ := r.get ha
    have hp : ps[i]? = some y := by
      rw [← S.pre, List.getElem?_take_of_lt (by omega)]; exact h1
    have ndP : ps.Nodup := by rw [← S.pre]; exact S.nd.sublist (List.take_sublist _ _)
    refine ⟨u, rv, ?_⟩
    rcases S.par y (List.mem_of_getElem? hp) with k | k
    · exact .inl ⟨k, bindL_get ndP hp hu k⟩
    · obtain ⟨c, e⟩ := cell_has (n := s.heap.objs.size + 1) k
      refine .inr ⟨.inl k, c, (show (cellsS (s.heap.objs.size + 1) scope cc).lookup y = some c from look_app (m := [(("__class__" : Str), cc)]) e), ?_⟩
      have q := x.cell y c e
      rw [bindC_get ndP hp hu (by show scope.names.lookup y ≠ _; rw [k]; decide)] at q
      exact q
  · rcases split h with a | ⟨ay, ac⟩
    · exact ⟨_, x.cell y c a⟩
    · rw [ac]
      exact ⟨v0, oc, hk _ _ ccs.1, hoc⟩
  · rcases split h with a | ⟨ay, ac⟩
    · exact e0.hok.fresh (Nat.le_of_lt (above a))
    · rw [ac]; exact ccs.2
  · unfold L2.start
    show _ = N.length
    rw [List.length_append, List.length_map, List.length_replicate]
    omega

/-! ### a statement at a known activation -/
structure PSat (X : Cx) (c : Code) (st : Stmt) (t : TS) : Prop where
  run : ∀ (pins : List (Addr × Obj)) (s : Shared) (σ : L2.St) (H : Hp) (D : Ends), Inv X pins σ H s → t D σ H → _root_.PySem.wpAt (model X.prog X.w) X.A c (exec st X.env) (SP X pins D) X.xe s
structure PEat (X : Cx) (c : Code) (e : Expr) (t : TE) : Prop where
  run : ∀ (pins : List (Addr × Obj)) (s : Shared) (σ : L2.St) (H : Hp) (Q : VK), Inv X pins σ H s → t σ H Q → _root_.PySem.wpAt (model X.prog X.w) X.A c (eval e X.env) (EP X pins σ Q) X.xe s
section
open PySem.W
variable {X : Cx} {c : Code} {st : Stmt} {rest : List Stmt} {t u : TS} {e : Expr} {te : TE} {pos : Pos}
theorem psat_of (h : PS X st t) : PSat X c st t := ⟨fun pins s σ H D I q => wpAt_of_wpAny (h.run pins s σ H D I q)⟩
theorem psat_expr (he : PEat X c e te) (hs : swapsWith e none pos.line X.env = pure false := by rfl) : PSat X c (.Expr e pos) (tDrop te) := by
  refine ⟨fun pins s σ H D I h => ?_⟩
  exact ks_wpAt_Expr_any (ks_wpAt_mono (he.run pins s σ H _ I h) (fun v s1 ⟨x, H1, I1, r1, q1⟩ => ⟨σ, H1, I1, q1⟩) fun _ _ z => z) I.quiet hs
theorem psat_set {i : Nat} {x : Str} {pos' : Pos} (hN : X.N.Nodup) (hi : X.N[i]? = some x) (hx : Loc X.env.scope x) (he : PEat X c e te) (hs : swapsWith e (some (.Name x pos')) pos.line X.env = pure false := by rfl)
    (hf : X.fn x = true ∨ X.env.scope.names.lookup x = some .local := by first | exact .inl rfl | exact .inr rfl) :
    PSat X c (.Assign [.Name x pos'] e pos) (tAsg te (gName i)) := by
  refine ⟨fun pins s σ H D I h => ?_⟩
  refine ks_wpAt_Assign_Name (ks_wpAt_mono (he.run pins s σ H _ I h) (fun v s1 ⟨y, H1, I1, r1, q1⟩ => ?_) fun _ _ z => z) hs
  exact store_ok I1 hN hi hx r1 (fun s' I' => ⟨_, H1, I', q1⟩) hf
end

/-! ### THE RULE: such a def by its body -/
theorem fn_super {P : Program} {w : World} {K : PySem.W.Frag} {mg : Str → Option Value} {base : Heap} {k : Nat} {f cc : Addr} {name qual : Str} {params : Arguments} {first : Stmt} {rest : List Stmt} {scope : Scope} {dV kV doc pm cdv ct oc : Value} {an od : Option Addr}
    {osl : Array (Option Value)} {N ps : List Str} {sp : Sp} {occ : Obj} {v0 : Option Value} (lk : K.lookup f = some ⟨oc, od, .func (PySem.W.fnX name qual params (first :: rest) scope [("__class__", cc)] dV kV doc pm an cdv ct), osl⟩) (hcd : PySem.W.codeIn K cdv qual = true) (S : FnScopeS N ps scope)
    (hcc : K.lookup cc = some occ) (hoc : occ.data = .cell v0)
    (len : ∀ vs H Q E, sp vs H Q E → vs.length = ps.length)
    (hbody : ∀ (A : Around) (outer : List Env) (s : Shared) (H : Hp) (vs : List V) (Q : VK) (E : XK), Room k (A.deeper (envS qual scope s.heap.objs.size f cdv cc)) → sp vs H Q E →
      ∃ t u, PSat (cxS P w K mg base N qual scope f cdv cc A outer s H E) (.func (first :: rest) (envS qual scope s.heap.objs.size f cdv cc)) first t ∧ PSs (cxS P w K mg base N qual scope f cdv cc A outer s H E) rest u ∧
        t { nx := fun σ H' => u { nx := fun _ H' => Q .non H', rt := Q } σ H', rt := Q } (L2.start N vs) H) :
    FnOk P w K mg base (L2.CX P w) (k + 1) f (PySem.W.fnX name qual params (first :: rest) scope [("__class__", cc)] dV kV doc pm an cdv ct) ps sp := by
  refine ⟨len, fun A outer s H args us vs Q E hr e0 hb r hsp => ?_⟩
  have hl := len _ _ _ _ hsp
  have KX : K.In s.heap := e0.mod.kin.keeps fun b o e => (e0.bs b o e).1
  have lim : s.heap.NoLimit := e0.mod.nolimit.keeps fun b o e => (e0.bs b o e).1
  have hkind : ∀ y ∈ ps.zip us, scope.names.lookup y.1 = some .local ∨ (scope.names.lookup y.1 = some .cell ∧ ((cellsFrom (s.heap.objs.size + 1) scope.names []).lookup y.1).isSome = true) := fun ⟨n, v⟩ hy => by
    rcases S.par n (List.of_mem_zip hy).1 with q | q
    · exact .inl q
    · exact .inr ⟨q, PySem.W.cellsFrom_some _ _ _ (.inl q)⟩
  refine codeAny_call_function hr.depth (KX _ _ lk) rfl S.co S.gen rfl (PySem.W.codeRec_of KX hcd) (hb _ _ _ _ ?_)
  refine newEnvS S.kind hkind fun env he s1 x => ?_
  subst he
  refine ⟨lim.keeps x.toInCall.keep, PySem.ks_codeAny_funcAt ?_⟩
  obtain ⟨t, u, ht, hu, hq⟩ := hbody A outer s H vs Q E (hr.deeper _) hsp
  have I : Inv (cxS P w K mg base N qual scope f cdv cc A outer s H E) [] (L2.start N vs) H s1 := inv_startS S hr.hd e0 hl r (e0.mod.kin _ _ hcc) hoc x
  have fin : ∀ {σ' : L2.St} {H' : Hp} {s' : Shared} {v : V} {u : Value}, Inv (cxS P w K mg base N qual scope f cdv cc A outer s H E) [] σ' H' s' → RelV v u → Q v H' → CE outer P w H s Q u s' :=
    fun {σ' H' s' v u} J rv q => ⟨v, H', J.os, J.bare, J.base, J.hok, rv, q⟩
  have ends : ∀ (fl : Flow) (s' : Shared), SP (cxS P w K mg base N qual scope f cdv cc A outer s H E) [] { nx := fun _ H' => Q .non H', rt := Q } fl s' → CE outer P w H s Q (match fl with | .ret v => v | _ => .none) s' := fun fl s' hs => by
    cases fl with
    | ret u =>
      obtain ⟨v, σ', H', J, rv, q⟩ := hs
      exact fin J rv q
    | next =>
      obtain ⟨σ', H', J, q⟩ := hs
      exact fin (v := V.non) (u := Value.none) J rfl q
    | brk =>
      obtain ⟨_, _, _, q⟩ := hs
      exact False.elim q
    | cont =>
      obtain ⟨_, _, _, q⟩ := hs
      exact False.elim q
  refine PySem.ks_wpAt_execs_cons (PySem.ks_wpAt_mono (ht.run [] s1 (L2.start N vs) H _ I hq) (fun fl s' hs => ?_) fun e s' hs => hs)
  cases fl with
  | next =>
    obtain ⟨σ', H', J, q⟩ := hs
    exact PySem.ks_wpAt_mono (wpAt_of_wpAny (hu.run [] s' σ' H' _ J q)) (fun fl s2 hs2 => ends fl s2 hs2) fun _ _ z => z
  | ret v => exact ends (.ret v) s' hs
  | brk => exact ends .brk s' hs
  | cont => exact ends .cont s' hs
end K7

/-! K7B: super().m(e, ..) in a method of an own class. -/
namespace K7
open PySem PySem.Spec PyProof.Rows L2

/-- what the written part says: f the running method, cc its class cell, D the class there, C the instance's class, g what super().m finds -/
structure SupB (P : Program) (K : PySem.W.Frag) (f cda cc D C : Addr) : Prop where
  fn : ∃ oc od fd osl ar, K.lookup f = some ⟨oc, od, .func fd, osl⟩ ∧ (fd.params.posonlyargs ++ fd.params.args).head? = some ar ∧ ar.arg = ("self" : Str)
  code : ∃ ccl cdd vs ccs file tf, K.lookup cda = some ⟨ccl, cdd, .fields vs, ccs⟩ ∧ vs[2]? = some (.str file tf) ∧ ((P.main.file : Str) == file) = true
  cell : ∃ cl cld csl, K.lookup cc = some ⟨cl, cld, .cell (some (.ref D)), csl⟩
  cls : ∃ cdD, PySem.W.clsIn K D = some cdD
  sub : PySem.W.mroIn K C (.ref D) = some true
  cst : PySem.W.nsIn K cStatics "thirdparty.any" = some none
structure SupK (P : Program) (K : PySem.W.Frag) (f cda cc D C : Addr) (m : Str) (g : Addr) : Prop extends SupB P K f cda cc D C where
  at_ : PySem.W.ks_superIn K C D m = some (some (.ref g))
  ty : PySem.W.typeIn K (.ref g) = some (.type "function")
  fi : PySem.W.fnIn K g = true
/-- what the text says of the def -/
structure SupX (X : Cx) (f cda cc : Addr) : Prop where
  func : X.env.func = some f
  code : X.env.code = .ref cda
  ks : X.env.kindOf "super" = some .globalImplicit
  kc : X.env.kindOf "__class__" = some .free
  ce : X.env.cells.lookup ("__class__" : Str) = some cc
  ka : X.env.kindOf "self" = some .local
  n0 : X.N[0]? = some ("self" : Str)
  top : (X.prog.main.scope.names.lookup ("super" : Str)).isSome = false
  mg : X.mg "super" = none

theorem boot_super : bootBuiltins "super" = some (.type "super") := by kernel_rfl

section
variable {X : Cx} {pins : List (Addr × Obj)} {σ : L2.St} {H : Hp} {s : Shared} {f cda cc D C g x dx : Addr} {m : Str} {fs : List (Str × V)} {E : Value → Shared → Prop}
/-- the node super() of super().m -/
theorem super_node {body : List Stmt} {p0 p1 : Pos} {whole : Sem Value} {Q : Value → Shared → Prop} (T : SupB X.prog X.K f cda cc D C) (S : SupX X f cda cc) (I : Inv X pins σ H s) (hσ : σ[0]? = some (some (.ref x))) {ox : Obj} (hx : s.heap.get? x = some ox) (hxc : ox.cls = .ref C) (hnc : ∀ c, ox.data ≠ .cls c)
    (hat : (m == ("__class__" : Str)) = false)
    (h : ∀ (h' : Heap), h'.get? s.heap.objs.size = some { cls := .type "super", dict := none, data := .fields #[.ref D, .ref x, .ref C], slots := #[] } → (∀ b o, s.heap.get? b = some o → h'.get? b = some o) → Q (.ref s.heap.objs.size) { s with heap := h' }) :
    _root_.PySem.wpAt (model X.prog X.w) X.A (.func body X.env) (attributeBase (.Call (.Name "super" p0) [] [] p1) m X.env whole) Q E s := by
  obtain ⟨oc, od, fd, osl, ar, hf, hp, har⟩ := T.fn
  obtain ⟨ccl, cdd, vs, ccs, file, tf, hcode, hvs, hfile⟩ := T.code
  obtain ⟨cl, cld, csl, hcell⟩ := T.cell
  obtain ⟨cdD, hD⟩ := T.cls
  have KX := I.kIn
  obtain ⟨oD, hD1, hD2⟩ : ∃ oD, s.heap.get? D = some oD ∧ oD.data = .cls cdD := by
    unfold PySem.W.clsIn at hD
    split at hD
    · rename_i c d cd' sl ho
      cases hD
      exact ⟨_, KX _ _ ho, rfl⟩
    · cases hD
  obtain ⟨mb, hb1, hb2⟩ := I.mod.blt
  have hkf : X.env.scope.kind = .function := I.ok.kind
  refine PySem.ks_wpAt_super_base (env := X.env) S.ks S.kc hat S.func (KX _ _ hf) rfl hp S.code (KX _ _ hcode) rfl hvs hfile S.top ?_
  refine PySem.W.ks_loadName_global hkf S.ks (Calls.loadGlobal_builtin (by rw [I.ok.glob]; exact I.mod.glob.keeps I.bk) S.mg (by rw [I.ok.blt]; exact hb1.keeps I.bk) ((hb2 _ (by decide +kernel)).trans boot_super) ⟨rfl, ?_⟩)
  refine wpAny_loadName_free hkf S.kc S.ce ⟨_, KX _ _ hcell, rfl⟩ ?_
  rw [har]
  obtain ⟨ml, hn, hl⟩ := I.loc
  obtain ⟨u, ru, l⟩ := hl 0 "self" (.ref x) S.n0 hσ (.inl S.ka)
  obtain rfl : u = Value.ref x := ru
  have lc : ml ("self" : Str) = some (.ref x) := by
    rcases l with ⟨_, z⟩ | ⟨k, _⟩
    · exact z
    · rw [S.ka] at k
      rcases k with k | k <;> cases k
  refine wpAny_loadName_local hkf S.ka hn lc ?_
  refine PySem.ks_wpAny_isType_cls hD1 hD2 ⟨rfl, ?_⟩
  exact PySem.ks_wpAny_call_super hD1 hD2 hx hxc hnc (PySem.W.looks_mroIn KX T.sub) fun h' e k => h h' e k
/-- .. and its method, bound -/
theorem super_meth {so : Addr} {pl : Sem Bool} {Q : Value × List Value → Shared → Prop} (T : SupK X.prog X.K f cda cc D C m g) (I : Inv X pins σ H s) (hx : H x = some (.ins C dx fs)) (hat : (m == ("__class__" : Str)) = false)
    (hso : s.heap.get? so = some { cls := .type "super", dict := none, data := .fields #[.ref D, .ref x, .ref C], slots := #[] })
    (h : ∀ q s', s'.heap.get? q = some (PySem.W.methodObj (.ref g) (.ref x)) → s.heap.objs.size ≤ q → Inv X ((q, PySem.W.methodObj (.ref g) (.ref x)) :: pins) σ H s' → Q (.ref q, []) s') : wpAny (model X.prog X.w) X.A (getMethod (.ref so) m pl) Q E s := by
  have KX := I.kIn
  obtain ⟨mA, O, _, _, _, _⟩ := ins_get I.hok hx
  obtain ⟨odx, J, _⟩ := O.look
  have hm := T.at_
  obtain ⟨hh, gg, d, t, os⟩ := s
  cases hc : PySem.W.clsIn X.K C with
  | none => unfold PySem.W.ks_superIn at hm; rw [hc] at hm; cases hm
  | some cd =>
    unfold PySem.W.ks_superIn at hm
    rw [hc] at hm
    obtain ⟨of, hof, hofc⟩ : ∃ of, hh.get? g = some of ∧ of.cls = .type "function" := by
      have ht' : (X.K.lookup g).map (·.cls) = some (.type "function") := T.ty
      cases z : X.K.lookup g with
      | none => rw [z] at ht'; cases ht'
      | some of => rw [z] at ht'; exact ⟨of, KX _ _ z, Option.some.inj ht'⟩
    refine PySem.ks_wpAny_getMethod_super hso (PySem.W.looks_opaque KX T.cst) (l₀ := cd.mro) ?_ rfl KX hm hof hofc (PySem.W.ks_ne KX J hc) hat ?_
    · exact fun A Q E s k q => wpAny_bind ((PySem.W.looks_clsIn KX hc) A _ E s k (wpAny_pure q))
    · have kp : ∀ b o, hh.get? b = some o → (hh.push (PySem.W.methodObj (.ref g) (.ref x))).get? b = some o := fun b o e => Heap.get?_push_of_some _ e
      have I1 : Inv X pins σ H ⟨hh.push (PySem.W.methodObj (.ref g) (.ref x)), gg, d, t + 1, os⟩ := I.kept (t' := t + 1) kp
      have hq : (hh.push (PySem.W.methodObj (.ref g) (.ref x))).get? hh.objs.size = some (PySem.W.methodObj (.ref g) (.ref x)) := Heap.get?_push_size _ rfl
      refine h hh.objs.size _ hq (Nat.le_refl _) (I1.pins_of fun p hp => ?_)
      have hnew : hh.objs.size ≤ hh.objs.size := Nat.le_refl _
      rcases List.mem_cons.mp hp with z | z
      · rw [z]
        refine ⟨hq, I.hok.fresh (Nat.le_refl _), Nat.ne_of_gt I.lt, ?_, fun v e => by cases e⟩
        exact I.nofs (Nat.le_refl _)
      · exact I1.pin p (List.mem_append_right _ z)
end

/-- super().m(e, ..) -/
def tSup (C : Addr) (sp : Sp) (E : XK) (t : TA) : TE := fun σ H Q => ∃ x dx fs, σ[0]? = some (some (.ref x)) ∧ H x = some (.ins C dx fs) ∧ t σ H fun vs H1 => sp (.ref x :: vs) H1 Q E
theorem run_fnE {X : Cx} {k : Nat} {f : Addr} {fd : FuncData} {ps : List Str} {sp : Sp} {E : XK} {pins : List (Addr × Obj)} {σ : L2.St} {H : Hp} {s : Shared} {Q : VK} {us : List Value} {vs : List V} (F : FnOk X.prog X.w X.K X.mg X.base (L2.CX X.prog X.w) k f fd ps sp) (hr : Room k X.A) (hb : Binds X.K fd ps []) (hx : Passes (L2.CX X.prog X.w) X E)
    (I : Inv X pins σ H s) (r : Vals vs us) (h : sp vs H Q E) : codeAny (model X.prog X.w) X.A (.call (.ref f) ⟨us, []⟩) (fun r s' => match r with | .ok (.ret u) => EP X pins σ Q u s' | .error e => X.xe e s' | _ => False) s := by
  have hl : us.length = ps.length := by rw [← r.length]; exact F.len _ _ _ _ h
  have hbt : BindsTo s fd ⟨us, []⟩ (ps.zip us) := by
    have z := hb s us I.kIn (by rw [List.append_nil]; exact hl)
    rw [List.append_nil] at z
    exact z
  refine codeAny_mono (F.run X.A X.stack s H ⟨us, []⟩ us vs Q E hr I.env0 hbt r h) fun r s' hq => ?_
  cases r with
  | error e => exact hx pins σ H s e s' I hq
  | ok fl =>
    cases fl with
    | ret u => exact I.after hq
    | next => exact False.elim hq
    | brk => exact False.elim hq
    | cont => exact False.elim hq
theorem peat_super {X : Cx} {f cda cc D C g : Addr} {m : Str} {body : List Stmt} {p0 p1 apos pos : Pos} {e : Expr} {es : List Expr} {t : TA} {k : Nat} {fd : FuncData} {ps : List Str} {sp : Sp} {E : XK} {pl : Sem Bool}
    (T : SupK X.prog X.K f cda cc D C m g) (S : SupX X f cda cc) (F : FnOk X.prog X.w X.K X.mg X.base (L2.CX X.prog X.w) k g fd ps sp) (hb : Binds X.K fd ps []) (hr : Room k X.A) (hx : Passes (L2.CX X.prog X.w) X E) (ha : PA X (e :: es) t)
    (hat : (m == ("__class__" : Str)) = false := by decide)
    (he : eval (.Call (.Attribute (.Call (.Name "super" p0) [] [] p1) m apos) (e :: es) [] pos) X.env = (do
      let ov ← attributeBase (.Call (.Name "super" p0) [] [] p1) m X.env (eval (.Call (.Name "super" p0) [] [] p1) X.env)
      standAt apos.atName
      let (f, first) ← holding [ov] (getMethod ov m pl)
      callWith pos f first (backTo pos (starEach (e :: es) X.env)) []) := by rfl)
    (hs : starEach (e :: es) X.env = (false, eval e X.env) :: starEach es X.env := by rfl) (hpl : (backTo pos (starEach es X.env)).any (·.1) = false := by rfl) :
    PEat X (.func body X.env) (.Call (.Attribute (.Call (.Name "super" p0) [] [] p1) m apos) (e :: es) [] pos) (tSup C sp E t) := by
  refine ⟨fun pins s σ H Q I h => ?_⟩
  obtain ⟨x, dx, fs, hσ, hH, h⟩ := h
  refine PySem.ks_wpAt_MethodCall ?_ he
  obtain ⟨mA, O, _, _, _, _⟩ := ins_get I.hok hH
  obtain ⟨odx, J, _⟩ := O.look
  refine super_node T.toSupB S I hσ J.at_ J.cls (fun c e => ?_) hat fun h' hso kp => ?_
  · have := J.no
    unfold PySem.W.notCls at this
    rw [e] at this
    exact Bool.noConfusion this
  have I1 : Inv X pins σ H { s with heap := h' } := I.kept (t' := s.toks) kp
  refine super_meth T I1 hH hat hso fun q s' hq hge I2 => ?_
  have key : wpAny (model X.prog X.w) X.A (spliced (backTo pos (starEach (e :: es) X.env))) (fun vs s₁ => PySem.W.MethP X.K q g (.ref x) s₁.heap ∧ wpAny (model X.prog X.w) X.A (call (.ref q) ([] ++ vs)) (EP X pins σ Q) X.xe s₁) X.xe s' := by
    refine thn (ha.run pos _ s' σ H _ I2 h) fun us s3 ⟨vs, H3, I3, r3, q3⟩ => ?_
    have hp3 := I3.pin (q, PySem.W.methodObj (.ref g) (.ref x)) (List.mem_append_right _ List.mem_cons_self)
    refine ⟨⟨hp3.1, I3.kIn⟩, ?_⟩
    have I4 : Inv X pins σ H3 s3 := I3.pins_of fun p hp => I3.pin p (List.mem_append_right _ (List.mem_cons_of_mem _ hp))
    refine wpAny_call (PySem.W.method_call hp3.1 (codeAny_mono (run_fnE F hr hb hx I4 (.cons (show RelV (V.ref x) (Value.ref x) from rfl) r3) q3) fun r s' hq => ?_))
    cases r with
    | error e => exact hq
    | ok fl =>
      cases fl with
      | ret u => exact hq
      | next => exact hq.elim
      | brk => exact hq.elim
      | cont => exact hq.elim
  rw [hs] at key
  show wpAny _ _ (callWith pos (.ref q) [] (backTo pos (starEach (e :: es) X.env)) []) _ _ _
  rw [hs]
  exact PySem.W.callWith_of (P := PySem.W.MethP X.K q g (.ref x)) (by show ((false || (backTo pos (starEach es X.env)).any (·.1)) || false) = false; rw [hpl]; rfl) (PySem.W.keeps_M T.fi) (Calls.evalArgs_plain key)
end K7

/-! K7C: super().__init__(text) in the __init__ of an own exception over ValueError. -/
namespace K7
open PySem PySem.Spec PyProof.Rows L2

structure SupE (P : Program) (K : PySem.W.Frag) (f cda cc D C : Addr) : Prop extends SupB P K f cda cc D C where
  at_ : PySem.W.ks_superIn K C D "__init__" = some (some (.builtin "ValueError.__init__"))
  sv : PySem.W.subIn K (.ref C) (.type "ValueError") = some true

section
variable {X : Cx} {pins : List (Addr × Obj)} {σ : L2.St} {H : Hp} {s : Shared} {f cda cc D C x : Addr} {E : Value → Shared → Prop}
theorem super_methE {so : Addr} {pl : Sem Bool} {Q : Value × List Value → Shared → Prop} (T : SupE X.prog X.K f cda cc D C) (TC : OexC X.K C) (I : Inv X pins σ H s) (hx : H x = some (exo x C none))
    (hso : s.heap.get? so = some { cls := .type "super", dict := none, data := .fields #[.ref D, .ref x, .ref C], slots := #[] })
    (h : ∀ q s', s'.heap.get? q = some (PySem.W.kxs_mw "ValueError.__init__" x) → Inv X ((q, PySem.W.kxs_mw "ValueError.__init__" x) :: pins) σ H s' → Q (.ref q, []) s') : wpAny (model X.prog X.w) X.A (getMethod (.ref so) "__init__" pl) Q E s := by
  have KX := I.kIn
  obtain ⟨t1, hobj⟩ := exo_at I.hok hx
  have hm := T.at_
  have J : PySem.W.InstAt s.heap x { cls := .ref C, dict := none, data := .fields #[.ref t1, .none, .none, .none, .bool false, .none] } C none := ⟨hobj, rfl, rfl, trivial⟩
  have hI : PySem.W.Looks (model X.prog X.w) s.heap (isInstance (.ref x) (.type "ValueError")) true := J.type.andThen (PySem.W.looks_subIn KX T.sv)
  obtain ⟨hh, gg, d, t, os⟩ := s
  cases hc : PySem.W.clsIn X.K C with
  | none => unfold PySem.W.ks_superIn at hm; rw [hc] at hm; cases hm
  | some cd =>
    unfold PySem.W.ks_superIn at hm
    rw [hc] at hm
    refine PySem.W.kxs_getMethod PySem.W.kxs_ValueError hso (PySem.W.looks_opaque KX T.cst) (l₀ := cd.mro) ?_ rfl KX hm hI (PySem.W.ks_ne KX J hc) (by decide) ?_
    · exact fun A Q E s k q => wpAny_bind ((PySem.W.looks_clsIn KX hc) A _ E s k (wpAny_pure q))
    · have kp : ∀ b o, hh.get? b = some o → (hh.push (PySem.W.kxs_mw "ValueError.__init__" x)).get? b = some o := fun b o e => Heap.get?_push_of_some _ e
      have I1 : Inv X pins σ H ⟨hh.push (PySem.W.kxs_mw "ValueError.__init__" x), gg, d, t + 1, os⟩ := I.kept (t' := t + 1) kp
      have hq : (hh.push (PySem.W.kxs_mw "ValueError.__init__" x)).get? hh.objs.size = some (PySem.W.kxs_mw "ValueError.__init__" x) := Heap.get?_push_size _ rfl
      refine h hh.objs.size _ hq (I1.pins_of fun p hp => ?_)
      rcases List.mem_cons.mp hp with z | z
      · rw [z]
        refine ⟨hq, I.hok.fresh (Nat.le_refl _), Nat.ne_of_gt I.lt, ?_, fun v e => by cases e⟩
        exact I.nofs (Nat.le_refl _)
      · exact I1.pin p (List.mem_append_right _ z)
/-- the wrapper called -/
theorem call_mwE {q : Addr} {us : List Value} {Q : Value → Shared → Prop} (TC : OexC X.K C) (I : Inv X pins σ H s) (hx : H x = some (exo x C none)) (hq : s.heap.get? q = some (PySem.W.kxs_mw "ValueError.__init__" x)) (hl : us.length ≤ sizeLine)
    (h : ∀ s', Inv X pins σ H s' → Q .none s') : wpAny (model X.prog X.w) X.A (call (.ref q) us) Q E s := by
  obtain ⟨nm, qn, N, bs, bm, sn, sub, ab, col, dd, k0, k1, k2, k3, k5, hC, hbm⟩ := TC.cls
  obtain ⟨t1, ho⟩ := exo_at I.hok hx
  have KX := I.kIn
  obtain ⟨hp, g, d, t, os⟩ := s
  refine wpAny_call (codeAny_of_tree ?_)
  show wpAny _ X.A.in1 (callAny (.ref q) ⟨us, []⟩) _ _ _
  simp only [callAny]
  refine wpAny_bind (wpAny_load hq ?_)
  simp only [PySem.W.kxs_mw, show (Value.type "method-wrapper" == Value.type "method" || Value.type "method-wrapper" == Value.type "builtin_function_or_method" || Value.type "method-wrapper" == Value.type "method-wrapper") = true by decide, if_true]
  refine PySem.W.KFB.if_so (by decide) ?_
  refine wpAny_bind (PySem.W.check_bound_init F.excBase_ValueError.toExcCallFacts (KX _ _ hC) ho rfl ?_)
  refine wpAny_bind (wpAny_pure (wpAny_pure ?_))
  refine ⟨plainId_quiet F.excBase_ValueError.init.plain _, codeAny_builtin F.excBase_ValueError.initEntry ?_⟩
  refine PySem.W.exc_init_tree (cls := .ref C) (t0 := t1) (dv := none) (c2 := .none) (c3 := .none) (b4 := .bool false) ho hl fun h' k e' _ => ?_
  have J := I.write (t' := t) (x := x) (e := x) (o := exo x C none) (by rw [hx]; exact True.intro) (.inl rfl) k ⟨_, e'⟩ (exo_ok e')
  have eu : upd H x (exo x C none) = H := by
    funext b
    by_cases hb : b = x
    · rw [hb, upd_same, hx]
    · rw [upd_ne hb]
  rw [eu] at J
  exact h _ J
end
/-- super().__init__(e, ..) of an exception in the making -/
def tSupE (C : Addr) (t : TA) : TE := fun σ H Q => ∃ x, σ[0]? = some (some (.ref x)) ∧ H x = some (exo x C none) ∧ t σ H fun vs H1 => vs.length ≤ 1000 ∧ H1 x = some (exo x C none) ∧ Q .non H1
theorem peat_superE {X : Cx} {f cda cc D C : Addr} {body : List Stmt} {p0 p1 apos pos : Pos} {e : Expr} {es : List Expr} {t : TA} {pl : Sem Bool}
    (T : SupE X.prog X.K f cda cc D C) (TC : OexC X.K C) (S : SupX X f cda cc) (ha : PA X (e :: es) t)
    (he : eval (.Call (.Attribute (.Call (.Name "super" p0) [] [] p1) "__init__" apos) (e :: es) [] pos) X.env = (do
      let ov ← attributeBase (.Call (.Name "super" p0) [] [] p1) "__init__" X.env (eval (.Call (.Name "super" p0) [] [] p1) X.env)
      standAt apos.atName
      let (f, first) ← holding [ov] (getMethod ov "__init__" pl)
      callWith pos f first (backTo pos (starEach (e :: es) X.env)) []) := by rfl)
    (hs : starEach (e :: es) X.env = (false, eval e X.env) :: starEach es X.env := by rfl) (hpl : (backTo pos (starEach es X.env)).any (·.1) = false := by rfl) :
    PEat X (.func body X.env) (.Call (.Attribute (.Call (.Name "super" p0) [] [] p1) "__init__" apos) (e :: es) [] pos) (tSupE C t) := by
  refine ⟨fun pins s σ H Q I h => ?_⟩
  obtain ⟨x, hσ, hH, h⟩ := h
  refine PySem.ks_wpAt_MethodCall ?_ he
  obtain ⟨t1, hobj⟩ := exo_at I.hok hH
  refine super_node T.toSupB S I hσ hobj rfl (fun c e => by cases e) (by decide) fun h' hso kp => ?_
  have I1 : Inv X pins σ H { s with heap := h' } := I.kept (t' := s.toks) kp
  refine super_methE T TC I1 hH hso fun q s' hq I2 => ?_
  have key : wpAny (model X.prog X.w) X.A (spliced (backTo pos (starEach (e :: es) X.env))) (fun vs s₁ => PySem.W.KxsAt "ValueError.__init__" q x s₁.heap ∧ wpAny (model X.prog X.w) X.A (call (.ref q) ([] ++ vs)) (EP X pins σ Q) X.xe s₁) X.xe s' := by
    refine thn (ha.run pos _ s' σ H _ I2 h) fun us s3 ⟨vs, H3, I3, r3, hlen, ea, q3⟩ => ?_
    have hp3 := I3.pin (q, PySem.W.kxs_mw "ValueError.__init__" x) (List.mem_append_right _ List.mem_cons_self)
    refine ⟨hp3.1, ?_⟩
    have I4 : Inv X pins σ H3 s3 := I3.pins_of fun p hp => I3.pin p (List.mem_append_right _ (List.mem_cons_of_mem _ hp))
    exact call_mwE TC I4 ea hp3.1 (by rw [List.nil_append, ← r3.length, sizeLine_eq]; omega) fun s4 I5 => ⟨.non, H3, I5, rfl, q3⟩
  rw [hs] at key
  show wpAny _ _ (callWith pos (.ref q) [] (backTo pos (starEach (e :: es) X.env)) []) _ _ _
  rw [hs]
  exact PySem.W.kxs_callWith (i := "ValueError.__init__") (x := x) (by show (false || (backTo pos (starEach es X.env)).any (·.1)) = false; rw [hpl]; rfl) (Calls.evalArgs_plain key)
end K7

/-! K7D: an own class's operators, comparisons, subscripts, in, len. -/
namespace K7
open PySem PySem.Spec PyProof.Rows L2

theorem relCmp {z : V} {w : Value} {s' : Shared} {Q : Value → Shared → Prop} (r : RelV z w) (q : Q w s') : PySem.W.CmpBack Q w s' := by
  cases z with
  | non => cases r; exact q
  | bl b => cases r; exact q
  | int i => obtain ⟨t, rfl⟩ := r; exact q
  | str x => obtain ⟨t, rfl⟩ := r; exact q
  | byt x => obtain ⟨t, rfl⟩ := r; exact q
  | flt x => obtain ⟨t, rfl⟩ := r; exact q
  | ref a => cases r; exact q
  | ty n => cases r; exact q

section
variable {X : Cx} {pins : List (Addr × Obj)} {σ : L2.St} {H : Hp} {s : Shared} {C a dx : Addr} {fs : List (Str × V)}
theorem ins_inst (I : Inv X pins σ H s) (e : H a = some (.ins C dx fs)) : ∃ ox od, PySem.W.InstAt s.heap a ox C od ∧ ox.data = .plain := by
  obtain ⟨mA, O, _, _, _, _⟩ := ins_get I.hok e
  obtain ⟨od, J, _⟩ := O.look
  exact ⟨_, od, J, rfl⟩
/-- the callee runs one C frame deeper -/
theorem runR_in1 {CX : CXT} {k : Nat} {f : Addr} {sp : Sp} {E : XK} {Q : VK} {us : List Value} {vs : List V} (F : FnR X.prog X.w X.K X.mg X.base CX k f sp) (hr : Room k X.A.in1) (hx : Passes CX X E) (I : Inv X pins σ H s) (r : Vals vs us) (h : sp vs H Q E) :
    codeAny (model X.prog X.w) X.A.in1 (.call (.ref f) ⟨us, []⟩) (fun r s' => match r with | .ok (.ret v) => EP X pins σ Q v s' | .ok _ => False | .error e => X.xe e s') s := by
  refine codeAny_mono (F X.A.in1 X.stack s H us vs Q E hr I.env0.in1 r h) fun r s' hq => ?_
  cases r with
  | error e => exact hx pins σ H s e s' I hq
  | ok fl =>
    cases fl with
    | ret u => exact I.after hq
    | next => exact False.elim hq
    | brk => exact False.elim hq
    | cont => exact False.elim hq
end

/-- an instance of C, or an int -/
def OrInt (C : Addr) (y : V) (H : Hp) : Prop := (∃ b dy gs, y = .ref b ∧ H b = some (.ins C dy gs)) ∨ ∃ i, y = .int i
def rOwnB (C : Addr) (sp : Sp) (E : XK) : R2 := fun x y H Q => ∃ a dx fs, x = .ref a ∧ H a = some (.ins C dx fs) ∧ OrInt C y H ∧ sp [x, y] H Q E
section
variable {X : Cx} {CX : CXT} {k : Nat} {C g : Addr} {sp : Sp} {E : XK}
/-- x op y (+ - * ..), x an instance -/
structure BinK (K : PySem.W.Frag) (C g : Addr) (op : Operator) : Prop where
  first : PySem.W.selfFirst K C = true
  at_ : PySem.W.findIn K (.ref C) (PySem.dunder op.info.2) = some (some (.ref g))
  fn : PySem.W.isFn K (.ref g) = true
  refl : ∃ rc, PySem.W.findIn K (.ref C) (PySem.dunderR op.info.2) = some rc ∧ (rc = none ∨ ∃ g : Addr, rc = some (.ref g))
  i1 : ∃ fo, PySem.W.findIn K (.type "int") (PySem.dunder op.info.2) = some fo
  i2 : ∃ ro, PySem.W.findIn K (.type "int") (PySem.dunderR op.info.2) = some ro
  sub : PySem.W.subIn K (.type "int") (.ref C) = some false
theorem op_ownB {op : Operator} (B : BinK X.K C g op) (F : FnR X.prog X.w X.K X.mg X.base CX k g sp) (hr : Room k X.A) (hx : Passes CX X E) : OpR X (binaryOp op) (rOwnB C sp E) := by
  intro pins s σ H x y v u Q I rx ry h
  obtain ⟨a, dx, fs, rfl, ha, hy, q⟩ := h
  cases (show v = Value.ref a from rx)
  obtain ⟨ox, od, J, _⟩ := ins_inst I ha
  obtain ⟨m, hF⟩ := I.fr
  have run : ∀ {u : Value}, RelV y u → wpAny (model X.prog X.w) X.A (call (.ref g) [.ref a, u]) (PySem.W.CmpBack (EP X pins σ Q)) X.xe s := fun {u} ry =>
    wpAny_mono (wpAny_call (run_fnR (us := [.ref a, u]) (vs := [.ref a, y]) F hr hx I (.cons rfl (.cons ry .nil)) q)) (fun w s' z => by
      obtain ⟨z', H', I', rz, qz⟩ := z
      exact relCmp rz ⟨z', H', I', rz, qz⟩) fun _ _ x => x
  rcases hy with ⟨b, dy, gs, rfl, hb⟩ | ⟨i, rfl⟩
  · cases (show u = Value.ref b from ry)
    obtain ⟨ox', od', J', _⟩ := ins_inst I hb
    exact PySem.W.binop_K hF I.ok.mod.kin J J'.type B.first B.at_ B.fn (run rfl)
  · obtain ⟨t, rfl⟩ := (show ∃ t, u = Value.int i t from ry)
    obtain ⟨rc, hrc, hp⟩ := B.refl
    obtain ⟨fo, h1⟩ := B.i1
    obtain ⟨ro, h2⟩ := B.i2
    exact PySem.W.ksp_binT (T := "int") hF I.ok.mod.kin J rfl B.first B.at_ B.fn hrc hp h1 h2 B.sub (run ⟨t, rfl⟩)
/-- x < y .., x an instance -/
structure CmpK (K : PySem.W.Frag) (C g : Addr) (op : CmpOp) : Prop where
  at_ : PySem.W.findIn K (.ref C) (cmpInfo op).2.1 = some (some (.ref g))
  fn : PySem.W.isFn K (.ref g) = true
  sub : PySem.W.subIn K (.type "int") (.ref C) = some false
theorem op_ownC {op : CmpOp} (hop : ∀ a b, compareOp op a b = richCompare op a b) (B : CmpK X.K C g op) (F : FnR X.prog X.w X.K X.mg X.base CX k g sp) (hr : Room k X.A) (hx : Passes CX X E) : OpR X (compareOp op) (rOwnB C sp E) := by
  intro pins s σ H x y v u Q I rx ry h
  obtain ⟨a, dx, fs, rfl, ha, hy, q⟩ := h
  cases (show v = Value.ref a from rx)
  obtain ⟨ox, od, J, _⟩ := ins_inst I ha
  obtain ⟨m, hF⟩ := I.fr
  have run : ∀ {u : Value}, RelV y u → wpAny (model X.prog X.w) X.A (call (.ref g) [.ref a, u]) (PySem.W.CmpBack (EP X pins σ Q)) X.xe s := fun {u} ry =>
    wpAny_mono (wpAny_call (run_fnR (us := [.ref a, u]) (vs := [.ref a, y]) F hr hx I (.cons rfl (.cons ry .nil)) q)) (fun w s' z => by
      obtain ⟨z', H', I', rz, qz⟩ := z
      exact relCmp rz ⟨z', H', I', rz, qz⟩) fun _ _ x => x
  rw [hop]
  rcases hy with ⟨b, dy, gs, rfl, hb⟩ | ⟨i, rfl⟩
  · cases (show u = Value.ref b from ry)
    obtain ⟨ox', od', J', _⟩ := ins_inst I hb
    exact PySem.W.cmp_K (op := op) (tb := .ref C) hr.units0 hF I.ok.mod.kin J J'.type (by unfold PySem.W.notFirst; simp) B.at_ B.fn (run rfl)
  · obtain ⟨t, rfl⟩ := (show ∃ t, u = Value.int i t from ry)
    exact PySem.W.cmp_K (op := op) (tb := .type "int") hr.units0 hF I.ok.mod.kin J (PySem.W.Looks.of_pure rfl) (by unfold PySem.W.notFirst; rw [B.sub]; rfl) B.at_ B.fn (run ⟨t, rfl⟩)
/-- y in x, x an instance with __contains__ (which hands back a bool) -/
def rOwnIn (C : Addr) (sp : Sp) (E : XK) : R2 := fun y x H Q => ∃ a dx fs, x = .ref a ∧ H a = some (.ins C dx fs) ∧ sp [x, y] H (fun z H' => ∃ b, z = .bl b ∧ Q (.bl b) H') E
def rOwnNotIn (C : Addr) (sp : Sp) (E : XK) : R2 := fun y x H Q => ∃ a dx fs, x = .ref a ∧ H a = some (.ins C dx fs) ∧ sp [x, y] H (fun z H' => ∃ b, z = .bl b ∧ Q (.bl (!b)) H') E
theorem op_ownIn (hs : PySem.W.findIn X.K (.ref C) "__contains__" = some (some (.ref g))) (hf : PySem.W.isFn X.K (.ref g) = true) (F : FnR X.prog X.w X.K X.mg X.base CX k g sp) (hr : Room k X.A) (hx : Passes CX X E) : OpR X (compareOp .In) (rOwnIn C sp E) := by
  intro pins s σ H y x u v Q I ry rx h
  obtain ⟨a, dx, fs, rfl, ha, q⟩ := h
  cases (show v = Value.ref a from rx)
  obtain ⟨ox, od, J, _⟩ := ins_inst I ha
  obtain ⟨m, hF⟩ := I.fr
  refine PySem.W.in_K hF I.ok.mod.kin J hs hf (wpAny_mono (wpAny_call (run_fnR (us := [.ref a, u]) (vs := [.ref a, y]) F hr hx I (.cons rfl (.cons ry .nil)) q)) (fun w s' z => ?_) fun _ _ x => x)
  obtain ⟨z', H', I', rz, b, rfl, qz⟩ := z
  cases rz
  exact wpAny_truthy_bool ⟨.bl b, H', I', rfl, qz⟩
theorem op_ownNotIn (hs : PySem.W.findIn X.K (.ref C) "__contains__" = some (some (.ref g))) (hf : PySem.W.isFn X.K (.ref g) = true) (F : FnR X.prog X.w X.K X.mg X.base CX k g sp) (hr : Room k X.A) (hx : Passes CX X E) : OpR X (compareOp .NotIn) (rOwnNotIn C sp E) := by
  intro pins s σ H y x u v Q I ry rx h
  obtain ⟨a, dx, fs, rfl, ha, q⟩ := h
  cases (show v = Value.ref a from rx)
  obtain ⟨ox, od, J, _⟩ := ins_inst I ha
  obtain ⟨m, hF⟩ := I.fr
  refine PySem.W.notIn_K hF I.ok.mod.kin J hs hf (wpAny_mono (wpAny_call (run_fnR (us := [.ref a, u]) (vs := [.ref a, y]) F hr hx I (.cons rfl (.cons ry .nil)) q)) (fun w s' z => ?_) fun _ _ x => x)
  obtain ⟨z', H', I', rz, b, rfl, qz⟩ := z
  cases rz
  exact wpAny_truthy_bool ⟨.bl (!b), H', I', rfl, qz⟩
/-- len(x) -/
theorem call_ownLen (hs : PySem.W.findIn X.K (.ref C) "__len__" = some (some (.ref g))) (hf : PySem.W.isFn X.K (.ref g) = true) (F : FnR X.prog X.w X.K X.mg X.base CX k g sp) (hr : Room (k + 1) X.A) (hx : Passes CX X E) :
    CallR X (.builtin "len") (fun xs H Q => ∃ a dx fs, xs = [.ref a] ∧ H a = some (.ins C dx fs) ∧ sp [.ref a] H (fun z H' => ∃ n : Nat, z = .int n ∧ n ≤ sizeLine ∧ Q (.int n) H') E) := by
  intro pins s σ H xs us Q I r h
  obtain ⟨a, dx, fs, rfl, ha, q⟩ := h
  obtain ⟨u, rfl, ru⟩ := r.one
  cases (show u = Value.ref a from ru)
  obtain ⟨ox, od, J, _⟩ := ins_inst I ha
  obtain ⟨m, hF⟩ := I.fr
  refine PySem.W.len_K hF I.ok.mod.kin J hs hf (wpAny_mono (wpAny_call (runR_in1 (us := [.ref a]) (vs := [.ref a]) F hr.in1 hx I (.cons rfl .nil) q)) (fun w s' z => ?_) fun _ _ x => x)
  obtain ⟨z', H', I', rz, n, rfl, hn, qz⟩ := z
  obtain ⟨t, rfl⟩ := (show ∃ t, w = Value.int (n : Nat) t from rz)
  exact ⟨⟨by omega, by rw [sizeLine_eq] at hn; omega⟩, ⟨.int n, H', I'.tok _, ⟨_, rfl⟩, qz⟩⟩
/-- x[i] = v -/
theorem set_own (hq : PySem.W.noSeq X.K C = true) (hs : PySem.W.findIn X.K (.ref C) "__setitem__" = some (some (.ref g))) (hf : PySem.W.isFn X.K (.ref g) = true) (F : FnR X.prog X.w X.K X.mg X.base CX k g sp) (hr : Room k X.A) (hx : Passes CX X E) :
    PSet X (fun o i v H Q => ∃ a dx fs, o = .ref a ∧ H a = some (.ins C dx fs) ∧ sp [o, i, v] H (fun _ H' => Q H') E) := by
  intro pins s σ H o i v ov iv u Q I ro ri rv h
  obtain ⟨a, dx, fs, rfl, ha, q⟩ := h
  cases (show ov = Value.ref a from ro)
  obtain ⟨ox, od, J, _⟩ := ins_inst I ha
  obtain ⟨m, hF⟩ := I.fr
  refine PySem.W.ksp_setItem hF I.ok.mod.kin J hq hs hf (wpAny_mono (wpAny_call (run_fnR (us := [.ref a, iv, u]) (vs := [.ref a, i, v]) F hr hx I (.cons rfl (.cons ri (.cons rv .nil))) q)) (fun w s' z => ?_) fun _ _ x => x)
  obtain ⟨z', H', I', rz, qz⟩ := z
  exact ⟨H', I', qz⟩
/-- x[i] -/
theorem pe_ownIx {e i : Expr} {te ti : TE} {pos : Pos} (hs : PySem.W.findIn X.K (.ref C) "__getitem__" = some (some (.ref g))) (hfi : PySem.W.fnIn X.K g = true) (hf : PySem.W.isFn X.K (.ref g) = true) (F : FnR X.prog X.w X.K X.mg X.base CX k g sp) (hr : Room (k + 1) X.A) (hx : Passes CX X E)
    (he : PE X e te) (hi : PE X i ti) (hsl : ∀ o v, subscripted i true o v = runValue (.builtin "lifetime.subscript" ⟨[o, v], []⟩) := by with_unfolding_all (intro _ _; rfl)) :
    PE X (.Subscript e i pos) (tOp (fun x y H Q => ∃ a dx fs, x = .ref a ∧ H a = some (.ins C dx fs) ∧ sp [x, y] H Q E) te ti) := by
  refine ⟨fun pins s σ H Q I h => ?_⟩
  refine Subscript_ (binT he hi I h fun v u s2 x y H2 I2 rx ry q => ?_)
  obtain ⟨a, dx, fs, rfl, ha, q⟩ := q
  cases (show v = Value.ref a from rx)
  obtain ⟨ox, od, J, _⟩ := ins_inst I2 ha
  obtain ⟨m, hF⟩ := I2.fr
  exact PySem.W.sub_K hF I2.ok.mod.kin J hs hfi hf (wpAny_mono (wpAny_call (runR_in1 (us := [.ref a, u]) (vs := [.ref a, y]) F hr.in1 hx I2 (.cons rfl (.cons ry .nil)) q)) (fun w s' z => z) fun _ _ x => x) (hsl _ _)
end
end K7

/-! K7E: several except clauses, each with or without a name. -/
namespace K7
open PySem PySem.Spec PyProof.Rows L2
/-- the ends behind a suite whose clause has the name at slot i -/
def endsAs (i : Nat) (D : Ends) : Ends := { nx := fun σ' H' => D.nx (σ'.set i none) H', rt := D.rt, bk := fun σ' H' => D.bk (σ'.set i none) H', ct := fun σ' H' => D.ct (σ'.set i none) H' }
structure Cl where
  c : Value
  i : Option Nat
  ts : Addr → Value → Option Addr → TS
def wManyA (K : PySem.W.Frag) (Wout : WX) (D : Ends) : List Cl → WX
  | [] => Wout
  | k :: r => fun cls d σ H => ∃ b, PySem.W.exmOne K cls k.c = some b ∧ (b = true → ∀ a, H a = none → match k.i with
      | some i => k.ts a cls d (endsAs i D) (σ.set i (some (.ref a))) H
      | none => k.ts a cls d D σ H) ∧ (b = false → wManyA K Wout D r cls d σ H)
inductive HdsOkA (X : Cx) : List ExceptHandler → List Cl → Prop
  | nil : HdsOkA X [] []
  | cons {x : Str} {c : Value} {ts : Addr → Value → Option Addr → TS} {b₀ : Stmt} {suite : List Stmt} {np pos' : Pos} {hds : List ExceptHandler} {l : List Cl} (hc : Names X x c)
      (hsu : ∀ (a : Addr) (oe : Obj) (cls : Value) (d : Option Addr) (pn : List (Addr × Obj)), Zc cls d oe → (∃ vs, oe.data = .fields vs) → PSs (X.suite a ((a, oe) :: pn)) (b₀ :: suite) (ts a cls d)) (r : HdsOkA X hds l) :
      HdsOkA X (.ExceptHandler (some (.Name x np)) none (b₀ :: suite) pos' :: hds) (⟨c, none, ts⟩ :: l)
  | as_ {x n : Str} {i : Nat} {c : Value} {ts : Addr → Value → Option Addr → TS} {b₀ : Stmt} {suite : List Stmt} {np pos' : Pos} {hds : List ExceptHandler} {l : List Cl} (hi : X.N[i]? = some n) (hln : X.env.kindOf n = some .local) (hc : Names X x c)
      (hsu : ∀ (a : Addr) (oe : Obj) (cls : Value) (d : Option Addr) (pn : List (Addr × Obj)), Zc cls d oe → (∃ vs, oe.data = .fields vs) → PSs (X.suite a ((a, oe) :: pn)) (b₀ :: suite) (ts a cls d)) (r : HdsOkA X hds l) :
      HdsOkA X (.ExceptHandler (some (.Name x np)) (some n) (b₀ :: suite) pos' :: hds) (⟨c, some i, ts⟩ :: l)
section
variable {X : Cx} {body : List Stmt} {h₀ : ExceptHandler} {hds : List ExceptHandler} {l : List Cl} {pos : Pos} {tb : WX → TS} {Wout : WX}
theorem ps_try_manyA (hs : X.stack = X.env :: X.outer) (hf : X.env.frame = some X.env.locals) (hN : X.N.Nodup) (tk : Takes X Wout)
    (hb : ∀ (W : WX) (pn : List (Addr × Obj)) (xe : Value → Shared → Prop), Takes (X.tr pn xe) W → PassesOwn (model X.prog X.w) X.A X.env xe → PSs (X.tr pn xe) body (tb W))
    (hh : HdsOkA X (h₀ :: hds) l) : PS X (.Try body (h₀ :: hds) [] [] pos) (fun D σ H => tb (wManyA X.K Wout D l) D σ H) := by
  refine ⟨fun pins s σ H D I h => ?_⟩
  have ok := I.ok
  have hfr : X.A.frames = some (X.env :: X.outer) := by rw [ok.frames, hs]
  refine wpAny_Try_except ?_
  refine wpAny_mono ((hb (wManyA X.K Wout D l) (X.pn ++ pins) (fun e s₁ => wpAny (model X.prog X.w) X.A (noteFrame e X.env) (fun _ s₂ => wpAny (model X.prog X.w) X.A (setFlight e none) (fun _ s₃ =>
    wpAny (model X.prog X.w) X.A (handleBy e X.env (h₀ :: hds)) (SP X pins D) X.xe s₃) X.xe s₂) X.xe s₁) (fun u s' xx => ?_) PassesOwn.looking).run [] s σ H D (I.toTry _) h) (fun f s1 hsp => ?_) (fun e s1 he => he)
  · obtain ⟨a, B, sI, pins', σ', H', cls, d, rfl, J', nb, up, sky, na, os, ag, w⟩ := xx
    have J : Inv X pins σ' H' sI := J'.ofTry ok
    have sky' : Sky B (X.env :: X.outer) a (Zc cls d) X.env.locals s'.heap := by rw [← hs]; exact sky
    show wpAny (model X.prog X.w) X.A (noteFrame (.ref a) X.env) _ _ _
    refine Sky.land Zc.steady hfr hf sky' fun h3 fl3 up3 => ?_
    have J3 : Inv X pins σ' H' { s' with heap := h3 } := J.landed nb fl3.1 (up.trans up3) os ag
    obtain ⟨oe3, vs3, he3, hz3, hd3⟩ := fl3.there
    have notFr : ∀ {h : Heap} {o : Obj} {vs : Array Value}, h.FunFrames B (X.env :: X.outer) → h.get? a = some o → o.data = .fields vs → a ∉ frs (X.env :: X.outer) := fun {h o vs} ff e dd hm => by
      obtain ⟨_, o', e', hnf⟩ := ff.mem hm
      rw [e] at e'; cases e'
      exact hnf _ dd
    have nfr := notFr fl3.2.2.1 he3 hd3
    have nL : a ≠ X.env.locals := fun z => nfr (List.mem_filterMap.mpr ⟨X.env, List.mem_cons_self, by rw [hf, z]⟩)
    have nF : a ∉ X.fs := fun hm => by
      obtain ⟨e, he, q⟩ := List.mem_filterMap.mp hm
      exact nfr (List.mem_filterMap.mpr ⟨e, List.mem_cons_of_mem _ he, q⟩)
    have S3 := J3.suite he3 hd3 na nL nF
    have nameTest : ∀ {x : Str} {c : Value} {np : Pos} {Q : Value → Shared → Prop} {E : Value → Shared → Prop}, Names X x c → Q c { s' with heap := h3 } → wpAny (model X.prog X.w) (X.A.mark (some (.ref a))) (eval (.Name x np) X.env) Q E { s' with heap := h3 } := fun {x c np Q E} hc q => by
      obtain ⟨hg, hdbg, hm | ⟨hm, hv, hnn⟩⟩ := hc
      · exact ld_glob (X := X.suite a ((a, oe3) :: (X.pn ++ pins))) S3 hg hm q hdbg
      · exact ld_blt (X := X.suite a ((a, oe3) :: (X.pn ++ pins))) S3 hg hm hv q hnn hdbg
    have LT : PySem.W.Looks (model X.prog X.w) h3 (typeOf (.ref a)) cls := fun A Q E s k q => wpAny_typeOf_ref (k _ _ he3) (by rw [hz3.1]; exact q)
    have go : ∀ {hds' : List ExceptHandler} {l' : List Cl}, HdsOkA X hds' l' → wManyA X.K Wout D l' cls d σ' H' →
        wpAny (model X.prog X.w) X.A (handleBy (.ref a) X.env hds') (SP X pins D) X.xe { s' with heap := h3 } := by
      intro hds' l' hk
      induction hk with
      | nil =>
        intro w
        refine wpAny_handleBy_nil ?_
        obtain ⟨k1, k2, k3, oe, vs, T, oT, ts', he, hz, hd, h1, hr⟩ := id fl3
        unfold PySem.passOn
        refine wpAny_bind (wpAny_field he hd h1 ?_)
        rw [if_neg (show ¬ ((Value.ref T == Value.none) = true) from by simp)]
        have fin : wpAny (model X.prog X.w) X.A (setFlight (.ref a) X.env.frame) (fun _ s4 => wpAny (model X.prog X.w) X.A (throw (.ref a) : Sem Flow) (SP X pins D) X.xe s4) X.xe { s' with heap := h3 } := by
          rw [hf]
          refine HandSPX.setFlight_upZ fl3 fun h4 hh4 up4 => wpAny_throw (tk _ _ ?_)
          exact ⟨a, B, sI, pins, σ', H', cls, d, rfl, J, nb, (up.trans up3).trans up4, .inr (.inr (by rw [hs]; exact hh4)), na, os, ag, w⟩
        first
          | exact wpAny_bind (wpAny_pure (wpAny_bind fin))
          | exact wpAny_bind fin
      | @cons x c ts b₀ suite np pos' hds2 l2 hc hsu r ih =>
        intro w
        obtain ⟨b, hb1, hyes, hno⟩ := w
        refine wpAny_handleBy_cons (codeAny_handlers_test ?_) (by intro q; cases q)
        have LM := PySem.W.exm_one (M := model X.prog X.w) (J3.kIn) LT hb1
        refine nameTest hc (LM.here ?_)
        cases b with
        | true =>
          refine codeAny_handlers_suite ?_
          refine HandSPX.lands_againZ fl3 fun h4 fl4 up4 => ?_
          have J4 : Inv X pins σ' H' { s' with heap := h4 } := J.landed nb fl4.1 ((up.trans up3).trans up4) os ag
          obtain ⟨oe4, vs4, he4, hz4, hd4⟩ := fl4.there
          have S4 := J4.suite he4 hd4 na nL nF
          refine wpAny_mono ((hsu a oe4 cls d (X.pn ++ pins) hz4 ⟨_, hd4⟩).run [] _ _ H' _ S4 (hyes rfl a na)) (fun f s6 hsp => ?_) (fun _ _ z => False.elim z)
          cases f with
          | next =>
            obtain ⟨σ6, H6, S6, q6⟩ := hsp
            exact ⟨_, _, S6.unsuite ok, q6⟩
          | brk =>
            obtain ⟨σ6, H6, S6, q6⟩ := hsp
            exact ⟨_, _, S6.unsuite ok, q6⟩
          | cont =>
            obtain ⟨σ6, H6, S6, q6⟩ := hsp
            exact ⟨_, _, S6.unsuite ok, q6⟩
          | ret u =>
            obtain ⟨v6, σ6, H6, S6, r6, q6⟩ := hsp
            exact ⟨_, _, _, S6.unsuite ok, r6, q6⟩
        | false =>
          show wpAny _ X.A (handleBy (.ref a) X.env hds2) _ _ _
          exact ih (hno rfl)
      | @as_ x n i c ts b₀ suite np pos' hds2 l2 hi hln hc hsu r ih =>
        intro w
        obtain ⟨b, hb1, hyes, hno⟩ := w
        refine wpAny_handleBy_cons (codeAny_handlers_test ?_) (by intro q; cases q)
        have LM := PySem.W.exm_one (M := model X.prog X.w) (J3.kIn) LT hb1
        refine nameTest hc (LM.here ?_)
        cases b with
        | true =>
          refine codeAny_handlers_suite_as ?_
          refine HandSPX.lands_againZ fl3 fun h4 fl4 up4 => ?_
          have J4 : Inv X pins σ' H' { s' with heap := h4 } := J.landed nb fl4.1 ((up.trans up3).trans up4) os ag
          obtain ⟨oe4, vs4, he4, hz4, hd4⟩ := fl4.there
          have S4 := J4.suite he4 hd4 na nL nF
          have hloc : Loc X.env.scope n := .inl hln
          refine store_ok (X := X.suite a ((a, oe4) :: (X.pn ++ pins))) (v := .ref a) S4 hN hi hloc rfl (fun s5 S5 => ?_) (.inr hln)
          refine wpAny_mono ((hsu a oe4 cls d (X.pn ++ pins) hz4 ⟨_, hd4⟩).run [] s5 _ H' _ S5 (hyes rfl a na)) (fun f s6 hsp => ?_) (fun _ _ z => False.elim z)
          have end_ : ∀ {σ6 : L2.St} {H6 : Hp} {Q : Shared → Prop}, Inv (X.suite a ((a, oe4) :: (X.pn ++ pins))) [] σ6 H6 s6 → (∀ s7, Inv X pins (σ6.set i none) H6 s7 → Q s7) →
              wpAny (model X.prog X.w) X.A (do bindName X.env n .none; unbindBehindTheSuite X.env n pos') (fun _ s7 => Q s7) X.xe s6 := fun {σ6 H6 Q} S6 hq => gone_ok (S6.unsuite ok) hN hi hln hq
          cases f with
          | next =>
            obtain ⟨σ6, H6, S6, q6⟩ := hsp
            exact end_ S6 fun s7 J7 => ⟨_, _, J7, q6⟩
          | brk =>
            obtain ⟨σ6, H6, S6, q6⟩ := hsp
            exact end_ S6 fun s7 J7 => ⟨_, _, J7, q6⟩
          | cont =>
            obtain ⟨σ6, H6, S6, q6⟩ := hsp
            exact end_ S6 fun s7 J7 => ⟨_, _, J7, q6⟩
          | ret u =>
            obtain ⟨v6, σ6, H6, S6, r6, q6⟩ := hsp
            exact end_ S6 fun s7 J7 => ⟨_, _, _, J7, r6, q6⟩
        | false =>
          show wpAny _ X.A (handleBy (.ref a) X.env hds2) _ _ _
          exact ih (hno rfl)
    exact go hh w
  · cases f with
    | next =>
      obtain ⟨σ', H', J', q⟩ := hsp
      exact wpAny_execs_nil ⟨σ', H', J'.ofTry ok, q⟩
    | brk =>
      obtain ⟨σ', H', J', q⟩ := hsp
      exact ⟨σ', H', J'.ofTry ok, q⟩
    | cont =>
      obtain ⟨σ', H', J', q⟩ := hsp
      exact ⟨σ', H', J'.ofTry ok, q⟩
    | ret u =>
      obtain ⟨v, σ', H', J', r, q⟩ := hsp
      exact ⟨v, σ', H', J'.ofTry ok, r, q⟩
end
end K7

/-! K7F: a generator that a for loop walks: its segments, each from the heap at which it is woken. -/
namespace K7
open PySem PySem.Spec PyProof.Rows L2 GenW
open Sem (wp)

/-- the first n objects -/
def pre (n : Nat) (h : Heap) : Heap := ⟨(h.objs.toList.take n).toArray, h.life⟩
theorem pre_get {n : Nat} {h : Heap} {b : Addr} (hb : b < n) : (pre n h).get? b = h.get? b := by
  have e : (h.objs.toList.take n).toArray[b]? = h.objs[b]? := by
    rw [List.getElem?_toArray, List.getElem?_take_of_lt hb, Array.getElem?_toList]
  unfold pre Heap.get?
  dsimp only
  rw [e]
theorem pre_none {n : Nat} {h : Heap} {b : Addr} (hb : ¬ b < n) : (pre n h).get? b = none := by
  have e : (h.objs.toList.take n).toArray[b]? = none := by
    rw [List.getElem?_toArray]
    rw [List.getElem?_take, if_neg hb]
  unfold pre Heap.get?
  dsimp only
  rw [e]
theorem pre_some {n : Nat} {h : Heap} {b : Addr} {o : Obj} (e : (pre n h).get? b = some o) : b < n ∧ h.get? b = some o := by
  by_cases hb : b < n
  · rw [pre_get hb] at e; exact ⟨hb, e⟩
  · rw [pre_none hb] at e; cases e
theorem pre_size {n : Nat} {h : Heap} (hn : n ≤ h.objs.size) : (pre n h).objs.size = n := by
  show ((h.objs.toList.take n).toArray).size = n
  rw [List.size_toArray, List.length_take, Array.length_toList]
  exact Nat.min_eq_left hn
theorem funs_pre {n : Nat} {h base : Heap} : ∀ (l : List Env), (∀ b ∈ frs l, b < n) → h.FunFrames base l → (pre n h).FunFrames base l
  | [], _, _ => trivial
  | env :: r, hs, ⟨hk, ⟨L, o, hf, hn, ho, hd⟩, hr⟩ => by
    have hL : L < n := hs L (by unfold frs; rw [List.filterMap_cons, hf]; exact List.mem_cons_self)
    exact ⟨hk, ⟨L, o, hf, hn, by rw [pre_get hL]; exact ho, hd⟩, funs_pre r (fun b hb => hs b (by unfold frs; rw [List.filterMap_cons, hf]; exact List.mem_cons_of_mem _ hb)) hr⟩

/-- a generator's data -/
structure GD where
  P : Program
  w : World
  K : PySem.W.Frag
  mg : Str → Option Value
  base : Heap
  N : List Str
  env : Env
  A : Around
  outer : List Env
  pins : List (Addr × Obj)
  YP : V → Hp → Prop
/-- its code's context when it was woken at s₀, H₀ -/
def GD.cx (d : GD) (s₀ : Shared) (H₀ : Hp) : Cx where
  prog := d.P
  w := d.w
  K := d.K
  mg := d.mg
  base := d.base
  A := d.A
  N := d.N
  s_0 := { s₀ with heap := pre d.env.locals s₀.heap }
  H_0 := H₀
  env := d.env
  outer := d.outer
  stack := d.env :: d.outer
  ex := []
  calm := true
  fn := fun _ => true
  pn := []
  xe := fun _ _ => False
/-- what never changes -/
structure GD.Ok (d : GD) : Prop where
  mod : Mod d.K d.mg d.base
  kind : d.env.scope.kind = .function
  glob : d.env.globals = mainGlobals
  blt : d.env.builtins = builtinsNs
  cells : d.env.cells = []
  nocell : ∀ x, ¬ (d.env.kindOf x = some .cell ∨ d.env.kindOf x = some .free)
  hd : d.A.handled = none
  frames : d.A.frames = some (d.env :: d.outer)
  fr : d.env.frame = some d.env.locals
  bsz : d.base.objs.size ≤ d.env.locals
  low : ∀ b ∈ frs d.outer, b < d.env.locals
  co : d.env.scope.isCoroutine = false
  ia : interactive d.env = false
/-- the frame's names -/
def LocAt (N : List Str) (env : Env) (σ : L2.St) (h : Heap) : Prop := ∃ m, h.Ns env.locals m ∧ ∀ (i : Nat) (x : Str) (v : V), N[i]? = some x → σ[i]? = some (some v) → Vis env.scope x → ∃ u, RelV v u ∧ env.kindOf x = some .local ∧ m x = some u
theorem LocAt.of {N : List Str} {env : Env} {σ : L2.St} {h h' : Heap} (x : LocAt N env σ h) (e : h'.get? env.locals = h.get? env.locals) : LocAt N env σ h' := by
  obtain ⟨m, ⟨o, es, ep, ho, r⟩, hl⟩ := x
  exact ⟨m, ⟨o, es, ep, by rw [e]; exact ho, r⟩, hl⟩
/-- what a state must bear to wake it -/
structure Wake (d : GD) (s : Shared) (H : Hp) : Prop where
  bs : ∀ b o, d.base.get? b = some o → s.heap.get? b = some o ∧ H b = none
  funs : s.heap.FunFrames d.base d.outer
  frf : ∀ b ∈ frs d.outer, H b = none
  hok : HOk d.P d.w H s.heap
  bare : AllBare s.gens
  free : H d.env.locals = none
  pin : ∀ p ∈ d.pins, s.heap.get? p.1 = some p.2 ∧ H p.1 = none ∧ p.1 ≠ d.env.locals ∧ p.1 ∉ frs d.outer ∧ ∀ v, p.2.data ≠ .cell v
theorem inv_wake {d : GD} {s : Shared} {H : Hp} {σ : L2.St} (O : d.Ok) (W : Wake d s H) (hl : LocAt d.N d.env σ s.heap) (len : σ.length = d.N.length) : Inv (d.cx s H) d.pins σ H s := by
  obtain ⟨m, hn, hv⟩ := hl
  have hlt : d.env.locals < s.heap.objs.size := hn.lt
  have nc : ∀ {x : Str} {c : Addr}, d.env.cells.lookup x = some c → False := fun {x c} e => by rw [O.cells] at e; cases e
  have psz : (pre d.env.locals s.heap).objs.size = d.env.locals := pre_size (Nat.le_of_lt hlt)
  refine ⟨⟨O.mod, O.kind, O.glob, O.blt, Nat.le_of_eq psz, fun x y c e _ => (nc e).elim, fun x hx => (O.nocell x hx).elim, fun x c _ e => (nc e).elim, fun _ => O.hd, O.frames, .inr ⟨rfl, O.fr⟩, fun b hb => (by cases hb),
      fun b o e => ⟨?_, (W.bs b o e).2⟩, by rw [show (d.cx s H).s_0.heap.objs.size = _ from psz]; exact O.bsz, fun b o _ hb => (by cases hb), fun b hb => (by cases hb), funs_pre d.outer O.low W.funs, W.frf⟩, rfl, W.bare, Un.kept fun b o e => (pre_some e).2, ⟨m, hn, fun i x v e1 e2 e3 => ?_⟩, fun x c e => (nc e).elim, W.free, fun x c e => (nc e).elim, ?_, W.hok, len⟩
  · show (pre d.env.locals s.heap).get? b = some o
    rw [pre_get (Nat.lt_of_lt_of_le (Heap.lt_size e) O.bsz)]
    exact (W.bs b o e).1
  · obtain ⟨u, r, k, e⟩ := hv i x v e1 e2 e3
    exact ⟨u, r, .inl ⟨k, e⟩⟩
  · intro p hp
    exact W.pin p hp
theorem loc_of {d : GD} {s₀ s : Shared} {H₀ H : Hp} {σ : L2.St} (O : d.Ok) (I : Inv (d.cx s₀ H₀) d.pins σ H s) : LocAt d.N d.env σ s.heap := by
  obtain ⟨m, hn, hl⟩ := I.loc
  refine ⟨m, hn, fun i x v e1 e2 e3 => ?_⟩
  obtain ⟨u, r, l⟩ := hl i x v e1 e2 e3
  rcases l with ⟨k, e⟩ | ⟨k, c, e, _⟩
  · exact ⟨u, r, k, e⟩
  · have e : d.env.cells.lookup x = some c := e
    rw [O.cells] at e; cases e

/-! ### segments -/
/-- while it sleeps: its frame stands, the rest may grow -/
structure Back (d : GD) (s s' : Shared) (H H' : Hp) : Prop where
  os : s'.os = s.os
  wake : Wake d s' H'
  loc : s'.heap.get? d.env.locals = s.heap.get? d.env.locals
  same : Same H H'
def EndH (d : GD) (go : Shared → Hp → Code → Sem PySem.Fin → List Frame → Shared → Prop) (n : Nat) (s₀ : Shared) (H₀ : Hp) (e : End) (s' : Shared) : Prop :=
  match e with
  | .ret r => (r = .ok (.ret .none) ∨ r = .ok .next) ∧ ∃ σ H, Inv (d.cx s₀ H₀) d.pins σ H s' ∧ Same H₀ H
  | .susp v g l k c p fs => (End.susp v g l k c p fs).quiet = true ∧ 0 < n ∧ ∃ x σ H, RelV x v ∧ Inv (d.cx s₀ H₀) d.pins σ H s' ∧ Same H₀ H ∧ d.YP x H ∧ ∀ s'' H'', Back d s' s'' H H'' → go s'' H'' c (k (.send .none)) fs s''
def SegH (d : GD) (A : Around) : Nat → Shared → Hp → Code → Sem PySem.Fin → List Frame → Shared → Prop
  | 0 => fun s₀ H₀ c t fs s => ∀ Γ p, Γ.code = c → Γ.Woken A → ∃ e s', Runs (model d.P d.w) Γ p t fs s e s' ∧ EndH d (fun _ _ _ _ _ _ => False) 0 s₀ H₀ e s'
  | n + 1 => fun s₀ H₀ c t fs s => ∀ Γ p, Γ.code = c → Γ.Woken A → ∃ e s', Runs (model d.P d.w) Γ p t fs s e s' ∧ EndH d (SegH d A n) (n + 1) s₀ H₀ e s'
def SegH.next (d : GD) (A : Around) : Nat → Shared → Hp → Code → Sem PySem.Fin → List Frame → Shared → Prop
  | 0 => fun _ _ _ _ _ _ => False
  | n + 1 => SegH d A n
theorem segh_iff {d : GD} {A : Around} {n : Nat} {s₀ : Shared} {H₀ : Hp} {c : Code} {t : Sem PySem.Fin} {fs : List Frame} {s : Shared} :
    SegH d A n s₀ H₀ c t fs s ↔ ∀ Γ p, Γ.code = c → Γ.Woken A → ∃ e s', Runs (model d.P d.w) Γ p t fs s e s' ∧ EndH d (SegH.next d A n) n s₀ H₀ e s' := by
  cases n <;> rfl
section
variable {d : GD} {A : Around} {n : Nat} {s₀ : Shared} {H₀ : Hp} {c : Code} {fs : List Frame} {s : Shared}
theorem segh_wrap {α : Type} {m : Sem α} {K : α → Sem PySem.Fin} {J : Value → Sem PySem.Fin} {gd lv}
    (h : wpAny (model d.P d.w) (A.over c fs) m (fun a s' => SegH d A n s₀ H₀ c (K a) fs s') (fun x s' => SegH d A n s₀ H₀ c (J x) fs s') s) :
    SegH d A n s₀ H₀ c (m.wrap K J gd lv) fs s := by
  rw [segh_iff]
  rintro Γ p rfl hΓ
  exact runs_wrap_of_wp K J gd lv m (h (Γ.over fs) p (hΓ.over fs)) (fun a p' s' h' => segh_iff.mp h' Γ p' rfl hΓ)
    (fun x p' s' h' => segh_iff.mp h' Γ p' rfl hΓ)
theorem segh_at {p' : Pos} {k : Unit → Sem PySem.Fin} (h : SegH d A n s₀ H₀ c (k ()) fs s) : SegH d A n s₀ H₀ c (.at p' k) fs s :=
  segh_wrap (m := standAt p') (K := k) (J := .raise) (gd := id) (lv := id) (wpAny_standAt h)
theorem segh_point {l : List Value} {k : Unit → Sem PySem.Fin} (h : SegH d A n s₀ H₀ c (k ()) fs s) : SegH d A n s₀ H₀ c (.point l k) fs s :=
  segh_wrap (m := point) (K := k) (J := .raise) (gd := id) (lv := fun _ => l) (wpAny_point h)
theorem segh_call {c' : Code} {h g l} {k : Result → Sem PySem.Fin} (hc : ∀ p, SegH d A n s₀ H₀ c' ((model d.P d.w).den c') (.ret k h g l c p [] :: fs) s) :
    SegH d A n s₀ H₀ c (.call c' h g l k) fs s := by
  rw [segh_iff]
  rintro Γ p rfl hΓ
  obtain ⟨e, s', hr, he⟩ := segh_iff.mp (hc p) (Γ.goto c') p rfl (hΓ.goto c')
  exact ⟨e, s', runs_call_seg hr, he⟩
theorem segh_leaf {k h g l c₁ p₁ kp} (r : Result) (hk : SegH d A n s₀ H₀ c₁ (k r) fs s) : SegH d A n s₀ H₀ c (leafOf r) (.ret k h g l c₁ p₁ kp :: fs) s := by
  rw [segh_iff]
  rintro Γ p rfl hΓ
  obtain ⟨e, s', hr, he⟩ := segh_iff.mp hk (Γ.goto c₁) p₁ rfl (hΓ.goto c₁)
  exact ⟨e, s', Runs.pop r hr, he⟩
theorem segh_again {c' : Code} (hq : c'.quiet = true) (hc : SegH d A n s₀ H₀ c' ((model d.P d.w).den c') fs s) : SegH d A n s₀ H₀ c (.pure (.again c')) fs s := by
  rw [segh_iff]
  rintro Γ p rfl hΓ
  obtain ⟨e, s', hr, he⟩ := segh_iff.mp hc (Γ.goto c') p rfl (hΓ.goto c')
  exact ⟨e, s', Runs.head (c₁ := c') (fun _ _ x => .again hq x) hr, he⟩
theorem segh_end (r : Result) (h1 : r = .ok (.ret .none) ∨ r = .ok .next) {σ : L2.St} {H : Hp} (h : Inv (d.cx s₀ H₀) d.pins σ H s) (h2 : Same H₀ H) : SegH d A n s₀ H₀ c (leafOf r) [] s := by
  rw [segh_iff]
  rintro Γ p rfl _
  exact ⟨.ret r, s, Runs.leaf r, h1, σ, H, h, h2⟩
theorem segh_yield {v : Value} {g l} {k : Resume → Sem PySem.Fin} (hfs : splitAtGen fs = none) (hg : g = false) (hfg : fs.any Frame.guarded = false) {x : V} {σ : L2.St} {H : Hp} (rv : RelV x v)
    (I : Inv (d.cx s₀ H₀) d.pins σ H s) (h1 : Same H₀ H) (h2 : d.YP x H) (h : ∀ s'' H'', Back d s s'' H H'' → SegH d A n s'' H'' c (k (.send .none)) fs s'') : SegH d A (n + 1) s₀ H₀ c (.yield v g l k) fs s := by
  rw [segh_iff]
  rintro Γ p rfl _
  exact ⟨_, s, Runs.yield' fs hfs, And.intro (by simp [End.quiet, hg, hfg]) ⟨Nat.succ_pos _, x, σ, H, rv, I, h1, h2, h⟩⟩
theorem segh_func {body : List Stmt} {env : Env}
    (h : SegH d A n s₀ H₀ (.func body env) ((execs body env).wrap (fun f => .pure (.done (.ret (match f with | .ret v => v | _ => .none))))
      (fun e => (leaving env e).wrap (fun _ => .raise e) .raise id id) id id) fs s) :
    SegH d A n s₀ H₀ (.func body env) ((model d.P d.w).den (.func body env)) fs s := by
  show SegH _ _ _ _ _ _ (.point [] fun _ => ((execs body env).onRaise (leaving env)) >>= _) fs s
  refine segh_point ?_
  rw [Sem.onRaise_eq_wrap, Sem.bind_eq_wrap', Sem.wrap_wrap]
  rw [Sem.wrap_congr (execs body env) _ _ (K' := fun f => .pure (.done (.ret (match f with | .ret v => v | _ => .none))))
    (H' := fun e => (leaving env e).wrap (fun _ => .raise e) .raise id id) (fun f => by cases f <;> rfl)
    (fun e => by rw [Sem.bind_eq_wrap, Sem.wrap_wrap]; rfl)]
  exact h
end

/-! ### the body's rules -/
structure GEndsR where
  nx : Nat → Hp → L2.St → Hp → Prop
abbrev TGr := GEndsR → Nat → Hp → L2.St → Hp → Prop
structure GCr (d : GD) (A : Around) (c : Code) (fs : List Frame) (gd : Bool → Bool) : Prop where
  over : A.over c fs = d.A
  split : splitAtGen fs = none
  guard : fs.any Frame.guarded = false
  gd : gd false = false
/-- what follows: only plain ends -/
structure GKr (d : GD) (A : Around) (c : Code) (fs : List Frame) (K : Flow → Sem PySem.Fin) (D : GEndsR) : Prop where
  ok : ∀ (n : Nat) (s₀ : Shared) (H₀ : Hp) (s : Shared) (σ : L2.St) (H : Hp), Inv (d.cx s₀ H₀) d.pins σ H s → D.nx n H₀ σ H → SegH d A n s₀ H₀ c (K .next) fs s
structure GSr (d : GD) (st : Stmt) (t : TGr) : Prop where
  run : ∀ (A : Around) (n : Nat) (s₀ : Shared) (H₀ : Hp) (c : Code) (fs : List Frame) (K : Flow → Sem PySem.Fin) (J : Value → Sem PySem.Fin) (gd : Bool → Bool) (lv : List Value → List Value) (s : Shared) (σ : L2.St) (H : Hp) (D : GEndsR),
    GCr d A c fs gd → GKr d A c fs K D → Inv (d.cx s₀ H₀) d.pins σ H s → t D n H₀ σ H → SegH d A n s₀ H₀ c ((exec st d.env).wrap K J gd lv) fs s
structure GSsr (d : GD) (st : List Stmt) (t : TGr) : Prop where
  run : ∀ (A : Around) (n : Nat) (s₀ : Shared) (H₀ : Hp) (c : Code) (fs : List Frame) (K : Flow → Sem PySem.Fin) (J : Value → Sem PySem.Fin) (gd : Bool → Bool) (lv : List Value → List Value) (s : Shared) (σ : L2.St) (H : Hp) (D : GEndsR),
    GCr d A c fs gd → GKr d A c fs K D → Inv (d.cx s₀ H₀) d.pins σ H s → t D n H₀ σ H → SegH d A n s₀ H₀ c ((execs st d.env).wrap K J gd lv) fs s
section
variable {d : GD} {st : Stmt} {rest : List Stmt}
def tPlainR (t : TS) : TGr := fun D n H₀ σ H => t { nx := fun σ' H' => D.nx n H₀ σ' H', rt := fun _ _ => False } σ H
theorem gsr_ps {t : TS} (h : ∀ s₀ H₀, PS (d.cx s₀ H₀) st t) : GSr d st (tPlainR t) := by
  refine ⟨fun A n s₀ H₀ c fs K J gd lv s σ H D g k I ht => ?_⟩
  refine segh_wrap ?_
  rw [g.over]
  refine wpAny_mono ((h s₀ H₀).run d.pins s σ H _ I ht) (fun f s' hs => ?_) fun x s' hx => False.elim hx
  cases f with
  | next => obtain ⟨σ', H', I', q⟩ := hs; exact k.ok n s₀ H₀ s' σ' H' I' q
  | brk => obtain ⟨_, _, _, q⟩ := hs; exact False.elim q
  | cont => obtain ⟨_, _, _, q⟩ := hs; exact False.elim q
  | ret u => obtain ⟨_, _, _, _, _, q⟩ := hs; exact False.elim q
def tNilR : TGr := fun D n H₀ σ H => D.nx n H₀ σ H
theorem gssr_nil : GSsr d [] tNilR := by
  refine ⟨fun A n s₀ H₀ c fs K J gd lv s σ H D g k I ht => ?_⟩
  exact k.ok n s₀ H₀ s σ H I ht
def tThenR (t u : TGr) : TGr := fun D n H₀ σ H => t { nx := fun n' H₀' σ' H' => u D n' H₀' σ' H' } n H₀ σ H
theorem gssr_cons {t u : TGr} (a : GSr d st t) (b : GSsr d rest u) : GSsr d (st :: rest) (tThenR t u) := by
  refine ⟨fun A n s₀ H₀ c fs K J gd lv s σ H D g k I ht => ?_⟩
  rw [execs_cons_wrap]
  exact a.run A n s₀ H₀ c fs _ J gd lv s σ H _ g ⟨fun n' s₀' H₀' s' σ' H' I' q => b.run A n' s₀' H₀' c fs K J gd lv s' σ' H' D g k I' q⟩ I ht
def tYieldR (YP : V → Hp → Prop) (te : TE) : TGr := fun D n H₀ σ H => 0 < n ∧ te σ H fun x H1 => Same H₀ H1 ∧ YP x H1 ∧ ∀ H2, Same H1 H2 → D.nx (n - 1) H2 σ H2
theorem gsr_yield {e : Expr} {yp pos : Pos} {te : TE} (O : d.Ok) (he : ∀ s₀ H₀, PE (d.cx s₀ H₀) e te) : GSr d (.Expr (.Yield (some e) yp) pos) (tYieldR d.YP te) := by
  refine ⟨fun A n s₀ H₀ c fs K J gd lv s σ H D g k I ht => ?_⟩
  obtain ⟨hn, ht⟩ := ht
  obtain ⟨n, rfl⟩ : ∃ m, n = m + 1 := ⟨n - 1, by omega⟩
  rw [exec_Expr d.env _ pos O.ia rfl]
  show SegH d A (n + 1) s₀ H₀ c (.at pos fun _ => ((eval e d.env >>= fun v => (standAt yp >>= fun _ => yieldOut d.env v)) >>= fun x =>
    dropValue (.Yield (some e) yp) pos x).wrap K J gd lv) fs s
  have hy : ∀ v, yieldOut d.env v = yieldValue v := fun v => by simp only [yieldOut, O.co, Bool.false_eq_true, if_false]
  simp only [hy]
  refine segh_at ?_
  rw [Sem.bind_eq_wrap', Sem.bind_eq_wrap', Sem.wrap_wrap, Sem.wrap_wrap]
  refine segh_wrap ?_
  rw [g.over]
  refine wpAny_mono ((he s₀ H₀).run d.pins s σ H _ I ht) (fun v s' hv => ?_) fun x s' hx => False.elim hx
  obtain ⟨x, H1, I1, rv, q1, q2, q3⟩ := hv
  refine segh_at (segh_yield g.split g.gd g.guard rv I1 q1 q2 fun s'' H'' B => ?_)
  have I2 : Inv (d.cx s'' H'') d.pins σ H'' s'' := inv_wake O B.wake ((loc_of O I1).of B.loc) I1.len
  exact k.ok n s'' H'' s'' σ H'' I2 (q3 H'' B.same)

theorem gcr_loop {A : Around} {c c' : Code} {fs : List Frame} {gd : Bool → Bool} {k : Result → Sem PySem.Fin} {l kp : List Value} {p : Pos} (g : GCr d A c fs gd) (hw : c'.weight = 0) (hu : c'.cUnits = 0) :
    GCr d A c' (.ret k none (gd false) l c p kp :: fs) id where
  over := (over_loop hw hu).trans g.over
  split := by
    show (splitAtGen fs).map _ = none
    rw [g.split]; rfl
  guard := by
    show (gd false || fs.any Frame.guarded) = false
    rw [g.gd, g.guard]; rfl
  gd := rfl
def tWhileR (c : TT) (tb : TGr) : TGr := fun D n H₀ σ H => ∃ W : Nat → Nat → Hp → L2.St → Hp → Prop, (∃ m, W m n H₀ σ H) ∧ ∀ m n H₀ σ H, W m n H₀ σ H →
  c σ H fun b H1 => if b = true then tb { nx := fun n' H₀' σ' H' => ∃ m', m' < m ∧ W m' n' H₀' σ' H' } n H₀ σ H1 else D.nx n H₀ σ H1
theorem gsr_while {test : Expr} {body : List Stmt} {pos : Pos} {tc : TT} {tb : TGr} (hc : ∀ s₀ H₀, PT (d.cx s₀ H₀) test tc) (hb : GSsr d body tb) : GSr d (.While test body [] pos) (tWhileR tc tb) := by
  refine ⟨fun A n s₀ H₀ c fs K J gd lv s σ H D g k I ht => ?_⟩
  obtain ⟨W, ⟨m0, w0⟩, turn⟩ := ht
  refine segh_at (segh_call fun p => ?_)
  have gl := fun (kk : Result → Sem PySem.Fin) => gcr_loop (k := kk) (c' := .whileLoop test body [] d.env) (l := lv []) (kp := []) (p := p) g rfl rfl
  have loop : ∀ (m n : Nat) (s₀ : Shared) (H₀ : Hp) (s : Shared) (σ : L2.St) (H : Hp), W m n H₀ σ H → Inv (d.cx s₀ H₀) d.pins σ H s →
      SegH d A n s₀ H₀ (.whileLoop test body [] d.env) ((model d.P d.w).den (.whileLoop test body [] d.env))
        (.ret (fun r => ((match r with | .ok f => (.pure f : Sem Flow) | .error e => .raise e).onRaise fun (x : Value) => do
        if (← field x 1) == Value.none then unsupported "frame.own-activation:exception-without-traceback"
        setFlight x d.env.frame).wrap K J gd lv) none (gd false) (lv []) c p [] :: fs) s := by
    intro m
    induction m using Nat.strongRecOn with
    | ind m ih =>
      intro n s₀ H₀ s σ H w I
      show SegH _ _ _ _ _ _ ((whileTurn test body [] d.env).onRaise (fun x => do noteFrame x d.env; theTreesLotGoes x)) _ s
      unfold whileTurn
      rw [Sem.onRaise_eq_wrap, Sem.bind_eq_wrap', Sem.wrap_wrap]
      refine segh_wrap ?_
      rw [(gl _).over]
      refine wpAny_mono ((hc s₀ H₀).run d.pins s σ H _ I (turn m n H₀ σ H w)) (fun b s' hb' => ?_) fun x s' hx => False.elim hx
      obtain ⟨H2, I2, q2⟩ := hb'
      cases b with
      | true =>
        rw [if_pos rfl] at q2
        show SegH _ _ _ _ _ _ (Sem.wrap _ _ _ _ (if true = true then _ else _)) _ s'
        rw [if_pos rfl, Sem.bind_eq_wrap', Sem.wrap_wrap]
        refine hb.run A n s₀ H₀ _ _ _ _ _ _ s' σ H2 _ ⟨(gl _).over, (gl _).split, (gl _).guard, rfl⟩ ⟨fun n' s₀' H₀' s3 σ3 H3 I3 n3 => ?_⟩ I2 q2
        obtain ⟨m', hm, w3⟩ := n3
        exact segh_again rfl (ih m' hm n' s₀' H₀' s3 σ3 H3 w3 I3)
      | false =>
        rw [if_neg Bool.false_ne_true] at q2
        show SegH _ _ _ _ _ _ (Sem.wrap _ _ _ _ (if false = true then _ else _)) _ s'
        rw [if_neg Bool.false_ne_true, Sem.bind_eq_wrap', Sem.wrap_wrap]
        exact segh_leaf (.ok .next) (k.ok n s₀ H₀ s' σ H2 I2 q2)
  exact loop m0 n s₀ H₀ s σ H w0 I
end
end K7

/-! K7G: the for loop over such a generator. -/
namespace K7
open PySem PySem.Spec PyProof.Rows L2 GenW
open Sem (wp)

def GoesH (d : GD) (A : Around) (n : Nat) (gs : GenState) (H₀ : Hp) (s : Shared) : Prop :=
  match gs with
  | .fresh c => SegH d A n s H₀ c ((model d.P d.w).den c) [] s
  | .suspended k _ c _ fs _ => SegH d A n s H₀ c (k (.send .none)) fs s
  | _ => False
theorem resumeH {d : GD} {A : Around} {n : Nat} {E : Value → Shared → Prop} {s : Shared} {g : Nat} {gs : GenState} {H₀ : Hp}
    {l : List Value} {α : Type} {k : GenResult → Sem α} {Q : α → Shared → Prop} (hg : s.gens[g]? = some gs)
    (hgo : GoesH d A n gs H₀ (s.setGen g .running))
    (hR : ∀ r s₁ σ H, (r = .ok (.ret .none) ∨ r = .ok .next) → Inv (d.cx (s.setGen g .running) H₀) d.pins σ H s₁ → Same H₀ H → wpAny (model d.P d.w) A (k (End.ret r).result) Q E (s₁.setGen g .finished))
    (hY : ∀ v s₁ gs' x σ H, gs'.bare = true → RelV x v → Inv (d.cx (s.setGen g .running) H₀) d.pins σ H s₁ → Same H₀ H → d.YP x H → 0 < n → (∀ s'' H'', Back d s₁ s'' H H'' → GoesH d A (n - 1) gs' H'' s'') → wpAny (model d.P d.w) A (k (.yielded v)) Q E (s₁.setGen g gs')) :
    wpAny (model d.P d.w) A (.resume g (.send .none) l k) Q E s := by
  intro Γ p hΓ
  rw [Sem.wp_resume]
  have hB : ∀ c, (Γ.wake c p).Woken A := fun c => hΓ.wake c p
  have fin : ∀ e₁ s₁, EndH d (SegH.next d A n) n (s.setGen g .running) H₀ e₁ s₁ →
      wp (model d.P d.w) Γ (k e₁.result) (fun a _ s' => Q a s') (fun e _ s' => E e s') p (s₁.setGen g e₁.genState) := by
    intro e₁ s₁ he
    cases e₁ with
    | ret x =>
      obtain ⟨h1, σ, H, I, h2⟩ := he
      exact hR x s₁ σ H h1 I h2 Γ p hΓ
    | susp v g₀ l₀ k₀ c₀ p₀ fs₀ =>
      obtain ⟨hq, hn, x, σ, H, rv, I, h1, h2, h3⟩ := he
      refine hY v s₁ _ x σ H (End.bare_of_quiet hq) rv I h1 h2 hn (fun s'' H'' B => ?_) Γ p hΓ
      obtain ⟨m, rfl⟩ : ∃ m, n = m + 1 := ⟨n - 1, by omega⟩
      exact h3 s'' H'' B
  have hqt : ∀ e₁ s₁, EndH d (SegH.next d A n) n (s.setGen g .running) H₀ e₁ s₁ → e₁.quiet = true := by
    intro e₁ s₁ he
    cases e₁ with
    | ret x => rfl
    | susp v g₀ l₀ k₀ c₀ p₀ fs₀ => exact he.1
  cases gs with
  | fresh c =>
    have hs : SegH d A n (s.setGen g .running) H₀ c ((model d.P d.w).den c) [] (s.setGen g .running) := hgo
    obtain ⟨e₁, s₁, hr, he⟩ := segh_iff.mp hs (Γ.wake c p) p rfl (hB c)
    exact ⟨_, _, by unfold Wakes; rw [hg]; exact ⟨e₁, s₁, hr, hqt e₁ s₁ he, rfl, rfl⟩, fin e₁ s₁ he⟩
  | suspended k₀ l₀ c₀ p₀ fs₀ cl =>
    have hs : SegH d A n (s.setGen g .running) H₀ c₀ (k₀ (.send .none)) fs₀ (s.setGen g .running) := hgo
    obtain ⟨e₁, s₁, hr, he⟩ := segh_iff.mp hs (Γ.wake c₀ p) p₀ rfl (hB c₀)
    exact ⟨_, _, by unfold Wakes; rw [hg]; exact ⟨e₁, s₁, hr, hqt e₁ s₁ he, rfl, rfl⟩, fin e₁ s₁ he⟩
  | running => exact hgo.elim
  | finished => exact hgo.elim

theorem next_genH {d : GD} {A : Around} {E : Value → Shared → Prop} {s : Shared} {a : Addr} {g n : Nat} {gs : GenState} {H₀ : Hp} {Q : Option Value → Shared → Prop} (hh : A.handled = none)
    (hl : s.heap.NoLimit) (hroom : A.depth < recursionLimit) (hg : s.heap.IsGen a g) (hgs : s.gens[g]? = some gs)
    (hgo : GoesH d A.in1 n gs H₀ (s.setGen g .running))
    (hY : ∀ v s₁ gs' x σ H, gs'.bare = true → RelV x v → Inv (d.cx (s.setGen g .running) H₀) d.pins σ H s₁ → Same H₀ H → d.YP x H → 0 < n → (∀ s'' H'', Back d s₁ s'' H H'' → GoesH d A.in1 (n - 1) gs' H'' s'') → Q (some v) (s₁.setGen g gs'))
    (hP : ∀ s₁ σ H, Inv (d.cx (s.setGen g .running) H₀) d.pins σ H s₁ → Same H₀ H → ∀ h', (∀ b o, s₁.heap.get? b = some o → h'.get? b = some o) → Q none { s₁.setGen g .finished with heap := h' }) :
    wpAny (model d.P d.w) A (pyNext (.ref a)) Q E s := by
  unfold pyNext
  refine wpAny_bind (wpAny_attempt (wpAny_callSpecial?_slot (name := Str.ofString "__next__") hg.typeIs slot_gen_next
    (wpAny_call_entry slot_gen_next hg.typeIs entry_gen_next ?_ (args_gen_next _))))
  show wpAny _ A.in1 (Builtin.Generator.genWake (.ref a) (.send .none)) _ _ s
  unfold Builtin.Generator.genWake
  refine wpAny_bind (wpAny_holding (wpAny_genNumber hg (wpAny_bind (wpAny_genState hgs ?_))))
  cases gs with
  | running => exact hgo.elim
  | finished => exact hgo.elim
  | _ =>
    refine wpAny_bind (wpAny_roomToWake hl hroom ?_)
    show wpAny _ A.in1 (.resume g (.send .none) [] _) _ _ s
    refine resumeH hgs hgo (fun x s₁ σ H hr I hs => ?_) (fun v s₁ gs' x σ H hb rv I hs hy hn hk => ?_)
    · have hres : End.result (.ret x) = .returned .none := by
        rcases hr with hr | hr <;> rw [hr] <;> rfl
      first | rw [hres] | simp only [hres]
      show wpAny _ A.in1 (newExc (.type "StopIteration") [] >>= _) _ _ _
      refine wpAny_bind ?_
      simp only [newExc, newTuple]
      refine wpAny_bind (wpAny_newObj_type ?_ (by size_fits))
      refine wpAny_bind (m := firstArgMember _ _) (wpAny_of_eq (a := Value.none) (by first | rfl | (simp only [firstArgMember]; rfl)) ?_)
      refine wpAny_newObj_type ?_ (by size_fits)
      simp only [raiseNew]
      refine wpAny_bind (wpAny_bind (wpAny_handled ?_))
      first | rw [show A.in1.handled = none from hh] | rw [hh]
      refine wpAny_throw ?_
      refine wpAny_bind (wpAny_isInstance (T := "StopIteration") (b := true) ⟨_, Heap.get?_push_size _ rfl, rfl⟩ isSubtype_stop ?_)
      exact wpAny_pure (hP s₁ σ H I hs _ fun b o hb => Heap.get?_push_of_some _ (Heap.get?_push_of_some _ hb))
    · exact wpAny_pure ⟨v, rfl, wpAny_pure (hY v s₁ gs' x σ H hb rv I hs hy hn hk)⟩

/-! ### a call of the generator def -/
structure MadeH (P : Program) (w : World) (K : PySem.W.Frag) (mg : Str → Option Value) (base : Heap) (N : List Str) (k : Nat) (outer : List Env) (YP : V → Hp → Prop) (n : Nat) (s : Shared) (H : Hp) (u : Value) (s' : Shared) (a : Addr) (g : Nat) (go : Obj) (env : Env) (c : Code) : Prop where
  u : u = .ref a
  lo : s.heap.objs.size ≤ env.locals
  hi : env.locals < a
  lt : a < s'.heap.objs.size
  obj : s'.heap.get? a = some go
  there : ∃ o, s'.heap.get? env.locals = some o
  gen : ∀ h : Heap, h.get? a = some go → h.IsGen a g
  god : ∃ vs, go.data = .fields vs
  goc : go.cls = .type "generator"
  gst : s'.gens[g]? = some (.fresh c)
  os : s'.os = s.os
  bare : AllBare s'.gens
  kept : ∀ b o, s.heap.get? b = some o → s'.heap.get? b = some o
  wake : ∀ (A : Around) (pins : List (Addr × Obj)), Room k A → A.frames = some outer →
    GD.Ok ⟨P, w, K, mg, base, N, env, A.deeper env, outer, pins, YP⟩ ∧
    ∀ s2 H2, Wake ⟨P, w, K, mg, base, N, env, A.deeper env, outer, pins, YP⟩ s2 H2 → s2.heap.get? env.locals = s'.heap.get? env.locals → Same H H2 →
      SegH ⟨P, w, K, mg, base, N, env, A.deeper env, outer, pins, YP⟩ A n s2 H2 c ((model P w).den c) [] s2
def Made (P : Program) (w : World) (K : PySem.W.Frag) (mg : Str → Option Value) (base : Heap) (N : List Str) (k : Nat) (outer : List Env) (YP : V → Hp → Prop) (n : Nat) (s : Shared) (H : Hp) (u : Value) (s' : Shared) : Prop :=
  ∃ a g go env c, MadeH P w K mg base N k outer YP n s H u s' a g go env c
structure GFnH (P : Program) (w : World) (K : PySem.W.Frag) (mg : Str → Option Value) (base : Heap) (k : Nat) (f : Addr) (fd : FuncData) (N ps : List Str) (pc : List V → Hp → Nat → Prop) (YP : V → Hp → Prop) : Prop where
  len : ∀ vs H n, pc vs H n → vs.length = ps.length
  run : ∀ (A : Around) (outer : List Env) (s : Shared) (H : Hp) (args : Args) (us : List Value) (vs : List V) (n : Nat), Room k A → Env0 P w K mg base A outer s H → BindsTo s fd args (ps.zip us) → Vals vs us → pc vs H n →
    codeAny (model P w) A (.call (.ref f) args) (fun r s' => match r with | .ok (.ret u) => Made P w K mg base N k outer YP n s H u s' | _ => False) s
theorem start_len {N : List Str} {vs : List V} (h : vs.length ≤ N.length) : (L2.start N vs).length = N.length := by
  unfold L2.start
  rw [List.length_append, List.length_map, List.length_replicate]; omega
/-- THE RULE: the generator def, by its body -/
theorem gfnH_of {P : Program} {w : World} {K : PySem.W.Frag} {mg : Str → Option Value} {base : Heap} {k : Nat} {f : Addr} {name qual : Str} {params : Arguments} {body : List Stmt} {scope : Scope} {dV kV doc pm cdv ct oc : Value} {an od : Option Addr}
    {osl : Array (Option Value)} {N ps : List Str} {pc : List V → Hp → Nat → Prop} {YP : V → Hp → Prop} (lk : K.lookup f = some ⟨oc, od, .func (PySem.W.fnOf name qual params body scope dV kV doc pm an cdv ct), osl⟩) (hcd : PySem.W.codeIn K cdv qual = true) (S : GScope N ps scope)
    (hnc : ∀ y ∈ scope.names, y.2 ≠ .cell) (hcs : ∀ n, cellsFrom n scope.names [] = [])
    (hia : ∀ L, interactive (envOfC qual scope L f cdv) = false)
    (len : ∀ vs H n, pc vs H n → vs.length = ps.length) (mono : ∀ vs H H' n, pc vs H n → Same H H' → pc vs H' n)
    (hbody : ∀ (d : GD) (L : Addr) (H : Hp) (vs : List V) (n : Nat), d.Ok → d.P = P → d.w = w → d.K = K → d.mg = mg → d.base = base → d.N = N → d.env = envOfC qual scope L f cdv → d.YP = YP → Room k d.A → pc vs H n →
      ∃ t, GSsr d body t ∧ t { nx := fun _ H₀ _ H' => Same H₀ H' } n H (L2.start N vs) H) :
    GFnH P w K mg base (k + 1) f (PySem.W.fnOf name qual params body scope dV kV doc pm an cdv ct) N ps pc YP := by
  refine ⟨len, fun A outer s H args us vs n hr e0 hb r hsp => ?_⟩
  have hl := len _ _ _ hsp
  have KX : K.In s.heap := e0.mod.kin.keeps fun b o e => (e0.bs b o e).1
  have lim : s.heap.NoLimit := e0.mod.nolimit.keeps fun b o e => (e0.bs b o e).1
  have hkind : ∀ y ∈ ps.zip us, scope.names.lookup y.1 = some .local ∨ (scope.names.lookup y.1 = some .cell ∧ ((cellsFrom (s.heap.objs.size + 1) scope.names []).lookup y.1).isSome = true) := fun ⟨n, v⟩ hy => by
    rcases S.par n (List.of_mem_zip hy).1 with q | q
    · exact .inl q
    · exact .inr ⟨q, PySem.W.cellsFrom_some _ _ _ (.inl q)⟩
  refine codeAny_call_generator hr.depth (KX _ _ lk) rfl S.co S.gen rfl (PySem.W.codeRec_of KX hcd) (hb _ _ _ _ ?_)
  refine wpAny_newFunctionEnv_cells S.kind hkind fun env he s1 x => ?_
  subst he
  have lim1 : s1.heap.NoLimit := lim.keeps x.toInCall.keep
  refine ⟨lim1, ?_⟩
  obtain ⟨h1, tk, es1, hk1⟩ := x.done
  have os1 : s1.os = s.os := by rw [es1]
  have gen1 : s1.gens = s.gens := by rw [es1]
  have lt1 : s.heap.objs.size < s1.heap.objs.size := x.toInCall.ns.lt
  have kp1 : ∀ b o, s.heap.get? b = some o → s1.heap.get? b = some o := x.toInCall.keep
  have hpl : ps.length ≤ N.length := by have := congrArg List.length S.pre; rw [List.length_take] at this; omega
  have main : ∀ (go : Obj) (nm qn : Value) (tk2 : Nat), go.cls = .type "generator" → go.data = .fields #[.int s1.gens.size 0, nm, qn] → go.slots = #[] → (∀ h : Heap, (h.push go).get? h.objs.size = some go) →
      Made P w K mg base N (k + 1) outer YP n s H (.ref s1.heap.objs.size) { s1 with gens := s1.gens.push (.fresh (.func body (envOfC qual scope s.heap.objs.size f cdv))), toks := tk2, heap := s1.heap.push go } := by
    intro go nm qn tk2 hgc hgd0 hgs hgp
    have hgen : ∀ h : Heap, h.get? s1.heap.objs.size = some go → h.IsGen s1.heap.objs.size s1.gens.size := fun h e => ⟨go, nm, qn, e, hgc, hgd0, hgs⟩
    have I1 : Inv (gcxOf P w K mg base N qual scope f cdv A outer s H (fun _ _ _ => False) []) [] (L2.start N vs) H s1 := inv_startG S hr.hd e0 hl r x
    refine ⟨s1.heap.objs.size, s1.gens.size, go, envOfC qual scope s.heap.objs.size f cdv, .func body (envOfC qual scope s.heap.objs.size f cdv),
      ⟨rfl, Nat.le_refl _, lt1, ?_, hgp _, (let ⟨_, ⟨o, _, _, ho, _⟩, _⟩ := I1.loc; ⟨o, Heap.get?_push_of_some _ ho⟩), hgen, ⟨_, hgd0⟩, hgc, Array.getElem?_push_size .., os1, ?_, fun b o e => Heap.get?_push_of_some _ (kp1 b o e), fun A2 pins hr2 hf2 => ?_⟩⟩
    · show _ < (s1.heap.push _).objs.size
      rw [Heap.size_push]; exact Nat.lt_succ_self _
    · exact AllBare.push (by rw [gen1]; exact e0.bare) rfl
    · have kindl : ∀ y : Str, ¬ ((envOfC qual scope s.heap.objs.size f cdv).kindOf y = some .cell ∨ (envOfC qual scope s.heap.objs.size f cdv).kindOf y = some .free) := fun y hy => by
        have hy : scope.names.lookup y = some .cell ∨ scope.names.lookup y = some .free := hy
        rcases hy with hy | hy
        · exact hnc _ (PySem.mem_of_lookup hy) rfl
        · exact S.nofree _ (PySem.mem_of_lookup hy) rfl
      have O : GD.Ok ⟨P, w, K, mg, base, N, envOfC qual scope s.heap.objs.size f cdv, A2.deeper (envOfC qual scope s.heap.objs.size f cdv), outer, pins, YP⟩ :=
        ⟨e0.mod, S.kind, rfl, rfl, hcs _, kindl, hr2.hd, Around.frames_deeper hf2, rfl, e0.bsz, fun b hb => by
          obtain ⟨_, o, ho, _⟩ := e0.funs.mem hb
          exact Heap.lt_size ho, S.co, hia _⟩
      refine ⟨O, fun s2 H2 W hL hS => ?_⟩
      have hloc1 : LocAt N (envOfC qual scope s.heap.objs.size f cdv) (L2.start N vs) s1.heap := by
        obtain ⟨m, hn, hl⟩ := I1.loc
        refine ⟨m, hn, fun i x v e1 e2 e3 => ?_⟩
        obtain ⟨u, r, l⟩ := hl i x v e1 e2 e3
        rcases l with ⟨k, e⟩ | ⟨k, _⟩
        · exact ⟨u, r, k, e⟩
        · exact (kindl _ k).elim
      have hloc2 : LocAt N (envOfC qual scope s.heap.objs.size f cdv) (L2.start N vs) s2.heap := by
        refine hloc1.of (hL.trans ?_)
        obtain ⟨m, ⟨o, es, ep, ho, _⟩, _⟩ := hloc1
        exact (Heap.get?_push_of_some _ ho).trans ho.symm
      obtain ⟨t, ht, hq⟩ := hbody ⟨P, w, K, mg, base, N, envOfC qual scope s.heap.objs.size f cdv, A2.deeper (envOfC qual scope s.heap.objs.size f cdv), outer, pins, YP⟩ s.heap.objs.size H2 vs n O rfl rfl rfl rfl rfl rfl rfl rfl (hr2.deeper _) (mono _ _ _ _ hsp hS)
      refine segh_func ?_
      refine ht.run A2 n s2 H2 _ [] _ _ id id s2 (L2.start N vs) H2 _ ⟨over_func, rfl, rfl, rfl⟩ ⟨fun n' s₀' H₀' s' σ' H' I' q => ?_⟩ (inv_wake O W hloc2 (start_len (by rw [hl]; exact hpl))) hq
      exact segh_end (.ok (.ret .none)) (.inl rfl) I' q
  exact main _ _ _ _ rfl rfl rfl fun h => Heap.get?_push_size _ rfl
end K7

/-! K7H: for a, b in o.m(): c = (b, a), o.m a generator method. -/
namespace K7
open PySem PySem.Spec PyProof.Rows L2 GenW

section
variable {X : Cx} {pins : List (Addr × Obj)} {σ : L2.St} {H : Hp} {s : Shared}
theorem store_okG {M : Model} {A : Around} {E : Value → Shared → Prop} {i : Nat} {x : Str} {v : V} {u : Value} {Q : Unit → Shared → Prop} (I : Inv X pins σ H s) (hN : X.N.Nodup) (hi : X.N[i]? = some x) (hk : X.env.kindOf x = some .local) (r : RelV v u)
    (h : ∀ h', Inv X pins (σ.set i (some v)) H { s with heap := h', toks := s.toks + 1 } → Heap.SameBut X.env.locals s.heap h' → Q () { s with heap := h', toks := s.toks + 1 }) : wpAny M A (storeName X.env x u) Q E s := by
  obtain ⟨m, hn, hl⟩ := id I.loc
  have hcls : (X.env.scope.kind == .class || (X.env.scope.kind == .module && X.env.locals != X.env.globals)) = false := by rw [I.ok.kind]; rfl
  have hiσ : i < σ.length := by rw [I.len]; exact (List.getElem?_eq_some_iff.mp hi).1
  have cne := I.cne
  have tracked : ∀ {a : Addr} {h' : Heap}, (∃ o, s.heap.get? a = some o ∧ H a = none) → Heap.SameBut a s.heap h' → HOk X.prog X.w H h' := fun {a h'} ha hs b ob e => by
    obtain ⟨_, _, hfree⟩ := ha
    refine (I.hok b ob e).stay (fun c w' hc q => (hs.2 c ?_).trans q) (fun _ q => q) fun _ _ q => q
    rintro rfl
    rcases hc with rfl | hc
    · rw [hfree] at e; cases e
    · rw [hfree] at hc; cases hc
  refine wpAny_storeName_local hk hn (fun h' hn' hs => ?_) hcls
  obtain ⟨oL, _, _, hoL, _⟩ := id hn
  refine h _ ⟨I.ok, I.os, I.bare, ⟨fun b o e n hb hx => ?_, fun b o e n hb hx => ?_, I.base.free, fun b o e hx => ?_, I.base.tups, I.base.frzs, I.base.tbls⟩, ⟨_, hn', fun j y v' e1 e2 e3 => ?_⟩, fun y c e => ?_, I.free, I.freeC, fun p hp => ?_, tracked ⟨oL, hoL, I.free⟩ hs, by simpa using I.len⟩ hs
  · exact (hs.2 b (Nat.ne_of_lt (Nat.lt_of_lt_of_le (Heap.lt_size e) I.ok.above))).trans (I.base.keep b o e n hb hx)
  · obtain ⟨sl, e1⟩ := I.base.slot b o e n hb hx
    exact ⟨sl, (hs.2 b (Nat.ne_of_lt (Nat.lt_of_lt_of_le (Heap.lt_size e) I.ok.above))).trans e1⟩
  · obtain ⟨o', e1⟩ := I.base.there b o e hx
    exact ⟨o', (hs.2 b (Nat.ne_of_lt (Nat.lt_of_lt_of_le (Heap.lt_size e) I.ok.above))).trans e1⟩
  · by_cases hj : j = i
    · subst hj
      rw [hi] at e1; cases e1
      rw [List.getElem?_set_self hiσ] at e2
      cases e2
      exact ⟨u, r, .inl ⟨hk, by simp⟩⟩
    · rw [List.getElem?_set_ne (Ne.symm hj)] at e2
      obtain ⟨u', r', q⟩ := hl j y v' e1 e2 e3
      refine ⟨u', r', ?_⟩
      rcases q with ⟨k, e⟩ | ⟨k, c, e, z⟩
      · refine .inl ⟨k, ?_⟩
        have : y ≠ x := fun e => hj (nodup_ix hN e1 (e ▸ hi))
        simp [this, e]
      · exact .inr ⟨k, c, e, z.sameBut hs (cne y c e)⟩
  · obtain ⟨w', z⟩ := I.cell y c e
    exact ⟨w', z.sameBut hs (cne y c e)⟩
  · obtain ⟨e, n, ne, nf, d⟩ := I.pin p hp
    exact ⟨(hs.2 p.1 ne).trans e, n, ne, nf, d⟩
theorem load_okG {M : Model} {A : Around} {E : Value → Shared → Prop} {i : Nat} {x : Str} {v : V} {pos : Pos} {Q : Value → Shared → Prop} (I : Inv X pins σ H s) (hi : X.N[i]? = some x) (hk : X.env.kindOf x = some .local) (hv : σ[i]? = some (some v)) (hd : (x == ("__debug__" : Str)) = false)
    (h : ∀ u, RelV v u → Q u s) : wpAny M A (eval (.Name x pos) X.env) Q E s := by
  obtain ⟨m, hn, hl⟩ := I.loc
  obtain ⟨u, r, l⟩ := hl i x v hi hv (.inl hk)
  rcases l with ⟨_, hm⟩ | ⟨k, _⟩
  · exact wpAny_Name (wpAny_loadName_local I.ok.kind hk hn hm (h u r)) hd
  · rw [hk] at k; rcases k with k | k <;> cases k

/-- what the loop's body makes -/
theorem body_okG {E : Value → Shared → Prop} {ir il jf : Nat} {xr xl xf : Str} {p : Addr} {q l : V} {pr pl pt pf pr2 pl2 pt2 pos : Pos} {k1 k2} (I : Inv X pins σ H s) (hc : X.A.handled = none) (hN : X.N.Nodup)
    (hr : X.N[ir]? = some xr) (hl : X.N[il]? = some xl) (hf : X.N[jf]? = some xf) (kr : X.env.kindOf xr = some .local) (kl : X.env.kindOf xl = some .local) (kf : X.env.kindOf xf = some .local) (hrl : ir ≠ il) (hrf : ir ≠ jf) (hlf : il ≠ jf)
    (dr : (xr == ("__debug__" : Str)) = false) (dl : (xl == ("__debug__" : Str)) = false)
    (hp : H p = some (.tup [q, l])) {Q : Flow → Shared → Prop}
    (hs : swapsWith (.Tuple [.Name xl pl2, .Name xr pr2] k2 pt2) (some (.Name xf pf)) pos.line X.env = pure false)
    (hn : (assignEach [.Name xr pr, .Name xl pl] X.env).length = 2) (hst : (assignEach [.Name xr pr, .Name xl pl] X.env).findIdx? (·.1) = none) (hm : (assignEach [.Name xr pr, .Name xl pl] X.env).map (·.2) = [assign (.Name xr pr) X.env, assign (.Name xl pl) X.env])
    (he : starEach [.Name xl pl2, .Name xr pr2] X.env = [(false, eval (.Name xl pl2) X.env), (false, eval (.Name xr pr2) X.env)])
    (h : ∀ (t : Addr) (s3 : Shared), H t = none → Inv X pins (((σ.set ir (some q)).set il (some l)).set jf (some (.ref t))) (upd H t (.tup [l, q])) s3 → s3.gens = s.gens → s3.os = s.os → (∀ b o, b ≠ X.env.locals → s.heap.get? b = some o → s3.heap.get? b = some o) → Q .next s3) :
    wpAny (model X.prog X.w) X.A (assign (.Tuple [.Name xr pr, .Name xl pl] k1 pt) X.env (.ref p)) (fun _ s2 => wpAny (model X.prog X.w) X.A (execs [.Assign [.Name xf pf] (.Tuple [.Name xl pl2, .Name xr pr2] k2 pt2) pos] X.env) Q E s2) E s := by
  obtain ⟨its, rv, ht, hz⟩ := I.tuple (.inl (.inl hp))
  have hiσ : ∀ {j x}, X.N[j]? = some x → j < σ.length := fun {j x} e => by rw [I.len]; exact (List.getElem?_eq_some_iff.mp e).1
  obtain ⟨u1, u2, rfl, r1, r2⟩ : ∃ u1 u2, its = [u1, u2] ∧ RelV q u1 ∧ RelV l u2 := by
    cases rv with
    | cons a b =>
      cases b with
      | cons c d =>
        cases d
        exact ⟨_, _, rfl, a, c⟩
  refine assign_Tuple_tuple hc ht (by simpa using hn) hst fun h' hx => ?_
  have I1 : Inv X pins σ H { s with heap := h' } := I.kept (t' := s.toks) fun b o e => hx b o (Nat.ne_of_lt (Heap.lt_size e)) e
  rw [hm]
  show wpAny _ _ (assignInOrder [assign (.Name xr pr) X.env, assign (.Name xl pl) X.env] [u1, u2]) _ _ _
  refine assignInOrder_cons (wpAny_assign_Name (store_okG I1 hN hr kr r1 fun h2 I2 sb2 => ?_))
  refine assignInOrder_cons (wpAny_assign_Name (store_okG I2 hN hl kl r2 fun h3 I3 sb3 => assignInOrder_nil ?_))
  refine wpAny_execs_cons (wpAny_Assign_Name ?_ hs)
  have e1 : ((σ.set ir (some q)).set il (some l))[il]? = some (some l) := by rw [List.getElem?_set_self (by simpa using hiσ hl)]
  have e2 : ((σ.set ir (some q)).set il (some l))[ir]? = some (some q) := by rw [List.getElem?_set_ne (Ne.symm hrl), List.getElem?_set_self (hiσ hr)]
  refine wpAny_Tuple_spliced ?_
  rw [he]
  show wpAny _ _ (spliced [(false, eval (.Name xl pl2) X.env), (false, eval (.Name xr pr2) X.env)]) _ _ _
  refine Calls.spliced_cons (load_okG I3 hl kl e1 dl fun v1 rv1 => ?_)
  refine Calls.spliced_cons (load_okG I3 hr kr e2 dr fun v2 rv2 => ?_)
  refine Calls.spliced_nil ⟨by show 2 ≤ sizeLine; decide, ?_⟩
  have hfr : H h3.objs.size = none := I3.hok.fresh (Nat.le_refl _)
  have I4 := I3.laid (a := h3.objs.size) (o := .tup [l, q]) (h' := h3.push { cls := .type "tuple", data := .seq [v1, v2].toArray }) (t' := s.toks + 1 + 1) (fun b u e => Heap.get?_push_of_some _ e) (Nat.le_refl _)
    ⟨by show 2 ≤ sizeLine; decide, [v1, v2], .cons rv1 (.cons rv2 .nil), ⟨_, Heap.get?_push_size _ rfl, rfl, _, rfl⟩⟩
  refine store_okG I4 hN hf kf (show RelV (.ref h3.objs.size) (Value.ref h3.objs.size) from rfl) fun h5 I5 sb5 => ?_
  refine wpAny_execs_nil (h h3.objs.size _ hfr I5 rfl rfl fun b o hb e => ?_)
  refine (sb5.2 b hb).trans (Heap.get?_push_of_some _ ((sb3.2 b hb).trans ((sb2.2 b hb).trans ?_)))
  exact hx b o (Nat.ne_of_lt (Heap.lt_size e)) e

theorem wake_of {env : Env} {A : Around} {N : List Str} {YP : V → Hp → Prop} {ag : Addr} {go : Obj} (I : Inv X pins σ H s) (hfree : H env.locals = none) (hL : ∀ p ∈ X.pn ++ pins, p.1 ≠ env.locals) (hgo : s.heap.get? ag = some go) (hgn : H ag = none)
    (hga : ag ≠ env.locals) (hgf : ag ∉ frs X.stack) (hgc : ∀ v, go.data ≠ .cell v) {g : Nat} {x : GenState} (hx : x.bare = true) : Wake ⟨X.prog, X.w, X.K, X.mg, X.base, N, env, A, X.stack, (X.pn ++ pins) ++ [(ag, go)], YP⟩ (s.setGen g x) H := by
  refine ⟨I.bs, I.stack, I.stkFree, I.hok, allBare_setGen I.bare hx, hfree, fun p hp => ?_⟩
  rcases List.mem_append.mp hp with hp | hp
  · obtain ⟨h1, h2, h3, h4, h5⟩ := I.pin p hp
    refine ⟨h1, h2, hL p hp, fun hm => ?_, h5⟩
    rcases List.mem_cons.mp (I.stkSub p.1 hm) with z | z
    · exact h3 z
    · exact h4 z
  · rw [List.mem_singleton.mp hp]
    exact ⟨hgo, hgn, hga, hgf, hgc⟩
/-- the consumer's state behind a segment -/
theorem woke {d : GD} {H' : Hp} {s₀ s1 : Shared} {σg : L2.St} (I : Inv X pins σ H s) (O : d.Ok) (hst : d.outer = X.stack) (hP : d.P = X.prog) (hw : d.w = X.w) (hpins : ∀ p ∈ X.pn ++ pins, p ∈ d.pins) (hLo : X.s_0.heap.objs.size ≤ d.env.locals) (hlL : X.env.locals < d.env.locals)
    (hcl : ∀ x c, X.env.cells.lookup x = some c → c < d.env.locals) (hh : s₀.heap = s.heap) (ho : s₀.os = s.os) (J : Inv (d.cx s₀ H) d.pins σg H' s1) {g : Nat} {gs : GenState} (hb : gs.bare = true) : Inv X pins σ H' (s1.setGen g gs) := by
  let ch := (List.range s.heap.objs.size).filter fun b => decide (d.env.locals ≤ b) && !((X.pn ++ pins).map (·.1)).contains b
  have hch : ∀ b ∈ ch, d.env.locals ≤ b ∧ ∀ p ∈ X.pn ++ pins, p.1 ≠ b := fun b hb => by
    have := (List.mem_filter.mp hb).2
    simp only [Bool.and_eq_true, decide_eq_true_eq, Bool.not_eq_true'] at this
    refine ⟨this.1, fun p hp z => ?_⟩
    have h2 := this.2
    have : ((X.pn ++ pins).map (·.1)).contains b = true := by
      rw [List.contains_iff_mem]
      exact List.mem_map.mpr ⟨p, hp, z⟩
    rw [h2] at this; cases this
  have nch : ∀ b o, s.heap.get? b = some o → b ∉ ch → b < d.env.locals ∨ ∃ p ∈ X.pn ++ pins, p.1 = b := fun b o e hb => by
    by_cases hlt : b < d.env.locals
    · exact .inl hlt
    · refine .inr ?_
      have hr : b ∈ List.range s.heap.objs.size := List.mem_range.mpr (Heap.lt_size e)
      have : (decide (d.env.locals ≤ b) && !((X.pn ++ pins).map (·.1)).contains b) = false := by
        cases q : (decide (d.env.locals ≤ b) && !((X.pn ++ pins).map (·.1)).contains b) with
        | false => rfl
        | true => exact absurd (List.mem_filter.mpr ⟨hr, q⟩) hb
      rw [decide_eq_true (Nat.not_lt.mp hlt), Bool.true_and] at this
      have : ((X.pn ++ pins).map (·.1)).contains b = true := by simpa using this
      rw [List.contains_iff_mem] at this
      obtain ⟨p, hp, z⟩ := List.mem_map.mp this
      exact ⟨p, hp, z⟩
  have bk := J.base
  have pk : ∀ {b o}, b < d.env.locals → s.heap.get? b = some o → (d.cx s₀ H).s_0.heap.get? b = some o := fun {b o} hb e => by
    show (K7.pre d.env.locals s₀.heap).get? b = some o
    rw [pre_get hb, hh]; exact e
  have fse : (d.cx s₀ H).fs = frs X.stack := by show frs d.outer = _; rw [hst]
  have pin1 : ∀ p ∈ X.pn ++ pins, s1.heap.get? p.1 = some p.2 ∧ H' p.1 = none := fun p hp => by
    obtain ⟨h1, h2, _⟩ := J.pin p (hpins p hp)
    exact ⟨h1, h2⟩
  have fsl : ∀ b, b ∈ frs X.stack → b < d.env.locals := fun b hb => O.low b (by rw [hst]; exact hb)
  have un : Un (frs X.stack) ch H H' s.heap s1.heap := by
    refine ⟨fun b o e n hb hc => ?_, fun b o e n hb hc => ?_, fun b o e n hc => ?_, fun b o e hc => ?_, bk.tups, bk.frzs, bk.tbls⟩
    · rcases nch b o e hc with z | ⟨p, hp, z⟩
      · exact bk.keep b o (pk z e) n (by rw [fse]; exact hb) (fun z => by cases z)
      · have h0 := (I.pin p hp).1
        have h1 := (pin1 p hp).1
        rw [z] at h0 h1
        rw [e] at h0; cases h0
        exact h1
    · exact bk.slot b o (pk (fsl b hb) e) n (by rw [fse]; exact hb) (fun z => by cases z)
    · rcases nch b o e hc with z | ⟨p, hp, z⟩
      · exact bk.free b o (pk z e) n (fun z => by cases z)
      · rw [← z]; exact (pin1 p hp).2
    · rcases nch b o e hc with z | ⟨p, hp, z⟩
      · exact bk.there b o (pk z e) (fun z => by cases z)
      · rw [← z]; exact ⟨_, (pin1 p hp).1⟩
  refine I.call' (ch := ch) ?_ un (by rw [← hP, ← hw]; exact J.hok) (allBare_setGen J.bare hb) fun b hb => ?_
  · show s1.os = s.os
    exact J.os.trans ho
  · obtain ⟨h1, h2⟩ := hch b hb
    exact ⟨.inr (Nat.le_trans hLo h1), Nat.ne_of_gt (Nat.lt_of_lt_of_le hlL h1), fun x c e => Nat.ne_of_lt (Nat.lt_of_lt_of_le (hcl x c e) h1), h2⟩
end
end K7

/-! K7I: the rule of that loop. -/
namespace K7
open PySem PySem.Spec PyProof.Rows L2 GenW

def ZP (Z : V → V → Hp → Prop) : V → Hp → Prop := fun x H => ∃ p q l, x = .ref p ∧ H p = some (.tup [q, l]) ∧ Z q l H
def tForG (C : Addr) (m : Str) (pc : List V → Hp → Nat → Prop) (Z : V → V → Hp → Prop) (ir il jf : Nat) (te : TE) : TS := fun D σ H => te σ H fun x H1 => ∃ a dx fs n, x = .ref a ∧ H1 a = some (.ins C dx fs) ∧ fs.lookup m = none ∧ pc [.ref a] H1 n ∧
  ∀ σ' H', Same H1 H' → σ'.length = σ.length → (∀ j, j ≠ ir → j ≠ il → j ≠ jf → σ'[j]? = σ[j]?) → (σ'[jf]? = σ[jf]? ∨ ∃ t q l, σ'[jf]? = some (some (.ref t)) ∧ H' t = some (.tup [l, q]) ∧ Z q l H') → D.nx σ' H'
theorem ps_forG {X : Cx} {C f : Addr} {m : Str} {pc : List V → Hp → Nat → Prop} {Z : V → V → Hp → Prop} {ir il jf : Nat} {te : TE} {o : Expr} {k : Nat} {fd : FuncData} {N ps : List Str} {xr xl xf : Str} {apos cpos pr pl pt pf pr2 pl2 pt2 pos pos' : Pos} {k1 k2} {plm : Sem Bool}
    (hc : X.calm = true) (hst' : X.stack = X.env :: X.outer) (hframe : X.env.frame = some X.env.locals) (he : PE X o te) (c : Cls X.K C) (hm : Meth X.K C m f) (F : GFnH X.prog X.w X.K X.mg X.base k f fd N ps pc (ZP Z)) (hr : Room (k + 1) X.A) (hb : Binds X.K fd ps [])
    (hZ : ∀ q l H H', Z q l H → Same H H' → Z q l H') (hN : X.N.Nodup)
    (nr : X.N[ir]? = some xr) (nl : X.N[il]? = some xl) (nf : X.N[jf]? = some xf) (kr : X.env.kindOf xr = some .local) (kl : X.env.kindOf xl = some .local) (kf : X.env.kindOf xf = some .local) (hrl : ir ≠ il) (hrf : ir ≠ jf) (hlf : il ≠ jf)
    (dr : (xr == ("__debug__" : Str)) = false := by decide) (dl : (xl == ("__debug__" : Str)) = false := by decide)
    (hs : swapsWith (.Tuple [.Name xl pl2, .Name xr pr2] k2 pt2) (some (.Name xf pf)) pos'.line X.env = pure false := by rfl)
    (hn : (assignEach [.Name xr pr, .Name xl pl] X.env).length = 2 := by rfl) (hst : (assignEach [.Name xr pr, .Name xl pl] X.env).findIdx? (·.1) = none := by rfl) (hmm : (assignEach [.Name xr pr, .Name xl pl] X.env).map (·.2) = [assign (.Name xr pr) X.env, assign (.Name xl pl) X.env] := by rfl)
    (hes : starEach [.Name xl pl2, .Name xr pr2] X.env = [(false, eval (.Name xl pl2) X.env), (false, eval (.Name xr pr2) X.env)] := by rfl)
    (hfs : ∀ x, foldedSetIterable (.Call (.Attribute o m apos) [] [] cpos) X.env x = pure x := by intro _; rfl)
    (ht : eval (.Call (.Attribute o m apos) [] [] cpos) X.env = (do
      let ov ← eval o X.env
      standAt apos.atName
      let (f, first) ← holding [ov] (getMethod ov m plm)
      callWith cpos f first (backTo cpos (starEach [] X.env)) (backToKw cpos (keywordEach [] X.env))) := by rfl) :
    PS X (.For (.Tuple [.Name xr pr, .Name xl pl] k1 pt) (.Call (.Attribute o m apos) [] [] cpos) [.Assign [.Name xf pf] (.Tuple [.Name xl pl2, .Name xr pr2] k2 pt2) pos'] [] pos) (tForG C m pc Z ir il jf te) := by
  refine ⟨fun pins s σ H D I h => ?_⟩
  refine wpAny_For ?_ hfs
  refine PySem.W.methodCall_KW (pl := plm) (thn (he.run pins s σ H _ I h) fun u s1 ⟨x, H1, I1, rx, a, dx, fs, n, ex, ea, l, hpc, q⟩ => ?_) ht
  subst ex
  obtain rfl : u = Value.ref a := rx
  refine getmeth_ok I1 ea c hm l ?_
  refine PySem.W.callWith_K0 (first := [.ref a]) I1.kIn hm.kp ?_
  have hl2 : ([Value.ref a] ++ []).length = ps.length := F.len _ _ _ hpc
  have hbt : BindsTo s1 fd ⟨[.ref a], []⟩ (ps.zip [.ref a]) := by
    have z := hb s1 [.ref a] I1.kIn hl2
    exact z
  refine wpAny_call (codeAny_mono (F.run X.A X.stack s1 H1 ⟨[.ref a], []⟩ [.ref a] [.ref a] n (hr.mono (Nat.le_succ _)) I1.env0 hbt (.cons rfl .nil) hpc) fun r s2 hq => ?_)
  cases r with
  | error e => exact hq.elim
  | ok fl =>
  cases fl with
  | next => exact hq.elim
  | brk => exact hq.elim
  | cont => exact hq.elim
  | ret u =>
  obtain ⟨ag, g, go, env, gc, T⟩ := hq
  obtain rfl := T.u
  have I2 : Inv X pins σ H1 s2 := I1.call' (ch := []) T.os (Un.kept T.kept) (I1.hok.kept T.kept) T.bare fun b z => by cases z
  obtain ⟨O, wk⟩ := T.wake X.A.in1 ((X.pn ++ pins) ++ [(ag, go)]) (hr.in1) (show X.A.in1.frames = some X.stack from I1.ok.frames)
  have hlL : X.env.locals < env.locals := Nat.lt_of_lt_of_le I1.lt T.lo
  have hLo : X.s_0.heap.objs.size ≤ env.locals := Nat.le_trans I1.sz T.lo
  have hcl : ∀ x c, X.env.cells.lookup x = some c → c < env.locals := fun x c e => by
    obtain ⟨v, o, ho, _⟩ := I1.cell x c e
    exact Nat.lt_of_lt_of_le (Heap.lt_size ho) T.lo
  have hpL : ∀ p ∈ X.pn ++ pins, p.1 ≠ env.locals := fun p hp => Nat.ne_of_lt (Nat.lt_of_lt_of_le (Heap.lt_size (I1.pin p hp).1) T.lo)
  have hpA : ∀ p ∈ X.pn ++ pins, p.1 ≠ ag := fun p hp => Nat.ne_of_lt (Nat.lt_of_lt_of_le (Heap.lt_size (I1.pin p hp).1) (Nat.le_trans T.lo (Nat.le_of_lt T.hi)))
  have hga : ag ≠ env.locals := Nat.ne_of_gt T.hi
  have hgX : ag ≠ X.env.locals := Nat.ne_of_gt (Nat.lt_trans hlL T.hi)
  have hLX : env.locals ≠ X.env.locals := Nat.ne_of_gt hlL
  have hgf : ag ∉ frs X.stack := fun hm => by
    obtain ⟨_, o, ho, _⟩ := I1.stack.mem hm
    exact absurd (Heap.lt_size ho) (Nat.not_lt.mpr (Nat.le_trans T.lo (Nat.le_of_lt T.hi)))
  have hgc : ∀ v, go.data ≠ .cell v := fun v z => by obtain ⟨vs, e⟩ := T.god; rw [e] at z; cases z
  have fresh : ∀ b, s1.heap.objs.size ≤ b → H1 b = none := fun b hb => I1.hok.fresh hb
  refine wpAny_pyIter_gen (T.gen _ T.obj) ?_
  refine codeAny_forLoop_any (fun n' s' => ∃ gs σ' H', s'.gens[g]? = some gs ∧ GoesH ⟨X.prog, X.w, X.K, X.mg, X.base, N, env, X.A.in1.deeper env, X.stack, (X.pn ++ pins) ++ [(ag, go)], ZP Z⟩ X.A.in1 n' gs H' (s'.setGen g .running) ∧ Inv X pins σ' H' s' ∧ s'.heap.get? ag = some go ∧
      H' ag = none ∧ H' env.locals = none ∧ (∃ o, s'.heap.get? env.locals = some o) ∧ Same H1 H' ∧ σ'.length = σ.length ∧ (∀ j, j ≠ ir → j ≠ il → j ≠ jf → σ'[j]? = σ[j]?) ∧ (σ'[jf]? = σ[jf]? ∨ ∃ t q l, σ'[jf]? = some (some (.ref t)) ∧ H' t = some (.tup [l, q]) ∧ Z q l H')) ?_ n
    ⟨.fresh gc, σ, H1, T.gst, ?_, I2, T.obj, fresh ag (Nat.le_trans T.lo (Nat.le_of_lt T.hi)), fresh _ T.lo, ?_, fun _ _ e => e, rfl, fun _ _ _ _ => rfl, .inl rfl⟩
  · rintro n' s' ⟨gs, σ', H', hgs, hgo, I', hgo', hgn, hLn, hLo', hS, hlen, hag, hfd⟩
    have hgl : g < s'.gens.size := (Array.getElem?_eq_some_iff.mp hgs).1
    refine wpAny_gsz (n := g + 1) hgl (next_genH (d := ⟨X.prog, X.w, X.K, X.mg, X.base, N, env, X.A.in1.deeper env, X.stack, (X.pn ++ pins) ++ [(ag, go)], ZP Z⟩) hr.hd I'.nolimit (by have := hr.dp; omega) (T.gen _ hgo') hgs hgo ?_ ?_)
    · intro v s₁ gs' x σg Hg hbare rv J hsm hy hn' hk hsz
      obtain ⟨p, q', l', rfl, hp, hz⟩ := hy
      obtain rfl : v = Value.ref p := rv
      have I3 : Inv X pins σ' Hg (s₁.setGen g gs') := woke (s₀ := s'.setGen g .running) I' O rfl rfl rfl (fun p hp => List.mem_append_left _ hp) hLo hlL hcl rfl rfl J hbare
      have pinA := J.pin (ag, go) (List.mem_append_right _ (List.mem_append_right _ (List.mem_singleton.mpr rfl)))
      have hLg : Hg env.locals = none := J.free
      obtain ⟨vs, hvs⟩ := T.god
      have hsz1 : g < s₁.gens.size := by
        have z : (s₁.setGen g gs').gens.size = s₁.gens.size := setGen_size _ _ _
        have hsz' : g + 1 ≤ (s₁.setGen g gs').gens.size := hsz
        omega
      obtain ⟨oL, hoL⟩ : ∃ o, s₁.heap.get? env.locals = some o := by
        obtain ⟨m, ⟨o, _, _, ho, _⟩, _⟩ := J.loc
        exact ⟨o, ho⟩
      refine go_of (s := s₁.setGen g gs') (o := go) (n := "generator") (vs := vs) pinA.1 T.goc hvs (by decide) ?_
      refine body_okG I3 hr.hd hN nr nl nf kr kl kf hrl hrf hlf dr dl hp hs hn hst hmm hes fun t s3 ht I4 eg eo hkeep => ?_
      have nt : ∀ b, Hg b = none → b < s3.heap.objs.size → True := fun _ _ _ => trivial
      have tA : ag ≠ t := fun z => by
        have h4 := I4.hok.lt (a := t) upd_same
        have e1 : (s₁.setGen g gs').heap.get? ag = some go := pinA.1
        have o1 := hkeep ag go hgX e1
        have oo := I4.hok t _ upd_same
        obtain ⟨_, _, _, ob, ho, hoc, _⟩ := oo
        rw [← z, o1] at ho
        cases ho
        rw [T.goc] at hoc
        revert hoc; decide
      have tL : env.locals ≠ t := fun z => by
        obtain ⟨m, ⟨o, es, ep, ho, hd, _⟩, _⟩ := J.loc
        have ho : s₁.heap.get? env.locals = some o := ho
        have o1 := hkeep env.locals o hLX ho
        obtain ⟨_, _, _, ob, hob, hoc, _, hod⟩ := I4.hok t _ upd_same
        rw [← z, o1] at hob
        cases hob
        rw [hd] at hod
        cases hod
      have hA4 : upd Hg t (.tup [l', q']) ag = none := by rw [upd_ne tA]; exact pinA.2.1
      have hL4 : upd Hg t (.tup [l', q']) env.locals = none := by rw [upd_ne tL]; exact hLg
      have oA4 : s3.heap.get? ag = some go := hkeep ag go hgX pinA.1
      have oL4 : s3.heap.get? env.locals = some oL := hkeep env.locals oL hLX hoL
      have sm4 : Same Hg (upd Hg t (.tup [l', q'])) := fun b o e => by rw [upd_ne (ne_of_none e ht)]; exact e
      refine ⟨n' - 1, by omega, gs', _, _, ?_, hk _ _ ⟨?_, ?_, ?_, sm4⟩, I4, oA4, hA4, hL4, ⟨oL, oL4⟩, fun b o e => sm4 b o (hsm b o (hS b o e)), ?_, fun j h1 h2 h3 => ?_, .inr ⟨t, q', l', ?_, upd_same, hZ _ _ _ _ hz sm4⟩⟩
      · rw [eg]; exact setGen_at hsz1
      · exact eo
      · exact wake_of I4 hL4 hpL oA4 hA4 hga hgf hgc rfl
      · show s3.heap.get? env.locals = s₁.heap.get? env.locals
        rw [oL4, hoL]
      · simpa using hlen
      · rw [List.getElem?_set_ne (Ne.symm h3), List.getElem?_set_ne (Ne.symm h2), List.getElem?_set_ne (Ne.symm h1)]
        exact hag j h1 h2 h3
      · rw [List.getElem?_set_self]
        have := (List.getElem?_eq_some_iff.mp nf).1
        rw [List.length_set, List.length_set, I'.len]
        exact this
    · intro s₁ σg Hg J hsm h' hkp _
      have I3 : Inv X pins σ' Hg (s₁.setGen g .finished) := woke (s₀ := s'.setGen g .running) I' O rfl rfl rfl (fun p hp => List.mem_append_left _ hp) hLo hlL hcl rfl rfl J rfl
      have I4 : Inv X pins σ' Hg { s₁.setGen g .finished with heap := h' } := I3.kept (t' := s₁.toks) hkp
      refine wpAny_execs_nil ⟨σ', Hg, I4, q σ' Hg (fun b o e => hsm b o (hS b o e)) hlen hag ?_⟩
      rcases hfd with e | ⟨t, q', l', e1, e2, e3⟩
      · exact .inl e
      · exact .inr ⟨t, q', l', e1, hsm _ _ e2, hZ _ _ _ _ e3 hsm⟩
  · refine wk _ _ (wake_of I2 (fresh _ T.lo) hpL T.obj (fresh ag (Nat.le_trans T.lo (Nat.le_of_lt T.hi))) hga hgf hgc rfl) rfl fun _ _ e => e
  · exact T.there
end K7

/-! K7J: defs with **kw; calls with keywords; calls without arguments. -/
namespace K7
open PySem PySem.Spec PyProof.Rows L2

/-! ### a name laid into a dict -/
section
variable {P : Program} {w : World} {A : Around} {E : Value → Shared → Prop} {s : Shared}
theorem nsSetK {d : Addr} {vs : List (Key × Value)} {name : Str} {v : Value} {Q : Unit → Shared → Prop} (hd : s.heap.DictOf (mixKind P w) d vs) (hn : (Sum.inr name : Key) ∉ vs.map (·.1))
    (hQ : ∀ h', h'.DictOf (mixKind P w) d (vs ++ [((Sum.inr name : Key), v)]) → Heap.SameBut d s.heap h' → Q () { s with heap := h', toks := s.toks + 1 }) : wpAny (model P w) A (nsSet d name v) Q E s := by
  intro Γ p _
  obtain ⟨o, es, ep, ho, hx, hdt, hk, hp, hnd⟩ := hd
  simp only [nsSet, strHash, Sem.wp_bind', Sem.wp_cmd_ask, Sem.wp_pure', Sem.wp_cmd_mkText]
  rw [Sem.wp_loadPart_of (model P w) Γ _ p { s with toks := s.toks + 1 } (o := o) _ ho]
  have hany : es.any (·.refKey) = false := by
    rw [Array.any_eq_false']
    intro e he
    obtain ⟨k, h1, _⟩ := hk e he
    rcases keyIs_shape (show keyIs k e.key = true from h1) with ⟨i, t, _, h⟩ | ⟨x, t, _, h⟩ <;> simp [DictEntry.refKey, h]
  simp only [hdt, aRefKeyMayBeTheName_eq, aRefKeyMayBeTheNameByArray, hany, Bool.and_false, Bool.false_eq_true, if_false, Sem.wp_cmd_updatePart]
  refine ⟨by rw [ho]; rfl, hQ _ ?_ (Heap.SameBut.update ..)⟩
  have hfi : es.findIdx? (·.key.isStr name) = none := by
    have e1 : (fun e : DictEntry => e.key.isStr name) = fun e => (mixKind P w).is (Sum.inr name) e.key := by
      funext e
      exact ((mixKind P w).strs (Sum.inr name) name 0 e.key (mixKind_str P w name 0)).symm
    rw [e1]
    have h2 := hp.findIdx (k := (Sum.inr name : Key))
    have h3 : es.findIdx? (fun e => (mixKind P w).is (Sum.inr name) e.key) = es.toList.findIdx? (fun e => (mixKind P w).is (Sum.inr name) e.key) := by
      cases es with | mk l => simp [← List.findIdx?_toArray]
    rw [h3, h2]
    rw [List.findIdx?_eq_none_iff]
    intro kv hkv
    simp only [decide_eq_false_iff_not]
    intro e
    exact hn (List.mem_map.mpr ⟨kv, hkv, e⟩)
  obtain ⟨c, dd, dt, sl⟩ := o
  subst hdt
  refine ⟨_, _, ep + 1, Heap.get?_update_self _ ho (by simp only [Obj.putName_eq, Obj.putNameByArray, hfi]; rfl), ?_, by simp only [Obj.putName_eq, Obj.putNameByArray, hfi]; rfl, ?_, ?_, ?_⟩
  · obtain ⟨h1, h2, h3⟩ := hx
    simp only [Obj.putName_eq, Obj.putNameByArray, hfi]
    exact ⟨h1, h2, h3⟩
  · intro e he
    rcases Array.mem_push.mp he with he | he
    · exact hk e he
    · rw [he]
      exact ⟨Sum.inr name, mixKind_str P w name _, rfl⟩
  · have := hp.append (k := (Sum.inr name : Key)) (key := .str name s.toks) (mixKind_str P w name _) (if name.cps.isEmpty = true then 0 else reduceHash (w.params.strHash name.cps)) v
    rw [Array.toList_push]
    exact this
  · rw [List.map_append]
    show ((vs.map (·.1)) ++ [(Sum.inr name : Key)]).Nodup
    rw [List.nodup_append]
    refine ⟨hnd, by simp, fun a ha b hb => ?_⟩
    rw [List.mem_singleton.mp hb]
    exact fun e => hn (e ▸ ha)
end
/-- the keywords' pairs -/
def kvz (ks : List Str) (zs : List V) : List (Key × V) := (ks.zip zs).map fun p => ((Sum.inr p.1 : Key), p.2)
def kvw (ks : List Str) (ws : List Value) : List (Key × Value) := (ks.zip ws).map fun p => ((Sum.inr p.1 : Key), p.2)
theorem kvz_kvw : ∀ {ks : List Str} {zs : List V} {ws : List Value}, Vals zs ws → KV (kvz ks zs) (kvw ks ws)
  | [], _, _, _ => .nil
  | _ :: _, _, _, .nil => .nil
  | k :: ks, _, _, .cons a r => .cons ⟨rfl, a⟩ (kvz_kvw (ks := ks) r)
/-- several names -/
theorem nsSetsK {P : Program} {w : World} {A : Around} {E : Value → Shared → Prop} {d : Addr} {f : Str × Value → PUnit → Sem (ForInStep PUnit)} (hf : ∀ n v u, f (n, v) u = (do nsSet d n v; pure (.yield ⟨⟩))) :
    ∀ (l : List (Str × Value)) (vs : List (Key × Value)) (s : Shared) (Q : PUnit → Shared → Prop), s.heap.DictOf (mixKind P w) d vs → (∀ q ∈ l, (Sum.inr q.1 : Key) ∉ vs.map (·.1)) → (l.map (·.1)).Nodup →
      (∀ h' tk, h'.DictOf (mixKind P w) d (vs ++ l.map fun p => ((Sum.inr p.1 : Key), p.2)) → Heap.SameBut d s.heap h' → Q ⟨⟩ { s with heap := h', toks := tk }) → wpAny (model P w) A (forIn l ⟨⟩ f) Q E s
  | [], vs, s, Q, hd, hn, hl, hQ => by
    rw [List.forIn_nil]
    exact wpAny_pure (hQ s.heap s.toks (by simpa using hd) ⟨rfl, fun _ _ => rfl⟩)
  | (n, v) :: l, vs, s, Q, hd, hn, hl, hQ => by
    rw [List.forIn_cons, hf]
    refine wpAny_bind (wpAny_bind (nsSetK hd (hn _ List.mem_cons_self) fun h1 hd1 sb1 => wpAny_pure ?_))
    rw [List.map_cons, List.nodup_cons] at hl
    refine nsSetsK hf l (vs ++ [((Sum.inr n : Key), v)]) _ Q hd1 (fun q hq => ?_) hl.2 fun h2 tk hd2 sb2 => ?_
    · rw [List.map_append]
      intro hm
      rcases List.mem_append.mp hm with hm | hm
      · exact hn q (List.mem_cons_of_mem _ hq) hm
      · have e : (Sum.inr q.1 : Key) = Sum.inr n := by simpa using hm
        have e := Sum.inr.inj e
        exact hl.1 (e ▸ List.mem_map.mpr ⟨q, hq, rfl⟩)
    · rw [List.append_assoc] at hd2
      exact hQ h2 tk hd2 ⟨sb2.1.trans sb1.1, fun b hb => (sb2.2 b hb).trans (sb1.2 b hb)⟩

/-! ### promises by values and keywords -/
def FnRK (P : Program) (w : World) (K : PySem.W.Frag) (mg : Str → Option Value) (base : Heap) (CX : CXT) (k : Nat) (f : Addr) (ks : List Str) (sp : Sp) : Prop :=
  ∀ (A : Around) (outer : List Env) (s : Shared) (H : Hp) (us ws : List Value) (vs zs : List V) (Q : VK) (E : XK), Room k A → Env0 P w K mg base A outer s H → Vals vs us → Vals zs ws → zs.length = ks.length → sp (vs ++ zs) H Q E →
    codeAny (model P w) A (.call (.ref f) ⟨us, ks.zip ws⟩) (CR CX outer P w H s Q E) s
theorem FnRK.r {P : Program} {w : World} {K : PySem.W.Frag} {mg : Str → Option Value} {base : Heap} {CX : CXT} {k : Nat} {f : Addr} {sp : Sp} (F : FnRK P w K mg base CX k f [] sp) : FnR P w K mg base CX k f sp := fun A outer s H us vs Q E hr e0 r h =>
  F A outer s H us [] vs [] Q E hr e0 r .nil rfl (by rw [List.append_nil]; exact h)
section
variable {P : Program} {w : World} {K : PySem.W.Frag} {mg : Str → Option Value} {base : Heap} {k : Nat} {f : Addr} {name qual : Str} {params : Arguments} {body : List Stmt} {scope : Scope} {dV kV doc pm cdv ct oc : Value} {an od : Option Addr}
  {osl : Array (Option Value)} {N : List Str} {sp : Sp} {A : Around} {outer : List Env} {s : Shared} {H : Hp}
theorem dictObj_ok {vs : List (Key × Value)} {zs : List (Key × V)} {h : Heap} {d : Addr} (r : KV zs vs) (hz : zs.length ≤ sizeLine) (hd : h.DictOf (mixKind P w) d vs) (hs : (d == sysModules) = false) (H' : Hp) : ObjOk P w H' h d (.dK zs) := ⟨hz, hs, vs, r, hd⟩
/-- the dict of the keywords laid ahead of a body -/
theorem kw_laid {ks : List Str} {zs : List V} {ws : List Value} {Q : Addr → Shared → Prop} {A' : Around} {Ex : Value → Shared → Prop} (e0 : Env0 P w K mg base A outer s H) (hks : ks.Nodup) (rz : Vals zs ws) (hl : zs.length = ks.length) (hz : ks.length ≤ sizeLine) {f : Addr → Str × Value → PUnit → Sem (ForInStep PUnit)} (hf : ∀ d n v u, f d (n, v) u = (do nsSet d n v; pure (.yield ⟨⟩)))
    (h : ∀ (s2 : Shared), s2.os = s.os → s2.heap.objs.size = s.heap.objs.size + 1 → Env0 P w K mg base A outer s2 (upd H s.heap.objs.size (.dK (kvz ks zs))) → Un (frs outer) [] H (upd H s.heap.objs.size (.dK (kvz ks zs))) s.heap s2.heap → (∀ b o, s.heap.get? b = some o → s2.heap.get? b = some o) → Q s.heap.objs.size s2) :
    wpAny (model P w) A' ((alloc ({ cls := .type "dict", data := .dict #[] } : Obj) : Sem Addr) >>= fun d => forIn (ks.zip ws) ⟨⟩ (f d) >>= fun _ => pure d) Q Ex s := by
  have hn : H s.heap.objs.size = none := e0.hok.fresh (Nat.le_refl _)
  have kp : ∀ b x, s.heap.get? b = some x → (s.heap.push ({ cls := .type "dict", data := .dict #[] } : Obj)).get? b = some x := fun b x e => Heap.get?_push_of_some _ e
  refine wpAny_bind (wpAny_alloc ?_)
  have hzip : ((ks.zip ws).map (·.1)) = ks := by
    rw [List.map_fst_zip]
    rw [← rz.length, hl]; exact Nat.le_refl _
  refine wpAny_bind (nsSetsK (P := P) (w := w) (hf _) (ks.zip ws) [] _ _ (Heap.DictOf.new s.heap) (fun _ _ hm => by cases hm) (by rw [hzip]; exact hks) fun h' tk hd' sb => wpAny_pure ?_)
  have kp2 : ∀ b x, s.heap.get? b = some x → h'.get? b = some x := fun b x e => (sb.2 b (Nat.ne_of_lt (Heap.lt_size e))).trans (kp b x e)
  have sz : h'.objs.size = s.heap.objs.size + 1 := sb.1.trans (Heap.size_push _ _)
  have new : ObjOk P w (upd H s.heap.objs.size (.dK (kvz ks zs))) h' s.heap.objs.size (.dK (kvz ks zs)) := by
    refine dictObj_ok (kvz_kvw rz) ?_ (by simpa [kvw] using hd') ?_ _
    · unfold kvz
      rw [List.length_map, List.length_zip, hl, Nat.min_self]; exact hz
    · exact beq_eq_false_iff_ne.mpr (Ne.symm (Nat.ne_of_lt (StX.env0_big e0)))
  have un : Un (frs outer) [] H (upd H s.heap.objs.size (.dK (kvz ks zs))) s.heap h' := Un.laid kp2 (Nat.le_refl _) hn
  refine h _ rfl sz ⟨e0.frames, e0.mod, fun b x e => ⟨kp2 b x (e0.bs b x e).1, ?_⟩, ?_, Heap.FunFrames.of_keeps (fun b x e _ => ⟨x, kp2 b x e, rfl⟩) e0.funs, fun b hb => ?_, e0.hok.laid kp2 (Nat.le_refl _) new, e0.bare⟩ un kp2
  · rw [upd_ne (Nat.ne_of_lt (Heap.lt_size (e0.bs b x e).1))]
    exact (e0.bs b x e).2
  · show base.objs.size ≤ h'.objs.size
    rw [sz]
    exact Nat.le_succ_of_le e0.bsz
  · obtain ⟨_, x, hx, _⟩ := e0.funs.mem hb
    rw [upd_ne (Nat.ne_of_lt (Heap.lt_size hx))]
    exact e0.frf b hb
/-- def m(self, **d) -/
theorem fn_kw {ks : List Str} {p0 pd : Str} (lk : K.lookup f = some ⟨oc, od, .func (PySem.W.fnOf name qual params body scope dV kV doc pm an cdv ct), osl⟩) (hcd : PySem.W.codeIn K cdv qual = true) (S : FnScope N [p0, pd] scope) (hks : ks.Nodup) (hz : ks.length ≤ sizeLine)
    {g : Addr → Str × Value → PUnit → Sem (ForInStep PUnit)} (hg : ∀ d n v u, g d (n, v) u = (do nsSet d n v; pure (.yield ⟨⟩)))
    (hb : ∀ (a : Value) (ws : List Value), ws.length = ks.length → bindArgs (PySem.W.fnOf name qual params body scope dV kV doc pm an cdv ct) ⟨[a], ks.zip ws⟩ = ((alloc ({ cls := .type "dict", data := .dict #[] } : Obj) : Sem Addr) >>= fun d => forIn (ks.zip ws) ⟨⟩ (g d) >>= fun _ => pure [(p0, a), (pd, .ref d)]))
    (hbody : ∀ (A : Around) (outer : List Env) (s : Shared) (H : Hp) (vs : List V) (Q : VK) (E : XK), Room k (A.deeper (envOfC qual scope s.heap.objs.size f cdv)) → sp vs H Q E →
      ∃ t, PSs (cxOf (L2.CX P w) P w K mg base N qual scope f cdv A outer s H E) body t ∧ t { nx := fun _ H' => Q .non H', rt := Q } (start N vs) H) :
    FnRK P w K mg base (L2.CX P w) (k + 1) f ks (fun vs H Q E => ∃ a zs, vs = a :: zs ∧ zs.length = ks.length ∧ ∀ d, H d = none → sp [a, .ref d] (upd H d (.dK (kvz ks zs))) Q E) := by
  intro A outer s H us ws vs zs Q E hr e0 r rz hl hsp
  obtain ⟨a, zs', ev, hl', hq⟩ := hsp
  obtain ⟨u, rfl, ru⟩ : ∃ u, us = [u] ∧ vs = [a] ∧ RelV a u := by
    cases r with
    | nil =>
      exfalso
      have := congrArg List.length ev
      rw [List.nil_append, List.length_cons, hl', hl] at this
      omega
    | @cons v0 u0 vr ur ra rr =>
      have e2 := List.cons.inj (show v0 :: (vr ++ zs) = a :: zs' from ev)
      have e3 : vr = [] := by
        have := congrArg List.length e2.2
        rw [List.length_append, hl, hl'] at this
        exact List.eq_nil_of_length_eq_zero (by omega)
      subst e3
      cases rr
      exact ⟨u0, rfl, by rw [e2.1], by rw [← e2.1]; exact ra⟩
  obtain ⟨rfl, ru⟩ := ru
  have ez : zs' = zs := by
    have := List.cons.inj (show a :: zs = a :: zs' from ev)
    exact this.2.symm
  subst ez
  have hn : H s.heap.objs.size = none := e0.hok.fresh (Nat.le_refl _)
  refine StX.run_bnd lk hcd S hr e0 (G := fun xs H2 => ∃ d, H d = none ∧ xs = [a, V.ref d] ∧ H2 = upd H d (.dK (kvz ks zs'))) (fun A' Ex Q' h => ?_) fun s2 H2 xs ⟨d, hd, ex, eH⟩ hr' => ?_
  · rw [hb u ws (by rw [← rz.length, hl])]
    have key := kw_laid (A' := A') (Ex := Ex) (Q := fun d s2 => Q' [(p0, u), (pd, .ref d)] s2) e0 hks rz hl hz hg fun s2 ho hsz e2 un kp =>
      h s2 _ [a, V.ref s.heap.objs.size] [u, Value.ref s.heap.objs.size] e2 un ho (fun e s' => StX.cxUp outer s H _ _ E e s' un kp ho) (.cons ru (.cons rfl .nil)) rfl ⟨_, hn, rfl, rfl⟩
    have e : ((alloc ({ cls := .type "dict", data := .dict #[] } : Obj) : Sem Addr) >>= fun d => forIn (ks.zip ws) ⟨⟩ (g d) >>= fun _ => pure [(p0, u), (pd, Value.ref d)]) =
        (((alloc ({ cls := .type "dict", data := .dict #[] } : Obj) : Sem Addr) >>= fun d => forIn (ks.zip ws) ⟨⟩ (g d) >>= fun _ => pure d) >>= fun d => pure [(p0, u), (pd, Value.ref d)]) := by
      simp only [bind_assoc, pure_bind]
    rw [e]
    exact wpAny_bind (wpAny_mono key (fun d s2 q => wpAny_pure q) fun _ _ z => z)
  · subst ex eH
    exact hbody A outer s2 _ _ Q E hr' (hq d hd)
end

/-! ### call nodes -/
section
variable {X : Cx} {CX : CXT} {k : Nat} {f C : Addr} {sp : Sp} {E : XK} {x m : Str} {o e : Expr} {es : List Expr} {kws : List Keyword} {ks : List Str} {ta : TE} {t tk : TA} {p apos pos : Pos} {pl : Sem Bool}
theorem run_fnRK {pins : List (Addr × Obj)} {σ : L2.St} {H : Hp} {s : Shared} {Q : VK} {us ws : List Value} {vs zs : List V} (F : FnRK X.prog X.w X.K X.mg X.base CX k f ks sp) (hr : Room k X.A) (hx : Passes CX X E) (I : Inv X pins σ H s) (r : Vals vs us) (rz : Vals zs ws) (hl : zs.length = ks.length) (h : sp (vs ++ zs) H Q E) :
    wpAny (model X.prog X.w) X.A (call (.ref f) us (ks.zip ws)) (EP X pins σ Q) X.xe s := by
  refine wpAny_call (codeAny_mono (F X.A X.stack s H us ws vs zs Q E hr I.env0 r rz hl h) fun r s' hq => ?_)
  cases r with
  | error e => exact hx pins σ H s e s' I hq
  | ok fl =>
    cases fl with
    | ret u => exact I.after hq
    | next => exact False.elim hq
    | brk => exact False.elim hq
    | cont => exact False.elim hq
/-- o.m(k = v, ..) -/
def tMethRK (C : Addr) (m : Str) (n : Nat) (sp : Sp) (E : XK) (ta : TE) (tk : TA) : TE := fun σ H Q => ta σ H fun x H1 => ∃ a dx fs, x = .ref a ∧ H1 a = some (.ins C dx fs) ∧ fs.lookup m = none ∧ tk σ H1 fun zs H2 => zs.length = n ∧ sp (x :: zs) H2 Q E
theorem pe_methRK (he : PE X o ta) (c : Cls X.K C) (hm : Meth X.K C m f) (F : FnRK X.prog X.w X.K X.mg X.base CX k f ks sp) (hr : Room k X.A) (hx : Passes CX X E) (hkw : PK X kws tk)
    (hall : (backToKw pos (keywordEach kws X.env)).all (·.1.isSome) = true := by rfl) (hks : (backToKw pos (keywordEach kws X.env)).filterMap (·.1) = ks := by rfl)
    (hpl : ((backTo pos (starEach [] X.env)).any (·.1) || (backToKw pos (keywordEach kws X.env)).any (·.1.isNone)) = false := by rfl)
    (ht : eval (.Call (.Attribute o m apos) [] kws pos) X.env = (do
      let ov ← eval o X.env
      standAt apos.atName
      let (f, first) ← holding [ov] (getMethod ov m pl)
      callWith pos f first (backTo pos (starEach [] X.env)) (backToKw pos (keywordEach kws X.env))) := by rfl) :
    PE X (.Call (.Attribute o m apos) [] kws pos) (tMethRK C m ks.length sp E ta tk) := by
  refine ⟨fun pins s σ H Q I h => ?_⟩
  refine PySem.W.methodCall_KW (pl := pl) (thn (he.run pins s σ H _ I h) fun u s1 ⟨x, H1, I1, rx, a, dx, fs, ex, ea, l, q⟩ => ?_) ht
  subst ex
  obtain rfl : u = Value.ref a := rx
  refine getmeth_ok I1 ea c hm l ?_
  refine PySem.W.callWith_KW0 (first := [.ref a]) (h₀ := X.base) I.ok.mod.kin hm.kp hall ?_ hpl
  refine thn (hkw.run pos pins s1 σ H1 _ I1 q) fun ws s2 ⟨zs, H2, I2, rz, l1, q2⟩ => ⟨I2.kIn, ?_⟩
  rw [hks]
  exact run_fnRK (us := [.ref a]) (vs := [.ref a]) F hr hx I2 (.cons rfl .nil) rz l1 q2
/-- o.m() -/
def tMethR0 (C : Addr) (m : Str) (sp : Sp) (E : XK) (ta : TE) : TE := fun σ H Q => ta σ H fun x H1 => ∃ a dx fs, x = .ref a ∧ H1 a = some (.ins C dx fs) ∧ fs.lookup m = none ∧ sp [x] H1 Q E
theorem pe_methR0 (he : PE X o ta) (c : Cls X.K C) (hm : Meth X.K C m f) (F : FnR X.prog X.w X.K X.mg X.base CX k f sp) (hr : Room k X.A) (hx : Passes CX X E)
    (ht : eval (.Call (.Attribute o m apos) [] [] pos) X.env = (do
      let ov ← eval o X.env
      standAt apos.atName
      let (f, first) ← holding [ov] (getMethod ov m pl)
      callWith pos f first (backTo pos (starEach [] X.env)) (backToKw pos (keywordEach [] X.env))) := by rfl) :
    PE X (.Call (.Attribute o m apos) [] [] pos) (tMethR0 C m sp E ta) := by
  refine ⟨fun pins s σ H Q I h => ?_⟩
  refine PySem.W.methodCall_KW (pl := pl) (thn (he.run pins s σ H _ I h) fun u s1 ⟨x, H1, I1, rx, a, dx, fs, ex, ea, l, q⟩ => ?_) ht
  subst ex
  obtain rfl : u = Value.ref a := rx
  refine getmeth_ok I1 ea c hm l ?_
  refine PySem.W.callWith_K0 (first := [.ref a]) I1.kIn hm.kp (wpAny_call (run_fnR (us := [.ref a]) (vs := [.ref a]) F hr hx I1 (.cons rfl .nil) q))
/-- f() -/
theorem pe_callR0 (F : FnR X.prog X.w X.K X.mg X.base CX k f sp) (hr : Room k X.A) (hk : PySem.W.keepIn X.K (.ref f) = true) (hg : Gl X x) (hm : X.mg x = some (.ref f)) (hx : Passes CX X E) (hd : (x == ("__debug__" : Str)) = false := by decide) :
    PE X (.Call (.Name x p) [] [] pos) (fun σ H Q => sp [] H Q E) := by
  refine ⟨fun pins s σ H Q I h => ?_⟩
  refine wpAny_Call_Name_kw (ld_glob I hg hm ?_ hd)
  exact PySem.W.callWith_K0 (first := []) I.kIn hk (wpAny_call (run_fnR (us := []) (vs := []) F hr hx I .nil h))
/-- f(e, ..) by a positional promise -/
theorem pe_callR (F : FnR X.prog X.w X.K X.mg X.base CX k f sp) (hr : Room k X.A) (hk : PySem.W.keepIn X.K (.ref f) = true) (hg : Gl X x) (hm : X.mg x = some (.ref f)) (hx : Passes CX X E) (ha : PA X (e :: es) t) (hd : (x == ("__debug__" : Str)) = false := by decide)
    (he : starEach (e :: es) X.env = (false, eval e X.env) :: starEach es X.env := by rfl) (hpl : (backTo pos (starEach es X.env)).any (·.1) = false := by rfl) :
    PE X (.Call (.Name x p) (e :: es) [] pos) (fun σ H Q => t σ H fun vs H1 => sp vs H1 Q E) := by
  refine ⟨fun pins s σ H Q I h => ?_⟩
  refine wpAny_Call_Name_kw (ld_glob I hg hm ?_ hd)
  refine PySem.W.callWith_K (h₀ := X.base) I.ok.mod.kin hk (thn (ha.run pos pins s σ H _ I h) fun us s1 ⟨vs, H1, I1, r, q⟩ => ⟨I1.kIn, ?_⟩) he hpl
  exact wpAny_call (run_fnR F hr hx I1 r q)
/-- C(e, .., k = v, ..) -/
def tMakeRK (C : Addr) (n : Nat) (sp : Sp) (E : XK) (t tk : TA) : TE := fun σ H Q => t σ H fun vs H1 => tk σ H1 fun zs H2 => zs.length = n ∧ ∀ x dx, H2 x = none → H2 dx = none → dx ≠ x →
  sp ((V.ref x :: vs) ++ zs) (upd (upd H2 dx (.own x)) x (.ins C dx [])) (fun v H3 => v = .non ∧ Q (.ref x) H3) E
theorem pe_makeRK (M : Mk X.K C f) (F : FnRK X.prog X.w X.K X.mg X.base CX k f ks sp) (hr : Room (k + 1) X.A) (hg : Gl X x) (hm : X.mg x = some (.ref C)) (hx : Passes CX X E) (ha : PA X (e :: es) t) (hkw : PK X kws tk)
    (hall : (backToKw pos (keywordEach kws X.env)).all (·.1.isSome) = true := by rfl) (hks : (backToKw pos (keywordEach kws X.env)).filterMap (·.1) = ks := by rfl) (hdb : (x == ("__debug__" : Str)) = false := by decide)
    (he : starEach (e :: es) X.env = (false, eval e X.env) :: starEach es X.env := by rfl) (hpl : ((backTo pos (starEach (e :: es) X.env)).any (·.1) || (backToKw pos (keywordEach kws X.env)).any (·.1.isNone)) = false := by rfl) :
    PE X (.Call (.Name x p) (e :: es) kws pos) (tMakeRK C ks.length sp E t tk) := by
  refine ⟨fun pins s σ H Q I h => ?_⟩
  refine wpAny_Call_Name_kw (ld_glob I hg hm ?_ hdb)
  refine PySem.W.callWith_KW (h₀ := X.base) I.ok.mod.kin M.kp hall (thn (ha.run pos pins s σ H _ I h) fun us s1 ⟨vs, H1, I1, r, q⟩ => ?_) hpl he
  refine thn (hkw.run pos pins s1 σ H1 _ I1 q) fun ws s2 ⟨zs, H2, I2, rz, l1, h2⟩ => ⟨I2.kIn, ?_⟩
  rw [hks]
  have hq := h2 (s2.heap.objs.size + 1) s2.heap.objs.size (I2.hok.fresh (Nat.le_succ _)) (I2.hok.fresh (Nat.le_refl _)) (Nat.ne_of_lt (Nat.lt_succ_self _))
  have I3 := Inv.made (C := C) I2
  have r2 : Vals (V.ref (s2.heap.objs.size + 1) :: vs) (Value.ref (s2.heap.objs.size + 1) :: us) := .cons rfl r
  refine wpAny_call (make_map (f := f) I2.kIn M.makes M.init (beq_iff_eq.mp M.fn) (codeAny_mono (F _ X.stack _ _ (Value.ref (s2.heap.objs.size + 1) :: us) ws _ zs _ E (hr.make C us (ks.zip ws)) (I3.env0.make C us (ks.zip ws)) r2 rz l1 hq) fun r s' hq' => ?_))
  cases r with
  | error e => exact hx pins σ _ _ e s' I3 hq'
  | ok fl =>
    cases fl with
    | ret u =>
      obtain ⟨v, H', I4, rv, ev, q3⟩ := I3.after hq'
      subst ev
      exact ⟨rv, ⟨V.ref (s2.heap.objs.size + 1), H', I4, rfl, q3⟩⟩
    | next => exact False.elim hq'
    | brk => exact False.elim hq'
    | cont => exact False.elim hq'
end
end K7

/-! K7K: super().m(e, .., **d), d an empty dict. -/
namespace K7
open PySem PySem.Spec PyProof.Rows L2

section
variable {prog : Program} {w : World} {A : Around} {E : Value → Shared → Prop} {h : Heap} {g : Array GenState} {d : Drawn} {t : Nat} {os : OsState}
theorem getAttr_super {so D x C f : Addr} {of : Obj} {l₀ l : List Value} {K : PySem.W.Frag} {name : Str} {ex : Bool} {Q : Value → Shared → Prop}
    (hso : h.get? so = some { cls := .type "super", dict := none, data := .fields #[.ref D, .ref x, .ref C], slots := #[] }) (hno : PySem.W.Looks (model prog w) h (opaqueClassAbove (.ref C)) none)
    (hC : PySem.W.Looks (model prog w) h (mroOf (.ref C)) l₀) (hl : (l₀.dropWhile (· != .ref D)).drop 1 = l) (X : K.In h)
    (hf : PySem.W.alongIn K name l = some (some (.ref f))) (hfo : h.get? f = some of) (hfc : of.cls = .type "function") (hxC : x ≠ C) (hn : (name == ("__class__" : Str)) = false)
    (hq : Q (.ref h.objs.size) ⟨h.push { cls := .type "method", data := .fields #[.ref f, .ref x] }, g, d, t + 1, os⟩) :
    wpAny (model prog w) A (getAttr (.ref so) name ex) Q E ⟨h, g, d, t, os⟩ := by
  have hlk := F.ks_slot_super_ga.lookup
  have hcan := F.ks_canon_super_ga
  have hT : ∀ t', (⟨h, g, d, t', os⟩ : Shared).TypeIs (.ref so) "super" := fun _ => ⟨_, hso, rfl⟩
  unfold getAttr getAttrBy
  refine wpAny_bind (wpAny_mkText (wpAny_holding (wpAny_bind (wpAny_typeOf (hT _) (wpAny_bind (wpAny_of_eq hlk ?_))))))
  show wpAny _ _ (getAttrByItsOwn (.ref so) (.str name t) (.type "super") (.builtin "super.__getattribute__") true ex) _ _ _
  unfold getAttrByItsOwn hookBefore callGetattribute boundAndCalled
  refine wpAny_bind (wpAny_of_eq (show (if onTheHeap (.type "super") then typeLookup (.type "super") "__getattr__" else pure none) = pure none from rfl) ?_)
  refine wpAny_bind (wpAny_attempt (wpAny_holding ?_))
  refine PySem.W.KFB.if_not (by cases ex <;> decide) ?_
  show wpAny _ _ (bindSpecial (.builtin "super.__getattribute__") (.ref so) >>= _) _ _ _
  refine wpAny_bind (wpAny_of_eq (F.ks_slot_super_ga.bind _) ?_)
  refine wpAny_mono (Q := fun v s' => v = .ref h.objs.size ∧ s' = ⟨h.push { cls := .type "method", data := .fields #[.ref f, .ref x] }, g, d, t + 1, os⟩) (E := fun _ _ => False)
    (wpAny_call_entry F.ks_slot_super_ga (hT _) F.ks_entry_super_ga (PySem.ks_wpAny_super_ga hso hno hC hl X hf hfo hfc hxC hn ⟨_, rfl, rfl, rfl⟩) (F.ks_gaArgs_super _ _)) (fun v s' hv => ?_) fun _ _ z => z.elim
  obtain ⟨rfl, rfl⟩ := hv
  exact wpAny_pure hq
end

/-! ### **d, d an empty dict -/
section
variable {P : Program} {w : World} {A : Around} {E : Value → Shared → Prop} {s : Shared}
theorem merge_empty {d m : Addr} {om od : Obj} {ep ep' : Nat} {Q : Unit → Shared → Prop} (hm : s.heap.get? m = some om) (hmc : om.cls = .type "dict") (hmd : om.data = .dict #[] ep) (hsys : (m == sysModules) = false) (hd : s.heap.get? d = some od) (hdd : od.data = .dict #[] ep') (h : Q () s) :
    wpAny (model P w) A (mergeMapping d (.ref m) true) Q E s := by
  have hT : s.TypeIs (.ref m) "dict" := ⟨om, hm, hmc⟩
  have dE : ∀ {a : Addr} {o : Obj} {n : Nat} {Q : Array DictEntry → Shared → Prop}, s.heap.get? a = some o → o.data = .dict #[] n → Q #[] s → wpAny (model P w) A (dictEntries a) Q E s := fun {a o n Q} ho hod q => by
    unfold dictEntries
    refine wpAny_bind (wpAny_loadPart ho ?_)
    rw [hod]
    exact wpAny_pure q
  unfold mergeMapping
  refine wpAny_bind (wpAny_isInstance hT isSubtype_dict_dict ?_)
  refine PySem.W.KFB.if_so rfl ?_
  refine wpAny_bind (wpAny_specialOf hT F.slot_dict_iter.lookup (wpAny_bind (wpAny_pure ?_)))
  have eit : (some (Value.builtin "dict.__iter__") == some (Value.builtin "dict.__iter__")) = true := by decide
  try dsimp only
  rw [eit]
  try dsimp only
  rw [hsys]
  refine PySem.W.KFB.if_not rfl ?_
  refine wpAny_bind (dE hd hdd ?_)
  refine PySem.W.KFB.if_so rfl ?_
  refine wpAny_bind (dE hm hmd ?_)
  rw [← Array.forIn_toList]
  refine wpAny_bind (wpAny_pure ?_)
  refine wpAny_bind (dE hm hmd ?_)
  refine wpAny_bind ?_
  unfold dictEpoch
  refine wpAny_bind (wpAny_loadPart hm ?_)
  rw [hmd]
  refine wpAny_pure ?_
  show wpAny _ _ (forIn (List.range 0) _ _ >>= _) _ _ _
  exact wpAny_bind (wpAny_pure (wpAny_pure h))
theorem mk_empty {f : Value} {x : Sem Value} {R : Shared → Prop}
    (hh : wpAny (model P w) A x (fun v s2 => ∃ m om ep ep', v = .ref m ∧ s2.heap.get? m = some om ∧ om.cls = .type "dict" ∧ om.data = .dict #[] ep ∧ (m == sysModules) = false ∧
      s2.heap.get? s.heap.objs.size = some { cls := .type "dict", data := .dict #[] ep' } ∧ R s2) E { s with heap := s.heap.push { cls := .type "dict", data := .dict #[] } }) :
    wpAny (model P w) A (mergedKeywords f [(none, x)]) (fun d s2 => (∃ ep', s2.heap.get? d = some { cls := .type "dict", data := .dict #[] ep' }) ∧ R s2) E s := by
  unfold mergedKeywords
  refine wpAny_bind (wpAny_alloc (wpAny_bind (wpAny_holding ?_)))
  show wpAny _ _ (forIn [((none : Option Str), x)] ([] : List (Str × Sem Value)) _ >>= _) _ _ _
  rw [List.forIn_cons]
  refine wpAny_bind (wpAny_bind ?_)
  show wpAny _ _ ((pure () : Sem Unit) >>= fun _ => x >>= fun v => _) _ _ _
  refine wpAny_bind (wpAny_pure (wpAny_bind (wpAny_mono hh (fun v s2 ⟨m, om, ep, ep', ev, hm, hmc, hmd, hsys, hd, hQ⟩ => ?_) fun e s' he => he)))
  subst ev
  refine wpAny_bind (wpAny_onRaise (wpAny_holding (wpAny_tryCatch (wpAny_onRaise (merge_empty hm hmc hmd hsys hd rfl ?_)))))
  refine wpAny_pure ?_
  show wpAny _ _ (forIn ([] : List (Option Str × Sem Value)) _ _) _ _ _
  rw [List.forIn_nil]
  refine wpAny_pure ?_
  show wpAny _ _ (pure () : Sem Unit) _ _ _
  exact wpAny_pure (wpAny_pure ⟨⟨_, hd⟩, hQ⟩)
theorem kw_empty {f : Value} {d : Addr} {ep' : Nat} {Q : List (Str × Value) → Shared → Prop} (hd : s.heap.get? d = some { cls := .type "dict", data := .dict #[] ep' }) (h : Q [] s) : wpAny (model P w) A (keywordsIn f d) Q E s := by
  unfold keywordsIn
  refine wpAny_bind ?_
  unfold dictEntries
  refine wpAny_bind (wpAny_loadPart hd (wpAny_pure ?_))
  rw [← Array.forIn_toList]
  exact wpAny_bind (wpAny_pure (wpAny_pure h))
/-- the arguments: those in the list, then an empty dict's keywords -/
theorem evalArgs_empty {f : Value} {x : Sem Value} {a0 : Sem Value} {args : List (Bool × Sem Value)} {Q : Args → Shared → Prop}
    (h : wpAny (model P w) A (spliced ((false, a0) :: args)) (fun vs s1 => wpAny (model P w) A x (fun v s2 => ∃ m om ep ep', v = .ref m ∧ s2.heap.get? m = some om ∧ om.cls = .type "dict" ∧ om.data = .dict #[] ep ∧ (m == sysModules) = false ∧
      s2.heap.get? s1.heap.objs.size = some { cls := .type "dict", data := .dict #[] ep' } ∧ Q ⟨vs, []⟩ s2) E { s1 with heap := s1.heap.push { cls := .type "dict", data := .dict #[] } }) E s) : wpAny (model P w) A (evalArgs f true ((false, a0) :: args) [(none, x)]) Q E s := by
  unfold evalArgs
  show wpAny _ A (spliced ((false, a0) :: args) >>= _) Q E s
  refine wpAny_bind (wpAny_mono h (fun vs s1 h1 => ?_) fun _ _ z => z)
  refine wpAny_holding ?_
  show wpAny _ A (if (([((none : Option Str), x)]).all fun x => x.fst.isSome) = true then _ else _) _ _ _
  refine PySem.W.KFB.if_not rfl ?_
  refine wpAny_bind (wpAny_mono (mk_empty (f := f) (R := fun s2 => Q ⟨vs, []⟩ s2) h1) (fun d s2 ⟨⟨ep', hd⟩, hq⟩ => ?_) fun _ _ z => z)
  refine wpAny_bind (wpAny_pure ?_)
  exact wpAny_bind (wpAny_holding (kw_empty hd (wpAny_pure hq)))
end
/-- the call's node of a bound method with **d -/
theorem callWith_kwd {M : Model} {A : Around} {E : Value → Shared → Prop} {s : Shared} {f : Value} {first : List Value} {pos : Pos} {Q : Value → Shared → Prop} {P : Heap → Prop} {args : List (Bool × Sem Value)} {x : Sem Value}
    (hk : ∀ h, P h → ∃ k, (k = Keeper.frame ∨ k = Keeper.machine ∨ k = Keeper.boundFrame) ∧ PySem.W.Looks M h (keeperOf f) k)
    (h : wpAny M A (evalArgs f true args [(none, x)]) (fun a s₁ => P s₁.heap ∧ wpAny M A (call f (first ++ a.pos) a.kw) Q E s₁) E s) : wpAny M A (callWith pos f first args [(none, x)]) Q E s := by
  unfold callWith
  refine wpAny_bind (wpAny_holding (wpAny_mono h (fun a s₁ h₁ => wpAny_bind (wpAny_standAt ?_)) fun _ _ x => x))
  obtain ⟨k, hk', L⟩ := hk _ h₁.1
  have hst : (args.any (·.1) || ([((none : Option Str), x)] : List (Option Str × Sem Value)).any (·.1.isNone)) = true := by simp
  simp only [hst]
  refine wpAny_bind (L.here ?_)
  have tail : ∀ {t : Sem Value}, wpAny M A t Q E s₁ → wpAny M A (t >>= fun r => holding [r] point >>= fun _ => pure r) Q E s₁ :=
    fun ht => wpAny_bind (wpAny_mono ht (fun r s₂ hr => wpAny_bind (wpAny_holding (wpAny_point (wpAny_pure hr)))) fun _ _ x => x)
  have marked (mk : Value) : wpAny M A (callMarked mk f (first ++ a.pos) a.kw) Q E s₁ := by unfold callMarked; exact Calls.wpAny_keep h₁.2
  rcases hk' with rfl | rfl | rfl <;> dsimp only <;> first | exact tail (marked _) | exact tail (PySem.W.wpAny_operating h₁.2) | exact tail (wpAny_operating h₁.2)

/-- super().m(e, .., **d), d a name -/
def tSupK (C : Addr) (sp : Sp) (E : XK) (t : TA) (j : Nat) : TE := fun σ H Q => ∃ x dx fs m, σ[0]? = some (some (.ref x)) ∧ H x = some (.ins C dx fs) ∧ σ[j]? = some (some (.ref m)) ∧ t σ H fun vs H1 => H1 m = some (.dK []) ∧ sp (.ref x :: vs) H1 Q E
section
variable {X : Cx} {pins : List (Addr × Obj)} {σ : L2.St} {H : Hp} {s : Shared} {f cda cc D C g x dx : Addr} {m : Str} {fs : List (Str × V)} {E : Value → Shared → Prop}
theorem super_getattr {so : Addr} {ex : Bool} {Q : Value → Shared → Prop} (T : SupK X.prog X.K f cda cc D C m g) (I : Inv X pins σ H s) (hx : H x = some (.ins C dx fs)) (hat : (m == ("__class__" : Str)) = false)
    (hso : s.heap.get? so = some { cls := .type "super", dict := none, data := .fields #[.ref D, .ref x, .ref C], slots := #[] })
    (h : ∀ q s', s'.heap.get? q = some (PySem.W.methodObj (.ref g) (.ref x)) → s.heap.objs.size ≤ q → Inv X ((q, PySem.W.methodObj (.ref g) (.ref x)) :: pins) σ H s' → Q (.ref q) s') : wpAny (model X.prog X.w) X.A (getAttr (.ref so) m ex) Q E s := by
  have KX := I.kIn
  obtain ⟨mA, O, _, _, _, _⟩ := ins_get I.hok hx
  obtain ⟨odx, J, _⟩ := O.look
  have hm := T.at_
  obtain ⟨hh, gg, d, t, os⟩ := s
  cases hc : PySem.W.clsIn X.K C with
  | none => unfold PySem.W.ks_superIn at hm; rw [hc] at hm; cases hm
  | some cd =>
    unfold PySem.W.ks_superIn at hm
    rw [hc] at hm
    obtain ⟨of, hof, hofc⟩ : ∃ of, hh.get? g = some of ∧ of.cls = .type "function" := by
      have ht' : (X.K.lookup g).map (·.cls) = some (.type "function") := T.ty
      cases z : X.K.lookup g with
      | none => rw [z] at ht'; cases ht'
      | some of => rw [z] at ht'; exact ⟨of, KX _ _ z, Option.some.inj ht'⟩
    refine getAttr_super hso (PySem.W.looks_opaque KX T.cst) (l₀ := cd.mro) ?_ rfl KX hm hof hofc (PySem.W.ks_ne KX J hc) hat ?_
    · exact fun A Q E s k q => wpAny_bind ((PySem.W.looks_clsIn KX hc) A _ E s k (wpAny_pure q))
    · have kp : ∀ b o, hh.get? b = some o → (hh.push (PySem.W.methodObj (.ref g) (.ref x))).get? b = some o := fun b o e => Heap.get?_push_of_some _ e
      have I1 : Inv X pins σ H ⟨hh.push (PySem.W.methodObj (.ref g) (.ref x)), gg, d, t + 1, os⟩ := I.kept (t' := t + 1) kp
      have hq : (hh.push (PySem.W.methodObj (.ref g) (.ref x))).get? hh.objs.size = some (PySem.W.methodObj (.ref g) (.ref x)) := Heap.get?_push_size _ rfl
      refine h hh.objs.size _ hq (Nat.le_refl _) (I1.pins_of fun p hp => ?_)
      rcases List.mem_cons.mp hp with z | z
      · rw [z]
        refine ⟨hq, I.hok.fresh (Nat.le_refl _), Nat.ne_of_gt I.lt, ?_, fun v e => by cases e⟩
        exact I.nofs (Nat.le_refl _)
      · exact I1.pin p (List.mem_append_right _ z)
end
theorem peat_superK {X : Cx} {f cda cc D C g : Addr} {m dn : Str} {j : Nat} {body : List Stmt} {p0 p1 p2 p3 apos pos : Pos} {e : Expr} {es : List Expr} {t : TA} {k : Nat} {fd : FuncData} {ps : List Str} {sp : Sp} {E : XK}
    (T : SupK X.prog X.K f cda cc D C m g) (S : SupX X f cda cc) (F : FnOk X.prog X.w X.K X.mg X.base (L2.CX X.prog X.w) k g fd ps sp) (hb : Binds X.K fd ps []) (hr : Room k X.A) (hx : Passes (L2.CX X.prog X.w) X E) (ha : PA X (e :: es) t)
    (nj : X.N[j]? = some dn) (kj : X.env.kindOf dn = some .local) (dd : (dn == ("__debug__" : Str)) = false := by decide)
    (hat : (m == ("__class__" : Str)) = false := by decide)
    (he : eval (.Call (.Attribute (.Call (.Name "super" p0) [] [] p1) m apos) (e :: es) [⟨none, .Name dn p2, p3⟩] pos) X.env = (do
      let ov ← attributeBase (.Call (.Name "super" p0) [] [] p1) m X.env (eval (.Call (.Name "super" p0) [] [] p1) X.env)
      standAt apos.atName
      let (f, first) ← holding [ov] (getAttr ov m true >>= fun v => pure (v, []))
      callWith pos f first (backTo pos (starEach (e :: es) X.env)) [(none, do let v ← eval (.Name dn p2) X.env; standAt pos; pure v)]) := by rfl)
    (hs : starEach (e :: es) X.env = (false, eval e X.env) :: starEach es X.env := by rfl) :
    PEat X (.func body X.env) (.Call (.Attribute (.Call (.Name "super" p0) [] [] p1) m apos) (e :: es) [⟨none, .Name dn p2, p3⟩] pos) (tSupK C sp E t j) := by
  refine ⟨fun pins s σ H Q I h => ?_⟩
  obtain ⟨x, dx, fs, md, hσ, hH, hσj, h⟩ := h
  rw [he]
  refine _root_.PySem.wpAt_bind ?_
  obtain ⟨mA, O, _, _, _, _⟩ := ins_get I.hok hH
  obtain ⟨odx, J, _⟩ := O.look
  refine super_node T.toSupB S I hσ J.at_ J.cls (fun c e => ?_) hat fun h' hso kp => ?_
  · have := J.no
    unfold PySem.W.notCls at this
    rw [e] at this
    exact Bool.noConfusion this
  have I1 : Inv X pins σ H { s with heap := h' } := I.kept (t' := s.toks) kp
  refine wpAt_of_wpAny (wpAny_bind (wpAny_standAt (wpAny_bind (wpAny_holding (wpAny_bind (super_getattr T I1 hH hat hso fun q s' hq hge I2 => wpAny_pure ?_))))))
  rw [hs]
  refine callWith_kwd (P := PySem.W.MethP X.K q g (.ref x)) (PySem.W.keeps_M T.fi) (evalArgs_empty ?_)
  have ha2 := ha.run pos _ s' σ H _ I2 h
  rw [hs] at ha2
  refine thn ha2 fun us s3 ⟨vs, H3, I3, r3, hm3, q3⟩ => ?_
  have hp3 := I3.pin (q, PySem.W.methodObj (.ref g) (.ref x)) (List.mem_append_right _ List.mem_cons_self)
  have I4 : Inv X pins σ H3 s3 := I3.pins_of fun p hp => I3.pin p (List.mem_append_right _ (List.mem_cons_of_mem _ hp))
  have I5 : Inv X pins σ H3 { s3 with heap := s3.heap.push { cls := .type "dict", data := .dict #[] } } := I4.kept (t' := s3.toks) fun b o e => Heap.get?_push_of_some _ e
  refine wpAny_bind (load_okG I5 nj kj hσj dd fun u ru => wpAny_bind (wpAny_standAt (wpAny_pure ?_)))
  obtain rfl : u = Value.ref md := ru
  obtain ⟨_, hsys, vs0, rkv, o, es0, ep, ho, hxo, hdo, _, hpo, _⟩ := I5.hok md _ hm3
  cases rkv
  have hes : es0 = #[] := by
    have hl := hpo.length
    exact Array.eq_empty_of_size_eq_zero (by simpa using hl)
  subst hes
  refine ⟨md, o, ep, 0, rfl, ho, hxo.1, hdo, hsys, Heap.get?_push_size _ rfl, ⟨Heap.get?_push_of_some _ hp3.1, I5.kIn⟩, ?_⟩
  refine wpAny_call (PySem.W.method_call (Heap.get?_push_of_some _ hp3.1) (codeAny_mono (run_fnE F hr hb hx I5 (.cons (show RelV (V.ref x) (Value.ref x) from rfl) r3) q3) fun r s' hq => ?_))
  cases r with
  | error e => exact hq
  | ok fl =>
    cases fl with
    | ret u => exact hq
    | next => exact hq.elim
    | brk => exact hq.elim
    | cont => exact hq.elim
end K7

/-! K7L: def m(a, .., *, k, **d) whose body begins with super(): the dict is empty. -/
namespace K7
open PySem PySem.Spec PyProof.Rows L2
theorem fn_superK {P : Program} {w : World} {K : PySem.W.Frag} {mg : Str → Option Value} {base : Heap} {k : Nat} {f cc : Addr} {name qual : Str} {params : Arguments} {first : Stmt} {rest : List Stmt} {scope : Scope} {dV kV doc pm cdv ct oc : Value} {an od : Option Addr}
    {osl : Array (Option Value)} {N ps ks : List Str} {pd : Str} {sp : Sp} {occ : Obj} {v0 : Option Value} (lk : K.lookup f = some ⟨oc, od, .func (PySem.W.fnX name qual params (first :: rest) scope [("__class__", cc)] dV kV doc pm an cdv ct), osl⟩) (hcd : PySem.W.codeIn K cdv qual = true) (S : FnScopeS N (ps ++ [pd]) scope)
    (hcc : K.lookup cc = some occ) (hoc : occ.data = .cell v0)
    (hb : ∀ us ws : List Value, (us ++ ws).length = ps.length → ws.length = ks.length → bindArgs (PySem.W.fnX name qual params (first :: rest) scope [("__class__", cc)] dV kV doc pm an cdv ct) ⟨us, ks.zip ws⟩ = ((alloc ({ cls := .type "dict", data := .dict #[] } : Obj) : Sem Addr) >>= fun d => pure (ps.zip (us ++ ws) ++ [(pd, .ref d)])))
    (hbody : ∀ (A : Around) (outer : List Env) (s : Shared) (H : Hp) (vs : List V) (Q : VK) (E : XK), Room k (A.deeper (envS qual scope s.heap.objs.size f cdv cc)) → sp vs H Q E →
      ∃ t u, PSat (cxS P w K mg base N qual scope f cdv cc A outer s H E) (.func (first :: rest) (envS qual scope s.heap.objs.size f cdv cc)) first t ∧ PSs (cxS P w K mg base N qual scope f cdv cc A outer s H E) rest u ∧
        t { nx := fun σ H' => u { nx := fun _ H' => Q .non H', rt := Q } σ H', rt := Q } (L2.start N vs) H) :
    FnRK P w K mg base (L2.CX P w) (k + 1) f ks (fun vs H Q E => vs.length = ps.length ∧ ∀ d, H d = none → sp (vs ++ [.ref d]) (upd H d (.dK [])) Q E) := by
  intro A outer s H us ws vs zs Q E hr e0 r rz hl hsp
  obtain ⟨hlen, hsp⟩ := hsp
  have KX : K.In s.heap := e0.mod.kin.keeps fun b o e => (e0.bs b o e).1
  have r2 : Vals (vs ++ zs) (us ++ ws) := r.append rz
  have hlu : (us ++ ws).length = ps.length := by rw [← r2.length]; exact hlen
  have hn : H s.heap.objs.size = none := e0.hok.fresh (Nat.le_refl _)
  refine codeAny_call_function hr.depth (KX _ _ lk) rfl S.co S.gen rfl (PySem.W.codeRec_of KX hcd) ?_
  rw [hb us ws hlu (by rw [← rz.length]; exact hl)]
  refine wpAny_bind (wpAny_alloc (wpAny_pure ?_))
  have new : ObjOk P w (upd H s.heap.objs.size (.dK [])) (s.heap.push ({ cls := .type "dict", data := .dict #[] } : Obj)) s.heap.objs.size (.dK []) := dk_empty _ (StX.env0_big e0)
  have e2 := StX.env0_laid e0 new
  have un2 := StX.un_laid (fs := frs outer) (s := s) (o := ({ cls := .type "dict", data := .dict #[] } : Obj)) (u := .dK []) hn
  have lim : (s.heap.push ({ cls := .type "dict", data := .dict #[] } : Obj)).NoLimit := e0.mod.nolimit.keeps fun b o e => (e2.bs b o e).1
  have r3 : Vals ((vs ++ zs) ++ [V.ref s.heap.objs.size]) ((us ++ ws) ++ [Value.ref s.heap.objs.size]) := r2.append (.cons rfl .nil)
  have hzip : (ps ++ [pd]).zip ((us ++ ws) ++ [Value.ref s.heap.objs.size]) = ps.zip (us ++ ws) ++ [(pd, Value.ref s.heap.objs.size)] := by
    rw [List.zip_append hlu.symm]; rfl
  have hl3 : ((vs ++ zs) ++ [V.ref s.heap.objs.size]).length = (ps ++ [pd]).length := by
    simp only [List.length_append, List.length_cons, List.length_nil] at hlen ⊢
    omega
  rw [← hzip]
  have hkind : ∀ y ∈ (ps ++ [pd]).zip ((us ++ ws) ++ [Value.ref s.heap.objs.size]), scope.names.lookup y.1 = some .local ∨ (scope.names.lookup y.1 = some .cell ∧ ((cellsFrom ((s.heap.push ({ cls := .type "dict", data := .dict #[] } : Obj)).objs.size + 1) scope.names []).lookup y.1).isSome = true) := fun ⟨n, v⟩ hy => by
    rcases S.par n (List.of_mem_zip hy).1 with q | q
    · exact .inl q
    · exact .inr ⟨q, PySem.W.cellsFrom_some _ _ _ (.inl q)⟩
  refine newEnvS (s := { s with heap := s.heap.push ({ cls := .type "dict", data := .dict #[] } : Obj) }) S.kind hkind fun env he s1 x => ?_
  subst he
  refine ⟨lim.keeps x.toInCall.keep, PySem.ks_codeAny_funcAt ?_⟩
  obtain ⟨t, u, ht, hu, hq⟩ := hbody A outer { s with heap := s.heap.push ({ cls := .type "dict", data := .dict #[] } : Obj) } (upd H s.heap.objs.size (.dK [])) _ Q E (hr.deeper _) (hsp _ hn)
  have I := inv_startS (cd := cdv) (E := E) S hr.hd e2 hl3 r3 (e2.mod.kin _ _ hcc) hoc x
  have fin : ∀ {σ' : L2.St} {H' : Hp} {s' : Shared} {v : V} {u : Value}, Inv (cxS P w K mg base N qual scope f cdv cc A outer { s with heap := s.heap.push ({ cls := .type "dict", data := .dict #[] } : Obj) } (upd H s.heap.objs.size (.dK [])) E) [] σ' H' s' → RelV v u → Q v H' → CE outer P w H s Q u s' :=
    fun {σ' H' s' v u} J rv q => ⟨v, H', J.os, J.bare, un2.trans J.base, J.hok, rv, q⟩
  have ends : ∀ (fl : Flow) (s' : Shared), SP (cxS P w K mg base N qual scope f cdv cc A outer { s with heap := s.heap.push ({ cls := .type "dict", data := .dict #[] } : Obj) } (upd H s.heap.objs.size (.dK [])) E) [] { nx := fun _ H' => Q .non H', rt := Q } fl s' → CE outer P w H s Q (match fl with | .ret v => v | _ => .none) s' := fun fl s' hs => by
    cases fl with
    | ret u =>
      obtain ⟨v, σ', H', J, rv, q⟩ := hs
      exact fin J rv q
    | next =>
      obtain ⟨σ', H', J, q⟩ := hs
      exact fin (v := V.non) (u := Value.none) J rfl q
    | brk =>
      obtain ⟨_, _, _, q⟩ := hs
      exact False.elim q
    | cont =>
      obtain ⟨_, _, _, q⟩ := hs
      exact False.elim q
  have up : ∀ (e : Value) (s' : Shared), L2.CX P w outer (upd H s.heap.objs.size (.dK [])) { s with heap := s.heap.push ({ cls := .type "dict", data := .dict #[] } : Obj) } E e s' → L2.CX P w outer H s E e s' := fun e s' z =>
    StX.cxUp outer s H { s with heap := s.heap.push ({ cls := .type "dict", data := .dict #[] } : Obj) } (upd H s.heap.objs.size (.dK [])) E e s' un2 (fun b o q => Heap.get?_push_of_some _ q) rfl z
  have exc : ∀ (e : Value) (s' : Shared), (cxS P w K mg base N qual scope f cdv cc A outer { s with heap := s.heap.push ({ cls := .type "dict", data := .dict #[] } : Obj) } (upd H s.heap.objs.size (.dK [])) E).xe e s' →
      wpAny (model P w) (A.deeper (envS qual scope (s.heap.push ({ cls := .type "dict", data := .dict #[] } : Obj)).objs.size f cdv cc)) (leaving (envS qual scope (s.heap.push ({ cls := .type "dict", data := .dict #[] } : Obj)).objs.size f cdv cc) e) (fun _ s'' => L2.CX P w outer H s E e s'') (fun e' s'' => L2.CX P w outer H s E e' s'') s' := fun e s' hs =>
    wpAny_mono hs (fun _ s'' z => up e s'' z) fun e' s'' z => up e' s'' z
  refine PySem.ks_wpAt_execs_cons (PySem.ks_wpAt_mono (ht.run [] s1 _ _ _ I hq) (fun fl s' hs => ?_) fun e s' hs => exc e s' hs)
  cases fl with
  | next =>
    obtain ⟨σ', H', J, q⟩ := hs
    exact PySem.ks_wpAt_mono (wpAt_of_wpAny (hu.run [] s' σ' H' _ J q)) (fun fl s2 hs2 => ends fl s2 hs2) fun e s2 z => exc e s2 z
  | ret v => exact ends (.ret v) s' hs
  | brk => exact ends .brk s' hs
  | cont => exact ends .cont s' hs
end K7

/-! K7M: list(o), o's own __iter__ hands back iter(d). -/
namespace K7
open PySem PySem.Spec PyProof.Rows L2

/-- a promise that may speak of how many objects there are at the call -/
def FnRN (P : Program) (w : World) (K : PySem.W.Frag) (mg : Str → Option Value) (base : Heap) (k : Nat) (f : Addr) (sp : Nat → Sp) : Prop :=
  ∀ (A : Around) (outer : List Env) (s : Shared) (H : Hp) (us : List Value) (vs : List V) (Q : VK) (E : XK), Room k A → Env0 P w K mg base A outer s H → Vals vs us → sp s.heap.objs.size vs H Q E →
    codeAny (model P w) A (.call (.ref f) ⟨us, []⟩) (CR (L2.CX P w) outer P w H s Q E) s
theorem fn_ofN {P : Program} {w : World} {K : PySem.W.Frag} {mg : Str → Option Value} {base : Heap} {k : Nat} {f : Addr} {name qual : Str} {params : Arguments} {body : List Stmt} {scope : Scope} {dV kV doc pm cdv ct oc : Value} {an od : Option Addr}
    {osl : Array (Option Value)} {N ps : List Str} {sp : Nat → Sp} (lk : K.lookup f = some ⟨oc, od, .func (PySem.W.fnOf name qual params body scope dV kV doc pm an cdv ct), osl⟩) (hcd : PySem.W.codeIn K cdv qual = true) (S : FnScope N ps scope)
    (bn : Binds K (PySem.W.fnOf name qual params body scope dV kV doc pm an cdv ct) ps [])
    (len : ∀ n vs H Q E, sp n vs H Q E → vs.length = ps.length)
    (hbody : ∀ (A : Around) (outer : List Env) (s : Shared) (H : Hp) (vs : List V) (Q : VK) (E : XK), Room k (A.deeper (envOfC qual scope s.heap.objs.size f cdv)) → sp s.heap.objs.size vs H Q E →
      ∃ t, PSs (cxOf (L2.CX P w) P w K mg base N qual scope f cdv A outer s H E) body t ∧ t { nx := fun _ H' => Q .non H', rt := Q } (start N vs) H) :
    FnRN P w K mg base (k + 1) f sp := by
  intro A outer s H us vs Q E hr e0 r hsp
  have hl := len _ _ _ _ _ hsp
  have KX : K.In s.heap := e0.mod.kin.keeps fun b o e => (e0.bs b o e).1
  have lim : s.heap.NoLimit := e0.mod.nolimit.keeps fun b o e => (e0.bs b o e).1
  have hb : BindsTo s (PySem.W.fnOf name qual params body scope dV kV doc pm an cdv ct) ⟨us, []⟩ (ps.zip us) := by
    have z := bn s us KX (by rw [List.append_nil, ← r.length]; exact hl)
    rwa [List.append_nil] at z
  have hkind : ∀ y ∈ ps.zip us, scope.names.lookup y.1 = some .local ∨ (scope.names.lookup y.1 = some .cell ∧ ((cellsFrom (s.heap.objs.size + 1) scope.names []).lookup y.1).isSome = true) := fun ⟨n, v⟩ hy => by
    rcases S.par n (List.of_mem_zip hy).1 with q | q
    · exact .inl q
    · exact .inr ⟨q, PySem.W.cellsFrom_some _ _ _ (.inl q)⟩
  refine codeAny_call_function hr.depth (KX _ _ lk) rfl S.co S.gen rfl (PySem.W.codeRec_of KX hcd) (hb _ _ _ _ ?_)
  refine wpAny_newFunctionEnv_cells S.kind hkind fun env he s1 x => ?_
  subst he
  refine ⟨lim.keeps x.toInCall.keep, codeAny_func ?_⟩
  obtain ⟨t, ht, hq⟩ := hbody A outer s H vs Q E (hr.deeper _) hsp
  have I : Inv (cxOf (L2.CX P w) P w K mg base N qual scope f cdv A outer s H E) [] (start N vs) H s1 := inv_start S hr.hd e0 hl r x
  refine wpAny_mono (ht.run [] s1 (start N vs) H _ I hq) (fun fl s' hs => ?_) fun e s' hs => hs
  have fin : ∀ {σ' : L2.St} {H' : Hp} {v : V} {u : Value}, Inv (cxOf (L2.CX P w) P w K mg base N qual scope f cdv A outer s H E) [] σ' H' s' → RelV v u → Q v H' → CE outer P w H s Q u s' :=
    fun {σ' H' v u} J rv q => ⟨v, H', J.os, J.bare, J.base, J.hok, rv, q⟩
  cases fl with
  | ret u =>
    obtain ⟨v, σ', H', J, rv, q⟩ := hs
    exact fin J rv q
  | next =>
    obtain ⟨σ', H', J, q⟩ := hs
    exact fin (v := V.non) (u := Value.none) J rfl q
  | brk =>
    obtain ⟨_, _, _, q⟩ := hs
    exact False.elim q
  | cont =>
    obtain ⟨_, _, _, q⟩ := hs
    exact False.elim q
/-- the iterator over the keys of the locked dict at d -/
def KItO (od : Obj) (d it : Addr) : HO := .ext fun h => ∃ es ep, od.data = .dict es ep ∧ h.get? it = some { cls := .type "dict_keyiterator", data := .fields #[.ref d, .int 0 0, .int es.size 0, .int ep 0] }
section
variable {X : Cx}
theorem call_iterD : CallR X (.builtin "iter") (fun xs H Q => ∃ d od kvs, xs = [.ref d] ∧ H d = some (.frz od (.dK kvs)) ∧ ∀ it, H it = none → X.s_0.heap.objs.size ≤ it → Q (.ref it) (upd H it (KItO od d it))) := by
  intro pins s σ H xs us Q I r q
  obtain ⟨d, od, kvs, rfl, hd, q⟩ := q
  obtain ⟨u, rfl, ru⟩ := r.one
  cases (show u = Value.ref d from ru)
  obtain ⟨eo, _, lo, vs, rel, o, es, ep, ho, hx, hdt, _⟩ := I.hok d _ hd
  rw [eo] at ho
  cases ho
  have hn : H s.heap.objs.size = none := I.hok.fresh (Nat.le_refl _)
  refine Calls.call_function_entry (by decide +kernel) (by decide +kernel) PySem.W.kdk_entry_iter (PySem.W.kdk_args_iter _) ?_
  unfold Builtin.«iter»
  refine wpAny_bind (m := someArgs "iter" 1 2 _) (wpAny_of_eq (a := [Value.ref d]) (by first | rfl | kernel_rfl!) ?_)
  show wpAny _ _ (pyIter (.ref d) >>= _) _ _ _
  refine wpAny_bind (wpAny_pyIter_dict_raw (es := es) (ep := ep) lo ⟨_, eo, hx, hdt⟩ ?_)
  refine wpAny_pure ⟨_, rfl, .ref s.heap.objs.size, upd H s.heap.objs.size (KItO od d s.heap.objs.size), I.laid (t' := s.toks) (fun b o e => Heap.get?_push_of_some _ e) (Nat.le_refl _) ?_, rfl, q _ hn I.sz⟩
  exact ⟨⟨es, ep, hdt, Heap.get?_push_size _ rfl⟩, ⟨_, Heap.get?_push_size _ rfl⟩, fun h1 h2 ⟨es', ep', z1, z2⟩ k => ⟨es', ep', z1, k _ z2⟩⟩

variable {C fi fl a : Addr} {k : Nat} {spI : Nat → Sp} {spL : Sp} {pins : List (Addr × Obj)} {σ : L2.St} {H : Hp} {s : Shared} {A1 : Around}
def E0K : XK := fun _ _ _ => False
theorem cx_none {P : Program} {w : World} {outer : List Env} {H : Hp} {s s' : Shared} {e : Value} (h : L2.CX P w outer H s E0K e s') : False := by
  obtain ⟨_, _, _, _, _, _, _, _, _, _, _, _, hE⟩ := h
  exact hE
theorem run_sub {A2 : Around} {f : Addr} {sp : Sp} {Q : VK} {us : List Value} {vs : List V} (sb : Sub X k A2) (F : FnR X.prog X.w X.K X.mg X.base (L2.CX X.prog X.w) k f sp) (I : Inv X pins σ H s) (r : Vals vs us) (h : sp vs H Q E0K) :
    wpAny (model X.prog X.w) A2 (call (.ref f) us) (EP X pins σ Q) (fun _ _ => False) s := by
  have e0 : Env0 X.prog X.w X.K X.mg X.base A2 X.stack s H := by
    have e := I.env0
    exact ⟨by rw [sb.fr]; exact e.frames, e.mod, e.bs, e.bsz, e.funs, e.frf, e.hok, e.bare⟩
  refine wpAny_call (codeAny_mono (F A2 X.stack s H us vs Q E0K sb.room e0 r h) fun r s' hq => ?_)
  cases r with
  | error e => exact cx_none hq
  | ok fl =>
    cases fl with
    | ret u => exact I.after hq
    | next => exact False.elim hq
    | brk => exact False.elim hq
    | cont => exact False.elim hq
theorem run_subN {A2 : Around} {f : Addr} {sp : Nat → Sp} {Q : VK} {us : List Value} {vs : List V} (sb : Sub X k A2) (F : FnRN X.prog X.w X.K X.mg X.base k f sp) (I : Inv X pins σ H s) (r : Vals vs us) (h : sp s.heap.objs.size vs H Q E0K) :
    wpAny (model X.prog X.w) A2 (call (.ref f) us) (EP X pins σ Q) (fun _ _ => False) s := by
  have e0 : Env0 X.prog X.w X.K X.mg X.base A2 X.stack s H := by
    have e := I.env0
    exact ⟨by rw [sb.fr]; exact e.frames, e.mod, e.bs, e.bsz, e.funs, e.frf, e.hok, e.bare⟩
  refine wpAny_call (codeAny_mono (F A2 X.stack s H us vs Q E0K sb.room e0 r h) fun r s' hq => ?_)
  cases r with
  | error e => exact cx_none hq
  | ok fl =>
    cases fl with
    | ret u => exact I.after hq
    | next => exact False.elim hq
    | brk => exact False.elim hq
    | cont => exact False.elim hq
/-- len(o) asked by list() -/
theorem hintD {A2 : Around} {n : Nat} {dx : Addr} {fs : List (Str × V)} {E : Value → Shared → Prop} {Q : Bool → Shared → Prop} (sb : Sub X k A2.in1) (hl : PySem.W.findIn X.K (.ref C) "__len__" = some (some (.ref fl))) (hlF : PySem.W.isFn X.K (.ref fl) = true)
    (FL : FnR X.prog X.w X.K X.mg X.base (L2.CX X.prog X.w) k fl spL) (I : Inv X pins σ H s) (ha : H a = some (.ins C dx fs)) (hn : n ≤ 1000) (h : spL [.ref a] H (fun v H' => v = .int n ∧ H' = H) E0K)
    (hq : ∀ (b : Bool) s', Inv X pins σ H s' → Q b s') : wpAny (model X.prog X.w) A2 (Builtin.List.listLengthHint (.ref a)) Q E s := by
  obtain ⟨ox, od, J, _⟩ := ins_inst I ha
  obtain ⟨m, hF⟩ := I.fr
  unfold Builtin.List.listLengthHint
  refine wpAny_bind (wpAny_bind (J.type.here ((PySem.W.looks_findIn I.kIn hl).here ?_)))
  refine PySem.W.KFB.if_not rfl ?_
  refine PySem.W.KFB.if_so rfl ?_
  refine wpAny_bind (wpAny_rule (wpAny_bind (wpAny_attempt ?_)))
  refine PySem.W.len_K hF I.ok.mod.kin J hl hlF (wpAny_mono (run_sub (us := [.ref a]) (vs := [.ref a]) sb FL I (.cons rfl .nil) h) (fun w s' z => ?_) fun e s' z => z.elim)
  obtain ⟨z', H', I', rz, ez, eH⟩ := z
  subst ez eH
  obtain ⟨t, rfl⟩ := (show ∃ t, w = Value.int (n : Nat) t from rz)
  refine ⟨⟨by omega, by omega⟩, ?_⟩
  refine wpAny_bind (wpAny_pure ?_)
  have e1 : Builtin.List.listTooLong ((n : Int).toNat) = false := by
    unfold Builtin.List.listTooLong
    simp [sizeLine_eq]; omega
  refine PySem.W.KFB.if_not e1 ?_
  exact wpAny_pure (hq _ _ (I'.tok _))
theorem call_listOwnD (hi : PySem.W.findIn X.K (.ref C) "__iter__" = some (some (.ref fi))) (hiF : PySem.W.isFn X.K (.ref fi) = true) (hl : PySem.W.findIn X.K (.ref C) "__len__" = some (some (.ref fl))) (hlF : PySem.W.isFn X.K (.ref fl) = true)
    (FI : FnRN X.prog X.w X.K X.mg X.base k fi spI) (FL : FnR X.prog X.w X.K X.mg X.base (L2.CX X.prog X.w) k fl spL) (hr : Room (k + 4) X.A) :
    CallR X (.type "list") (fun xs H Q => ∃ a dx fs d kvs, xs = [.ref a] ∧ H a = some (.ins C dx fs) ∧ H d = some (.dK kvs) ∧ kvs.length ≤ 1000 ∧
      (∀ n H1 od, (∀ b o, H b = some o → b ≠ d → H1 b = some o) → H1 d = some (.frz od (.dK kvs)) →
        spI n [.ref a] H1 (fun v H' => ∃ it, v = .ref it ∧ H1 it = none ∧ n ≤ it ∧ H' = upd H1 it (KItO od d it)) E0K ∧ spL [.ref a] H1 (fun v H' => v = .int kvs.length ∧ H' = H1) E0K) ∧
      ∀ p, H p = none → Q (.ref p) (upd H p (.lst (kvs.map fun kv => kV kv.1)))) := by
  intro pins s σ H xs us Q I rv h
  obtain ⟨a, dx, fs, d, kvs, rfl, ha, hd, hlen, hsp, hq⟩ := h
  obtain ⟨u, rfl, ru⟩ := rv.one
  cases ru
  have sb : Sub X (k + 1) X.A.in1.in1 := (Sub.in1 (Sub.in1 (⟨hr.mono (by omega), rfl⟩ : Sub X (k + 3) X.A)))
  refine callType_codes (Q₁ := fun obj s₁ => obj = .ref s.heap.objs.size ∧ s₁ = { s with heap := s.heap.push { cls := .type "list", data := .seq #[] } }) PySem.F.called_list (PySem.F.typeCall_list_1 _) PySem.F.entry_list_init
    (code_list_new _ ⟨rfl, rfl⟩) fun obj s₁ h₁ => ?_
  obtain ⟨rfl, rfl⟩ := h₁
  have hS : (s.heap.push { cls := .type "list", data := .seq #[] }).get? s.heap.objs.size = some { cls := .type "list", data := .seq #[] } := Heap.get?_push_size _ rfl
  refine ⟨⟨_, hS, rfl⟩, PySem.F.args_list_init_2 _ _, ?_⟩
  have fr : H s.heap.objs.size = none := I.hok.fresh (Nat.le_refl _)
  have I1 : Inv X pins σ (upd H s.heap.objs.size (.lst [])) { s with heap := s.heap.push { cls := .type "list", data := .seq #[] } } := I.lnew (its := []) (t' := s.toks) .nil (Nat.zero_le _)
  show wpAny _ _ (do let old ← Builtin.List.listItems (.ref s.heap.objs.size); Builtin.List.listUpdate (.ref s.heap.objs.size) (fun _ => #[]); letGo old.toList.reverse; Builtin.List.listExtendWith (.ref s.heap.objs.size) (.ref a) .none) _ _ _
  refine wpAny_bind ?_
  unfold Builtin.List.listItems
  refine wpAny_bind (wpAny_seqItems hS rfl (wpAny_pure ?_))
  show wpAny _ _ (updateSeq s.heap.objs.size (fun _ => #[]) >>= fun _ => letGo (#[] : Array Value).toList.reverse >>= fun _ => Builtin.List.listExtendWith (.ref s.heap.objs.size) (.ref a) .none) _ _ _
  refine wpAny_bind (wpAny_updateSeq hS rfl ?_)
  have I2 := I1.lset (f := fun _ => #[]) (its := []) (its' := []) (ys := []) (t' := s.toks) upd_same hS rfl .nil (Nat.zero_le _)
  rw [upd_upd] at I2
  refine wpAny_bind (wpAny_letGo ?_)
  generalize hSd : s.heap.objs.size = S at *
  have nda : d ≠ a := ne_of hd ha (fun z => nomatch z)
  have nSa : S ≠ a := fun z => by rw [z, ha] at fr; cases fr
  have nSd : S ≠ d := fun z => by rw [z, hd] at fr; cases fr
  have hd2 : upd H S (.lst []) d = some (.dK kvs) := by rw [upd_ne (Ne.symm nSd)]; exact hd
  obtain ⟨od, I3⟩ := I2.lock hd2 trivial
  have ha3 : upd (upd H S (.lst [])) d (.frz od (.dK kvs)) a = some (.ins C dx fs) := by rw [upd_ne (Ne.symm nda), upd_ne (Ne.symm nSa)]; exact ha
  have hs3 : ∀ b o, H b = some o → b ≠ d → upd (upd H S (.lst [])) d (.frz od (.dK kvs)) b = some o := fun b o e hb => by
    rw [upd_ne hb, upd_ne (fun z => by rw [z, fr] at e; cases e)]; exact e
  obtain ⟨hI, _⟩ := hsp _ _ od hs3 upd_same
  obtain ⟨ox, odx, J, _⟩ := ins_inst I3 ha3
  obtain ⟨m0, hF⟩ := I3.fr
  unfold Builtin.List.listExtendWith
  refine wpAny_bind (J.type.here ?_)
  have h1 : Builtin.List.listSameRef (.ref S) (.ref a) = false := by simp [Builtin.List.listSameRef, nSa]
  have h2 : (Value.ref C == Value.type "list") = false := rfl
  have h3 : (Value.ref C == Value.type "tuple") = false := rfl
  simp only [h1, h2, h3, Bool.or_false, Bool.false_eq_true, if_false]
  refine wpAny_bind (PySem.W.owit_iter hF I3.ok.mod.kin J hi hiF (wpAny_mono (run_subN (us := [.ref a]) (vs := [.ref a]) (sb.mono (Nat.le_succ _)) FI I3 (.cons rfl .nil) hI) (fun w s4 z => ?_) fun e s' z => z.elim))
  obtain ⟨v, H4, I4, rw4, it, ev, hit, hyo, eH⟩ := z
  subst ev eH
  obtain rfl : w = Value.ref it := rw4
  obtain ⟨⟨es, ep, hod, hito⟩, _, _⟩ := I4.hok it _ (upd_same (o := KItO od d it))
  have hTi : s4.TypeIs (.ref it) "dict_keyiterator" := ⟨_, hito, rfl⟩
  unfold PySem.W.OwitIt
  refine wpAny_specialOf hTi F.slot_dict_keyiterator_next.lookup ?_
  have ha4 : upd (upd (upd H S (.lst [])) d (.frz od (.dK kvs))) it (KItO od d it) a = some (.ins C dx fs) := by
    rw [upd_ne (fun z => by rw [← z, ha3] at hit; cases hit)]; exact ha3
  have hd4 : upd (upd (upd H S (.lst [])) d (.frz od (.dK kvs))) it (KItO od d it) d = some (.frz od (.dK kvs)) := by
    rw [upd_ne (fun z => by rw [← z, upd_same] at hit; cases hit)]; exact upd_same
  have hs4 : ∀ b o, H b = some o → b ≠ d → upd (upd (upd H S (.lst [])) d (.frz od (.dK kvs))) it (KItO od d it) b = some o := fun b o e hb => by
    rw [upd_ne (fun z => by rw [← z, hs3 b o e hb] at hit; cases hit)]; exact hs3 b o e hb
  obtain ⟨_, hL⟩ := hsp 0 _ od hs4 hd4
  refine wpAny_bind (wpAny_holding (hintD (sb.in1) hl hlF FL I4 ha4 hlen hL fun b s5 I5 => ?_))
  -- the loop
  have loop : ∀ {s6 : Shared}, Inv X pins σ (upd (upd (upd H S (.lst [])) d (.frz od (.dK kvs))) it (KItO od d it)) s6 →
      codeAny (model X.prog X.w) X.A.in1 (.builtin "list.extend.loop" ⟨[.ref S, .ref it, .none], []⟩) (wants (fun r s₂ => r = .none ∧ EP X pins σ Q (.ref S) s₂) X.xe) s6 := by
    intro s6 I6
    obtain ⟨⟨es2, ep2, hod2, hito2⟩, _, _⟩ := I6.hok it _ (upd_same (o := KItO od d it))
    rw [hod] at hod2
    obtain ⟨rfl, rfl⟩ : es = es2 ∧ ep = ep2 := by injection hod2 with h1 h2; exact ⟨h1, h2⟩
    obtain ⟨hdo, zl, lo, vs, rel, o2, es3, ep3, ho2, hx2, hdt2, hk2, hp2, hnd2⟩ := I6.hok d _ hd4
    rw [hdo] at ho2
    cases ho2
    rw [hod] at hdt2
    obtain ⟨rfl, rfl⟩ : es = es3 ∧ ep = ep3 := by injection hdt2 with h1 h2; exact ⟨h1, h2⟩
    have hsz : es.size = vs.length := by have := hp2.length; simpa using this
    have nid : d ≠ it := fun z => by rw [← z, upd_same] at hit; cases hit
    have nSi : S ≠ it := fun z => by rw [← z, upd_ne nSd, upd_same] at hit; cases hit
    obtain ⟨zS, itsS, cS, rS, hlS, eS⟩ := I6.lstM (l := S) (xs := []) (by rw [upd_ne nSi, upd_ne nSd, upd_same])
    cases rS
    have hlt : X.s_0.heap.objs.size ≤ it := Nat.le_trans I3.sz hyo
    refine codeAny_extend_loopS (Walks.dictKeys (knd := mixKind X.prog X.w) (prog := X.prog) (w := X.w) (A := X.A.in1.in1) hr.hd it d nid vs ep).toS (by rw [← rel.length]; exact zl) S (by simp [nSi, nSd]) .none vs.length 0 s6 #[] cS (by omega) (Nat.zero_le _)
      ⟨⟨_, hito2, rfl, by rw [← hsz]; rfl⟩, ⟨od, es, hdo, hx2, hod, hk2, hp2, hnd2⟩⟩ eS (ItemsOf.nil _) fun s7 acc c7 hm hS7 hacc => ⟨rfl, ?_⟩
    have ek : (kvs.map fun kv => kV kv.1) = vs.map fun p => kV p.1 := by
      have e := congrArg (List.map kV) rel.keys
      rw [List.map_map, List.map_map] at e
      exact e
    have hv : Vals (vs.map fun p => kV p.1) acc.toList := keys_at (by rw [Array.length_toList]; exact hacc.1) fun j v e => hacc.2 j v (by rw [← Array.getElem?_toList]; exact e)
    have I7 := ItX.inv_drop I6 (upd_same (o := KItO od d it))
    rw [ItX.dropH_upd hit] at I7
    have hS3 : upd (upd H S (.lst [])) d (.frz od (.dK kvs)) S = some (.lst []) := by rw [upd_ne nSd, upd_same]
    have kp : ∀ b o, b ≠ S → b ≠ it → s6.heap.get? b = some o → s7.heap.get? b = some o := fun b o h1 h2 e => hm.heap b o (by simp [h1, h2]) e
    have hokn : HOk X.prog X.w (upd (upd (upd H S (.lst [])) d (.frz od (.dK kvs))) S (.lst (kvs.map fun kv => kV kv.1))) s7.heap := fun b u e => by
      by_cases hb : b = S
      · subst hb
        rw [upd_same] at e
        cases e
        exact ⟨by rw [List.length_map]; exact zl, acc.toList, c7, by rw [ek]; exact hv, by rw [Array.toArray_toList]; exact hS7⟩
      · rw [upd_ne hb] at e
        refine (I7.hok b u e).stay (fun c v hc q => ?_) (fun c q => ?_) fun c xs q => ?_
        · rcases hc with hc | hc
          · rw [hc] at q ⊢
            exact kp b v hb (fun z => by rw [z, hit] at e; cases e) q
          · exact kp c v (fun z => by rw [z, hS3] at hc; cases hc) (fun z => by rw [z, hit] at hc; cases hc) q
        · rw [upd_ne (fun z => by rw [z, hS3] at q; cases q)]; exact q
        · rw [upd_ne (fun z => by rw [z, hS3] at q; cases q)]; exact q
    have free7 : ∀ b, upd (upd H S (.lst [])) d (.frz od (.dK kvs)) b = none → b ≠ S := fun b e z => by rw [z, hS3] at e; cases e
    have I8 : Inv X pins σ (upd (upd (upd H S (.lst [])) d (.frz od (.dK kvs))) S (.lst (kvs.map fun kv => kV kv.1))) s7 := by
      refine I7.call' (ch := [it]) hm.os ⟨fun b o e n _ hc => kp b o (free7 b n) (by simpa using hc) e, fun b o e n _ hc => ⟨o.slots, kp b o (free7 b n) (by simpa using hc) e⟩, fun b o e n _ => by rw [upd_ne (free7 b n)]; exact n, fun b o e hc => ?_,
        fun b xs q => by rw [upd_ne (fun z => by rw [z, hS3] at q; cases q)]; exact q, fun b o x q => by rw [upd_ne (fun z => by rw [z, hS3] at q; cases q)]; exact q, fun b ps q => ⟨#[], by rw [upd_ne (fun z => by rw [z, hS3] at q; cases q), q]; simp⟩⟩ hokn (by rw [show s7.gens = s6.gens from hm.gens]; exact I6.bare) fun b hb => ?_
      · by_cases hbS : b = S
        · rw [hbS]; exact ⟨_, hS7⟩
        · exact ⟨o, kp b o hbS (by simpa using hc) e⟩
      · rw [List.mem_singleton.mp hb]
        have f := ItX.inv_fp I6 (upd_same (o := KItO od d it)) hlt
        exact ⟨f.2.2.2.1, f.2.1, f.2.2.2.2.1, f.2.2.2.2.2⟩
    have hd8 : upd (upd (upd H S (.lst [])) d (.frz od (.dK kvs))) S (.lst (kvs.map fun kv => kV kv.1)) d = some (.frz od (.dK kvs)) := by rw [upd_ne (Ne.symm nSd), upd_same]
    have I9 := I8.unlock hd8 (I.nofrz hd trivial)
    refine ⟨.ref S, _, I9, rfl, ?_⟩
    have eH : upd (upd (upd (upd H S (.lst [])) d (.frz od (.dK kvs))) S (.lst (kvs.map fun kv => kV kv.1))) d (.dK kvs) = upd H S (.lst (kvs.map fun kv => kV kv.1)) := by
      funext b
      by_cases hb : b = d
      · rw [hb, upd_same, upd_ne (Ne.symm nSd), hd]
      · rw [upd_ne hb]
        by_cases hb2 : b = S
        · rw [hb2, upd_same, upd_same]
        · rw [upd_ne hb2, upd_ne hb, upd_ne hb2, upd_ne hb2]
    rw [eH]
    exact hq S fr
  obtain ⟨z, its, kk, r3, hl3, e3⟩ := I5.lstM (l := S) (xs := []) (by rw [upd_ne (fun z => by rw [← z, upd_ne nSd, upd_same] at hit; cases hit), upd_ne nSd, upd_same])
  cases r3
  refine wpAny_ite_split (fun _ => ?_) (fun _ => wpAny_pure ⟨plainId_quiet PySem.F.plain_extend_loop _, loop I5⟩)
  refine wpAny_bind (wpAny_rule ?_)
  refine wpAny_bind ?_
  show wpAny _ _ (updateSeq S (·.push .none) >>= fun _ => updateSeq S (·.pop)) _ _ _
  have nSi : S ≠ it := fun z => by rw [← z, upd_ne nSd, upd_same] at hit; cases hit
  have hS5 : upd (upd (upd H S (.lst [])) d (.frz od (.dK kvs))) it (KItO od d it) S = some (.lst []) := by rw [upd_ne nSi, upd_ne nSd, upd_same]
  refine wpAny_bind (wpAny_updateSeq e3 rfl ?_)
  have I6 := I5.lset (f := (·.push Value.none)) (its' := [Value.none]) (ys := [.non]) (t' := s5.toks) hS5 e3 (by simp) (.cons rfl .nil) (by rw [List.length_singleton, sizeLine_eq]; decide)
  obtain ⟨z4, its4, k4, r4, hl4, e4⟩ := I6.lstM upd_same
  obtain ⟨u4, rfl, ru4⟩ := r4.one
  refine wpAny_updateSeq e4 rfl ?_ (by show 1 ≤ sizeLine; rw [sizeLine_eq]; decide) (by show 0 ≤ sizeLine + 1; exact Nat.zero_le _)
  have I7 := I6.lset (f := (·.pop)) (its := [u4]) (its' := []) (ys := []) (t' := s5.toks) upd_same e4 (by rfl) .nil (Nat.zero_le _)
  rw [upd_upd] at I7
  have hH : upd (upd (upd (upd H S (.lst [])) d (.frz od (.dK kvs))) it (KItO od d it)) S (.lst []) = upd (upd (upd H S (.lst [])) d (.frz od (.dK kvs))) it (KItO od d it) := by
    funext b
    by_cases hb : b = S
    · rw [hb, upd_same, hS5]
    · rw [upd_ne hb]
  rw [hH] at I7
  exact wpAny_pure ⟨plainId_quiet PySem.F.plain_extend_loop _, loop I7⟩
end
end K7

/-! K7N: enumerate over a tuple. -/
namespace K7
open PySem PySem.Spec PyProof.Rows L2
open AutoSeq1 (wpAny_loadPart')

section
variable {prog : Program} {w : World} {A : Around} {E : Value → Shared → Prop} {s : Shared} {e it l : Addr} {i : Nat} {items : Array Value}
/-- what one turn leaves: the enumerate's record moved on, its inner iterator moved on, a new pair -/
theorem enumT_turn {x old : Value} {Q : Value → Shared → Prop} (he : IsEnum s.heap e it i old) (hit : s.heap.IsTupleIter it l i) (hl : s.heap.IsTuple l items) (hx : items[i]? = some x) (hne : e ≠ it)
    (hQ : ∀ h', IsEnumOut h' e it ((i : Int) + 1) x s.heap.objs.size → h'.IsTupleIter it l (i + 1) → h'.get? s.heap.objs.size = some { cls := .type "tuple", data := .seq #[.int i s.toks, x] } → h'.objs.size = s.heap.objs.size + 1 →
      (∀ b o, b ≠ e → b ≠ it → s.heap.get? b = some o → h'.get? b = some o) → Q (.ref s.heap.objs.size) { s with heap := h', toks := s.toks + 1 }) :
    wpAny (model prog w) A (Builtin.«enumerate.__next__» ⟨[.ref e], []⟩) (fun fin s' => ∃ v, fin = .done (.ret v) ∧ Q v s') E s := by
  obtain ⟨H0, g, d, tk, os⟩ := s
  have hel : e < H0.objs.size := Heap.lt_size he
  show wpAny _ _ (field (.ref e) 2 >>= _) _ _ _
  refine wpAny_bind (wpAny_field he rfl (x := .ref it) rfl (wpAny_bind (RZ.nextOf_tuple_item hit hl hx fun H1 it1 (s1 : Heap.SameBut it H0 H1) => ?_)))
  have e1 : IsEnum H1 e it i old := (s1.2 e hne).trans he
  show wpAny _ _ (field (.ref e) 3 >>= _) _ _ ⟨H1, g, d, tk, os⟩
  refine wpAny_bind (wpAny_field e1 rfl (x := rawInt i) rfl ?_)
  show wpAny _ _ (field (.ref e) 4 >>= _) _ _ ⟨H1, g, d, tk, os⟩
  refine wpAny_bind (wpAny_field e1 rfl (x := .none) rfl ?_)
  show wpAny _ _ (mkInt i >>= _) _ _ ⟨H1, g, d, tk, os⟩
  refine wpAny_bind (wpAny_mkInt ?_)
  show wpAny _ _ (setField (.ref e) 3 (rawInt ((i : Int) + 1)) >>= _) _ _ ⟨H1, g, d, tk + 1, os⟩
  refine wpAny_bind (wpAny_setField_rec e1 (by simp) fun H2 (e2 : IsEnum H2 e it ((i : Int) + 1) old) (s2 : Heap.SameBut e H1 H2) => ?_)
  show wpAny _ _ (setField (.ref e) 4 .none >>= _) _ _ ⟨H2, g, d, tk + 1, os⟩
  refine wpAny_bind (wpAny_setField_rec e2 (by simp) fun H3 (e3 : IsEnum H3 e it ((i : Int) + 1) old) (s3 : Heap.SameBut e H2 H3) => ?_)
  show wpAny _ _ (newTuple [.int i tk, x] >>= _) _ _ ⟨H3, g, d, tk + 1, os⟩
  refine wpAny_bind (wpAny_newTuple ?_)
  have z3 : H3.objs.size = H0.objs.size := by rw [s3.1, s2.1, s1.1]
  have k3 : ∀ b o, b ≠ e → b ≠ it → H0.get? b = some o → H3.get? b = some o := fun b o h1 h2 q => s3.extBut b o h1 (s2.extBut b o h1 (s1.extBut b o h2 q))
  have i3 : H3.IsTupleIter it l (i + 1) := by
    obtain ⟨o, ho, r⟩ := it1
    exact ⟨o, s3.extBut it o (Ne.symm hne) (s2.extBut it o (Ne.symm hne) ho), r⟩
  obtain ⟨H4, hH4⟩ : ∃ H4, H4 = H3.push { cls := .type "tuple", data := .seq #[.int i tk, x] } := ⟨_, rfl⟩
  have e4 : IsEnum H4 e it ((i : Int) + 1) old := by rw [hH4]; exact Heap.get?_push_of_some _ e3
  have t4 : H4.get? H0.objs.size = some { cls := .type "tuple", data := .seq #[.int i tk, x] } := by rw [hH4, ← z3]; exact Heap.get?_push_size _ rfl
  have z4 : H4.objs.size = H0.objs.size + 1 := by rw [hH4, Heap.size_push, z3]
  have k4 : ∀ b o, H3.get? b = some o → H4.get? b = some o := fun b o q => by rw [hH4]; exact Heap.get?_push_of_some _ q
  show wpAny _ _ (Builtin.SmallTypes.ownedTupleIsFree (.ref e) >>= _) _ _ ⟨H3.push { cls := .type "tuple", data := .seq #[.int i tk, x] }, g, d, tk + 1, os⟩
  rw [z3, ← hH4]
  refine wpAny_bind ?_
  unfold Builtin.SmallTypes.ownedTupleIsFree
  refine wpAny_bind (wpAny_field e4 rfl (x := .none) rfl (wpAny_pure ?_))
  simp only [if_true]
  refine wpAny_bind (wpAny_rule (wpAny_bind (wpAny_field e4 rfl (x := old) rfl (wpAny_bind (wpAny_setField_rec e4 (by simp) fun H5 (e5 : IsEnum H5 e it ((i : Int) + 1) x) (s5 : Heap.SameBut e H4 H5) => ?_)))))
  show wpAny _ _ (Builtin.SmallTypes.ownedTupleHandOut (.ref e) (.ref H0.objs.size) >>= _) _ _ ⟨H5, g, d, tk + 1, os⟩
  refine wpAny_bind ?_
  unfold Builtin.SmallTypes.ownedTupleHandOut
  refine wpAny_bind (wpAny_setField_rec e5 (by simp) fun H6 (e6 : IsEnumOut H6 e it ((i : Int) + 1) x H0.objs.size) (s6 : Heap.SameBut e H5 H6) => ?_)
  refine wpAny_setField_rec e6 (by simp) fun H7 (e7 : IsEnumOut H7 e it ((i : Int) + 1) x H0.objs.size) (s7 : Heap.SameBut e H6 H7) => ?_
  have k7 : ∀ b o, b ≠ e → H4.get? b = some o → H7.get? b = some o := fun b o h1 q => s7.extBut b o h1 (s6.extBut b o h1 (s5.extBut b o h1 q))
  refine wpAny_bind (wpAny_letGo (wpAny_pure ⟨_, rfl, hQ H7 e7 ?_ (k7 _ _ (Nat.ne_of_gt hel) t4) (by rw [s7.1, s6.1, s5.1, z4]) fun b o h1 h2 q => k7 b o h1 (k4 b o (k3 b o h1 h2 q))⟩))
  obtain ⟨o, ho, r⟩ := i3
  exact ⟨o, k7 it o (Ne.symm hne) (k4 it o ho), r⟩
theorem nextT_item {x old : Value} {Q : Option Value → Shared → Prop} (he : IsEnum s.heap e it i old) (hit : s.heap.IsTupleIter it l i) (hl : s.heap.IsTuple l items) (hx : items[i]? = some x) (hne : e ≠ it)
    (hQ : ∀ h', IsEnumOut h' e it ((i : Int) + 1) x s.heap.objs.size → h'.IsTupleIter it l (i + 1) → h'.get? s.heap.objs.size = some { cls := .type "tuple", data := .seq #[.int i s.toks, x] } → h'.objs.size = s.heap.objs.size + 1 →
      (∀ b o, b ≠ e → b ≠ it → s.heap.get? b = some o → h'.get? b = some o) → Q (some (.ref s.heap.objs.size)) { s with heap := h', toks := s.toks + 1 }) : wpAny (model prog w) A (pyNext (.ref e)) Q E s := by
  have hT : s.TypeIs (.ref e) "enumerate" := ⟨_, he, rfl⟩
  unfold pyNext
  exact wpAny_bind (wpAny_attempt (wpAny_callSpecial?_slot (name := Str.ofString "__next__") hT F.slot_enumerate_next
    (wpAny_call_entry F.slot_enumerate_next hT F.entry_enumerate_next (enumT_turn he hit hl hx hne fun h' a b c d k => wpAny_pure (hQ h' a b c d k)) (F.args_enumerate_next_1 _))))
theorem nextT_end {old : Value} {Q : Option Value → Shared → Prop} (hh : A.handled = none) (he : IsEnum s.heap e it i old) (hit : s.heap.IsTupleIter it l i) (hl : s.heap.IsTuple l items) (hx : items[i]? = none)
    (hQ : ∀ h', Heap.ExtBut it s.heap h' → Q none { s with heap := h' }) : wpAny (model prog w) A (pyNext (.ref e)) Q E s := by
  have hT : s.TypeIs (.ref e) "enumerate" := ⟨_, he, rfl⟩
  unfold pyNext
  refine wpAny_bind (wpAny_attempt (wpAny_callSpecial?_slot (name := Str.ofString "__next__") hT F.slot_enumerate_next
    (wpAny_call_entry F.slot_enumerate_next hT F.entry_enumerate_next ?_ (F.args_enumerate_next_1 _))))
  show wpAny _ _ (field (.ref e) 2 >>= _) _ _ _
  refine wpAny_bind (wpAny_field he rfl (x := .ref it) rfl (wpAny_bind (RZ.nextOf_tuple_end hh hit hl hx fun h' x he' hx' => ?_)))
  obtain ⟨o, ho, hc⟩ := hx'
  exact wpAny_bind (wpAny_isInstance (T := "StopIteration") (b := true) ⟨o, ho, hc⟩ isSubtype_stop (wpAny_pure (hQ _ he')))
theorem newT (l : Addr) (items : Array Value) (n : Nat) (dct : Option Addr) (sl : Array (Option Value)) :
    Meets (Builtin.«enumerate.__new__» ⟨[.type "enumerate", .ref l], []⟩) (fun _ R s => s.heap.get? l = some { cls := .type "tuple", dict := dct, data := .seq items n, slots := sl } ∧
      R (.ok (.ret (.ref (s.heap.push { cls := .type "tuple_iterator", data := .fields #[.ref l, .int 0 0] }).objs.size)))
        { s with heap := (s.heap.push { cls := .type "tuple_iterator", data := .fields #[.ref l, .int 0 0] }).push { cls := .type "enumerate", data := .fields #[.none, .bool false, .ref s.heap.objs.size, rawInt 0, .none, .none] } }) :=
  .of_wp fun prog w A R s h => by
    obtain ⟨hp, g, d, tk, os⟩ := s; obtain ⟨hl, h⟩ := h
    have hsub := sub_enumerate
    have hL : Heap.IsTuple (Shared.heap ⟨hp, g, d, tk, os⟩) l items := ⟨_, hl, rfl, n, rfl⟩
    wp_walk using wpAny_loadPart' hl
    refine wpAny_stack_any fun st => wpAny_pure ?_
    split
    · rename_i c _ _ _ _ _
      cases (c == Value.type "enumerate")
      · wp_walk using wpAny_loadPart' hl, wpAny_pyIter_tuple hL
        exact ⟨_, rfl, h⟩
      · wp_walk using wpAny_loadPart' hl, wpAny_pyIter_tuple hL
        exact ⟨_, rfl, h⟩
    · wp_walk using wpAny_loadPart' hl, wpAny_pyIter_tuple hL
      exact ⟨_, rfl, h⟩
theorem call_enumT {Q : Value → Shared → Prop} (hL : s.heap.IsTuple l items)
    (h : ∀ h', IsEnum h' (s.heap.objs.size + 1) s.heap.objs.size 0 .none → h'.IsTupleIter s.heap.objs.size l 0 → h'.objs.size = s.heap.objs.size + 2 →
      (∀ b o, s.heap.get? b = some o → h'.get? b = some o) → Q (.ref (s.heap.objs.size + 1)) { s with heap := h' }) :
    wpAny (model prog w) A (call (.type "enumerate") [.ref l]) Q E s := by
  obtain ⟨⟨c, dct, dt, sl⟩, hl, hc, n, hd⟩ := hL
  replace hc : c = .type "tuple" := hc
  replace hd : dt = .seq items n := hd
  subst hc hd
  refine callType_new F.called_enumerate (by decide) (F.typeCall_enumerate_1 _) (F.newCall_enumerate_1 _) (fun obj => F.args_object_init_2 obj _) F.entry_enumerate_new
    (newT l items n dct sl) ⟨hl, ?_⟩
  have hz : (s.heap.push { cls := .type "tuple_iterator", data := .fields #[.ref l, .int 0 0] }).objs.size = s.heap.objs.size + 1 := Heap.size_push ..
  show _ ∧ _
  rw [hz]
  have he : IsEnum ((s.heap.push { cls := .type "tuple_iterator", data := .fields #[.ref l, .int 0 0] }).push
      { cls := .type "enumerate", data := .fields #[.none, .bool false, .ref s.heap.objs.size, rawInt 0, .none, .none] }) (s.heap.objs.size + 1) s.heap.objs.size 0 .none := by
    have := Heap.get?_push_size (s.heap.push { cls := .type "tuple_iterator", data := .fields #[.ref l, .int 0 0] })
      (o := { cls := .type "enumerate", data := .fields #[.none, .bool false, .ref s.heap.objs.size, rawInt 0, .none, .none] }) rfl
    rw [hz] at this; exact this
  refine ⟨⟨_, he, rfl⟩, h _ he ⟨_, Heap.get?_push_of_some _ (Heap.get?_push_size _ rfl), rfl, rfl⟩ (by rw [Heap.size_push, hz]) fun b o x => Heap.get?_push_of_some _ (Heap.get?_push_of_some _ x)⟩
end

/-- the tuple at a, each item in a new pair -/
def IteT (K : PySem.W.Frag) (a : Addr) : It :=
  ⟨fun i H => ∃ (xs : List V) (x : V), SqT K H a xs ∧ xs[i]? = some x, fun i H v H' => ∃ T x, v = .ref T ∧ H T = none ∧ H' = upd H T (.tup [.int (i : Nat), x]) ∧ ∀ xs, SqT K H a xs → xs[i]? = some x, fun i H => ∃ xs : List V, SqT K H a xs ∧ xs.length ≤ i⟩
theorem turn_enumT {P : Program} {w : World} {K : PySem.W.Frag} {elts : List Expr} {kk : Nat} {tpos : Pos} (a e it : Addr) :
    Turn P w K (.Tuple elts kk tpos) (IteT K a) [e, it] e (fun i h => (∃ old, IsEnum h e it ((i : Nat) : Int) old) ∧ h.IsTupleIter it a i ∧ e ≠ it) where
  mem := by simp
  obj := fun i h st b hb => by
    obtain ⟨⟨old, he⟩, ⟨o, ho, hc, hd⟩, _⟩ := st
    have e' : b = e ∨ b = it := by simpa using hb
    rcases e' with z | z
    · rw [z]; exact ⟨_, he, fun v q => nomatch q⟩
    · rw [z]; exact ⟨o, ho, fun v q => by rw [hd] at q; cases q⟩
  keep := fun i h h' st k => let ⟨⟨old, he⟩, hi, hne⟩ := st; ⟨⟨old, k e (by simp) _ he⟩, (let ⟨o, q, r⟩ := hi; ⟨o, k it (by simp) o q, r⟩), hne⟩
  item := by
    intro X hP hw hK hc i pins s σ H E I hf st hg
    subst hP hw hK
    obtain ⟨⟨old, he⟩, hit, hne⟩ := st
    obtain ⟨xs, x, hq, hx⟩ := hg
    obtain ⟨its, rv, p, hz⟩ := I.tuple hq
    obtain ⟨u, hu, ru⟩ := rv.get hx
    have hel : e < s.heap.objs.size := Heap.lt_size he
    have hil : it < s.heap.objs.size := by obtain ⟨_, q, _⟩ := hit; exact Heap.lt_size q
    refine nextT_item he hit (show s.heap.IsTuple a its.toArray from p) (x := u) (by simpa using hu) hne fun h' ho hit' hT hsz hk => ?_
    refine ⟨_, rfl, wpAny_letOwnedTupleGo_enum (s := { s with heap := h', toks := s.toks + 1 }) ho fun h'' he' sb => ?_⟩
    have hT2 : h''.get? s.heap.objs.size = some { cls := .type "tuple", data := .seq #[.int i s.toks, u] } := (sb.2 _ (Nat.ne_of_gt hel)).trans hT
    have new : ObjOk X.prog X.w (upd H s.heap.objs.size (.tup [.int (i : Nat), x])) h'' s.heap.objs.size (.tup [.int (i : Nat), x]) :=
      ⟨by show 2 ≤ sizeLine; decide, [.int i s.toks, u], .cons ⟨_, rfl⟩ (.cons ru .nil), ⟨_, hT2, rfl, _, rfl⟩⟩
    have I1 : Inv X pins σ (upd H s.heap.objs.size (.tup [.int (i : Nat), x])) { s with heap := h'', toks := s.toks + 1 } :=
      I.turnedNew (ch := [e, it]) (fun b ob hb q => (sb.2 b (fun z => hb (by simp [z]))).trans (hk b ob (fun z => hb (by simp [z])) (fun z => hb (by simp [z])) q)) hf (Nat.le_refl _) new
    refine ⟨.ref s.heap.objs.size, _, I1, rfl, ⟨_, x, rfl, I.hok.fresh (Nat.le_refl _), rfl, fun ys hy => by rw [I.tuple_inj hy hq]; exact hx⟩, ⟨⟨u, ?_⟩, (let ⟨o, q, r⟩ := hit'; ⟨o, (sb.2 it (Ne.symm hne)).trans q, r⟩), hne⟩, fun b hb => ?_⟩
    · have e1 : ((i + 1 : Nat) : Int) = (i : Int) + 1 := by omega
      rw [e1]; exact he'
    · have hb' : b < s.heap.objs.size := by
        have e' : b = e ∨ b = it := by simpa using hb
        rcases e' with z | z
        · rw [z]; exact hel
        · rw [z]; exact hil
      rw [upd_ne (Nat.ne_of_lt hb')]
      exact (hf b hb).1
  done := by
    intro X hP hw hK hc i pins s σ H E I hf st hg
    subst hP hw hK
    obtain ⟨⟨old, he⟩, hit, hne⟩ := st
    obtain ⟨xs, hq, hx⟩ := hg
    obtain ⟨its, rv, p, hz⟩ := I.tuple hq
    obtain ⟨f0, f1, f2, f3, f4, f5⟩ := hf it (by simp)
    have hl := rv.length
    exact nextT_end (I.ok.hd hc) he hit (show s.heap.IsTuple a its.toArray from p) (by simp; omega) fun h' eb => ⟨rfl, I.turned (t' := s.toks) (fun b o hb q => eb b o hb q) f0 f1 f3 f4 f5⟩
  self := fun A i s Q E st h => let ⟨⟨_, he⟩, _⟩ := st; wpAny_pyIter_enum he h
def iEnumT (K : PySem.W.Frag) (ta : TA) : TI := fun σ H R => ta σ H fun vs H1 => ∃ a xs, vs = [.ref a] ∧ SqT K H1 a xs ∧ R (IteT K a) H1
theorem pi_enumT {X : Cx} {e : Expr} {ta : TA} {p pos tpos : Pos} {elts : List Expr} {kk : Nat} (hg : Gl X "enumerate") (hm : X.mg "enumerate" = none) (ha : PA X [e] ta) (hs : starEach [e] X.env = [(false, eval e X.env)] := by rfl) :
    PI X (.Tuple elts kk tpos) (.Call (.Name "enumerate" p) [e] [] pos) (iEnumT X.K ta) := by
  refine ⟨fun pins s σ H R I h => ?_⟩
  refine Call_ (ld_blt I hg hm boot_enumerate (PyProof.Rows.callWith_type1 (thn (ha.run pos pins s σ H _ I h) fun us s1 ⟨vs, H1, I1, r1, q1⟩ => ?_) hs rfl))
  obtain ⟨a, xs, ex, hq, q⟩ := q1
  subst ex
  cases r1 with
  | cons r rr =>
    cases rr
    cases r
    obtain ⟨its, rv, p', hz⟩ := I1.tuple hq
    refine call_enumT (show s1.heap.IsTuple a its.toArray from p') fun h' he hit hsz hk => wpAny_pyIter_enum he ?_
    have I2 : Inv X pins σ H1 { s1 with heap := h' } := I1.kept (t' := s1.toks) hk
    refine ⟨s1.heap.objs.size + 1, [s1.heap.objs.size + 1, s1.heap.objs.size], _, _, H1, rfl, I2, turn_enumT a (s1.heap.objs.size + 1) s1.heap.objs.size, ⟨⟨.none, he⟩, hit, Nat.succ_ne_self _⟩, fun b hb => ?_, q⟩
    have e' : b = s1.heap.objs.size + 1 ∨ b = s1.heap.objs.size := by simpa using hb
    have hle : s1.heap.objs.size ≤ b := by
      rcases e' with z | z
      · rw [z]; exact Nat.le_add_right _ _
      · rw [z]; exact Nat.le_refl _
    exact I1.fpOk hle (I1.hok.fresh hle)
end K7

/-! K8A: promises packed; a few more rules; data in the heap and what evaluates to it. -/
namespace K7
open PySem PySem.Spec PyProof.Rows L2 Evl

/-! ### promises packed -/
def FnB (P : Program) (w : World) (K : PySem.W.Frag) (mg : Str → Option Value) (base : Heap) (k : Nat) (f : Addr) (ps : List Str) (sp : Sp) : Prop := ∃ fd, FnOk P w K mg base (L2.CX P w) k f fd ps sp ∧ Binds K fd ps []
theorem FnB.r {P : Program} {w : World} {K : PySem.W.Frag} {mg : Str → Option Value} {base : Heap} {k : Nat} {f : Addr} {ps : List Str} {sp : Sp} (F : FnB P w K mg base k f ps sp) : FnR P w K mg base (L2.CX P w) k f sp := by
  obtain ⟨fd, F, b⟩ := F
  exact (F.raw b .nil).imp fun vs H Q E h => by rw [List.append_nil]; exact h
theorem FnB.mono {P : Program} {w : World} {K : PySem.W.Frag} {mg : Str → Option Value} {base : Heap} {j k : Nat} {f : Addr} {ps : List Str} {sp : Sp} (F : FnB P w K mg base j f ps sp) (h : j ≤ k) : FnB P w K mg base k f ps sp := by
  obtain ⟨fd, F, b⟩ := F
  exact ⟨fd, ⟨F.len, fun A outer s H args us vs Q E hr => F.run A outer s H args us vs Q E (hr.mono h)⟩, b⟩
section
variable {X : Cx} {k : Nat} {f C p g : Addr} {sp : Sp} {E : XK} {x m : Str} {o e : Expr} {es : List Expr} {ps : List Str} {ta te : TE} {t : TA} {p0 apos pos : Pos}
/-- a module's constant -/
theorem pe_globE {v : V} (hg : Gl X x) (hm : ∃ u, X.mg x = some u ∧ RelV v u) (hd : (x == ("__debug__" : Str)) = false := by decide) : PE X (.Name x pos) (tC v) := by
  obtain ⟨u, h1, h2⟩ := hm
  exact pe_glob hg h1 h2 hd
theorem pe_propB {fn : Str} (he : PE X e ta) (c : Cls X.K C) (hp : PropOf X.K C fn p g) (F : FnB X.prog X.w X.K X.mg X.base k g ps sp) (hr : Room (k + 1) X.A) (hab : attributeBase e fn X.env (eval e X.env) = eval e X.env) :
    PE X (.Attribute e fn pos) (tProp C sp [] E0 ta) := by
  obtain ⟨fd, F, b⟩ := F
  exact pe_prop he c hp F hr b .nil passL hab
theorem pmk_oexB {fI : Addr} (T : OexC X.K C) (iC : PySem.W.findIn X.K (.ref C) "__init__" = some (some (.ref fI)) ∧ PySem.W.typeIn X.K (.ref fI) = some (.type "function")) (F1 : FnB X.prog X.w X.K X.mg X.base k fI ps sp) (hr : Room (k + 1) X.A)
    (hx : Passes (L2.CX X.prog X.w) X (fun _ _ _ => False)) (hg : Gl X x) (hm : X.mg x = some (.ref C)) (ha : PA X (e :: es) t)
    (hdb : (x == ("__debug__" : Str)) = false := by decide) (he : starEach (e :: es) X.env = (false, eval e X.env) :: starEach es X.env := by rfl) (hpl : (backTo pos (starEach es X.env)).any (·.1) = false := by rfl) :
    PMk X (.Call (.Name x p0) (e :: es) [] pos) (tMkO C sp [] t) := by
  obtain ⟨fd, F, b⟩ := F1
  exact pmk_oex T iC.1 iC.2 F hr b .nil hx hg hm ha hdb he hpl
/-- f(e, ..) in a try: what is raised is wished for at the slots -/
theorem pe_callRS {E : L2.St → XK} (F : FnR X.prog X.w X.K X.mg X.base (L2.CX X.prog X.w) k f sp) (hr : Room k X.A) (hk : PySem.W.keepIn X.K (.ref f) = true) (hg : Gl X x) (hm : X.mg x = some (.ref f)) (hx : ∀ σ, PassesAt (L2.CX X.prog X.w) X σ (E σ)) (ha : PA X (e :: es) t) (hd : (x == ("__debug__" : Str)) = false := by decide)
    (he : starEach (e :: es) X.env = (false, eval e X.env) :: starEach es X.env := by rfl) (hpl : (backTo pos (starEach es X.env)).any (·.1) = false := by rfl) :
    PE X (.Call (.Name x p0) (e :: es) [] pos) (fun σ H Q => t σ H fun vs H1 => sp vs H1 Q (E σ)) := by
  refine ⟨fun pins s σ H Q I h => ?_⟩
  refine wpAny_Call_Name_kw (ld_glob I hg hm ?_ hd)
  refine PySem.W.callWith_K (h₀ := X.base) I.ok.mod.kin hk (thn (ha.run pos pins s σ H _ I h) fun us s1 ⟨vs, H1, I1, r, q⟩ => ⟨I1.kIn, ?_⟩) he hpl
  refine wpAny_call (codeAny_mono (F X.A X.stack s1 H1 us vs Q (E σ) hr I1.env0 r q) fun r s' hq => ?_)
  cases r with
  | error e => exact hx σ pins H1 s1 e s' I1 hq
  | ok fl =>
    cases fl with
    | ret u => exact I1.after hq
    | next => exact False.elim hq
    | brk => exact False.elim hq
    | cont => exact False.elim hq
theorem repl_size (a : Array Nat) : ∀ (k : Nat) (acc : Array Nat), ((List.replicate k a).foldl (· ++ ·) acc).size = acc.size + k * a.size
  | 0, acc => by simp
  | k + 1, acc => by
    rw [List.replicate_succ, List.foldl_cons, repl_size a k, Array.size_append, Nat.succ_mul]
    omega
/-- s * n -/
theorem op_repStr : OpR X (binaryOp .Mult) (fun x y H Q => ∃ z n, x = .str z ∧ y = .int n ∧ 1 ≤ n ∧ n ≤ 1000 ∧ z.length ≤ 1000 ∧ (∀ z', z'.cps = (List.replicate n.toNat z.cps).foldl (· ++ ·) #[] → Q (.str z') H)) := by
  intro pins s σ H x y v u Q I rx ry h
  obtain ⟨z, n, rfl, rfl, h1, h2, h3, q⟩ := h
  obtain ⟨t, rfl⟩ := (show ∃ t, v = Value.str z t from rx)
  obtain ⟨t', rfl⟩ := (show ∃ t, u = Value.int n t from ry)
  refine P.mul_str (by simp; omega) (fun _ _ => ?_) (fun _ _ => ?_) ?_
  · have : n ≤ (2 ^ 63 - 1) / 1 := by omega
    have h4 : (1000 : Int) ≤ (2 ^ 63 - 1) / n := by
      rw [Int.le_ediv_iff_mul_le (by omega)]
      omega
    have h5 : (z.length : Int) ≤ 1000 := by exact_mod_cast h3
    omega
  · have : z.length * n.toNat ≤ 1000 * 1000 := Nat.mul_le_mul h3 (by omega)
    unfold Builtin.Str.tooLong
    simp only [decide_eq_false_iff_not, Nat.not_lt, gt_iff_lt, sizeLine_eq]
    omega
  · rw [if_neg (by omega)]
    by_cases hc : (n == 1 || z.length == 0) = true
    · rw [if_pos hc]
      refine ⟨.str z, H, I, ⟨t, rfl⟩, q z ?_⟩
      simp only [Bool.or_eq_true, beq_iff_eq] at hc
      rcases hc with hc | hc
      · subst hc
        simp
      · have e0 : z.cps = #[] := Array.eq_empty_of_size_eq_zero hc
        rw [e0]
        have : ∀ k : Nat, (List.replicate k (#[] : Array Nat)).foldl (· ++ ·) #[] = #[] := fun k => by
          induction k with
          | zero => rfl
          | succ k ih => rw [List.replicate_succ, List.foldl_cons]; simpa using ih
        exact (this _).symm
    · rw [if_neg hc]
      refine ⟨?_, .str _, H, I.tok _, ⟨_, rfl⟩, q _ rfl⟩
      show ((List.replicate n.toNat z.cps).foldl (· ++ ·) #[]).size ≤ sizeLine
      rw [repl_size]
      have : n.toNat * z.cps.size ≤ 1000 * 1000 := Nat.mul_le_mul (by omega) h3
      rw [sizeLine_eq]
      simp only [List.size_toArray, List.length_nil, Nat.zero_add]
      omega
/-- len of a dict, locked or not -/
theorem call_lenR : CallR X (.builtin "len") (fun xs H Q => ∃ a kvs, xs = [V.ref a] ∧ Rd H a (.dK kvs) ∧ Q (.int kvs.length) H) := by
  intro pins s σ H xs us Q I r h
  obtain ⟨a, kvs, rfl, ha, q⟩ := h
  obtain ⟨u, rfl, ru⟩ := r.one
  cases ru
  exact d_len I ha fun t s' I' => ⟨.int kvs.length, H, I', ⟨t, rfl⟩, q⟩
/-- o.f as a target -/
def gFld (K : PySem.W.Frag) (to : TE) (f : Str) : TG := fun v σ H Q => to σ H fun o H1 => ∃ a C dx fs, o = .ref a ∧ H1 a = some (.ins C dx fs) ∧ Cls K C ∧ NoAttr K C f ∧ fs.length < 1000 ∧ Q σ (upd H1 a (.ins C dx (putF f v fs)))
theorem pg_fld {fn : Str} (ho : PE X o te) : PG X (.Attribute o fn pos) (gFld X.K te fn) := by
  refine ⟨fun pins s σ H v u Q I r h => ?_⟩
  rw [assign_Attribute]
  refine wpAny_bind (wpAny_holding (thn (ho.run pins s σ H _ I h) fun ov s1 ⟨x, H1, I1, r1, a, C, dx, fs, ex, ea, c, n, l, q⟩ => ?_))
  subst ex
  obtain rfl : ov = Value.ref a := r1
  refine wpAny_bind (wpAny_standAt (wpAny_bind (wpAny_holding (setattr_ok I1 ea c n l r fun s3 I3 => ?_))))
  exact wpAny_release ⟨σ, _, I3, q⟩
end

/-! ### data in the heap -/
mutual
inductive Dq (H : Hp) : V → PyData → Prop
  | non : Dq H .non .none
  | bl (b : Bool) : Dq H (.bl b) (.bool b)
  | int (i : Int) : Dq H (.int i) (.int i)
  | str (x : Str) : Dq H (.str x) (.str x)
  | lst {a : Addr} {xs : List V} {ds : List PyData} : H a = some (.lst xs) → DqAll H xs ds → Dq H (.ref a) (.list ds)
  | tup {a : Addr} {xs : List V} {ds : List PyData} : H a = some (.tup xs) → DqAll H xs ds → Dq H (.ref a) (.tuple ds)
inductive DqAll (H : Hp) : List V → List PyData → Prop
  | nil : DqAll H [] []
  | cons {v : V} {vs : List V} {d : PyData} {ds : List PyData} : Dq H v d → DqAll H vs ds → DqAll H (v :: vs) (d :: ds)
end
mutual
theorem Dq.ex {H H' : Hp} (e : Ex H H') : ∀ {d : PyData} {v : V}, Dq H v d → Dq H' v d
  | .none, _, .non => .non
  | .bool _, _, .bl b => .bl b
  | .int _, _, .int i => .int i
  | .str _, _, .str x => .str x
  | .list ds, _, .lst h a => .lst (e _ _ h) (DqAll.ex e a)
  | .tuple ds, _, .tup h a => .tup (e _ _ h) (DqAll.ex e a)
theorem DqAll.ex {H H' : Hp} (e : Ex H H') : ∀ {ds : List PyData} {vs : List V}, DqAll H vs ds → DqAll H' vs ds
  | [], _, .nil => .nil
  | _ :: _, _, .cons a b => .cons (Dq.ex e a) (DqAll.ex e b)
end
mutual
theorem Dq.dp {K : PySem.W.Frag} {H : Hp} : ∀ {d : PyData} {v : V}, Dq H v d → Dp K H v d
  | .none, _, .non => .non
  | .bool _, _, .bl b => .bl b
  | .int _, _, .int i => .int i
  | .str _, _, .str x => .str x
  | .list ds, _, .lst h a => .lst (.inl (.inl h)) (DqAll.dp a)
  | .tuple ds, _, .tup h a => .tup (.inl (.inl h)) (DqAll.dp a)
theorem DqAll.dp {K : PySem.W.Frag} {H : Hp} : ∀ {ds : List PyData} {vs : List V}, DqAll H vs ds → DpAll K H vs ds
  | [], _, .nil => .nil
  | _ :: _, _, .cons a b => .cons (Dq.dp a) (DqAll.dp b)
end
section
variable {H : Hp} {v : V} {vs : List V} {d : PyData} {ds : List PyData}
theorem Dq.int_inv {i : Int} (h : Dq H v (.int i)) : v = .int i := by cases h; rfl
theorem Dq.str_inv {x : Str} (h : Dq H v (.str x)) : v = .str x := by cases h; rfl
theorem Dq.bl_inv {b : Bool} (h : Dq H v (.bool b)) : v = .bl b := by cases h; rfl
theorem Dq.non_inv (h : Dq H v .none) : v = .non := by cases h; rfl
theorem Dq.lst_inv (h : Dq H v (.list ds)) : ∃ a xs, v = .ref a ∧ H a = some (.lst xs) ∧ DqAll H xs ds := by cases h with | lst h a => exact ⟨_, _, rfl, h, a⟩
theorem Dq.tup_inv (h : Dq H v (.tuple ds)) : ∃ a xs, v = .ref a ∧ H a = some (.tup xs) ∧ DqAll H xs ds := by cases h with | tup h a => exact ⟨_, _, rfl, h, a⟩
theorem DqAll.len : ∀ {vs : List V} {ds : List PyData}, DqAll H vs ds → vs.length = ds.length
  | _, _, .nil => rfl
  | _, _, .cons _ b => congrArg Nat.succ (DqAll.len b)
theorem DqAll.get : ∀ {vs : List V} {ds : List PyData} {i : Nat} {d : PyData}, DqAll H vs ds → ds[i]? = some d → ∃ v, vs[i]? = some v ∧ Dq H v d
  | _, _, _, _, .nil, e => by simp at e
  | _, _, 0, _, .cons a _, e => by simp at e; subst e; exact ⟨_, rfl, a⟩
  | _, _, i + 1, d, .cons _ b, e => by
    obtain ⟨v, h1, h2⟩ := DqAll.get (i := i) (d := d) b (by simpa using e)
    exact ⟨v, by simpa using h1, h2⟩
theorem DqAll.getV : ∀ {vs : List V} {ds : List PyData} {i : Nat} {v : V}, DqAll H vs ds → vs[i]? = some v → ∃ d, ds[i]? = some d ∧ Dq H v d
  | _, _, _, _, .nil, e => by simp at e
  | _, _, 0, _, .cons a _, e => by simp at e; subst e; exact ⟨_, rfl, a⟩
  | _, _, i + 1, v, .cons _ b, e => by
    obtain ⟨d, h1, h2⟩ := DqAll.getV (i := i) (v := v) b (by simpa using e)
    exact ⟨d, by simpa using h1, h2⟩
theorem DqAll.app : ∀ {vs ws : List V} {ds es : List PyData}, DqAll H vs ds → DqAll H ws es → DqAll H (vs ++ ws) (ds ++ es)
  | _, _, _, _, .nil, b => b
  | _, _, _, _, .cons a c, b => .cons a (DqAll.app c b)
theorem DqAll.take : ∀ {vs : List V} {ds : List PyData} (n : Nat), DqAll H vs ds → DqAll H (vs.take n) (ds.take n)
  | _, _, 0, _ => .nil
  | _, _, _ + 1, .nil => .nil
  | _, _, n + 1, .cons a b => .cons a (DqAll.take n b)
theorem DqAll.drop : ∀ {vs : List V} {ds : List PyData} (n : Nat), DqAll H vs ds → DqAll H (vs.drop n) (ds.drop n)
  | _, _, 0, h => h
  | _, _, _ + 1, .nil => .nil
  | _, _, n + 1, .cons _ b => DqAll.drop n b
theorem DqAll.ints : ∀ {vs : List V} {is : List Int}, DqAll H vs (is.map .int) → vs = is.map V.int
  | [], [], _ => rfl
  | v :: vs, i :: is, .cons a b => by rw [a.int_inv, DqAll.ints b]; rfl
theorem DqAll.of_ints : ∀ (is : List Int), DqAll H (is.map V.int) (is.map .int)
  | [] => .nil
  | i :: is => .cons (.int i) (DqAll.of_ints is)
theorem DqAll.strs : ∀ {vs : List V} {is : List Str}, DqAll H vs (is.map .str) → vs = is.map V.str
  | [], [], _ => rfl
  | v :: vs, i :: is, .cons a b => by rw [a.str_inv, DqAll.strs b]; rfl
theorem DqAll.of_strs : ∀ (is : List Str), DqAll H (is.map V.str) (is.map .str)
  | [] => .nil
  | i :: is => .cons (.str i) (DqAll.of_strs is)
end
end K7

/-! K8B: what evaluates to which data (EvD, EvF, EvDs), and statements told by it. -/
namespace K7
open PySem PySem.Spec PyProof.Rows L2 Evl

/-- te gives data d, what was known stays -/
def EvD (te : TE) (σ : L2.St) (H : Hp) (d : PyData) : Prop := ∀ H1, Ex H H1 → ∀ Q : VK, (∀ v H2, Ex H1 H2 → Dq H2 v d → Q v H2) → te σ H1 Q
/-- te gives a new list -/
def EvF (te : TE) (σ : L2.St) (H : Hp) (ds : List PyData) : Prop := ∀ H1, Ex H H1 → ∀ Q : VK, (∀ p xs H2, Ex H1 H2 → H1 p = none → H2 p = some (.lst xs) → DqAll H2 xs ds → Q (.ref p) H2) → te σ H1 Q
def EvDs (ta : TA) (σ : L2.St) (H : Hp) (ds : List PyData) : Prop := ∀ H1, Ex H H1 → ∀ Q : List V → Hp → Prop, (∀ vs H2, Ex H1 H2 → DqAll H2 vs ds → Q vs H2) → ta σ H1 Q
/-- the promise's end: data -/
def RetD (d : PyData) (H : Hp) (Q : VK) : Prop := ∀ v H2, Ex H H2 → Dq H2 v d → Q v H2
theorem RetD.mono {d : PyData} {H H' : Hp} {Q : VK} (k : RetD d H Q) (e : Ex H H') : RetD d H' Q := fun v H2 e2 h => k v H2 (e.trans e2) h

section
variable {K : PySem.W.Frag} {σ : L2.St} {H H' : Hp} {ta tb te tc : TE} {t u : TT} {d d1 d2 : PyData} {ds es : List PyData} {v : V} {b c : Bool} {i j : Int} {x y : Str}
theorem EvD.mono (e : Ex H H') (h : EvD te σ H d) : EvD te σ H' d := fun H1 a Q q => h H1 (e.trans a) Q q
theorem EvDs.mono {ta : TA} (e : Ex H H') (h : EvDs ta σ H ds) : EvDs ta σ H' ds := fun H1 a Q q => h H1 (e.trans a) Q q
theorem EvF.mono (e : Ex H H') (h : EvF te σ H ds) : EvF te σ H' ds := fun H1 a Q q => h H1 (e.trans a) Q q
theorem EvF.toD (h : EvF te σ H ds) : EvD te σ H (.list ds) := fun H1 e Q q => h H1 e Q fun p xs H2 e2 _ hp hd => q _ H2 e2 (.lst hp hd)
theorem ed_var {n : Nat} (h : σ[n]? = some (some v)) (hd : Dq H v d) : EvD (tVar n) σ H d := fun H1 e _ q => ⟨v, h, q v H1 (Ex.refl H1) (hd.ex e)⟩
theorem ed_c (hd : ∀ H, Dq H v d) : EvD (tC v) σ H d := fun H1 _ _ q => q v H1 (Ex.refl H1) (hd H1)
theorem ed_i : EvD (tC (.int i)) σ H (.int i) := ed_c fun _ => .int i
theorem ed_s : EvD (tC (.str x)) σ H (.str x) := ed_c fun _ => .str x
theorem ed_b : EvD (tC (.bl b)) σ H (.bool b) := ed_c fun _ => .bl b
theorem ed_n : EvD (tC .non) σ H .none := ed_c fun _ => .non
theorem ed_I0 {g : Int → Int → V} (ha : EvD ta σ H (.int i)) (hb : EvD tb σ H (.int j)) (hd : ∀ H, Dq H (g i j) d) : EvD (tOp (rI0 g) ta tb) σ H d := fun H1 e Q q =>
  ha H1 e _ fun v1 H2 e2 h1 => hb H2 (e.trans e2) _ fun v2 H3 e3 h2 => ⟨i, j, h1.int_inv, h2.int_inv, q _ H3 (e2.trans e3) (hd H3)⟩
theorem ed_I {C : Int → Int → Prop} {g : Int → Int → V} (ha : EvD ta σ H (.int i)) (hb : EvD tb σ H (.int j)) (hc : C i j) (hd : ∀ H, Dq H (g i j) d) : EvD (tOp (rI C g) ta tb) σ H d := fun H1 e Q q =>
  ha H1 e _ fun v1 H2 e2 h1 => hb H2 (e.trans e2) _ fun v2 H3 e3 h2 => ⟨i, j, h1.int_inv, h2.int_inv, hc, q _ H3 (e2.trans e3) (hd H3)⟩
theorem ed_add (ha : EvD ta σ H (.int i)) (hb : EvD tb σ H (.int j)) : EvD (tOp (rI0 fun i j => .int (i + j)) ta tb) σ H (.int (i + j)) := ed_I0 ha hb fun _ => .int _
theorem ed_sub (ha : EvD ta σ H (.int i)) (hb : EvD tb σ H (.int j)) : EvD (tOp (rI0 fun i j => .int (i - j)) ta tb) σ H (.int (i - j)) := ed_I0 ha hb fun _ => .int _
theorem ed_lt (ha : EvD ta σ H (.int i)) (hb : EvD tb σ H (.int j)) : EvD (tOp (rI0 fun i j => .bl (decide (i < j))) ta tb) σ H (.bool (decide (i < j))) := ed_I0 ha hb fun _ => .bl _
theorem ed_le (ha : EvD ta σ H (.int i)) (hb : EvD tb σ H (.int j)) : EvD (tOp (rI0 fun i j => .bl (decide (i ≤ j))) ta tb) σ H (.bool (decide (i ≤ j))) := ed_I0 ha hb fun _ => .bl _
theorem ed_gt (ha : EvD ta σ H (.int i)) (hb : EvD tb σ H (.int j)) : EvD (tOp (rI0 fun i j => .bl (decide (j < i))) ta tb) σ H (.bool (decide (j < i))) := ed_I0 ha hb fun _ => .bl _
theorem ed_ge (ha : EvD ta σ H (.int i)) (hb : EvD tb σ H (.int j)) : EvD (tOp (rI0 fun i j => .bl (decide (j ≤ i))) ta tb) σ H (.bool (decide (j ≤ i))) := ed_I0 ha hb fun _ => .bl _
theorem ed_mod (ha : EvD ta σ H (.int i)) (hb : EvD tb σ H (.int j)) (hc : 0 < j) : EvD (tOp (rI (fun _ j => 0 < j) fun i j => .int (i % j)) ta tb) σ H (.int (i % j)) := ed_I ha hb hc fun _ => .int _
theorem ed_modN (ha : EvD ta σ H (.int i)) (hb : EvD tb σ H (.int j)) (hc : 0 < j) : EvD (tOp (rI (fun _ j => j ≠ 0) fun i j => .int (i.fmod j)) ta tb) σ H (.int (i % j)) :=
  ed_I ha hb (by omega) fun _ => by rw [← Int.fmod_eq_emod_of_nonneg i (by omega)]; exact .int _
theorem ed_div (ha : EvD ta σ H (.int i)) (hb : EvD tb σ H (.int j)) (hc : 0 < j ∧ j < 1073741824) : EvD (tOp (rI CDiv fun i j => .int (i / j)) ta tb) σ H (.int (i / j)) := ed_I ha hb hc fun _ => .int _
theorem ed_divW (ha : EvD ta σ H (.int i)) (hb : EvD tb σ H (.int j)) (hc : CDivW i j) : EvD (tOp (rI CDivW fun i j => .int (i / j)) ta tb) σ H (.int (i / j)) := ed_I ha hb hc fun _ => .int _
theorem ed_mul (ha : EvD ta σ H (.int i)) (hb : EvD tb σ H (.int j)) (hc : CMul i j) : EvD (tOp (rI CMul fun i j => .int (i * j)) ta tb) σ H (.int (i * j)) := ed_I ha hb hc fun _ => .int _
theorem ed_neg (ha : EvD ta σ H (.int i)) : EvD (tUn (rU fun i => .int (-i)) ta) σ H (.int (-i)) := fun H1 e Q q => ha H1 e _ fun v1 H2 e2 h1 => ⟨i, h1.int_inv, q _ H2 e2 (.int _)⟩
theorem ed_addS (ha : EvD ta σ H (.str x)) (hb : EvD tb σ H (.str y)) (hl : x.length + y.length ≤ 100000) : EvD (tOp (fun x y H Q => ∃ i j, x = .str i ∧ y = .str j ∧ i.length + j.length ≤ sizeLine ∧ Q (.str (i ++ j)) H) ta tb) σ H (.str (x ++ y)) := fun H1 e Q q =>
  ha H1 e _ fun v1 H2 e2 h1 => hb H2 (e.trans e2) _ fun v2 H3 e3 h2 => ⟨x, y, h1.str_inv, h2.str_inv, sz_of hl, q _ H3 (e2.trans e3) (.str _)⟩
/-- scalars compared -/
def scd : PyData → PyData → Bool
  | .none, .none => true | .none, .int _ => true | .int _, .none => true | .none, .str _ => true | .str _, .none => true
  | .int _, .int _ => true | .str _, .str _ => true | .bool _, .bool _ => true | _, _ => false
def eqd : PyData → PyData → Bool
  | .none, .none => true | .int i, .int j => decide (i = j) | .str x, .str y => decide (x = y) | .bool a, .bool b => decide (a = b) | _, _ => false
theorem scd_ok {H1 H2 : Hp} {v w : V} (hs : scd d1 d2 = true) (h1 : Dq H1 v d1) (h2 : Dq H2 w d2) : scal v w = true ∧ decide (v = w) = eqd d1 d2 := by
  cases h1 <;> cases h2 <;> first | (simp [scd] at hs; done) | (refine ⟨rfl, ?_⟩; simp [eqd])
theorem ed_eq (ha : EvD ta σ H d1) (hb : EvD tb σ H d2) (hs : scd d1 d2 = true) : EvD (tOp rEq ta tb) σ H (.bool (eqd d1 d2)) := fun H1 e Q q =>
  ha H1 e _ fun v1 H2 e2 h1 => hb H2 (e.trans e2) _ fun v2 H3 e3 h2 => ⟨(scd_ok hs h1 h2).1, by rw [(scd_ok hs h1 h2).2]; exact q _ H3 (e2.trans e3) (.bl _)⟩
theorem ed_ne (ha : EvD ta σ H d1) (hb : EvD tb σ H d2) (hs : scd d1 d2 = true) : EvD (tOp rNe ta tb) σ H (.bool (!eqd d1 d2)) := fun H1 e Q q =>
  ha H1 e _ fun v1 H2 e2 h1 => hb H2 (e.trans e2) _ fun v2 H3 e3 h2 => ⟨(scd_ok hs h1 h2).1, by rw [(scd_ok hs h1 h2).2]; exact q _ H3 (e2.trans e3) (.bl _)⟩
def isN : PyData → Bool
  | .none => true | _ => false
theorem isN_ok {H1 : Hp} (h : Dq H1 v d) : decide (v = .non) = isN d := by cases h <;> simp [isN]
theorem ed_isN (ha : EvD ta σ H d) : EvD (tOp (fun x y H Q => y = V.non ∧ Q (V.bl (decide (x = V.non))) H) ta (tC .non)) σ H (.bool (isN d)) := fun H1 e Q q =>
  ha H1 e _ fun v1 H2 e2 h1 => ⟨rfl, by rw [isN_ok h1]; exact q _ H2 e2 (.bl _)⟩
theorem ed_notN (ha : EvD ta σ H d) : EvD (tOp (fun x y H Q => y = V.non ∧ Q (V.bl (!decide (x = V.non))) H) ta (tC .non)) σ H (.bool (!isN d)) := fun H1 e Q q =>
  ha H1 e _ fun v1 H2 e2 h1 => ⟨rfl, by rw [isN_ok h1]; exact q _ H2 e2 (.bl _)⟩
/-- subscripts -/
theorem ed_ixL (ha : EvD ta σ H (.list ds)) (hb : EvD tb σ H (.int i)) (h : atI ds i = some d) : EvD (tOp (rIxL K) ta tb) σ H d := fun H1 e Q q =>
  ha H1 e _ fun v1 H2 e2 h1 => hb H2 (e.trans e2) _ fun v2 H3 e3 h2 => by
    obtain ⟨a, xs, rfl, hx, hl⟩ := h1.lst_inv
    unfold atI at h
    cases hk : ixN ds.length i with
    | none => rw [hk] at h; cases h
    | some k =>
      rw [hk] at h
      obtain ⟨v, hv, hd⟩ := (hl.ex e3).get (show ds[k]? = some d from h)
      exact ⟨a, xs, i, v, rfl, h2.int_inv, sq_of (e3 _ _ hx), by unfold atI; rw [hl.len, hk]; exact hv, q v H3 (e2.trans e3) hd⟩
theorem ed_ixU (ha : EvD ta σ H (.tuple ds)) (hb : EvD tb σ H (.int i)) (h : atI ds i = some d) : EvD (tOp (rIxT K) ta tb) σ H d := fun H1 e Q q =>
  ha H1 e _ fun v1 H2 e2 h1 => hb H2 (e.trans e2) _ fun v2 H3 e3 h2 => by
    obtain ⟨a, xs, rfl, hx, hl⟩ := h1.tup_inv
    unfold atI at h
    cases hk : ixN ds.length i with
    | none => rw [hk] at h; cases h
    | some k =>
      rw [hk] at h
      obtain ⟨v, hv, hd⟩ := (hl.ex e3).get (show ds[k]? = some d from h)
      exact ⟨a, xs, i, v, rfl, h2.int_inv, st_of (e3 _ _ hx), by unfold atI; rw [hl.len, hk]; exact hv, q v H3 (e2.trans e3) hd⟩
theorem ed_ixS {c : Nat} (ha : EvD ta σ H (.str x)) (hb : EvD tb σ H (.int i)) (hl : x.length ≤ 100000) (h : atI x.cps.toList i = some c) : EvD (tOp rIxS ta tb) σ H (.str ⟨#[c]⟩) := fun H1 e Q q =>
  ha H1 e _ fun v1 H2 e2 h1 => hb H2 (e.trans e2) _ fun v2 H3 e3 h2 => ⟨x, i, c, h1.str_inv, h2.int_inv, sz_of hl, h, q _ H3 (e2.trans e3) (.str _)⟩
/-- displays -/
theorem eds_nil : EvDs tNil σ H [] := fun H1 _ _ q => q [] H1 (Ex.refl H1) .nil
theorem eds_cons {tr : TA} (h : EvD ta σ H d) (hr : EvDs tr σ H ds) : EvDs (tCons ta tr) σ H (d :: ds) := fun H1 e _ q =>
  h H1 e _ fun v H2 e2 h2 => hr H2 (e.trans e2) _ fun vs H3 e3 h3 => q _ H3 (e2.trans e3) (.cons (h2.ex e3) h3)
theorem ed_tup {ta : TA} (h : EvDs ta σ H ds) (hl : ds.length ≤ 100000) : EvD (tTup ta) σ H (.tuple ds) := fun H1 e _ q =>
  h H1 e _ fun vs H2 e2 h2 => ⟨sz_of (by rw [h2.len]; exact hl), fun p hp => q _ _ (e2.trans (Ex.new hp)) (.tup upd_same (h2.ex (Ex.new hp)))⟩
theorem ef_lst {ta : TA} (h : EvDs ta σ H ds) (hl : ds.length ≤ 100000) : EvF (tLst ta) σ H ds := fun H1 e _ q =>
  h H1 e _ fun vs H2 e2 h2 => ⟨sz_of (by rw [h2.len]; exact hl), fun p hp => q p _ _ (e2.trans (Ex.new hp)) (fresh_back e2 hp) upd_same (h2.ex (Ex.new hp))⟩
theorem ef_cat (ha : EvD ta σ H (.list ds)) (hb : EvD tb σ H (.list es)) (hl : ds.length + es.length ≤ 100000) : EvF (tOp rCat ta tb) σ H (ds ++ es) := fun H1 e Q q =>
  ha H1 e _ fun v1 H2 e2 h1 => hb H2 (e.trans e2) _ fun v2 H3 e3 h2 => by
    obtain ⟨a, xs, rfl, hx, hl1⟩ := h1.lst_inv
    obtain ⟨b, ys, rfl, hy, hl2⟩ := h2.lst_inv
    exact ⟨a, b, xs, ys, rfl, rfl, e3 _ _ hx, hy, sz_of (by rw [hl1.len, hl2.len]; exact hl), fun p hp =>
      q p _ _ ((e2.trans e3).trans (Ex.new hp)) (fresh_back (e2.trans e3) hp) upd_same (((hl1.ex e3).app hl2).ex (Ex.new hp))⟩
/-- slices -/
def EvO' (to : TO) (σ : L2.St) (H : Hp) (o : Option Int) : Prop := ∀ H1, Ex H H1 → ∀ Q : Option Int → Hp → Prop, (∀ H2, Ex H1 H2 → Q o H2) → to σ H1 Q
theorem edo_none : EvO' tNoPart σ H none := fun H1 _ _ q => q H1 (Ex.refl H1)
theorem edo_some (h : EvD te σ H (.int i)) : EvO' (tPart te) σ H (some i) := fun H1 e _ q => h H1 e _ fun v H2 e2 h2 => ⟨i, h2.int_inv, q H2 e2⟩
def cutD {α : Type} (xs : List α) (lo hi : Option Int) : List α := List.take (HT.sIx xs.length xs.length hi - HT.sIx xs.length 0 lo) (List.drop (HT.sIx xs.length 0 lo) xs)
theorem cut_ok {vs : List V} {lo hi : Option Int} (h : DqAll H vs ds) : DqAll H (cutV vs lo hi) (cutD ds lo hi) := by
  unfold cutV cutD
  rw [h.len]
  exact (h.drop _).take _
theorem ef_sl {tl th : TO} {lo hi : Option Int} (h : EvD te σ H (.list ds)) (h1 : EvO' tl σ H lo) (h2 : EvO' th σ H hi) : EvF (tSl (rSlL K) te tl th) σ H (cutD ds lo hi) := fun H1 e _ q =>
  h H1 e _ fun v H2 e2 hv => h1 H2 (e.trans e2) _ fun H3 e3 => h2 H3 ((e.trans e2).trans e3) _ fun H4 e4 => by
    obtain ⟨a, xs, rfl, hx, hl⟩ := hv.lst_inv
    exact ⟨a, xs, rfl, sq_of ((e3.trans e4) _ _ hx), fun p hp => q p _ _ (((e2.trans e3).trans e4).trans (Ex.new hp)) (fresh_back ((e2.trans e3).trans e4) hp) upd_same (cut_ok (hl.ex ((e3.trans e4).trans (Ex.new hp))))⟩
theorem ed_slU {tl th : TO} {lo hi : Option Int} (h : EvD te σ H (.tuple ds)) (h1 : EvO' tl σ H lo) (h2 : EvO' th σ H hi) (hn : ¬(HT.sIx ds.length 0 lo = 0 ∧ HT.sIx ds.length ds.length hi = ds.length)) : EvD (tSl (rSlT K) te tl th) σ H (.tuple (cutD ds lo hi)) := fun H1 e _ q =>
  h H1 e _ fun v H2 e2 hv => h1 H2 (e.trans e2) _ fun H3 e3 => h2 H3 ((e.trans e2).trans e3) _ fun H4 e4 => by
    obtain ⟨a, xs, rfl, hx, hl⟩ := hv.tup_inv
    exact ⟨a, xs, rfl, st_of ((e3.trans e4) _ _ hx), by rw [hl.len]; exact hn, fun p hp => q _ _ (((e2.trans e3).trans e4).trans (Ex.new hp)) (.tup upd_same (cut_ok (hl.ex ((e3.trans e4).trans (Ex.new hp)))))⟩
theorem ed_slS {tl th : TO} {lo hi : Option Int} (h : EvD te σ H (.str x)) (h1 : EvO' tl σ H lo) (h2 : EvO' th σ H hi) (hl : x.length ≤ 100000) : EvD (tSl rSlS te tl th) σ H (.str (cutS x lo hi)) := fun H1 e _ q =>
  h H1 e _ fun v H2 e2 hv => h1 H2 (e.trans e2) _ fun H3 e3 => h2 H3 ((e.trans e2).trans e3) _ fun H4 e4 => ⟨x, hv.str_inv, sz_of hl, q _ _ ((e2.trans e3).trans e4) (.str _)⟩
/-- built-in calls -/
theorem ed_cb {r : List V → Hp → VK → Prop} {ta : TA} (h : EvDs ta σ H ds) (hr : ∀ vs H1, Ex H H1 → DqAll H1 vs ds → ∀ Q : VK, RetD d H1 Q → r vs H1 Q) : EvD (tCB r ta) σ H d := fun H1 e Q q =>
  h H1 e _ fun vs H2 e2 h2 => hr vs H2 (e.trans e2) h2 Q fun v H3 e3 h3 => q v H3 (e2.trans e3) h3
theorem ed_call {ta : TA} {sp : Sp} {E : XK} (h : EvDs ta σ H ds) (hr : ∀ vs H1, Ex H H1 → DqAll H1 vs ds → ∀ Q : VK, RetD d H1 Q → sp vs H1 Q E) : EvD (fun σ H Q => ta σ H fun vs H1 => sp vs H1 Q E) σ H d := fun H1 e Q q =>
  h H1 e _ fun vs H2 e2 h2 => hr vs H2 (e.trans e2) h2 Q fun v H3 e3 h3 => q v H3 (e2.trans e3) h3
theorem ed_call0 {sp : Sp} {E : XK} (hr : ∀ H1, Ex H H1 → ∀ Q : VK, RetD d H1 Q → sp [] H1 Q E) : EvD (fun σ H Q => sp [] H Q E) σ H d := fun H1 e Q q => hr H1 e Q fun v H3 e3 h3 => q v H3 e3 h3
theorem ed_lenL {ta : TE} (h : EvD ta σ H (.list ds)) : EvD (tCB (fun xs H Q => ∃ p ys, xs = [V.ref p] ∧ (SqL K H p ys ∨ SqT K H p ys) ∧ Q (V.int ys.length) H) (tCons ta tNil)) σ H (.int ds.length) := fun H1 e Q q =>
  h H1 e _ fun v H2 e2 h2 => by
    obtain ⟨a, xs, rfl, hx, hl⟩ := h2.lst_inv
    exact ⟨a, xs, rfl, .inl (sq_of hx), by rw [hl.len]; exact q _ H2 e2 (.int _)⟩
theorem ed_lenU {ta : TE} (h : EvD ta σ H (.tuple ds)) : EvD (tCB (fun xs H Q => ∃ p ys, xs = [V.ref p] ∧ (SqL K H p ys ∨ SqT K H p ys) ∧ Q (V.int ys.length) H) (tCons ta tNil)) σ H (.int ds.length) := fun H1 e Q q =>
  h H1 e _ fun v H2 e2 h2 => by
    obtain ⟨a, xs, rfl, hx, hl⟩ := h2.tup_inv
    exact ⟨a, xs, rfl, .inr (st_of hx), by rw [hl.len]; exact q _ H2 e2 (.int _)⟩
theorem ed_lenS {ta : TE} (h : EvD ta σ H (.str x)) (hl : x.length ≤ 100000) : EvD (tCB (fun xs H Q => ∃ z, xs = [V.str z] ∧ z.length ≤ sizeLine ∧ Q (V.int z.length) H) (tCons ta tNil)) σ H (.int x.length) := fun H1 e Q q =>
  h H1 e _ fun v H2 e2 h2 => ⟨x, by rw [h2.str_inv], sz_of hl, q _ H2 e2 (.int _)⟩
theorem ed_int1 {ta : TE} (h : EvD ta σ H (.int i)) : EvD (tCB (fun xs H Q => (∃ i, xs = [V.int i] ∧ Q (V.int i) H) ∨ ∃ k, xs = [V.bl k] ∧ Q (V.int (if k = true then 1 else 0)) H) (tCons ta tNil)) σ H (.int i) := fun H1 e Q q =>
  h H1 e _ fun v H2 e2 h2 => .inl ⟨i, by rw [h2.int_inv], q _ H2 e2 (.int _)⟩
theorem ed_min2 {ta tb : TE} (h1 : EvD ta σ H (.int i)) (h2 : EvD tb σ H (.int j)) : EvD (tCB (fun xs H Q => ∃ i j, xs = [V.int i, V.int j] ∧ Q (V.int (if j < i then j else i)) H) (tCons ta (tCons tb tNil))) σ H (.int (if j < i then j else i)) := fun H1 e Q q =>
  h1 H1 e _ fun v H2 e2 hv => h2 H2 (e.trans e2) _ fun w H3 e3 hw => ⟨i, j, by rw [hv.int_inv, hw.int_inv], q _ H3 (e2.trans e3) (.int _)⟩
/-- tests -/
theorem et_D (h : EvD te σ H (.bool b)) : EvT (tTest te) σ H b := fun H1 e _ q => h H1 e _ fun v H2 e2 h2 => ⟨b, h2.bl_inv, q H2 e2⟩
theorem et_DB (h : EvD te σ H (.bool b)) : EvT (tB te) σ H b := fun H1 e _ q => h H1 e _ fun v H2 e2 h2 => ⟨b, h2.bl_inv, q H2 e2⟩
theorem ed_if (h : EvT t σ H b) (h1 : b = true → EvD ta σ H d) (h2 : b = false → EvD tb σ H d) : EvD (tIf t ta tb) σ H d := fun H1 e Q q => h H1 e _ fun H2 e2 => by
  cases b with
  | true => exact h1 rfl H2 (e.trans e2) Q fun v H3 e3 => q v H3 (e2.trans e3)
  | false => exact h2 rfl H2 (e.trans e2) Q fun v H3 e3 => q v H3 (e2.trans e3)
theorem ed_andV (h1 : EvD ta σ H (.bool b)) (h2 : b = true → EvD tb σ H (.bool c)) : EvD (tAndV ta tb) σ H (.bool (b && c)) := fun H1 e Q q => h1 H1 e _ fun v H2 e2 hv => ⟨b, hv.bl_inv, by
  cases b with
  | true => exact h2 rfl H2 (e.trans e2) Q fun v H3 e3 => q v H3 (e2.trans e3)
  | false => exact q _ H2 e2 (.bl false)⟩
theorem ed_orV (h1 : EvD ta σ H (.bool b)) (h2 : b = false → EvD tb σ H (.bool c)) : EvD (tOrV ta tb) σ H (.bool (b || c)) := fun H1 e Q q => h1 H1 e _ fun v H2 e2 hv => ⟨b, hv.bl_inv, by
  cases b with
  | false => exact h2 rfl H2 (e.trans e2) Q fun v H3 e3 => q v H3 (e2.trans e3)
  | true => exact q _ H2 e2 (.bl true)⟩
theorem ed_notV (h1 : EvD ta σ H (.bool b)) : EvD (tNotV ta) σ H (.bool (!b)) := fun H1 e Q q => h1 H1 e _ fun v H2 e2 hv => ⟨b, hv.bl_inv, q _ H2 e2 (.bl _)⟩

/-! ### statements -/
variable {D : Ends} {tu tw tz : TS} {g : TG}
theorem sd_asg {n : Nat} (h : EvD te σ H d) (k : ∀ v H1, Ex H H1 → Dq H1 v d → D.nx (σ.set n (some v)) H1) : tAsg te (gName n) D σ H := h H (Ex.refl H) _ fun v H1 e h1 => k v H1 e h1
theorem qd_asg {n : Nat} (h : EvD te σ H d) (k : ∀ v H1, Ex H H1 → Dq H1 v d → tz D (σ.set n (some v)) H1) : tSeq (tAsg te (gName n)) tz D σ H := sd_asg (D := { D with nx := tz D }) h k
theorem qd_asgI {n : Nat} (h : EvD te σ H (.int i)) (k : ∀ H1, Ex H H1 → tz D (σ.set n (some (.int i))) H1) : tSeq (tAsg te (gName n)) tz D σ H := qd_asg h fun v H1 e hv => by rw [hv.int_inv]; exact k H1 e
theorem qd_asgS {n : Nat} (h : EvD te σ H (.str x)) (k : ∀ H1, Ex H H1 → tz D (σ.set n (some (.str x))) H1) : tSeq (tAsg te (gName n)) tz D σ H := qd_asg h fun v H1 e hv => by rw [hv.str_inv]; exact k H1 e
theorem qd_asgF {n : Nat} (h : EvF te σ H ds) (k : ∀ p xs H1, Ex H H1 → H p = none → H1 p = some (.lst xs) → DqAll H1 xs ds → tz D (σ.set n (some (.ref p))) H1) : tSeq (tAsg te (gName n)) tz D σ H := h H (Ex.refl H) _ fun p xs H1 e hn hp hd => k p xs H1 e hn hp hd
theorem sd_ret {Q : VK} (h : EvD te σ H d) (k : RetD d H Q) {D : Ends} (hD : D.rt = Q) : tRet te D σ H := by
  subst hD
  exact h H (Ex.refl H) _ fun v H1 e hv => k v H1 e hv
theorem sd_if (h : EvT t σ H b) (h1 : b = true → ∀ H1, Ex H H1 → tu D σ H1) (h2 : b = false → ∀ H1, Ex H H1 → tw D σ H1) : tIfS t tu tw D σ H := Evl.s_if h h1 h2
/-- what a walk over list data asks -/
def WalkD (ds : List PyData) (g : TG) (tu : TS) (D : Ends) (σ : L2.St) (H1 : Hp) : Prop := ∃ Pv : Nat → L2.St → Hp → Prop, Pv 0 σ H1 ∧ (∀ i σ' H', Pv i σ' H' → Ex H1 H') ∧
  (∀ i v d σ' H', ds[i]? = some d → Dq H' v d → Pv i σ' H' → g v σ' H' fun σ2 H2 => tu { D with nx := Pv (i + 1), ct := Pv (i + 1), bk := D.nx } σ2 H2) ∧ ∀ σ' H', Pv ds.length σ' H' → D.nx σ' H'
theorem sd_forL {tl : TE} (h : EvD tl σ H (.list ds)) (k : ∀ H1, Ex H H1 → WalkD ds g tu D σ H1) : tFor (iList K tl) g tu D σ H :=
  h H (Ex.refl H) _ fun v H1 e hv => by
    obtain ⟨a, xs, rfl, hxs, hl⟩ := hv.lst_inv
    obtain ⟨Pv, h0, hx, hs, hd⟩ := k H1 e
    refine ⟨a, rfl, ⟨xs, sq_of hxs⟩, for_list (xs := xs) Pv h0 (fun i σ' H' _ p => sq_of (hx i σ' H' p _ _ hxs)) (fun i x σ' H' hi p => ?_) (fun σ' H' p => hd σ' H' (by rw [← hl.len]; exact p))⟩
    obtain ⟨d, h1, h2⟩ := hl.getV hi
    exact hs i x d σ' H' h1 (h2.ex (hx i σ' H' p)) p
theorem qd_forL {tl : TE} (h : EvD tl σ H (.list ds)) (k : ∀ H1, Ex H H1 → WalkD ds g tu { D with nx := tz D } σ H1) : tSeq (tFor (iList K tl) g tu) tz D σ H := sd_forL (D := { D with nx := tz D }) h k
/-- for k in range(n) -/
theorem sd_forR {ta : TA} {j : Nat} {n : Nat} (h : EvDs ta σ H [.int n]) (hn : n ≤ 100000) (k : ∀ H1, Ex H H1 → ∃ Pv : Nat → L2.St → Hp → Prop, Pv 0 σ H1 ∧
    (∀ (i : Nat) σ' H', i < n → Pv i σ' H' → tu { D with nx := Pv (i + 1), ct := Pv (i + 1), bk := D.nx } (σ'.set j (some (.int (i : Int)))) H') ∧ ∀ σ' H', Pv n σ' H' → D.nx σ' H') : tFor (iRng1 ta) (gName j) tu D σ H :=
  h H (Ex.refl H) _ fun vs H1 e hv => by
    obtain ⟨Pv, h0, hs, hd⟩ := k H1 e
    cases hv with
    | cons a b =>
      cases b
      refine ⟨n, by rw [a.int_inv], by omega, by omega, ?_⟩
      rw [show ((n : Int).toNat) = n by simp]
      refine for_range (lo := 0) (n := n) Pv h0 (fun i σ' H' hi p => ?_) hd
      show tu { D with nx := Pv (i + 1), ct := Pv (i + 1), bk := D.nx } (σ'.set j (some (.int ((0 : Int) + (i : Int))))) H'
      rw [Int.zero_add]
      exact hs i σ' H' hi p
theorem qd_forR {ta : TA} {j : Nat} {n : Nat} (h : EvDs ta σ H [.int n]) (hn : n ≤ 100000) (k : ∀ H1, Ex H H1 → ∃ Pv : Nat → L2.St → Hp → Prop, Pv 0 σ H1 ∧
    (∀ (i : Nat) σ' H', i < n → Pv i σ' H' → tu { D with nx := Pv (i + 1), ct := Pv (i + 1), bk := tz D } (σ'.set j (some (.int (i : Int)))) H') ∧ ∀ σ' H', Pv n σ' H' → tz D σ' H') : tSeq (tFor (iRng1 ta) (gName j) tu) tz D σ H := sd_forR (D := { D with nx := tz D }) h hn k
theorem qd_if {b : Bool} (h : EvT t σ H b) (h1 : b = true → ∀ H1, Ex H H1 → tu { D with nx := tz D } σ H1) (h2 : b = false → ∀ H1, Ex H H1 → tw { D with nx := tz D } σ H1) : tSeq (tIfS t tu tw) tz D σ H := Evl.q_if h h1 h2
/-- an if without else -/
theorem qd_when {b : Bool} (h : EvT t σ H b) (h1 : b = true → ∀ H1, Ex H H1 → tu { D with nx := tz D } σ H1) (h2 : b = false → ∀ H1, Ex H H1 → tz D σ H1) : tSeq (tIfS t tu tNext) tz D σ H := Evl.q_when h h1 h2
theorem sd_when {b : Bool} (h : EvT t σ H b) (h1 : b = true → ∀ H1, Ex H H1 → tu D σ H1) (h2 : b = false → ∀ H1, Ex H H1 → D.nx σ H1) : tIfS t tu tNext D σ H := Evl.s_when h h1 h2
/-- xs.append(e), xs a list of ours -/
theorem qd_app {l : Addr} {xs : List V} (hl : H l = some (.lst xs)) {n : Nat} (hn : σ[n]? = some (some (.ref l))) (h : EvD te σ H d) (hz : xs.length < 100000) (k : ∀ v H1, Ex H H1 → Dq H1 v d → tz D σ (upd H1 l (.lst (xs ++ [v])))) :
    tSeq (tDrop (tBM K "list" rAppend (tVar n) (tCons te tNil))) tz D σ H := ⟨_, hn, .inl ⟨rfl, xs, sq_of hl⟩, h H (Ex.refl H) _ fun v H1 e hv => ⟨l, xs, v, rfl, rfl, e _ _ hl, sz_lt hz, k v H1 e hv⟩⟩
theorem sd_app {l : Addr} {xs : List V} (hl : H l = some (.lst xs)) {n : Nat} (hn : σ[n]? = some (some (.ref l))) (h : EvD te σ H d) (hz : xs.length < 100000) (k : ∀ v H1, Ex H H1 → Dq H1 v d → D.nx σ (upd H1 l (.lst (xs ++ [v])))) :
    tDrop (tBM K "list" rAppend (tVar n) (tCons te tNil)) D σ H := ⟨_, hn, .inl ⟨rfl, xs, sq_of hl⟩, h H (Ex.refl H) _ fun v H1 e hv => ⟨l, xs, v, rfl, rfl, e _ _ hl, sz_lt hz, k v H1 e hv⟩⟩

/-! ### to and from values -/
theorem EvD.vI (h : EvD te σ H (.int i)) : Ev te σ H (.int i) := fun H1 e Q q => h H1 e Q fun v H2 e2 hv => by rw [hv.int_inv]; exact q H2 e2
theorem EvD.vS (h : EvD te σ H (.str x)) : Ev te σ H (.str x) := fun H1 e Q q => h H1 e Q fun v H2 e2 hv => by rw [hv.str_inv]; exact q H2 e2
theorem EvD.vB (h : EvD te σ H (.bool b)) : Ev te σ H (.bl b) := fun H1 e Q q => h H1 e Q fun v H2 e2 hv => by rw [hv.bl_inv]; exact q H2 e2
theorem EvD.of (h : Ev te σ H v) (hd : ∀ H1, Ex H H1 → Dq H1 v d) : EvD te σ H d := fun H1 e Q q => h H1 e Q fun H2 e2 => q v H2 e2 (hd H2 (e.trans e2))
theorem EvF.ofL {xs : List V} (h : EvL te σ H xs) (hd : ∀ H1, DqAll H1 xs ds) : EvF te σ H ds := fun H1 e Q q => h H1 e Q fun p H2 hn e2 hp => q p xs H2 e2 hn hp (hd H2)
theorem EvDs.toA {ta : TA} {is : List Int} (h : EvDs ta σ H (is.map .int)) : EvA ta σ H (is.map V.int) := fun H1 e Q q => h H1 e Q fun vs H2 e2 hv => by rw [hv.ints]; exact q H2 e2
end
end K7

/-! K8C: what is asked of the written part: defs (also those with the class cell), facts; the hook. -/
namespace K7
open PySem PySem.Spec PyProof.Rows L2

/-- what a def without a cell gives -/
def HasD (K : PySem.W.Frag) (d : DX) : Prop := ∃ fd, FunD K d.name d.qual (defArgs d.st) (defBody d.st) (defScope d.st) (d.dfl.map (He.Dv.v K)) [] (d.ad K) fd
/-- .. and one with the class cell -/
def HasS (K : PySem.W.Frag) (file : Str) (d : DX) (C : Str) : Prop := ∃ oc od dV kV doc pm an cda ct osl cc cl cld csl ccl cdd vs ccs z tz,
  K.lookup (d.ad K) = some ⟨oc, od, .func (PySem.W.fnX d.name d.qual (defArgs d.st) (defBody d.st) (defScope d.st) [("__class__", cc)] dV kV doc pm an (.ref cda) ct), osl⟩ ∧ PySem.W.codeIn K (.ref cda) d.qual = true ∧
  K.lookup cc = some ⟨cl, cld, .cell (some (.ref (He.ga K C))), csl⟩ ∧ K.lookup cda = some ⟨ccl, cdd, .fields vs, ccs⟩ ∧ vs[2]? = some (.str z tz) ∧ (file == z) = true ∧ PySem.W.keepIn K (.ref (d.ad K)) = true ∧ DflV K dV (d.dfl.map (He.Dv.v K))
theorem DX.hasD {K : PySem.W.Frag} {file : Str} {d : DX} (hk : d.kls = none) (e : fnW2 K (d.ad K) = d.val) (c : d.ok K file = true) : HasD K d := by
  obtain ⟨kp, c2⟩ := He.ba c
  unfold fnW2 at e
  cases q : K.lookup (d.ad K) with
  | none => rw [q] at c2; cases c2
  | some o =>
    obtain ⟨oc, od, dt, osl⟩ := o
    rw [q] at c2 e
    cases dt with
    | func fd =>
      obtain ⟨n1, n2, n3, n4, n5, n6, n7, n8, n9, n10, n11, n12, n13, n14, n15⟩ := fd
      unfold DX.val at e
      rw [hk] at e
      have e2 : (some (n1, n2, n3, n4, n5, n6, n7.map (·.1), n15) : FnW2) = some (d.name, d.qual, defArgs d.st, .stmts (defBody d.st), defScope d.st, mainGlobals, [], builtinsNs) := e
      simp only [Option.some.injEq, Prod.mk.injEq, List.map_eq_nil_iff] at e2
      obtain ⟨h1, h2, h3, h4, h5, h6, h7, h8⟩ := e2
      subst h1 h2 h3 h4 h5 h6 h7 h8
      have c3 : (PySem.W.codeIn K n13 d.qual && (He.dflB K n8 (d.dfl.map (He.Dv.v K)) && klsB K file _ d.kls)) = true := c2
      obtain ⟨k1, k2⟩ := He.ba c3
      obtain ⟨k3, k4⟩ := He.ba k2
      exact ⟨_, ⟨oc, od, n8, n9, n10, n11, n12, n13, n14, osl, rfl, q, k1, He.dflB_ok k3, .inl rfl⟩, kp⟩
    | _ => cases c2
theorem DX.hasS {K : PySem.W.Frag} {file : Str} {d : DX} {C : Str} (hk : d.kls = some C) (e : fnW2 K (d.ad K) = d.val) (c : d.ok K file = true) : HasS K file d C := by
  obtain ⟨kp, c2⟩ := He.ba c
  unfold fnW2 at e
  cases q : K.lookup (d.ad K) with
  | none => rw [q] at c2; cases c2
  | some o =>
    obtain ⟨oc, od, dt, osl⟩ := o
    rw [q] at c2 e
    cases dt with
    | func fd =>
      obtain ⟨n1, n2, n3, n4, n5, n6, n7, n8, n9, n10, n11, n12, n13, n14, n15⟩ := fd
      unfold DX.val at e
      rw [hk] at e
      have e2 : (some (n1, n2, n3, n4, n5, n6, n7.map (·.1), n15) : FnW2) = some (d.name, d.qual, defArgs d.st, FuncBody.stmts (defBody d.st), defScope d.st, mainGlobals, [("__class__" : Str)], builtinsNs) := e
      simp only [Option.some.injEq, Prod.mk.injEq] at e2
      obtain ⟨h1, h2, h3, h4, h5, h6, h7, h8⟩ := e2
      clear e
      subst h1 h2 h3 h4 h5 h6 h8
      have c3 : (PySem.W.codeIn K n13 d.qual && (He.dflB K n8 (d.dfl.map (He.Dv.v K)) && klsB K file _ d.kls)) = true := c2
      obtain ⟨k1, k2⟩ := He.ba c3
      obtain ⟨k3, k4⟩ := He.ba k2
      rw [hk] at k4
      cases n7 with
      | nil => cases h7
      | cons p r =>
        cases r with
        | cons _ _ => exact absurd (congrArg List.length h7) (by simp)
        | nil =>
          obtain ⟨pn, cc⟩ := p
          have hp : pn = ("__class__" : Str) := (List.cons.inj h7).1
          subst hp
          unfold klsB at k4
          obtain ⟨k5, k6⟩ := He.ba k4
          have k5 : klsV K C cc = true := k5
          have k6 : klsC K file n13 = true := k6
          unfold klsV at k5
          cases qc : K.lookup cc with
          | none => rw [qc] at k5; cases k5
          | some oc2 =>
            obtain ⟨cl, cld, cdt, csl⟩ := oc2
            rw [qc] at k5
            cases cdt with
            | cell v =>
              cases v with
              | none => cases k5
              | some v =>
                cases v with
                | ref a =>
                  have ea : a = He.ga K C := of_decide_eq_true k5
                  subst ea
                  cases n13 with
                  | ref cda =>
                    unfold klsC at k6
                    cases qd : K.lookup cda with
                    | none => simp only [qd] at k6; cases k6
                    | some od2 =>
                      obtain ⟨ccl, cdd, ddt, ccs⟩ := od2
                      simp only [qd] at k6
                      cases ddt with
                      | fields vs =>
                        simp only at k6
                        cases qv : vs[2]? with
                        | none => rw [qv] at k6; cases k6
                        | some u =>
                          rw [qv] at k6
                          cases u with
                          | str z tz => exact ⟨oc, od, n8, n9, n10, n11, n12, cda, n14, osl, cc, cl, cld, csl, ccl, cdd, vs, ccs, z, tz, q, k1, qc, qd, qv, k6, kp, He.dflB_ok k3⟩
                          | _ => cases k6
                      | _ => cases k6
                  | _ => cases k6
                | _ => cases k5
            | _ => cases k5
    | _ => cases c2

/-! ### the hook -/
/-- what the walks take -/
structure TXG (file : Str) (fa : List He.Fa) (fx : List (PySem.W.Frag → Bool)) (fn : List DX) (P : Program) (K : PySem.W.Frag) (mg : Str → Option Value) : Prop where
  ns : ∃ h : Heap, K.In h ∧ h.Ns mainGlobals mg
  says : SaysX file fa fx fn K
  file : P.main.file = file
  sup : (P.main.scope.names.lookup ("super" : Str)).isSome = false
section
variable {file : Str} {fa : List He.Fa} {fx : List (PySem.W.Frag → Bool)} {fn : List DX} {P : Program} {K : PySem.W.Frag} {mg : Str → Option Value}
theorem TXG.fact (T : TXG file fa fx fn P K mg) (i : Nat) {f : He.Fa} (h : fa[i]? = some f) : f.ok K = true := by
  have c1 := (He.ba (show ((fa.all fun f => f.ok K) && ((fx.all fun f => f K) && fn.all fun d => d.ok K file)) = true from congrArg (fun z : AlX => z.1) T.says)).1
  exact List.all_eq_true.mp c1 f (List.mem_of_getElem? h)
theorem TXG.fx_ (T : TXG file fa fx fn P K mg) (i : Nat) {f : PySem.W.Frag → Bool} (h : fx[i]? = some f) : f K = true := by
  have c1 := (He.ba (He.ba (show ((fa.all fun f => f.ok K) && ((fx.all fun f => f K) && fn.all fun d => d.ok K file)) = true from congrArg (fun z : AlX => z.1) T.says)).2).1
  exact List.all_eq_true.mp c1 f (List.mem_of_getElem? h)
theorem TXG.dok (T : TXG file fa fx fn P K mg) (i : Nat) {d : DX} (h : fn[i]? = some d) : fnW2 K (d.ad K) = d.val ∧ d.ok K file = true := by
  have c1 := (He.ba (He.ba (show ((fa.all fun f => f.ok K) && ((fx.all fun f => f K) && fn.all fun d => d.ok K file)) = true from congrArg (fun z : AlX => z.1) T.says)).2).2
  have e : fn.map (fun d => fnW2 K (d.ad K)) = fn.map DX.val := congrArg (fun z : AlX => z.2) T.says
  have e2 : (fn.map fun d => fnW2 K (d.ad K))[i]? = (fn.map DX.val)[i]? := by rw [e]
  rw [List.getElem?_map, List.getElem?_map, h] at e2
  exact ⟨Option.some.inj e2, List.all_eq_true.mp c1 d (List.mem_of_getElem? h)⟩
theorem TXG.d (T : TXG file fa fx fn P K mg) (i : Nat) {d : DX} (h : fn[i]? = some d) (hk : d.kls = none) : HasD K d := (T.dok i h).1 |> fun e => DX.hasD hk e (T.dok i h).2
theorem TXG.s (T : TXG file fa fx fn P K mg) (i : Nat) {d : DX} {C : Str} (h : fn[i]? = some d) (hk : d.kls = some C) : HasS K file d C := DX.hasS hk (T.dok i h).1 (T.dok i h).2
theorem TXG.glo (T : TXG file fa fx fn P K mg) (i : Nat) {x : Str} (h : fa[i]? = some (.glo x)) : mg x = some (.ref (He.ga K x)) := let ⟨_, X, G⟩ := T.ns; He.glo_ok X G (T.fact i h)
theorem TXG.free (T : TXG file fa fx fn P K mg) (i : Nat) {x : Str} (h : fa[i]? = some (.free x)) : mg x = none := let ⟨_, X, G⟩ := T.ns; He.free_ok X G (T.fact i h)
theorem TXG.int (T : TXG file fa fx fn P K mg) (i : Nat) {x : Str} {z : Int} (h : fa[i]? = some (.int x z)) : ∃ u, mg x = some u ∧ RelV (.int z) u := by
  obtain ⟨_, X, G⟩ := T.ns
  obtain ⟨t, e⟩ := He.int_ok X G (T.fact i h)
  exact ⟨_, e, t, rfl⟩
theorem TXG.str (T : TXG file fa fx fn P K mg) (i : Nat) {x z : Str} (h : fa[i]? = some (.str x z)) : ∃ u, mg x = some u ∧ RelV (.str z) u := by
  obtain ⟨_, X, G⟩ := T.ns
  obtain ⟨t, e⟩ := He.str_ok X G (T.fact i h)
  exact ⟨_, e, t, rfl⟩
end
end K7

/-! K8D: facts by Bool, read; rules for defs given as data. -/
namespace K7
open PySem PySem.Spec PyProof.Rows L2
section
variable {K : PySem.W.Frag}
theorem bCon_ok {C f : Str} {z : Int} (h : bCon C f z K = true) (hc : PySem.W.copiedNames.contains f = false) : ∃ u, Con K (He.ga K C) f (.int z) u := by
  unfold bCon at h
  cases e : PySem.W.findIn K (.ref (He.ga K C)) f with
  | none => rw [e] at h; cases h
  | some o =>
    rw [e] at h
    cases o with
    | none => cases h
    | some v =>
      cases v with
      | int j t =>
        obtain ⟨h1, h2⟩ := He.ba h
        have h1 := of_decide_eq_true h1
        subst h1
        exact ⟨_, e, ⟨t, rfl⟩, of_decide_eq_true h2, hc⟩
      | _ => cases h
theorem bOex_ok {C : Str} (h : bOex C K = true) : OexC K (He.ga K C) := by
  unfold bOex at h
  obtain ⟨q, h⟩ := He.ba h
  obtain ⟨h2, h⟩ := He.ba h
  obtain ⟨h3, h⟩ := He.ba h
  obtain ⟨h4, h5⟩ := He.ba h
  refine ⟨?_, of_decide_eq_true h2, of_decide_eq_true h3, of_decide_eq_true h4, h5⟩
  split at q
  · rename_i dd cd sl ho
    split at q
    · rename_i C' bm k0 k1 k2 k3 n k5 hm hs
      obtain ⟨q1, q⟩ := He.ba q
      obtain ⟨q2, q⟩ := He.ba q
      obtain ⟨q3, q⟩ := He.ba q
      obtain ⟨q4, q5⟩ := He.ba q
      have q1 := beq_iff_eq.mp q1
      have q2 := beq_iff_eq.mp q2
      obtain ⟨nm, bs, mro, ns, qn, hd, sn, sub, ab, col, del⟩ := cd
      dsimp only at hm q3 q5
      have q3 : del = false := by simpa using q3
      subst hm q1 q2 q3 q5
      have hsl : sl = #[k0, k1, k2, k3, some (.builtin "ValueError.__new__"), k5] := by
        obtain ⟨l⟩ := sl
        simp only at hs
        rw [hs]
      subst hsl
      exact ⟨nm, qn, ns, bs, bm, sn, sub, ab, col, dd, k0, k1, k2, k3, k5, ho, q4⟩
    · cases q
  · cases q
theorem bIni_ok {C : Str} (h : bIni C K = true) : PySem.W.findIn K (.ref (He.ga K C)) "__init__" = some (some (.ref (He.ma K (He.ga K C) "__init__"))) ∧ PySem.W.typeIn K (.ref (He.ma K (He.ga K C) "__init__")) = some (.type "function") :=
  ⟨of_decide_eq_true (He.ba h).1, of_decide_eq_true (He.ba h).2⟩
theorem bBin_ok {C : Str} {op : Operator} (h : bBin C op K = true) : BinK K (He.ga K C) (He.ma K (He.ga K C) (PySem.dunder op.info.2)) op := by
  unfold bBin at h
  obtain ⟨h1, h⟩ := He.ba h
  obtain ⟨h2, h⟩ := He.ba h
  obtain ⟨h3, h⟩ := He.ba h
  obtain ⟨h4, h⟩ := He.ba h
  obtain ⟨h5, h⟩ := He.ba h
  obtain ⟨h6, h7⟩ := He.ba h
  refine ⟨h1, of_decide_eq_true h2, h3, ?_, Option.isSome_iff_exists.mp h5, Option.isSome_iff_exists.mp h6, of_decide_eq_true h7⟩
  cases e : PySem.W.findIn K (.ref (He.ga K C)) (PySem.dunderR op.info.2) with
  | none => rw [e] at h4; cases h4
  | some o =>
    rw [e] at h4
    cases o with
    | none => exact ⟨_, rfl, .inl rfl⟩
    | some v =>
      cases v with
      | ref g => exact ⟨_, rfl, .inr ⟨g, rfl⟩⟩
      | _ => cases h4
theorem bCmp_ok {C : Str} {op : CmpOp} (h : bCmp C op K = true) : CmpK K (He.ga K C) (He.ma K (He.ga K C) (cmpInfo op).2.1) op := by
  unfold bCmp at h
  obtain ⟨h1, h⟩ := He.ba h
  obtain ⟨h2, h3⟩ := He.ba h
  exact ⟨of_decide_eq_true h1, h2, of_decide_eq_true h3⟩
theorem bProp_ok {C f : Str} (h : bProp C f K = true) : PropOf K (He.ga K C) f (He.ma K (He.ga K C) f) (pAd C f K) := by
  unfold bProp at h
  obtain ⟨h1, h⟩ := He.ba h
  obtain ⟨h2, h⟩ := He.ba h
  obtain ⟨h3, h4⟩ := He.ba h
  refine ⟨of_decide_eq_true h1, of_decide_eq_true h2, of_decide_eq_true h3, ?_⟩
  unfold pAd
  cases e : PySem.W.recIn K (He.ma K (He.ga K C) f) "property" with
  | none => rw [e] at h4; cases h4
  | some l =>
    rw [e] at h4
    cases l with
    | nil => cases h4
    | cons v r =>
      cases v with
      | ref g => exact ⟨r, rfl⟩
      | _ => cases h4
theorem bTy_ok {C : Str} (h : bTy C K = true) : PySem.W.findIn K (.ref (He.ga K C)) "__class__" = some (some (.builtin "object.__class__")) ∧ PySem.W.specialIn K (.builtin "object.__class__") "__get__" = some (some (.builtin "getset_descriptor.__get__")) ∧ PySem.W.takesIn K (.builtin "object.__class__") = some true ∧ PySem.W.mroIn K (He.ga K C) (.type "object") = some true := by
  unfold bTy at h
  obtain ⟨h1, h⟩ := He.ba h
  obtain ⟨h2, h⟩ := He.ba h
  obtain ⟨h3, h4⟩ := He.ba h
  exact ⟨of_decide_eq_true h1, of_decide_eq_true h2, of_decide_eq_true h3, of_decide_eq_true h4⟩
end

/-! ### defs given as data -/
section
variable {P : Program} {w : World} {K : PySem.W.Frag} {mg : Str → Option Value} {base : Heap} {d : DX} {N ps : List Str} {k : Nat} {sp : Sp} {file C : Str}
/-- THE RULE -/
theorem fnb (F : HasD K d) (hd : d.dfl = []) (S : FnScope N ps (defScope d.st)) (len : ∀ vs H Q E, sp vs H Q E → vs.length = ps.length)
    (hbi : ∀ (kV doc pm : Value) (an : Option Addr) (cdv ct : Value) (us : List Value), us.length = ps.length → bindArgs (PySem.W.fnOf d.name d.qual (defArgs d.st) (defBody d.st) (defScope d.st) .none kV doc pm an cdv ct) ⟨us, []⟩ = pure (ps.zip us))
    (hbody : ∀ (cdv : Value) (A : Around) (outer : List Env) (s : Shared) (H : Hp) (vs : List V) (Q : VK) (E : XK), Room k (A.deeper (envOfC d.qual (defScope d.st) s.heap.objs.size (d.ad K) cdv)) → sp vs H Q E →
      ∃ t, PSs (cxOf (L2.CX P w) P w K mg base N d.qual (defScope d.st) (d.ad K) cdv A outer s H E) (defBody d.st) t ∧ t { nx := fun _ H' => Q .non H', rt := Q } (start N vs) H) : FnB P w K mg base (k + 1) (d.ad K) ps sp := by
  obtain ⟨fd, F⟩ := F
  rw [hd] at F
  exact ⟨fd, F.ok S len hbody, F.bindsN hbi⟩
/-- what is had when a def with the class cell runs -/
structure SupD (P : Program) (K : PySem.W.Frag) (d : DX) (C : Str) (X : Cx) (cda cc : Addr) : Prop where
  x : SupX X (d.ad K) cda cc
  b : SupB X.prog X.K (d.ad K) cda cc (He.ga K C) (He.ga K C)
theorem supB_of (h : HasS K file d C) (hf : P.main.file = file) (hs : bSup C K = true) (ar : Arg) (ha : ((defArgs d.st).posonlyargs ++ (defArgs d.st).args).head? = some ar) (hn : ar.arg = ("self" : Str)) :
    ∃ oc od dV kV doc pm an cda ct osl cc occ v0, K.lookup (d.ad K) = some ⟨oc, od, .func (PySem.W.fnX d.name d.qual (defArgs d.st) (defBody d.st) (defScope d.st) [("__class__", cc)] dV kV doc pm an (.ref cda) ct), osl⟩ ∧ PySem.W.codeIn K (.ref cda) d.qual = true ∧ DflV K dV (d.dfl.map (He.Dv.v K)) ∧
      K.lookup cc = some occ ∧ occ.data = .cell v0 ∧ SupB P K (d.ad K) cda cc (He.ga K C) (He.ga K C) ∧ PySem.W.keepIn K (.ref (d.ad K)) = true := by
  obtain ⟨oc, od, dV, kV, doc, pm, an, cda, ct, osl, cc, cl, cld, csl, ccl, cdd, vs, ccs, z, tz, h1, h2, h3, h4, h5, h6, h7, h8⟩ := h
  unfold bSup at hs
  obtain ⟨s1, s2⟩ := He.ba hs
  obtain ⟨s2, s3⟩ := He.ba s2
  refine ⟨oc, od, dV, kV, doc, pm, an, cda, ct, osl, cc, _, _, h1, h2, h8, h3, rfl, ⟨⟨oc, od, _, osl, ar, h1, ha, hn⟩, ⟨ccl, cdd, vs, ccs, z, tz, h4, h5, by rw [hf]; exact h6⟩, ⟨cl, cld, csl, h3⟩, Option.isSome_iff_exists.mp s1, of_decide_eq_true s2, of_decide_eq_true s3⟩, h7⟩
theorem fnb_sup (F : HasS K file d C) (hf : P.main.file = file) (hsup : (P.main.scope.names.lookup ("super" : Str)).isSome = false) (hmg : mg "super" = none) (hs : bSup C K = true) {ar : Arg} (ha : ((defArgs d.st).posonlyargs ++ (defArgs d.st).args).head? = some ar) (hn : ar.arg = ("self" : Str))
    {first : Stmt} {rest : List Stmt} (hb : defBody d.st = first :: rest) (hd : d.dfl = []) (S : FnScopeS N ps (defScope d.st)) (hN0 : N[0]? = some ("self" : Str)) (hk1 : (defScope d.st).names.lookup ("super" : Str) = some .globalImplicit) (hk2 : (defScope d.st).names.lookup ("__class__" : Str) = some .free) (hk3 : (defScope d.st).names.lookup ("self" : Str) = some .local)
    (len : ∀ vs H Q E, sp vs H Q E → vs.length = ps.length)
    (hbi : ∀ (cl : List (Str × Addr)) (kV doc pm : Value) (an : Option Addr) (cdv ct : Value) (us : List Value), us.length = ps.length → bindArgs (PySem.W.fnX d.name d.qual (defArgs d.st) (first :: rest) (defScope d.st) cl .none kV doc pm an cdv ct) ⟨us, []⟩ = pure (ps.zip us))
    (hbody : ∀ (cda cc : Addr) (A : Around) (outer : List Env) (s : Shared) (H : Hp) (vs : List V) (Q : VK) (E : XK), Room k (A.deeper (envS d.qual (defScope d.st) s.heap.objs.size (d.ad K) (.ref cda) cc)) →
      SupX (cxS P w K mg base N d.qual (defScope d.st) (d.ad K) (.ref cda) cc A outer s H E) (d.ad K) cda cc → SupB P K (d.ad K) cda cc (He.ga K C) (He.ga K C) → sp vs H Q E →
      ∃ t u, PSat (cxS P w K mg base N d.qual (defScope d.st) (d.ad K) (.ref cda) cc A outer s H E) (.func (first :: rest) (envS d.qual (defScope d.st) s.heap.objs.size (d.ad K) (.ref cda) cc)) first t ∧ PSs (cxS P w K mg base N d.qual (defScope d.st) (d.ad K) (.ref cda) cc A outer s H E) rest u ∧
        t { nx := fun σ H' => u { nx := fun _ H' => Q .non H', rt := Q } σ H', rt := Q } (start N vs) H) : FnB P w K mg base (k + 1) (d.ad K) ps sp := by
  obtain ⟨oc, od, dV, kV, doc, pm, an, cda, ct, osl, cc, occ, v0, h1, h2, h8, h3, h4, hB, h7⟩ := supB_of F hf hs ar ha hn
  rw [hd] at h8
  rw [hb] at h1
  have h8 : dV = .none := by
    rcases h8 with ⟨_, e⟩ | ⟨e, _⟩
    · exact e
    · exact absurd rfl e
  subst h8
  refine ⟨_, fn_super h1 h2 S h3 h4 len fun A outer s H vs Q E hr hsp => ?_, .all fun us hl => hbi _ _ _ _ _ _ _ us hl⟩
  have hcell : (cellsS (s.heap.objs.size + 1) (defScope d.st) cc).lookup ("__class__" : Str) = some cc := by
    have : (cellsFrom (s.heap.objs.size + 1) (defScope d.st).names []).lookup ("__class__" : Str) = none := look_none fun v hm => S.ncl _ (cells_names _ _ hm) rfl rfl
    exact (look_app0 (m := [(("__class__" : Str), cc)]) this).trans rfl
  exact hbody cda cc A outer s H vs Q E hr ⟨rfl, rfl, hk1, hk2, hcell, hk3, hN0, hsup, hmg⟩ hB hsp
end
end K7

/-! K8E: walks over any iterator; values that keep a relation; comprehensions and loops. -/
namespace K7
open PySem PySem.Spec PyProof.Rows L2 Evl RZ

/-! ### relations that stay -/
def Stay {α : Type} (R : Hp → V → α → Prop) : Prop := ∀ H H' v d, Ex H H' → R H v d → R H' v d
/-- .. also when a list changes -/
def StayL {α : Type} (R : Hp → V → α → Prop) : Prop := ∀ H p xs ys v d, H p = some (.lst xs) → R H v d → R (upd H p (.lst ys)) v d
theorem stay_D : Stay Dq := fun _ _ _ _ e h => h.ex e
inductive All2 {α β : Type} (R : α → β → Prop) : List α → List β → Prop
  | nil : All2 R [] []
  | cons {a b as bs} : R a b → All2 R as bs → All2 R (a :: as) (b :: bs)
section
variable {α β : Type} {R S : α → β → Prop}
theorem All2.len : ∀ {as : List α} {bs : List β}, All2 R as bs → as.length = bs.length
  | _, _, .nil => rfl
  | _, _, .cons _ t => congrArg Nat.succ t.len
theorem All2.imp (f : ∀ a b, R a b → S a b) : ∀ {as : List α} {bs : List β}, All2 R as bs → All2 S as bs
  | _, _, .nil => .nil
  | _, _, .cons h t => .cons (f _ _ h) (t.imp f)
theorem All2.snoc {a : α} {b : β} (h : R a b) : ∀ {as : List α} {bs : List β}, All2 R as bs → All2 R (as ++ [a]) (bs ++ [b])
  | _, _, .nil => .cons h .nil
  | _, _, .cons g t => .cons g (t.snoc h)
theorem All2.get {b : β} : ∀ {as : List α} {bs : List β} {i : Nat}, All2 R as bs → bs[i]? = some b → ∃ a, as[i]? = some a ∧ R a b
  | _, _, _, .nil, e => by simp at e
  | _, _, 0, .cons h _, e => by simp at e; subst e; exact ⟨_, rfl, h⟩
  | _, _, i + 1, .cons _ t, e => by
    obtain ⟨a, h1, h2⟩ := All2.get (i := i) t (by simpa using e)
    exact ⟨a, by simpa using h1, h2⟩
theorem All2.getA {a : α} : ∀ {as : List α} {bs : List β} {i : Nat}, All2 R as bs → as[i]? = some a → ∃ b, bs[i]? = some b ∧ R a b
  | _, _, _, .nil, e => by simp at e
  | _, _, 0, .cons h _, e => by simp at e; subst e; exact ⟨_, rfl, h⟩
  | _, _, i + 1, .cons _ t, e => by
    obtain ⟨a, h1, h2⟩ := All2.getA (i := i) t (by simpa using e)
    exact ⟨a, by simpa using h1, h2⟩
theorem All2.set {a : α} {b : β} (h : R a b) : ∀ {as : List α} {bs : List β} (i : Nat), All2 R as bs → All2 R (as.set i a) (bs.set i b)
  | _, _, _, .nil => .nil
  | _, _, 0, .cons _ t => .cons h t
  | _, _, i + 1, .cons g t => .cons g (t.set h i)
end
theorem DqAll.all2 {H : Hp} : ∀ {vs : List V} {ds : List PyData}, DqAll H vs ds → All2 (Dq H) vs ds
  | _, _, .nil => .nil
  | _, _, .cons a b => .cons a b.all2
theorem All2.dq {H : Hp} : ∀ {vs : List V} {ds : List PyData}, All2 (Dq H) vs ds → DqAll H vs ds
  | _, _, .nil => .nil
  | _, _, .cons a b => .cons a b.dq
def givenA {α : Type} (n : Nat) (f : Nat → Bool) (v : Nat → α) : List α := ((List.range n).filter f).map v
theorem givenA_yes {α : Type} {n : Nat} {f : Nat → Bool} {v : Nat → α} (h : f n = true) : givenA (n + 1) f v = givenA n f v ++ [v n] := by
  unfold givenA
  rw [List.range_succ, List.filter_append, List.map_append, List.filter_cons_of_pos h] <;> rfl
theorem givenA_no {α : Type} {n : Nat} {f : Nat → Bool} {v : Nat → α} (h : f n = false) : givenA (n + 1) f v = givenA n f v := by
  unfold givenA
  rw [List.range_succ, List.filter_append, List.map_append, List.filter_cons_of_neg (by rw [h]; simp)]
  simp
theorem givenA_len {α : Type} (n : Nat) (f : Nat → Bool) (v : Nat → α) : (givenA n f v).length ≤ n := by
  unfold givenA
  rw [List.length_map]
  have h := List.length_filter_le f (List.range n)
  rwa [List.length_range] at h
theorem givenA_all {α : Type} (n : Nat) (v : Nat → α) : givenA n (fun _ => true) v = (List.range n).map v := by
  unfold givenA
  rw [List.filter_eq_self.mpr (fun _ _ => rfl)]
/-- te gives a value of which R d -/
def EvQ {α : Type} (te : TE) (σ : L2.St) (H : Hp) (R : Hp → V → α → Prop) (d : α) : Prop := ∀ H1, Ex H H1 → ∀ Q : VK, (∀ v H2, Ex H1 H2 → R H2 v d → Q v H2) → te σ H1 Q
/-- .. a new list -/
def EvQF {α : Type} (te : TE) (σ : L2.St) (H : Hp) (R : Hp → V → α → Prop) (ds : List α) : Prop := ∀ H1, Ex H H1 → ∀ Q : VK, (∀ p xs H2, Ex H1 H2 → H1 p = none → H2 p = some (.lst xs) → All2 (R H2) xs ds → Q (.ref p) H2) → te σ H1 Q
theorem EvQF.toF {te : TE} {σ : L2.St} {H : Hp} {ds : List PyData} (h : EvQF te σ H Dq ds) : EvF te σ H ds := fun H1 e Q q => h H1 e Q fun p xs H2 e2 hn hp ha => q p xs H2 e2 hn hp ha.dq
/-- values that are what they are -/
def IsV (_ : Hp) (v : V) (d : V) : Prop := v = d
theorem stayL_V : StayL IsV := fun _ _ _ _ _ _ _ h => h
theorem stay_V : Stay IsV := fun _ _ _ _ _ h => h
theorem all2_V {H : Hp} : ∀ {xs ds : List V}, All2 (IsV H) xs ds → xs = ds
  | _, _, .nil => rfl
  | _, _, .cons a b => by rw [show _ = _ from a, all2_V b]
theorem EvQF.toL {te : TE} {σ : L2.St} {H : Hp} {ds : List V} (h : EvQF te σ H IsV ds) : EvL te σ H ds := fun H1 e Q q => h H1 e Q fun p xs H2 e2 hn hp ha => by
  have := all2_V ha
  subst this
  exact q p H2 hn e2 hp
theorem Ev.toV {te : TE} {σ : L2.St} {H : Hp} {v : V} (h : Ev te σ H v) : EvQ te σ H IsV v := fun H1 e Q q => h H1 e Q fun H2 e2 => q v H2 e2 rfl

/-! ### iterators -/
structure Walks (J : It) (H0 : Hp) (n : Nat) (Y : Nat → V → Hp → Prop) : Prop where
  stop : ∀ H, Ex H0 H → J.stop n H
  go : ∀ i H, i < n → Ex H0 H → J.go i H
  yld : ∀ i H x H', i < n → Ex H0 H → J.yld i H x H' → Ex H H' ∧ Y i x H'
def EvI (ti : TI) (σ : L2.St) (H : Hp) (n : Nat) (Y : Nat → V → Hp → Prop) : Prop := ∀ H1, Ex H H1 → ∀ R : It → Hp → Prop, (∀ J H2, Ex H1 H2 → Walks J H2 n Y → R J H2) → ti σ H1 R
section
variable {K : PySem.W.Frag} {σ : L2.St} {H : Hp} {te : TE} {ta : TA} {xs ys : List V} {n : Nat}
theorem wk_list {a : Addr} {xs : List V} {H0 : Hp} (h : SqL K H0 a xs) : Walks (Itl K a) H0 xs.length (fun i x _ => xs[i]? = some x) :=
  ⟨fun H e => ⟨xs, ex_l e h, Nat.le_refl _⟩, fun i H hi e => ⟨xs, _, ex_l e h, List.getElem?_eq_getElem hi⟩, fun i H x H' hi e y => by
    obtain ⟨rfl, y⟩ := y
    exact ⟨Ex.refl _, y xs (ex_l e h)⟩⟩
theorem wk_tup {a : Addr} {xs : List V} {H0 : Hp} (h : SqT K H0 a xs) : Walks (Itt K a) H0 xs.length (fun i x _ => xs[i]? = some x) :=
  ⟨fun H e => ⟨xs, ex_t e h, Nat.le_refl _⟩, fun i H hi e => ⟨xs, _, ex_t e h, List.getElem?_eq_getElem hi⟩, fun i H x H' hi e y => by
    obtain ⟨rfl, y⟩ := y
    exact ⟨Ex.refl _, y xs (ex_t e h)⟩⟩
theorem wk_str {z : Str} {H0 : Hp} : Walks (Its z) H0 z.length (fun i x _ => ∃ c, z.cps[i]? = some c ∧ x = .str ⟨#[c]⟩) :=
  ⟨fun H e => Nat.le_refl z.cps.size, fun i H hi e => hi, fun i H x H' hi e y => by
    obtain ⟨rfl, y⟩ := y
    exact ⟨Ex.refl _, y⟩⟩
theorem wk_rng {H0 : Hp} : Walks (Itr 0 n) H0 n (fun i x _ => x = .int (i : Int)) :=
  ⟨fun H e => Nat.le_refl n, fun i H hi e => hi, fun i H x H' hi e y => by
    obtain ⟨rfl, rfl⟩ := y
    exact ⟨Ex.refl _, by rw [Int.zero_add]⟩⟩
theorem wk_enumT {a : Addr} {xs : List V} {H0 : Hp} (h : SqT K H0 a xs) : Walks (IteT K a) H0 xs.length (fun i x H => ∃ T y, x = .ref T ∧ H T = some (.tup [.int (i : Int), y]) ∧ xs[i]? = some y) :=
  ⟨fun H e => ⟨xs, ex_t e h, Nat.le_refl _⟩, fun i H hi e => ⟨xs, _, ex_t e h, List.getElem?_eq_getElem hi⟩, fun i H x H' hi e y => by
    obtain ⟨T, y, rfl, hT, rfl, q⟩ := y
    exact ⟨Ex.new hT, T, y, rfl, upd_same, q xs (ex_t e h)⟩⟩
theorem wk_enum {a : Addr} {xs : List V} {H0 : Hp} (h : SqL K H0 a xs) : Walks (Ite K a) H0 xs.length (fun i x H => ∃ T y, x = .ref T ∧ H T = some (.tup [.int (i : Int), y]) ∧ xs[i]? = some y) :=
  ⟨fun H e => ⟨xs, ex_l e h, Nat.le_refl _⟩, fun i H hi e => ⟨xs, _, ex_l e h, List.getElem?_eq_getElem hi⟩, fun i H x H' hi e y => by
    obtain ⟨T, y, rfl, hT, rfl, q⟩ := y
    exact ⟨Ex.new hT, T, y, rfl, upd_same, q xs (ex_l e h)⟩⟩
theorem wk_zipT {a b : Addr} {xs ys : List V} {H0 : Hp} (h : SqT K H0 a xs) (h2 : SqT K H0 b ys) (hl : xs.length = ys.length) : Walks (ItzT K a b) H0 xs.length (fun i x H => ∃ T y z, x = .ref T ∧ H T = some (.tup [y, z]) ∧ xs[i]? = some y ∧ ys[i]? = some z) :=
  ⟨fun H e => ⟨xs, ys, ex_t e h, ex_t e h2, .inl (Nat.le_refl _)⟩, fun i H hi e => ⟨xs, ys, _, _, ex_t e h, ex_t e h2, List.getElem?_eq_getElem hi, List.getElem?_eq_getElem (hl ▸ hi)⟩, fun i H x H' hi e y => by
    obtain ⟨T, y, z, rfl, hT, rfl, q, q2⟩ := y
    exact ⟨Ex.new hT, T, y, z, rfl, upd_same, q xs (ex_t e h), q2 ys (ex_t e h2)⟩⟩
/-- te gives a list (tuple) object with these items -/
def EvSq (te : TE) (σ : L2.St) (H : Hp) (P : List V → Hp → Prop) (tup : Bool) : Prop := ∀ H1, Ex H H1 → ∀ Q : VK, (∀ p xs H2, Ex H1 H2 → H2 p = some (if tup = true then .tup xs else .lst xs) → P xs H2 → Q (.ref p) H2) → te σ H1 Q
theorem ei_rng (h : EvA ta σ H [.int (n : Int)]) (hn : n ≤ 100000) : EvI (iRng1 ta) σ H n (fun i x _ => x = .int (i : Int)) := fun H1 e R r => h H1 e _ fun H2 e2 => ⟨n, rfl, by omega, by omega, r _ _ e2 (by rw [Int.toNat_natCast]; exact wk_rng)⟩
theorem ei_str {z : Str} (h : Ev te σ H (.str z)) : EvI (iStr te) σ H z.length (fun i x _ => ∃ c, z.cps[i]? = some c ∧ x = .str ⟨#[c]⟩) := fun H1 e R r => h H1 e _ fun H2 e2 => ⟨z, rfl, r _ _ e2 wk_str⟩
theorem ei_list {a : Addr} (h : Ev te σ H (.ref a)) (hx : H a = some (.lst xs)) : EvI (iList K te) σ H xs.length (fun i x _ => xs[i]? = some x) := fun H1 e R r => h H1 e _ fun H2 e2 => ⟨a, rfl, ⟨xs, sq_of ((e.trans e2) _ _ hx)⟩, r _ _ e2 (wk_list (sq_of ((e.trans e2) _ _ hx)))⟩
theorem ei_tup {a : Addr} (h : Ev te σ H (.ref a)) (hx : H a = some (.tup xs)) : EvI (iTup K te) σ H xs.length (fun i x _ => xs[i]? = some x) := fun H1 e R r => h H1 e _ fun H2 e2 => ⟨a, rfl, ⟨xs, st_of ((e.trans e2) _ _ hx)⟩, r _ _ e2 (wk_tup (st_of ((e.trans e2) _ _ hx)))⟩
theorem ei_listN (h : EvL te σ H xs) : EvI (iList K te) σ H xs.length (fun i x _ => xs[i]? = some x) := fun H1 e R r => h H1 e _ fun a H2 hn e2 hx => ⟨a, rfl, ⟨xs, sq_of hx⟩, r _ _ e2 (wk_list (sq_of hx))⟩
theorem ei_enumT {a : Addr} (h : EvA ta σ H [.ref a]) (hx : H a = some (.tup xs)) : EvI (iEnumT K ta) σ H xs.length (fun i x H => ∃ T y, x = .ref T ∧ H T = some (.tup [.int (i : Int), y]) ∧ xs[i]? = some y) := fun H1 e R r => h H1 e _ fun H2 e2 => ⟨a, xs, rfl, st_of ((e.trans e2) _ _ hx), r _ _ e2 (wk_enumT (st_of ((e.trans e2) _ _ hx)))⟩
theorem ei_enum {a : Addr} (h : EvA ta σ H [.ref a]) (hx : H a = some (.lst xs)) : EvI (iEnum K ta) σ H xs.length (fun i x H => ∃ T y, x = .ref T ∧ H T = some (.tup [.int (i : Int), y]) ∧ xs[i]? = some y) := fun H1 e R r => h H1 e _ fun H2 e2 => ⟨a, xs, rfl, sq_of ((e.trans e2) _ _ hx), r _ _ e2 (wk_enum (sq_of ((e.trans e2) _ _ hx)))⟩
theorem ei_zipT {a b : Addr} (h : EvA ta σ H [.ref a, .ref b]) (hx : H a = some (.tup xs)) (hy : H b = some (.tup ys)) (hl : xs.length = ys.length) : EvI (iZipA K ta) σ H xs.length (fun i x H => ∃ T y z, x = .ref T ∧ H T = some (.tup [y, z]) ∧ xs[i]? = some y ∧ ys[i]? = some z) := fun H1 e R r =>
  h H1 e _ fun H2 e2 => ⟨a, b, xs, ys, rfl, .inr ⟨st_of ((e.trans e2) _ _ hx), st_of ((e.trans e2) _ _ hy), r _ _ e2 (wk_zipT (st_of ((e.trans e2) _ _ hx)) (st_of ((e.trans e2) _ _ hy)) hl)⟩⟩
end

/-! ### comprehensions, loops -/
section
variable {α : Type} {R : Hp → V → α → Prop} {K : PySem.W.Frag} {σ : L2.St} {H : Hp} {te : TE} {ti : TI} {g : TG} {tt : TT} {vs : List Nat} {n : Nat} {Y : Nat → V → Hp → Prop} {f : Nat → Bool} {d : Nat → α} {tb tz : TS} {D : Ends}
theorem ep_lc (hR : Stay R) (hL : StayL R) (n : Nat) (f : Nat → Bool) (d : Nat → α) (hi : EvI ti σ H n Y) (hn : n ≤ 40000)
    (hb : ∀ i x H1, Ex H H1 → i < n → Y i x H1 → ∀ Q : L2.St → Hp → Prop, (∀ σ2 H2, Ex H1 H2 → wipe σ2 vs = wipe σ vs → EvT tt σ2 H2 (f i) → (∀ H3, Ex H2 H3 → f i = true → EvQ te σ2 H3 R (d i)) → Q σ2 H2) → g x (wipe σ vs) H1 Q) :
    EvQF (tLc ti g tt te vs) σ H R (givenA n f d) := fun H1 e Q q => hi H1 e _ fun J H2 e2 W Dl hD => by
  refine ⟨fun i m H' => i + m = n ∧ H2 Dl = none ∧ Ex H2 H' ∧ ∃ xs, H' Dl = some (.lst xs) ∧ All2 (R H') xs (givenA i f d), ⟨n, by omega, hD, Ex.new hD, [], upd_same, .nil⟩, fun i m H' w => ?_⟩
  obtain ⟨him, _, w1, xs, w2, w3⟩ := w
  cases m with
  | zero =>
    obtain rfl : i = n := by omega
    exact .inl ⟨W.stop H' w1, q Dl xs H' (e2.trans w1) (fresh_back e2 hD) w2 w3⟩
  | succ m =>
    have hlt : i < n := by omega
    refine .inr ⟨W.go i H' hlt w1, fun H'' => i + 1 + m = n ∧ H2 Dl = none ∧ Ex H2 H'' ∧ ∃ xs, H'' Dl = some (.lst xs) ∧ All2 (R H'') xs (givenA (i + 1) f d), fun H'' z => ⟨m, Nat.lt_succ_self m, z⟩, fun x H'' y => ?_⟩
    obtain ⟨y1, y2⟩ := W.yld i H' x H'' hlt w1 y
    refine hb i x H'' ((e.trans e2).trans (w1.trans y1)) hlt y2 _ fun σ2 H3 e3 hw ht he => ⟨hw, ht H3 (Ex.refl _) _ fun H4 e4 => ?_⟩
    have up : Ex H' H4 := y1.trans (e3.trans e4)
    have h4 : H4 Dl = some (.lst xs) := up _ _ w2
    cases hf : f i with
    | true =>
      show te σ2 H4 _
      refine he H4 e4 hf H4 (Ex.refl _) _ fun v H5 e5 hv => ?_
      have h5 : H5 Dl = some (.lst xs) := e5 _ _ h4
      refine ⟨xs, h5, ?_, by omega, hD, Ex.mut ((w1.trans up).trans e5) hD, xs ++ [v], upd_same, ?_⟩
      · exact sz_lt (by have h1 := w3.len; have h2 := givenA_len i f d; omega)
      · rw [givenA_yes hf]
        exact ((w3.imp fun a b r => hL _ _ _ _ _ _ h5 (hR _ _ _ _ (up.trans e5) r))).snoc (hL _ _ _ _ _ _ h5 hv)
    | false =>
      show _ ∧ _
      refine ⟨by omega, hD, w1.trans up, xs, h4, ?_⟩
      rw [givenA_no hf]
      exact w3.imp fun a b r => hR _ _ _ _ up r
/-- for .. in ..: Pv is kept -/
theorem ep_for (hi : EvI ti σ H n Y) (hn : n ≤ 40000) (k : ∀ H1, Ex H H1 → ∃ Pv : Nat → L2.St → Hp → Prop, Pv 0 σ H1 ∧ (∀ i σ' H', Pv i σ' H' → Ex H1 H') ∧
    (∀ i x σ' H' H'', i < n → Pv i σ' H' → Ex H' H'' → Y i x H'' → g x σ' H'' fun σ2 H2 => tb { D with nx := Pv (i + 1), ct := Pv (i + 1), bk := D.nx } σ2 H2) ∧ ∀ σ' H', Pv n σ' H' → D.nx σ' H') : tFor ti g tb D σ H :=
  hi H (Ex.refl H) _ fun J H2 e2 W => by
    obtain ⟨Pv, h0, hx, hs, hd⟩ := k H2 e2
    refine ⟨fun i m σ' H' => i + m = n ∧ Pv i σ' H', ⟨n, by omega, h0⟩, fun i m σ' H' w => ?_⟩
    obtain ⟨him, w⟩ := w
    cases m with
    | zero =>
      obtain rfl : i = n := by omega
      exact .inl ⟨W.stop H' (hx _ _ _ w), hd _ _ w⟩
    | succ m =>
      have hlt : i < n := by omega
      refine .inr ⟨W.go i H' hlt (hx _ _ _ w), fun σ'' H'' => Pv (i + 1) σ'' H'', fun σ'' H'' z => ⟨m, Nat.lt_succ_self m, by omega, z⟩, fun x H'' y => ?_⟩
      obtain ⟨y1, y2⟩ := W.yld i H' x H'' hlt (hx _ _ _ w) y
      exact hs i x σ' H' H'' hlt w y1 y2
theorem eq_for (hi : EvI ti σ H n Y) (hn : n ≤ 40000) (k : ∀ H1, Ex H H1 → ∃ Pv : Nat → L2.St → Hp → Prop, Pv 0 σ H1 ∧ (∀ i σ' H', Pv i σ' H' → Ex H1 H') ∧
    (∀ i x σ' H' H'', i < n → Pv i σ' H' → Ex H' H'' → Y i x H'' → g x σ' H'' fun σ2 H2 => tb { D with nx := Pv (i + 1), ct := Pv (i + 1), bk := tz D } σ2 H2) ∧ ∀ σ' H', Pv n σ' H' → tz D σ' H') : tSeq (tFor ti g tb) tz D σ H := ep_for (D := { D with nx := tz D }) hi hn k
end
end K7

/-! K9A (printed by wip/tool/mkfacts.py): the text's statements, the facts asked of the head, their readings by name. -/
namespace K7
open PySem PySem.Spec PyProof.Rows L2
section
variable {P : Program} {K : PySem.W.Frag} {mg : Str → Option Value}
theorem TXG.g_check_lot (T : TXG fileC fa fx fn P K mg) : mg "check_lot" = some (.ref (He.ga K "check_lot")) := T.glo 0 rfl
theorem TXG.k_check_lot (T : TXG fileC fa fx fn P K mg) : PySem.W.keepIn K (.ref (He.ga K "check_lot")) = true := He.keep_ok (T.fact 1 (f := .keep "check_lot") rfl)
theorem TXG.g_check_prices (T : TXG fileC fa fx fn P K mg) : mg "check_prices" = some (.ref (He.ga K "check_prices")) := T.glo 2 rfl
theorem TXG.k_check_prices (T : TXG fileC fa fx fn P K mg) : PySem.W.keepIn K (.ref (He.ga K "check_prices")) = true := He.keep_ok (T.fact 3 (f := .keep "check_prices") rfl)
theorem TXG.g_lot_at (T : TXG fileC fa fx fn P K mg) : mg "lot_at" = some (.ref (He.ga K "lot_at")) := T.glo 4 rfl
theorem TXG.k_lot_at (T : TXG fileC fa fx fn P K mg) : PySem.W.keepIn K (.ref (He.ga K "lot_at")) = true := He.keep_ok (T.fact 5 (f := .keep "lot_at") rfl)
theorem TXG.g_dearest_order (T : TXG fileC fa fx fn P K mg) : mg "dearest_order" = some (.ref (He.ga K "dearest_order")) := T.glo 6 rfl
theorem TXG.k_dearest_order (T : TXG fileC fa fx fn P K mg) : PySem.W.keepIn K (.ref (He.ga K "dearest_order")) = true := He.keep_ok (T.fact 7 (f := .keep "dearest_order") rfl)
theorem TXG.g_is_name (T : TXG fileC fa fx fn P K mg) : mg "is_name" = some (.ref (He.ga K "is_name")) := T.glo 8 rfl
theorem TXG.k_is_name (T : TXG fileC fa fx fn P K mg) : PySem.W.keepIn K (.ref (He.ga K "is_name")) = true := He.keep_ok (T.fact 9 (f := .keep "is_name") rfl)
theorem TXG.g_check_least (T : TXG fileC fa fx fn P K mg) : mg "check_least" = some (.ref (He.ga K "check_least")) := T.glo 10 rfl
theorem TXG.k_check_least (T : TXG fileC fa fx fn P K mg) : PySem.W.keepIn K (.ref (He.ga K "check_least")) = true := He.keep_ok (T.fact 11 (f := .keep "check_least") rfl)
theorem TXG.g_best_of (T : TXG fileC fa fx fn P K mg) : mg "best_of" = some (.ref (He.ga K "best_of")) := T.glo 12 rfl
theorem TXG.k_best_of (T : TXG fileC fa fx fn P K mg) : PySem.W.keepIn K (.ref (He.ga K "best_of")) = true := He.keep_ok (T.fact 13 (f := .keep "best_of") rfl)
theorem TXG.g__law_cell (T : TXG fileC fa fx fn P K mg) : mg "_law_cell" = some (.ref (He.ga K "_law_cell")) := T.glo 14 rfl
theorem TXG.k__law_cell (T : TXG fileC fa fx fn P K mg) : PySem.W.keepIn K (.ref (He.ga K "_law_cell")) = true := He.keep_ok (T.fact 15 (f := .keep "_law_cell") rfl)
theorem TXG.g__law_draws (T : TXG fileC fa fx fn P K mg) : mg "_law_draws" = some (.ref (He.ga K "_law_draws")) := T.glo 16 rfl
theorem TXG.k__law_draws (T : TXG fileC fa fx fn P K mg) : PySem.W.keepIn K (.ref (He.ga K "_law_draws")) = true := He.keep_ok (T.fact 17 (f := .keep "_law_draws") rfl)
theorem TXG.g__law_own_cell (T : TXG fileC fa fx fn P K mg) : mg "_law_own_cell" = some (.ref (He.ga K "_law_own_cell")) := T.glo 18 rfl
theorem TXG.k__law_own_cell (T : TXG fileC fa fx fn P K mg) : PySem.W.keepIn K (.ref (He.ga K "_law_own_cell")) = true := He.keep_ok (T.fact 19 (f := .keep "_law_own_cell") rfl)
theorem TXG.g__law_is_int (T : TXG fileC fa fx fn P K mg) : mg "_law_is_int" = some (.ref (He.ga K "_law_is_int")) := T.glo 20 rfl
theorem TXG.k__law_is_int (T : TXG fileC fa fx fn P K mg) : PySem.W.keepIn K (.ref (He.ga K "_law_is_int")) = true := He.keep_ok (T.fact 21 (f := .keep "_law_is_int") rfl)
theorem TXG.g__law_is_ratio (T : TXG fileC fa fx fn P K mg) : mg "_law_is_ratio" = some (.ref (He.ga K "_law_is_ratio")) := T.glo 22 rfl
theorem TXG.k__law_is_ratio (T : TXG fileC fa fx fn P K mg) : PySem.W.keepIn K (.ref (He.ga K "_law_is_ratio")) = true := He.keep_ok (T.fact 23 (f := .keep "_law_is_ratio") rfl)
theorem TXG.g__law_same_lot (T : TXG fileC fa fx fn P K mg) : mg "_law_same_lot" = some (.ref (He.ga K "_law_same_lot")) := T.glo 24 rfl
theorem TXG.k__law_same_lot (T : TXG fileC fa fx fn P K mg) : PySem.W.keepIn K (.ref (He.ga K "_law_same_lot")) = true := He.keep_ok (T.fact 25 (f := .keep "_law_same_lot") rfl)
theorem TXG.g__law_refused (T : TXG fileC fa fx fn P K mg) : mg "_law_refused" = some (.ref (He.ga K "_law_refused")) := T.glo 26 rfl
theorem TXG.k__law_refused (T : TXG fileC fa fx fn P K mg) : PySem.W.keepIn K (.ref (He.ga K "_law_refused")) = true := He.keep_ok (T.fact 27 (f := .keep "_law_refused") rfl)
theorem TXG.g__law_signs (T : TXG fileC fa fx fn P K mg) : mg "_law_signs" = some (.ref (He.ga K "_law_signs")) := T.glo 28 rfl
theorem TXG.k__law_signs (T : TXG fileC fa fx fn P K mg) : PySem.W.keepIn K (.ref (He.ga K "_law_signs")) = true := He.keep_ok (T.fact 29 (f := .keep "_law_signs") rfl)
theorem TXG.g__law_any_name (T : TXG fileC fa fx fn P K mg) : mg "_law_any_name" = some (.ref (He.ga K "_law_any_name")) := T.glo 30 rfl
theorem TXG.k__law_any_name (T : TXG fileC fa fx fn P K mg) : PySem.W.keepIn K (.ref (He.ga K "_law_any_name")) = true := He.keep_ok (T.fact 31 (f := .keep "_law_any_name") rfl)
theorem TXG.g__law_is_name (T : TXG fileC fa fx fn P K mg) : mg "_law_is_name" = some (.ref (He.ga K "_law_is_name")) := T.glo 32 rfl
theorem TXG.k__law_is_name (T : TXG fileC fa fx fn P K mg) : PySem.W.keepIn K (.ref (He.ga K "_law_is_name")) = true := He.keep_ok (T.fact 33 (f := .keep "_law_is_name") rfl)
theorem TXG.g__law_move (T : TXG fileC fa fx fn P K mg) : mg "_law_move" = some (.ref (He.ga K "_law_move")) := T.glo 34 rfl
theorem TXG.k__law_move (T : TXG fileC fa fx fn P K mg) : PySem.W.keepIn K (.ref (He.ga K "_law_move")) = true := He.keep_ok (T.fact 35 (f := .keep "_law_move") rfl)
theorem TXG.g__law_pairs (T : TXG fileC fa fx fn P K mg) : mg "_law_pairs" = some (.ref (He.ga K "_law_pairs")) := T.glo 36 rfl
theorem TXG.k__law_pairs (T : TXG fileC fa fx fn P K mg) : PySem.W.keepIn K (.ref (He.ga K "_law_pairs")) = true := He.keep_ok (T.fact 37 (f := .keep "_law_pairs") rfl)
theorem TXG.g__law_place (T : TXG fileC fa fx fn P K mg) : mg "_law_place" = some (.ref (He.ga K "_law_place")) := T.glo 38 rfl
theorem TXG.k__law_place (T : TXG fileC fa fx fn P K mg) : PySem.W.keepIn K (.ref (He.ga K "_law_place")) = true := He.keep_ok (T.fact 39 (f := .keep "_law_place") rfl)
theorem TXG.g__law_changed (T : TXG fileC fa fx fn P K mg) : mg "_law_changed" = some (.ref (He.ga K "_law_changed")) := T.glo 40 rfl
theorem TXG.k__law_changed (T : TXG fileC fa fx fn P K mg) : PySem.W.keepIn K (.ref (He.ga K "_law_changed")) = true := He.keep_ok (T.fact 41 (f := .keep "_law_changed") rfl)
theorem TXG.g__law_do (T : TXG fileC fa fx fn P K mg) : mg "_law_do" = some (.ref (He.ga K "_law_do")) := T.glo 42 rfl
theorem TXG.k__law_do (T : TXG fileC fa fx fn P K mg) : PySem.W.keepIn K (.ref (He.ga K "_law_do")) = true := He.keep_ok (T.fact 43 (f := .keep "_law_do") rfl)
theorem TXG.g__law_tried (T : TXG fileC fa fx fn P K mg) : mg "_law_tried" = some (.ref (He.ga K "_law_tried")) := T.glo 44 rfl
theorem TXG.k__law_tried (T : TXG fileC fa fx fn P K mg) : PySem.W.keepIn K (.ref (He.ga K "_law_tried")) = true := He.keep_ok (T.fact 45 (f := .keep "_law_tried") rfl)
theorem TXG.g__law_due (T : TXG fileC fa fx fn P K mg) : mg "_law_due" = some (.ref (He.ga K "_law_due")) := T.glo 46 rfl
theorem TXG.k__law_due (T : TXG fileC fa fx fn P K mg) : PySem.W.keepIn K (.ref (He.ga K "_law_due")) = true := He.keep_ok (T.fact 47 (f := .keep "_law_due") rfl)
theorem TXG.g__law_after (T : TXG fileC fa fx fn P K mg) : mg "_law_after" = some (.ref (He.ga K "_law_after")) := T.glo 48 rfl
theorem TXG.k__law_after (T : TXG fileC fa fx fn P K mg) : PySem.W.keepIn K (.ref (He.ga K "_law_after")) = true := He.keep_ok (T.fact 49 (f := .keep "_law_after") rfl)
theorem TXG.g__law_told_right (T : TXG fileC fa fx fn P K mg) : mg "_law_told_right" = some (.ref (He.ga K "_law_told_right")) := T.glo 50 rfl
theorem TXG.k__law_told_right (T : TXG fileC fa fx fn P K mg) : PySem.W.keepIn K (.ref (He.ga K "_law_told_right")) = true := He.keep_ok (T.fact 51 (f := .keep "_law_told_right") rfl)
theorem TXG.g__law_desk_right (T : TXG fileC fa fx fn P K mg) : mg "_law_desk_right" = some (.ref (He.ga K "_law_desk_right")) := T.glo 52 rfl
theorem TXG.k__law_desk_right (T : TXG fileC fa fx fn P K mg) : PySem.W.keepIn K (.ref (He.ga K "_law_desk_right")) = true := He.keep_ok (T.fact 53 (f := .keep "_law_desk_right") rfl)
theorem TXG.g__law_look (T : TXG fileC fa fx fn P K mg) : mg "_law_look" = some (.ref (He.ga K "_law_look")) := T.glo 54 rfl
theorem TXG.k__law_look (T : TXG fileC fa fx fn P K mg) : PySem.W.keepIn K (.ref (He.ga K "_law_look")) = true := He.keep_ok (T.fact 55 (f := .keep "_law_look") rfl)
theorem TXG.g__law_steps (T : TXG fileC fa fx fn P K mg) : mg "_law_steps" = some (.ref (He.ga K "_law_steps")) := T.glo 56 rfl
theorem TXG.k__law_steps (T : TXG fileC fa fx fn P K mg) : PySem.W.keepIn K (.ref (He.ga K "_law_steps")) = true := He.keep_ok (T.fact 57 (f := .keep "_law_steps") rfl)
theorem TXG.g__law_stands (T : TXG fileC fa fx fn P K mg) : mg "_law_stands" = some (.ref (He.ga K "_law_stands")) := T.glo 58 rfl
theorem TXG.k__law_stands (T : TXG fileC fa fx fn P K mg) : PySem.W.keepIn K (.ref (He.ga K "_law_stands")) = true := He.keep_ok (T.fact 59 (f := .keep "_law_stands") rfl)
theorem TXG.g__law_back (T : TXG fileC fa fx fn P K mg) : mg "_law_back" = some (.ref (He.ga K "_law_back")) := T.glo 60 rfl
theorem TXG.k__law_back (T : TXG fileC fa fx fn P K mg) : PySem.W.keepIn K (.ref (He.ga K "_law_back")) = true := He.keep_ok (T.fact 61 (f := .keep "_law_back") rfl)
theorem TXG.g_law (T : TXG fileC fa fx fn P K mg) : mg "law" = some (.ref (He.ga K "law")) := T.glo 62 rfl
theorem TXG.k_law (T : TXG fileC fa fx fn P K mg) : PySem.W.keepIn K (.ref (He.ga K "law")) = true := He.keep_ok (T.fact 63 (f := .keep "law") rfl)
theorem TXG.g_BadNumber (T : TXG fileC fa fx fn P K mg) : mg "BadNumber" = some (.ref (He.ga K "BadNumber")) := T.glo 64 rfl
theorem TXG.k_BadNumber (T : TXG fileC fa fx fn P K mg) : PySem.W.keepIn K (.ref (He.ga K "BadNumber")) = true := He.keep_ok (T.fact 65 (f := .keep "BadNumber") rfl)
theorem TXG.g_TooMany (T : TXG fileC fa fx fn P K mg) : mg "TooMany" = some (.ref (He.ga K "TooMany")) := T.glo 66 rfl
theorem TXG.k_TooMany (T : TXG fileC fa fx fn P K mg) : PySem.W.keepIn K (.ref (He.ga K "TooMany")) = true := He.keep_ok (T.fact 67 (f := .keep "TooMany") rfl)
theorem TXG.g_BadName (T : TXG fileC fa fx fn P K mg) : mg "BadName" = some (.ref (He.ga K "BadName")) := T.glo 68 rfl
theorem TXG.k_BadName (T : TXG fileC fa fx fn P K mg) : PySem.W.keepIn K (.ref (He.ga K "BadName")) = true := He.keep_ok (T.fact 69 (f := .keep "BadName") rfl)
theorem TXG.g_KnownName (T : TXG fileC fa fx fn P K mg) : mg "KnownName" = some (.ref (He.ga K "KnownName")) := T.glo 70 rfl
theorem TXG.k_KnownName (T : TXG fileC fa fx fn P K mg) : PySem.W.keepIn K (.ref (He.ga K "KnownName")) = true := He.keep_ok (T.fact 71 (f := .keep "KnownName") rfl)
theorem TXG.g_UnknownName (T : TXG fileC fa fx fn P K mg) : mg "UnknownName" = some (.ref (He.ga K "UnknownName")) := T.glo 72 rfl
theorem TXG.k_UnknownName (T : TXG fileC fa fx fn P K mg) : PySem.W.keepIn K (.ref (He.ga K "UnknownName")) = true := He.keep_ok (T.fact 73 (f := .keep "UnknownName") rfl)
theorem TXG.g_Ratio (T : TXG fileC fa fx fn P K mg) : mg "Ratio" = some (.ref (He.ga K "Ratio")) := T.glo 74 rfl
theorem TXG.k_Ratio (T : TXG fileC fa fx fn P K mg) : PySem.W.keepIn K (.ref (He.ga K "Ratio")) = true := He.keep_ok (T.fact 75 (f := .keep "Ratio") rfl)
theorem TXG.g_Choice (T : TXG fileC fa fx fn P K mg) : mg "Choice" = some (.ref (He.ga K "Choice")) := T.glo 76 rfl
theorem TXG.k_Choice (T : TXG fileC fa fx fn P K mg) : PySem.W.keepIn K (.ref (He.ga K "Choice")) = true := He.keep_ok (T.fact 77 (f := .keep "Choice") rfl)
theorem TXG.g_AtMost (T : TXG fileC fa fx fn P K mg) : mg "AtMost" = some (.ref (He.ga K "AtMost")) := T.glo 78 rfl
theorem TXG.k_AtMost (T : TXG fileC fa fx fn P K mg) : PySem.W.keepIn K (.ref (He.ga K "AtMost")) = true := He.keep_ok (T.fact 79 (f := .keep "AtMost") rfl)
theorem TXG.g_Rule (T : TXG fileC fa fx fn P K mg) : mg "Rule" = some (.ref (He.ga K "Rule")) := T.glo 80 rfl
theorem TXG.k_Rule (T : TXG fileC fa fx fn P K mg) : PySem.W.keepIn K (.ref (He.ga K "Rule")) = true := He.keep_ok (T.fact 81 (f := .keep "Rule") rfl)
theorem TXG.g_Weighted (T : TXG fileC fa fx fn P K mg) : mg "Weighted" = some (.ref (He.ga K "Weighted")) := T.glo 82 rfl
theorem TXG.k_Weighted (T : TXG fileC fa fx fn P K mg) : PySem.W.keepIn K (.ref (He.ga K "Weighted")) = true := He.keep_ok (T.fact 83 (f := .keep "Weighted") rfl)
theorem TXG.g_State (T : TXG fileC fa fx fn P K mg) : mg "State" = some (.ref (He.ga K "State")) := T.glo 84 rfl
theorem TXG.k_State (T : TXG fileC fa fx fn P K mg) : PySem.W.keepIn K (.ref (He.ga K "State")) = true := He.keep_ok (T.fact 85 (f := .keep "State") rfl)
theorem TXG.g_Desk (T : TXG fileC fa fx fn P K mg) : mg "Desk" = some (.ref (He.ga K "Desk")) := T.glo 86 rfl
theorem TXG.k_Desk (T : TXG fileC fa fx fn P K mg) : PySem.W.keepIn K (.ref (He.ga K "Desk")) = true := He.keep_ok (T.fact 87 (f := .keep "Desk") rfl)
theorem TXG.g_ZeroBottom (T : TXG fileC fa fx fn P K mg) : mg "ZeroBottom" = some (.ref (He.ga K "ZeroBottom")) := T.glo 88 rfl
theorem TXG.k_ZeroBottom (T : TXG fileC fa fx fn P K mg) : PySem.W.keepIn K (.ref (He.ga K "ZeroBottom")) = true := He.keep_ok (T.fact 89 (f := .keep "ZeroBottom") rfl)
theorem TXG.g_BadLot (T : TXG fileC fa fx fn P K mg) : mg "BadLot" = some (.ref (He.ga K "BadLot")) := T.glo 90 rfl
theorem TXG.k_BadLot (T : TXG fileC fa fx fn P K mg) : PySem.W.keepIn K (.ref (He.ga K "BadLot")) = true := He.keep_ok (T.fact 91 (f := .keep "BadLot") rfl)
theorem TXG.g_NothingToUndo (T : TXG fileC fa fx fn P K mg) : mg "NothingToUndo" = some (.ref (He.ga K "NothingToUndo")) := T.glo 92 rfl
theorem TXG.k_NothingToUndo (T : TXG fileC fa fx fn P K mg) : PySem.W.keepIn K (.ref (He.ga K "NothingToUndo")) = true := He.keep_ok (T.fact 93 (f := .keep "NothingToUndo") rfl)
theorem TXG.n_range (T : TXG fileC fa fx fn P K mg) : mg "range" = none := T.free 94 rfl
theorem TXG.n_len (T : TXG fileC fa fx fn P K mg) : mg "len" = none := T.free 95 rfl
theorem TXG.n_int (T : TXG fileC fa fx fn P K mg) : mg "int" = none := T.free 96 rfl
theorem TXG.n_min (T : TXG fileC fa fx fn P K mg) : mg "min" = none := T.free 97 rfl
theorem TXG.n_sum (T : TXG fileC fa fx fn P K mg) : mg "sum" = none := T.free 98 rfl
theorem TXG.n_all (T : TXG fileC fa fx fn P K mg) : mg "all" = none := T.free 99 rfl
theorem TXG.n_sorted (T : TXG fileC fa fx fn P K mg) : mg "sorted" = none := T.free 100 rfl
theorem TXG.n_isinstance (T : TXG fileC fa fx fn P K mg) : mg "isinstance" = none := T.free 101 rfl
theorem TXG.n_iter (T : TXG fileC fa fx fn P K mg) : mg "iter" = none := T.free 102 rfl
theorem TXG.n_list (T : TXG fileC fa fx fn P K mg) : mg "list" = none := T.free 103 rfl
theorem TXG.n_dict (T : TXG fileC fa fx fn P K mg) : mg "dict" = none := T.free 104 rfl
theorem TXG.n_tuple (T : TXG fileC fa fx fn P K mg) : mg "tuple" = none := T.free 105 rfl
theorem TXG.n_enumerate (T : TXG fileC fa fx fn P K mg) : mg "enumerate" = none := T.free 106 rfl
theorem TXG.n_zip (T : TXG fileC fa fx fn P K mg) : mg "zip" = none := T.free 107 rfl
theorem TXG.n_str (T : TXG fileC fa fx fn P K mg) : mg "str" = none := T.free 108 rfl
theorem TXG.n_bool (T : TXG fileC fa fx fn P K mg) : mg "bool" = none := T.free 109 rfl
theorem TXG.n_super (T : TXG fileC fa fx fn P K mg) : mg "super" = none := T.free 110 rfl
theorem TXG.n_NotImplemented (T : TXG fileC fa fx fn P K mg) : mg "NotImplemented" = none := T.free 111 rfl
theorem TXG.m_MOST_THINGS (T : TXG fileC fa fx fn P K mg) : ∃ u, mg "MOST_THINGS" = some u ∧ RelV (.int 24) u := T.int 112 rfl
theorem TXG.m_LONGEST_NAME (T : TXG fileC fa fx fn P K mg) : ∃ u, mg "LONGEST_NAME" = some u ∧ RelV (.int 12) u := T.int 113 rfl
theorem TXG.m_LETTERS (T : TXG fileC fa fx fn P K mg) : ∃ u, mg "LETTERS" = some u ∧ RelV (.str "abcdefghijklmnopqrstuvwxyz") u := T.str 114 rfl
theorem TXG.c_Ratio (T : TXG fileC fa fx fn P K mg) : Cls K (He.ga K "Ratio") := He.cls_ok (T.fact 115 (f := .cls "Ratio") rfl)
theorem TXG.mk_Ratio (T : TXG fileC fa fx fn P K mg) : Mk K (He.ga K "Ratio") (He.ma K (He.ga K "Ratio") "__init__") := He.mkr_ok (T.fact 116 (f := .mkr "Ratio") rfl)
theorem TXG.no_Ratio_top (T : TXG fileC fa fx fn P K mg) : NoAttr K (He.ga K "Ratio") "top" := He.noat_ok (T.fact 117 (f := .noat "Ratio" "top") rfl)
theorem TXG.no_Ratio_bottom (T : TXG fileC fa fx fn P K mg) : NoAttr K (He.ga K "Ratio") "bottom" := He.noat_ok (T.fact 118 (f := .noat "Ratio" "bottom") rfl)
theorem TXG.c_Choice (T : TXG fileC fa fx fn P K mg) : Cls K (He.ga K "Choice") := He.cls_ok (T.fact 119 (f := .cls "Choice") rfl)
theorem TXG.mk_Choice (T : TXG fileC fa fx fn P K mg) : Mk K (He.ga K "Choice") (He.ma K (He.ga K "Choice") "__init__") := He.mkr_ok (T.fact 120 (f := .mkr "Choice") rfl)
theorem TXG.no_Choice_rule (T : TXG fileC fa fx fn P K mg) : NoAttr K (He.ga K "Choice") "rule" := He.noat_ok (T.fact 121 (f := .noat "Choice" "rule") rfl)
theorem TXG.no_Choice_prices (T : TXG fileC fa fx fn P K mg) : NoAttr K (He.ga K "Choice") "prices" := He.noat_ok (T.fact 122 (f := .noat "Choice" "prices") rfl)
theorem TXG.c_AtMost (T : TXG fileC fa fx fn P K mg) : Cls K (He.ga K "AtMost") := He.cls_ok (T.fact 123 (f := .cls "AtMost") rfl)
theorem TXG.mk_AtMost (T : TXG fileC fa fx fn P K mg) : Mk K (He.ga K "AtMost") (He.ma K (He.ga K "AtMost") "__init__") := He.mkr_ok (T.fact 124 (f := .mkr "AtMost") rfl)
theorem TXG.no_AtMost_rule (T : TXG fileC fa fx fn P K mg) : NoAttr K (He.ga K "AtMost") "rule" := He.noat_ok (T.fact 125 (f := .noat "AtMost" "rule") rfl)
theorem TXG.no_AtMost_prices (T : TXG fileC fa fx fn P K mg) : NoAttr K (He.ga K "AtMost") "prices" := He.noat_ok (T.fact 126 (f := .noat "AtMost" "prices") rfl)
theorem TXG.no_AtMost_most (T : TXG fileC fa fx fn P K mg) : NoAttr K (He.ga K "AtMost") "most" := He.noat_ok (T.fact 127 (f := .noat "AtMost" "most") rfl)
theorem TXG.c_Weighted (T : TXG fileC fa fx fn P K mg) : Cls K (He.ga K "Weighted") := He.cls_ok (T.fact 128 (f := .cls "Weighted") rfl)
theorem TXG.mk_Weighted (T : TXG fileC fa fx fn P K mg) : Mk K (He.ga K "Weighted") (He.ma K (He.ga K "Weighted") "__init__") := He.mkr_ok (T.fact 129 (f := .mkr "Weighted") rfl)
theorem TXG.no_Weighted_many (T : TXG fileC fa fx fn P K mg) : NoAttr K (He.ga K "Weighted") "many" := He.noat_ok (T.fact 130 (f := .noat "Weighted" "many") rfl)
theorem TXG.no_Weighted_weights (T : TXG fileC fa fx fn P K mg) : NoAttr K (He.ga K "Weighted") "weights" := He.noat_ok (T.fact 131 (f := .noat "Weighted" "weights") rfl)
theorem TXG.no_Weighted_aside (T : TXG fileC fa fx fn P K mg) : NoAttr K (He.ga K "Weighted") "aside" := He.noat_ok (T.fact 132 (f := .noat "Weighted" "aside") rfl)
theorem TXG.c_State (T : TXG fileC fa fx fn P K mg) : Cls K (He.ga K "State") := He.cls_ok (T.fact 133 (f := .cls "State") rfl)
theorem TXG.mk_State (T : TXG fileC fa fx fn P K mg) : Mk K (He.ga K "State") (He.ma K (He.ga K "State") "__init__") := He.mkr_ok (T.fact 134 (f := .mkr "State") rfl)
theorem TXG.no_State_rows (T : TXG fileC fa fx fn P K mg) : NoAttr K (He.ga K "State") "rows" := He.noat_ok (T.fact 135 (f := .noat "State" "rows") rfl)
theorem TXG.no_State_aside (T : TXG fileC fa fx fn P K mg) : NoAttr K (He.ga K "State") "aside" := He.noat_ok (T.fact 136 (f := .noat "State" "aside") rfl)
theorem TXG.no_State_cap (T : TXG fileC fa fx fn P K mg) : NoAttr K (He.ga K "State") "cap" := He.noat_ok (T.fact 137 (f := .noat "State" "cap") rfl)
theorem TXG.no_State_top_names (T : TXG fileC fa fx fn P K mg) : NoAttr K (He.ga K "State") "top_names" := He.noat_ok (T.fact 138 (f := .noat "State" "top_names") rfl)
theorem TXG.no_State_top_worth (T : TXG fileC fa fx fn P K mg) : NoAttr K (He.ga K "State") "top_worth" := He.noat_ok (T.fact 139 (f := .noat "State" "top_worth") rfl)
theorem TXG.c_Desk (T : TXG fileC fa fx fn P K mg) : Cls K (He.ga K "Desk") := He.cls_ok (T.fact 140 (f := .cls "Desk") rfl)
theorem TXG.mk_Desk (T : TXG fileC fa fx fn P K mg) : Mk K (He.ga K "Desk") (He.ma K (He.ga K "Desk") "__init__") := He.mkr_ok (T.fact 141 (f := .mkr "Desk") rfl)
theorem TXG.no_Desk__state (T : TXG fileC fa fx fn P K mg) : NoAttr K (He.ga K "Desk") "_state" := He.noat_ok (T.fact 142 (f := .noat "Desk" "_state") rfl)
theorem TXG.no_Desk__past (T : TXG fileC fa fx fn P K mg) : NoAttr K (He.ga K "Desk") "_past" := He.noat_ok (T.fact 143 (f := .noat "Desk" "_past") rfl)
theorem TXG.me_Choice_gains (T : TXG fileC fa fx fn P K mg) : Meth K (He.ga K "Choice") "gains" (He.ma K (He.ga K "Choice") "gains") := He.meth_ok (T.fact 144 (f := .meth "Choice" "gains") rfl)
theorem TXG.me_Choice_pick (T : TXG fileC fa fx fn P K mg) : Meth K (He.ga K "Choice") "pick" (He.ma K (He.ga K "Choice") "pick") := He.meth_ok (T.fact 145 (f := .meth "Choice" "pick") rfl)
theorem TXG.me_Choice_climb (T : TXG fileC fa fx fn P K mg) : Meth K (He.ga K "Choice") "climb" (He.ma K (He.ga K "Choice") "climb") := He.meth_ok (T.fact 146 (f := .meth "Choice" "climb") rfl)
theorem TXG.me_Choice_best (T : TXG fileC fa fx fn P K mg) : Meth K (He.ga K "Choice") "best" (He.ma K (He.ga K "Choice") "best") := He.meth_ok (T.fact 147 (f := .meth "Choice" "best") rfl)
theorem TXG.me0_AtMost_gains (T : TXG fileC fa fx fn P K mg) : Meth K (He.ga K "AtMost") "gains" (He.ma K (He.ga K "AtMost") "gains") := He.meth_ok (T.fact 148 (f := .meth "AtMost" "gains") rfl)
theorem TXG.me_AtMost_pick (T : TXG fileC fa fx fn P K mg) : Meth K (He.ga K "AtMost") "pick" (He.ma K (He.ga K "AtMost") "pick") := He.meth_ok (T.fact 149 (f := .meth "AtMost" "pick") rfl)
theorem TXG.me0_AtMost_climb (T : TXG fileC fa fx fn P K mg) : Meth K (He.ga K "AtMost") "climb" (He.ma K (He.ga K "AtMost") "climb") := He.meth_ok (T.fact 150 (f := .meth "AtMost" "climb") rfl)
theorem TXG.me0_AtMost_best (T : TXG fileC fa fx fn P K mg) : Meth K (He.ga K "AtMost") "best" (He.ma K (He.ga K "AtMost") "best") := He.meth_ok (T.fact 151 (f := .meth "AtMost" "best") rfl)
theorem TXG.me0_Weighted_worth (T : TXG fileC fa fx fn P K mg) : Meth K (He.ga K "Weighted") "worth" (He.ma K (He.ga K "Weighted") "worth") := He.meth_ok (T.fact 152 (f := .meth "Weighted" "worth") rfl)
theorem TXG.me_Weighted_shares (T : TXG fileC fa fx fn P K mg) : Meth K (He.ga K "Weighted") "shares" (He.ma K (He.ga K "Weighted") "shares") := He.meth_ok (T.fact 153 (f := .meth "Weighted" "shares") rfl)
theorem TXG.me_Weighted_total_of (T : TXG fileC fa fx fn P K mg) : Meth K (He.ga K "Weighted") "total_of" (He.ma K (He.ga K "Weighted") "total_of") := He.meth_ok (T.fact 154 (f := .meth "Weighted" "total_of") rfl)
theorem TXG.me_Desk___init__ (T : TXG fileC fa fx fn P K mg) : Meth K (He.ga K "Desk") "__init__" (He.ma K (He.ga K "Desk") "__init__") := He.meth_ok (T.fact 155 (f := .meth "Desk" "__init__") rfl)
theorem TXG.me_Desk__change (T : TXG fileC fa fx fn P K mg) : Meth K (He.ga K "Desk") "_change" (He.ma K (He.ga K "Desk") "_change") := He.meth_ok (T.fact 156 (f := .meth "Desk" "_change") rfl)
theorem TXG.me_Desk__change_rows (T : TXG fileC fa fx fn P K mg) : Meth K (He.ga K "Desk") "_change_rows" (He.ma K (He.ga K "Desk") "_change_rows") := He.meth_ok (T.fact 157 (f := .meth "Desk" "_change_rows") rfl)
theorem TXG.me_Desk__check_known (T : TXG fileC fa fx fn P K mg) : Meth K (He.ga K "Desk") "_check_known" (He.ma K (He.ga K "Desk") "_check_known") := He.meth_ok (T.fact 158 (f := .meth "Desk" "_check_known") rfl)
theorem TXG.me_Desk_put (T : TXG fileC fa fx fn P K mg) : Meth K (He.ga K "Desk") "put" (He.ma K (He.ga K "Desk") "put") := He.meth_ok (T.fact 159 (f := .meth "Desk" "put") rfl)
theorem TXG.me_Desk_drop (T : TXG fileC fa fx fn P K mg) : Meth K (He.ga K "Desk") "drop" (He.ma K (He.ga K "Desk") "drop") := He.meth_ok (T.fact 160 (f := .meth "Desk" "drop") rfl)
theorem TXG.me_Desk_set_price (T : TXG fileC fa fx fn P K mg) : Meth K (He.ga K "Desk") "set_price" (He.ma K (He.ga K "Desk") "set_price") := He.meth_ok (T.fact 161 (f := .meth "Desk" "set_price") rfl)
theorem TXG.me_Desk_set_weight (T : TXG fileC fa fx fn P K mg) : Meth K (He.ga K "Desk") "set_weight" (He.ma K (He.ga K "Desk") "set_weight") := He.meth_ok (T.fact 162 (f := .meth "Desk" "set_weight") rfl)
theorem TXG.me_Desk_reprice (T : TXG fileC fa fx fn P K mg) : Meth K (He.ga K "Desk") "reprice" (He.ma K (He.ga K "Desk") "reprice") := He.meth_ok (T.fact 163 (f := .meth "Desk" "reprice") rfl)
theorem TXG.me_Desk_set_aside (T : TXG fileC fa fx fn P K mg) : Meth K (He.ga K "Desk") "set_aside" (He.ma K (He.ga K "Desk") "set_aside") := He.meth_ok (T.fact 164 (f := .meth "Desk" "set_aside") rfl)
theorem TXG.me_Desk_set_limit (T : TXG fileC fa fx fn P K mg) : Meth K (He.ga K "Desk") "set_limit" (He.ma K (He.ga K "Desk") "set_limit") := He.meth_ok (T.fact 165 (f := .meth "Desk" "set_limit") rfl)
theorem TXG.me_Desk_undo (T : TXG fileC fa fx fn P K mg) : Meth K (He.ga K "Desk") "undo" (He.ma K (He.ga K "Desk") "undo") := He.meth_ok (T.fact 166 (f := .meth "Desk" "undo") rfl)
theorem TXG.me_Desk_weight_of (T : TXG fileC fa fx fn P K mg) : Meth K (He.ga K "Desk") "weight_of" (He.ma K (He.ga K "Desk") "weight_of") := He.meth_ok (T.fact 167 (f := .meth "Desk" "weight_of") rfl)
theorem TXG.me_Desk___getitem__ (T : TXG fileC fa fx fn P K mg) : Meth K (He.ga K "Desk") "__getitem__" (He.ma K (He.ga K "Desk") "__getitem__") := He.meth_ok (T.fact 168 (f := .meth "Desk" "__getitem__") rfl)
theorem TXG.me_Desk___setitem__ (T : TXG fileC fa fx fn P K mg) : Meth K (He.ga K "Desk") "__setitem__" (He.ma K (He.ga K "Desk") "__setitem__") := He.meth_ok (T.fact 169 (f := .meth "Desk" "__setitem__") rfl)
theorem TXG.me_Desk___contains__ (T : TXG fileC fa fx fn P K mg) : Meth K (He.ga K "Desk") "__contains__" (He.ma K (He.ga K "Desk") "__contains__") := He.meth_ok (T.fact 170 (f := .meth "Desk" "__contains__") rfl)
theorem TXG.me_Desk___len__ (T : TXG fileC fa fx fn P K mg) : Meth K (He.ga K "Desk") "__len__" (He.ma K (He.ga K "Desk") "__len__") := He.meth_ok (T.fact 171 (f := .meth "Desk" "__len__") rfl)
theorem TXG.me_Desk___iter__ (T : TXG fileC fa fx fn P K mg) : Meth K (He.ga K "Desk") "__iter__" (He.ma K (He.ga K "Desk") "__iter__") := He.meth_ok (T.fact 172 (f := .meth "Desk" "__iter__") rfl)
theorem TXG.exc_ZeroBottom (T : TXG fileC fa fx fn P K mg) : PySem.W.excIn K (He.ga K "ZeroBottom") He.veBase "ValueError.__new__" = true ∧ PySem.W.keepIn K (.ref (He.ga K "ZeroBottom")) = true ∧ PySem.W.subIn K (.ref (He.ga K "ZeroBottom")) (.type "BaseException") = some true ∧ PySem.W.typeIn K (.ref (He.ga K "ZeroBottom")) = some (.type "type") := He.exc_ok (T.fact 173 (f := .exc "ZeroBottom") rfl)
theorem TXG.exc_BadLot (T : TXG fileC fa fx fn P K mg) : PySem.W.excIn K (He.ga K "BadLot") He.veBase "ValueError.__new__" = true ∧ PySem.W.keepIn K (.ref (He.ga K "BadLot")) = true ∧ PySem.W.subIn K (.ref (He.ga K "BadLot")) (.type "BaseException") = some true ∧ PySem.W.typeIn K (.ref (He.ga K "BadLot")) = some (.type "type") := He.exc_ok (T.fact 174 (f := .exc "BadLot") rfl)
theorem TXG.exc_NothingToUndo (T : TXG fileC fa fx fn P K mg) : PySem.W.excIn K (He.ga K "NothingToUndo") He.veBase "ValueError.__new__" = true ∧ PySem.W.keepIn K (.ref (He.ga K "NothingToUndo")) = true ∧ PySem.W.subIn K (.ref (He.ga K "NothingToUndo")) (.type "BaseException") = some true ∧ PySem.W.typeIn K (.ref (He.ga K "NothingToUndo")) = some (.type "type") := He.exc_ok (T.fact 175 (f := .exc "NothingToUndo") rfl)
theorem TXG.exm_BadName_BadName (T : TXG fileC fa fx fn P K mg) : PySem.W.exmOne K (.ref (He.ga K "BadName")) (.ref (He.ga K "BadName")) = some true := He.exm_ok (T.fact 176 (f := .exm "BadName" "BadName" true) rfl)
theorem TXG.exm_KnownName_BadName (T : TXG fileC fa fx fn P K mg) : PySem.W.exmOne K (.ref (He.ga K "KnownName")) (.ref (He.ga K "BadName")) = some false := He.exm_ok (T.fact 177 (f := .exm "KnownName" "BadName" false) rfl)
theorem TXG.exm_KnownName_KnownName (T : TXG fileC fa fx fn P K mg) : PySem.W.exmOne K (.ref (He.ga K "KnownName")) (.ref (He.ga K "KnownName")) = some true := He.exm_ok (T.fact 178 (f := .exm "KnownName" "KnownName" true) rfl)
theorem TXG.exm_UnknownName_BadName (T : TXG fileC fa fx fn P K mg) : PySem.W.exmOne K (.ref (He.ga K "UnknownName")) (.ref (He.ga K "BadName")) = some false := He.exm_ok (T.fact 179 (f := .exm "UnknownName" "BadName" false) rfl)
theorem TXG.exm_UnknownName_KnownName (T : TXG fileC fa fx fn P K mg) : PySem.W.exmOne K (.ref (He.ga K "UnknownName")) (.ref (He.ga K "KnownName")) = some false := He.exm_ok (T.fact 180 (f := .exm "UnknownName" "KnownName" false) rfl)
theorem TXG.exm_UnknownName_UnknownName (T : TXG fileC fa fx fn P K mg) : PySem.W.exmOne K (.ref (He.ga K "UnknownName")) (.ref (He.ga K "UnknownName")) = some true := He.exm_ok (T.fact 181 (f := .exm "UnknownName" "UnknownName" true) rfl)
theorem TXG.exm_BadNumber_BadName (T : TXG fileC fa fx fn P K mg) : PySem.W.exmOne K (.ref (He.ga K "BadNumber")) (.ref (He.ga K "BadName")) = some false := He.exm_ok (T.fact 182 (f := .exm "BadNumber" "BadName" false) rfl)
theorem TXG.exm_BadNumber_KnownName (T : TXG fileC fa fx fn P K mg) : PySem.W.exmOne K (.ref (He.ga K "BadNumber")) (.ref (He.ga K "KnownName")) = some false := He.exm_ok (T.fact 183 (f := .exm "BadNumber" "KnownName" false) rfl)
theorem TXG.exm_BadNumber_UnknownName (T : TXG fileC fa fx fn P K mg) : PySem.W.exmOne K (.ref (He.ga K "BadNumber")) (.ref (He.ga K "UnknownName")) = some false := He.exm_ok (T.fact 184 (f := .exm "BadNumber" "UnknownName" false) rfl)
theorem TXG.exm_BadNumber_BadNumber (T : TXG fileC fa fx fn P K mg) : PySem.W.exmOne K (.ref (He.ga K "BadNumber")) (.ref (He.ga K "BadNumber")) = some true := He.exm_ok (T.fact 185 (f := .exm "BadNumber" "BadNumber" true) rfl)
theorem TXG.exm_TooMany_BadName (T : TXG fileC fa fx fn P K mg) : PySem.W.exmOne K (.ref (He.ga K "TooMany")) (.ref (He.ga K "BadName")) = some false := He.exm_ok (T.fact 186 (f := .exm "TooMany" "BadName" false) rfl)
theorem TXG.exm_TooMany_KnownName (T : TXG fileC fa fx fn P K mg) : PySem.W.exmOne K (.ref (He.ga K "TooMany")) (.ref (He.ga K "KnownName")) = some false := He.exm_ok (T.fact 187 (f := .exm "TooMany" "KnownName" false) rfl)
theorem TXG.exm_TooMany_UnknownName (T : TXG fileC fa fx fn P K mg) : PySem.W.exmOne K (.ref (He.ga K "TooMany")) (.ref (He.ga K "UnknownName")) = some false := He.exm_ok (T.fact 188 (f := .exm "TooMany" "UnknownName" false) rfl)
theorem TXG.exm_TooMany_BadNumber (T : TXG fileC fa fx fn P K mg) : PySem.W.exmOne K (.ref (He.ga K "TooMany")) (.ref (He.ga K "BadNumber")) = some false := He.exm_ok (T.fact 189 (f := .exm "TooMany" "BadNumber" false) rfl)
theorem TXG.exm_TooMany_TooMany (T : TXG fileC fa fx fn P K mg) : PySem.W.exmOne K (.ref (He.ga K "TooMany")) (.ref (He.ga K "TooMany")) = some true := He.exm_ok (T.fact 190 (f := .exm "TooMany" "TooMany" true) rfl)
theorem TXG.exm_NothingToUndo_BadName (T : TXG fileC fa fx fn P K mg) : PySem.W.exmOne K (.ref (He.ga K "NothingToUndo")) (.ref (He.ga K "BadName")) = some false := He.exm_ok (T.fact 191 (f := .exm "NothingToUndo" "BadName" false) rfl)
theorem TXG.exm_NothingToUndo_KnownName (T : TXG fileC fa fx fn P K mg) : PySem.W.exmOne K (.ref (He.ga K "NothingToUndo")) (.ref (He.ga K "KnownName")) = some false := He.exm_ok (T.fact 192 (f := .exm "NothingToUndo" "KnownName" false) rfl)
theorem TXG.exm_NothingToUndo_UnknownName (T : TXG fileC fa fx fn P K mg) : PySem.W.exmOne K (.ref (He.ga K "NothingToUndo")) (.ref (He.ga K "UnknownName")) = some false := He.exm_ok (T.fact 193 (f := .exm "NothingToUndo" "UnknownName" false) rfl)
theorem TXG.exm_NothingToUndo_BadNumber (T : TXG fileC fa fx fn P K mg) : PySem.W.exmOne K (.ref (He.ga K "NothingToUndo")) (.ref (He.ga K "BadNumber")) = some false := He.exm_ok (T.fact 194 (f := .exm "NothingToUndo" "BadNumber" false) rfl)
theorem TXG.exm_NothingToUndo_TooMany (T : TXG fileC fa fx fn P K mg) : PySem.W.exmOne K (.ref (He.ga K "NothingToUndo")) (.ref (He.ga K "TooMany")) = some false := He.exm_ok (T.fact 195 (f := .exm "NothingToUndo" "TooMany" false) rfl)
theorem TXG.exm_NothingToUndo_NothingToUndo (T : TXG fileC fa fx fn P K mg) : PySem.W.exmOne K (.ref (He.ga K "NothingToUndo")) (.ref (He.ga K "NothingToUndo")) = some true := He.exm_ok (T.fact 196 (f := .exm "NothingToUndo" "NothingToUndo" true) rfl)
theorem TXG.con_MOST (T : TXG fileC fa fx fn P K mg) : ∃ u, Con K (He.ga K "Weighted") "MOST" (.int 24) u := bCon_ok (T.fx_ 0 (f := bCon "Weighted" "MOST" 24) rfl) (by decide +kernel)
theorem TXG.oex_BadNumber (T : TXG fileC fa fx fn P K mg) : OexC K (He.ga K "BadNumber") := bOex_ok (T.fx_ 1 (f := bOex "BadNumber") rfl)
theorem TXG.ini_BadNumber (T : TXG fileC fa fx fn P K mg) : PySem.W.findIn K (.ref (He.ga K "BadNumber")) "__init__" = some (some (.ref (He.ma K (He.ga K "BadNumber") "__init__"))) ∧ PySem.W.typeIn K (.ref (He.ma K (He.ga K "BadNumber") "__init__")) = some (.type "function") := bIni_ok (T.fx_ 2 (f := bIni "BadNumber") rfl)
theorem TXG.sup_BadNumber (T : TXG fileC fa fx fn P K mg) : bSup "BadNumber" K = true := T.fx_ 3 (f := bSup "BadNumber") rfl
theorem TXG.supE_BadNumber (T : TXG fileC fa fx fn P K mg) : PySem.W.ks_superIn K (He.ga K "BadNumber") (He.ga K "BadNumber") "__init__" = some (some (.builtin "ValueError.__init__")) ∧ PySem.W.subIn K (.ref (He.ga K "BadNumber")) (.type "ValueError") = some true := ⟨of_decide_eq_true (He.ba (T.fx_ 4 (f := bSupE "BadNumber") rfl)).1, of_decide_eq_true (He.ba (T.fx_ 4 (f := bSupE "BadNumber") rfl)).2⟩
theorem TXG.xf_BadNumber (T : TXG fileC fa fx fn P K mg) : XfC K (He.ga K "BadNumber") := xfB_ok (T.fx_ 5 (f := fun K => xfB K (He.ga K "BadNumber")) rfl)
theorem TXG.no_BadNumber_what (T : TXG fileC fa fx fn P K mg) : PySem.W.findIn K (.ref (He.ga K "BadNumber")) "what" = some none := of_decide_eq_true (T.fx_ 6 (f := fun K => decide (PySem.W.findIn K (.ref (He.ga K "BadNumber")) "what" = some none)) rfl)
theorem TXG.no_BadNumber_at (T : TXG fileC fa fx fn P K mg) : PySem.W.findIn K (.ref (He.ga K "BadNumber")) "at" = some none := of_decide_eq_true (T.fx_ 7 (f := fun K => decide (PySem.W.findIn K (.ref (He.ga K "BadNumber")) "at" = some none)) rfl)
theorem TXG.oex_TooMany (T : TXG fileC fa fx fn P K mg) : OexC K (He.ga K "TooMany") := bOex_ok (T.fx_ 8 (f := bOex "TooMany") rfl)
theorem TXG.ini_TooMany (T : TXG fileC fa fx fn P K mg) : PySem.W.findIn K (.ref (He.ga K "TooMany")) "__init__" = some (some (.ref (He.ma K (He.ga K "TooMany") "__init__"))) ∧ PySem.W.typeIn K (.ref (He.ma K (He.ga K "TooMany") "__init__")) = some (.type "function") := bIni_ok (T.fx_ 9 (f := bIni "TooMany") rfl)
theorem TXG.sup_TooMany (T : TXG fileC fa fx fn P K mg) : bSup "TooMany" K = true := T.fx_ 10 (f := bSup "TooMany") rfl
theorem TXG.supE_TooMany (T : TXG fileC fa fx fn P K mg) : PySem.W.ks_superIn K (He.ga K "TooMany") (He.ga K "TooMany") "__init__" = some (some (.builtin "ValueError.__init__")) ∧ PySem.W.subIn K (.ref (He.ga K "TooMany")) (.type "ValueError") = some true := ⟨of_decide_eq_true (He.ba (T.fx_ 11 (f := bSupE "TooMany") rfl)).1, of_decide_eq_true (He.ba (T.fx_ 11 (f := bSupE "TooMany") rfl)).2⟩
theorem TXG.xf_TooMany (T : TXG fileC fa fx fn P K mg) : XfC K (He.ga K "TooMany") := xfB_ok (T.fx_ 12 (f := fun K => xfB K (He.ga K "TooMany")) rfl)
theorem TXG.no_TooMany_many (T : TXG fileC fa fx fn P K mg) : PySem.W.findIn K (.ref (He.ga K "TooMany")) "many" = some none := of_decide_eq_true (T.fx_ 13 (f := fun K => decide (PySem.W.findIn K (.ref (He.ga K "TooMany")) "many" = some none)) rfl)
theorem TXG.no_TooMany_most (T : TXG fileC fa fx fn P K mg) : PySem.W.findIn K (.ref (He.ga K "TooMany")) "most" = some none := of_decide_eq_true (T.fx_ 14 (f := fun K => decide (PySem.W.findIn K (.ref (He.ga K "TooMany")) "most" = some none)) rfl)
theorem TXG.oex_BadName (T : TXG fileC fa fx fn P K mg) : OexC K (He.ga K "BadName") := bOex_ok (T.fx_ 15 (f := bOex "BadName") rfl)
theorem TXG.ini_BadName (T : TXG fileC fa fx fn P K mg) : PySem.W.findIn K (.ref (He.ga K "BadName")) "__init__" = some (some (.ref (He.ma K (He.ga K "BadName") "__init__"))) ∧ PySem.W.typeIn K (.ref (He.ma K (He.ga K "BadName") "__init__")) = some (.type "function") := bIni_ok (T.fx_ 16 (f := bIni "BadName") rfl)
theorem TXG.sup_BadName (T : TXG fileC fa fx fn P K mg) : bSup "BadName" K = true := T.fx_ 17 (f := bSup "BadName") rfl
theorem TXG.supE_BadName (T : TXG fileC fa fx fn P K mg) : PySem.W.ks_superIn K (He.ga K "BadName") (He.ga K "BadName") "__init__" = some (some (.builtin "ValueError.__init__")) ∧ PySem.W.subIn K (.ref (He.ga K "BadName")) (.type "ValueError") = some true := ⟨of_decide_eq_true (He.ba (T.fx_ 18 (f := bSupE "BadName") rfl)).1, of_decide_eq_true (He.ba (T.fx_ 18 (f := bSupE "BadName") rfl)).2⟩
theorem TXG.xf_BadName (T : TXG fileC fa fx fn P K mg) : XfC K (He.ga K "BadName") := xfB_ok (T.fx_ 19 (f := fun K => xfB K (He.ga K "BadName")) rfl)
theorem TXG.no_BadName_name (T : TXG fileC fa fx fn P K mg) : PySem.W.findIn K (.ref (He.ga K "BadName")) "name" = some none := of_decide_eq_true (T.fx_ 20 (f := fun K => decide (PySem.W.findIn K (.ref (He.ga K "BadName")) "name" = some none)) rfl)
theorem TXG.oex_KnownName (T : TXG fileC fa fx fn P K mg) : OexC K (He.ga K "KnownName") := bOex_ok (T.fx_ 21 (f := bOex "KnownName") rfl)
theorem TXG.ini_KnownName (T : TXG fileC fa fx fn P K mg) : PySem.W.findIn K (.ref (He.ga K "KnownName")) "__init__" = some (some (.ref (He.ma K (He.ga K "KnownName") "__init__"))) ∧ PySem.W.typeIn K (.ref (He.ma K (He.ga K "KnownName") "__init__")) = some (.type "function") := bIni_ok (T.fx_ 22 (f := bIni "KnownName") rfl)
theorem TXG.sup_KnownName (T : TXG fileC fa fx fn P K mg) : bSup "KnownName" K = true := T.fx_ 23 (f := bSup "KnownName") rfl
theorem TXG.supE_KnownName (T : TXG fileC fa fx fn P K mg) : PySem.W.ks_superIn K (He.ga K "KnownName") (He.ga K "KnownName") "__init__" = some (some (.builtin "ValueError.__init__")) ∧ PySem.W.subIn K (.ref (He.ga K "KnownName")) (.type "ValueError") = some true := ⟨of_decide_eq_true (He.ba (T.fx_ 24 (f := bSupE "KnownName") rfl)).1, of_decide_eq_true (He.ba (T.fx_ 24 (f := bSupE "KnownName") rfl)).2⟩
theorem TXG.xf_KnownName (T : TXG fileC fa fx fn P K mg) : XfC K (He.ga K "KnownName") := xfB_ok (T.fx_ 25 (f := fun K => xfB K (He.ga K "KnownName")) rfl)
theorem TXG.no_KnownName_name (T : TXG fileC fa fx fn P K mg) : PySem.W.findIn K (.ref (He.ga K "KnownName")) "name" = some none := of_decide_eq_true (T.fx_ 26 (f := fun K => decide (PySem.W.findIn K (.ref (He.ga K "KnownName")) "name" = some none)) rfl)
theorem TXG.oex_UnknownName (T : TXG fileC fa fx fn P K mg) : OexC K (He.ga K "UnknownName") := bOex_ok (T.fx_ 27 (f := bOex "UnknownName") rfl)
theorem TXG.ini_UnknownName (T : TXG fileC fa fx fn P K mg) : PySem.W.findIn K (.ref (He.ga K "UnknownName")) "__init__" = some (some (.ref (He.ma K (He.ga K "UnknownName") "__init__"))) ∧ PySem.W.typeIn K (.ref (He.ma K (He.ga K "UnknownName") "__init__")) = some (.type "function") := bIni_ok (T.fx_ 28 (f := bIni "UnknownName") rfl)
theorem TXG.sup_UnknownName (T : TXG fileC fa fx fn P K mg) : bSup "UnknownName" K = true := T.fx_ 29 (f := bSup "UnknownName") rfl
theorem TXG.supE_UnknownName (T : TXG fileC fa fx fn P K mg) : PySem.W.ks_superIn K (He.ga K "UnknownName") (He.ga K "UnknownName") "__init__" = some (some (.builtin "ValueError.__init__")) ∧ PySem.W.subIn K (.ref (He.ga K "UnknownName")) (.type "ValueError") = some true := ⟨of_decide_eq_true (He.ba (T.fx_ 30 (f := bSupE "UnknownName") rfl)).1, of_decide_eq_true (He.ba (T.fx_ 30 (f := bSupE "UnknownName") rfl)).2⟩
theorem TXG.xf_UnknownName (T : TXG fileC fa fx fn P K mg) : XfC K (He.ga K "UnknownName") := xfB_ok (T.fx_ 31 (f := fun K => xfB K (He.ga K "UnknownName")) rfl)
theorem TXG.no_UnknownName_name (T : TXG fileC fa fx fn P K mg) : PySem.W.findIn K (.ref (He.ga K "UnknownName")) "name" = some none := of_decide_eq_true (T.fx_ 32 (f := fun K => decide (PySem.W.findIn K (.ref (He.ga K "UnknownName")) "name" = some none)) rfl)
theorem TXG.supK_Weighted___init__ (T : TXG fileC fa fx fn P K mg) : PySem.W.ks_superIn K (He.ga K "Weighted") (He.ga K "Weighted") "__init__" = some (some (.ref (He.ma K (He.ga K "Rule") "__init__"))) ∧ PySem.W.typeIn K (.ref (He.ma K (He.ga K "Rule") "__init__")) = some (.type "function") ∧ PySem.W.fnIn K (He.ma K (He.ga K "Rule") "__init__") = true := ⟨of_decide_eq_true (He.ba (T.fx_ 33 (f := bSupK "Weighted" "Rule" "__init__") rfl)).1, of_decide_eq_true (He.ba (He.ba (T.fx_ 33 (f := bSupK "Weighted" "Rule" "__init__") rfl)).2).1, (He.ba (He.ba (T.fx_ 33 (f := bSupK "Weighted" "Rule" "__init__") rfl)).2).2⟩
theorem TXG.supK_Weighted_shares (T : TXG fileC fa fx fn P K mg) : PySem.W.ks_superIn K (He.ga K "Weighted") (He.ga K "Weighted") "shares" = some (some (.ref (He.ma K (He.ga K "Rule") "shares"))) ∧ PySem.W.typeIn K (.ref (He.ma K (He.ga K "Rule") "shares")) = some (.type "function") ∧ PySem.W.fnIn K (He.ma K (He.ga K "Rule") "shares") = true := ⟨of_decide_eq_true (He.ba (T.fx_ 34 (f := bSupK "Weighted" "Rule" "shares") rfl)).1, of_decide_eq_true (He.ba (He.ba (T.fx_ 34 (f := bSupK "Weighted" "Rule" "shares") rfl)).2).1, (He.ba (He.ba (T.fx_ 34 (f := bSupK "Weighted" "Rule" "shares") rfl)).2).2⟩
theorem TXG.supK_AtMost___init__ (T : TXG fileC fa fx fn P K mg) : PySem.W.ks_superIn K (He.ga K "AtMost") (He.ga K "AtMost") "__init__" = some (some (.ref (He.ma K (He.ga K "Choice") "__init__"))) ∧ PySem.W.typeIn K (.ref (He.ma K (He.ga K "Choice") "__init__")) = some (.type "function") ∧ PySem.W.fnIn K (He.ma K (He.ga K "Choice") "__init__") = true := ⟨of_decide_eq_true (He.ba (T.fx_ 35 (f := bSupK "AtMost" "Choice" "__init__") rfl)).1, of_decide_eq_true (He.ba (He.ba (T.fx_ 35 (f := bSupK "AtMost" "Choice" "__init__") rfl)).2).1, (He.ba (He.ba (T.fx_ 35 (f := bSupK "AtMost" "Choice" "__init__") rfl)).2).2⟩
theorem TXG.supK_AtMost_pick (T : TXG fileC fa fx fn P K mg) : PySem.W.ks_superIn K (He.ga K "AtMost") (He.ga K "AtMost") "pick" = some (some (.ref (He.ma K (He.ga K "Choice") "pick"))) ∧ PySem.W.typeIn K (.ref (He.ma K (He.ga K "Choice") "pick")) = some (.type "function") ∧ PySem.W.fnIn K (He.ma K (He.ga K "Choice") "pick") = true := ⟨of_decide_eq_true (He.ba (T.fx_ 36 (f := bSupK "AtMost" "Choice" "pick") rfl)).1, of_decide_eq_true (He.ba (He.ba (T.fx_ 36 (f := bSupK "AtMost" "Choice" "pick") rfl)).2).1, (He.ba (He.ba (T.fx_ 36 (f := bSupK "AtMost" "Choice" "pick") rfl)).2).2⟩
theorem TXG.sup_Weighted (T : TXG fileC fa fx fn P K mg) : bSup "Weighted" K = true := T.fx_ 37 (f := bSup "Weighted") rfl
theorem TXG.sup_AtMost (T : TXG fileC fa fx fn P K mg) : bSup "AtMost" K = true := T.fx_ 38 (f := bSup "AtMost") rfl
theorem TXG.b_Ratio___add__ (T : TXG fileC fa fx fn P K mg) : BinK K (He.ga K "Ratio") (He.ma K (He.ga K "Ratio") "__add__") .Add := bBin_ok (T.fx_ 39 (f := bBin "Ratio" .Add) rfl)
theorem TXG.b_Ratio___mul__ (T : TXG fileC fa fx fn P K mg) : BinK K (He.ga K "Ratio") (He.ma K (He.ga K "Ratio") "__mul__") .Mult := bBin_ok (T.fx_ 40 (f := bBin "Ratio" .Mult) rfl)
theorem TXG.cmp_Ratio___lt__ (T : TXG fileC fa fx fn P K mg) : CmpK K (He.ga K "Ratio") (He.ma K (He.ga K "Ratio") "__lt__") .Lt := bCmp_ok (T.fx_ 41 (f := bCmp "Ratio" .Lt) rfl)
theorem TXG.cmp_Ratio___gt__ (T : TXG fileC fa fx fn P K mg) : CmpK K (He.ga K "Ratio") (He.ma K (He.ga K "Ratio") "__gt__") .Gt := bCmp_ok (T.fx_ 42 (f := bCmp "Ratio" .Gt) rfl)
theorem TXG.spc_Desk___getitem__ (T : TXG fileC fa fx fn P K mg) : PySem.W.findIn K (.ref (He.ga K "Desk")) "__getitem__" = some (some (.ref (He.ma K (He.ga K "Desk") "__getitem__"))) ∧ PySem.W.isFn K (.ref (He.ma K (He.ga K "Desk") "__getitem__")) = true ∧ PySem.W.typeIn K (.ref (He.ma K (He.ga K "Desk") "__getitem__")) = some (.type "function") ∧ PySem.W.fnIn K (He.ma K (He.ga K "Desk") "__getitem__") = true := ⟨of_decide_eq_true (He.ba (T.fx_ 43 (f := bSpc "Desk" "__getitem__") rfl)).1, (He.ba (He.ba (T.fx_ 43 (f := bSpc "Desk" "__getitem__") rfl)).2).1, of_decide_eq_true (He.ba (He.ba (He.ba (T.fx_ 43 (f := bSpc "Desk" "__getitem__") rfl)).2).2).1, (He.ba (He.ba (He.ba (T.fx_ 43 (f := bSpc "Desk" "__getitem__") rfl)).2).2).2⟩
theorem TXG.spc_Desk___setitem__ (T : TXG fileC fa fx fn P K mg) : PySem.W.findIn K (.ref (He.ga K "Desk")) "__setitem__" = some (some (.ref (He.ma K (He.ga K "Desk") "__setitem__"))) ∧ PySem.W.isFn K (.ref (He.ma K (He.ga K "Desk") "__setitem__")) = true ∧ PySem.W.typeIn K (.ref (He.ma K (He.ga K "Desk") "__setitem__")) = some (.type "function") ∧ PySem.W.fnIn K (He.ma K (He.ga K "Desk") "__setitem__") = true := ⟨of_decide_eq_true (He.ba (T.fx_ 44 (f := bSpc "Desk" "__setitem__") rfl)).1, (He.ba (He.ba (T.fx_ 44 (f := bSpc "Desk" "__setitem__") rfl)).2).1, of_decide_eq_true (He.ba (He.ba (He.ba (T.fx_ 44 (f := bSpc "Desk" "__setitem__") rfl)).2).2).1, (He.ba (He.ba (He.ba (T.fx_ 44 (f := bSpc "Desk" "__setitem__") rfl)).2).2).2⟩
theorem TXG.spc_Desk___contains__ (T : TXG fileC fa fx fn P K mg) : PySem.W.findIn K (.ref (He.ga K "Desk")) "__contains__" = some (some (.ref (He.ma K (He.ga K "Desk") "__contains__"))) ∧ PySem.W.isFn K (.ref (He.ma K (He.ga K "Desk") "__contains__")) = true ∧ PySem.W.typeIn K (.ref (He.ma K (He.ga K "Desk") "__contains__")) = some (.type "function") ∧ PySem.W.fnIn K (He.ma K (He.ga K "Desk") "__contains__") = true := ⟨of_decide_eq_true (He.ba (T.fx_ 45 (f := bSpc "Desk" "__contains__") rfl)).1, (He.ba (He.ba (T.fx_ 45 (f := bSpc "Desk" "__contains__") rfl)).2).1, of_decide_eq_true (He.ba (He.ba (He.ba (T.fx_ 45 (f := bSpc "Desk" "__contains__") rfl)).2).2).1, (He.ba (He.ba (He.ba (T.fx_ 45 (f := bSpc "Desk" "__contains__") rfl)).2).2).2⟩
theorem TXG.spc_Desk___len__ (T : TXG fileC fa fx fn P K mg) : PySem.W.findIn K (.ref (He.ga K "Desk")) "__len__" = some (some (.ref (He.ma K (He.ga K "Desk") "__len__"))) ∧ PySem.W.isFn K (.ref (He.ma K (He.ga K "Desk") "__len__")) = true ∧ PySem.W.typeIn K (.ref (He.ma K (He.ga K "Desk") "__len__")) = some (.type "function") ∧ PySem.W.fnIn K (He.ma K (He.ga K "Desk") "__len__") = true := ⟨of_decide_eq_true (He.ba (T.fx_ 46 (f := bSpc "Desk" "__len__") rfl)).1, (He.ba (He.ba (T.fx_ 46 (f := bSpc "Desk" "__len__") rfl)).2).1, of_decide_eq_true (He.ba (He.ba (He.ba (T.fx_ 46 (f := bSpc "Desk" "__len__") rfl)).2).2).1, (He.ba (He.ba (He.ba (T.fx_ 46 (f := bSpc "Desk" "__len__") rfl)).2).2).2⟩
theorem TXG.spc_Desk___iter__ (T : TXG fileC fa fx fn P K mg) : PySem.W.findIn K (.ref (He.ga K "Desk")) "__iter__" = some (some (.ref (He.ma K (He.ga K "Desk") "__iter__"))) ∧ PySem.W.isFn K (.ref (He.ma K (He.ga K "Desk") "__iter__")) = true ∧ PySem.W.typeIn K (.ref (He.ma K (He.ga K "Desk") "__iter__")) = some (.type "function") ∧ PySem.W.fnIn K (He.ma K (He.ga K "Desk") "__iter__") = true := ⟨of_decide_eq_true (He.ba (T.fx_ 47 (f := bSpc "Desk" "__iter__") rfl)).1, (He.ba (He.ba (T.fx_ 47 (f := bSpc "Desk" "__iter__") rfl)).2).1, of_decide_eq_true (He.ba (He.ba (He.ba (T.fx_ 47 (f := bSpc "Desk" "__iter__") rfl)).2).2).1, (He.ba (He.ba (He.ba (T.fx_ 47 (f := bSpc "Desk" "__iter__") rfl)).2).2).2⟩
theorem TXG.pr_Desk_limit (T : TXG fileC fa fx fn P K mg) : PropOf K (He.ga K "Desk") "limit" (He.ma K (He.ga K "Desk") "limit") (pAd "Desk" "limit" K) := bProp_ok (T.fx_ 48 (f := bProp "Desk" "limit") rfl)
theorem TXG.pr_Desk_aside_weight (T : TXG fileC fa fx fn P K mg) : PropOf K (He.ga K "Desk") "aside_weight" (He.ma K (He.ga K "Desk") "aside_weight") (pAd "Desk" "aside_weight" K) := bProp_ok (T.fx_ 49 (f := bProp "Desk" "aside_weight") rfl)
theorem TXG.pr_Desk_best_lot (T : TXG fileC fa fx fn P K mg) : PropOf K (He.ga K "Desk") "best_lot" (He.ma K (He.ga K "Desk") "best_lot") (pAd "Desk" "best_lot" K) := bProp_ok (T.fx_ 50 (f := bProp "Desk" "best_lot") rfl)
theorem TXG.pr_Desk_best_worth (T : TXG fileC fa fx fn P K mg) : PropOf K (He.ga K "Desk") "best_worth" (He.ma K (He.ga K "Desk") "best_worth") (pAd "Desk" "best_worth" K) := bProp_ok (T.fx_ 51 (f := bProp "Desk" "best_worth") rfl)
theorem TXG.b_gcd (T : TXG fileC fa fx fn P K mg) : mg "gcd" = some (.builtin "math.gcd") := let ⟨_, X, G⟩ := T.ns; PySem.W.mg_of X G (of_decide_eq_true (T.fx_ 52 (f := bBlt "gcd" "math.gcd") rfl))
theorem TXG.kit_int_int (T : TXG fileC fa fx fn P K mg) : PySem.W.kitOne K (.type "int") (.type "int") = some true := of_decide_eq_true (T.fx_ 53 (f := fun K => decide (PySem.W.kitOne K (.type "int") (.type "int") = some true)) rfl)
theorem TXG.kit_int_bool (T : TXG fileC fa fx fn P K mg) : PySem.W.kitOne K (.type "int") (.type "bool") = some false := of_decide_eq_true (T.fx_ 54 (f := fun K => decide (PySem.W.kitOne K (.type "int") (.type "bool") = some false)) rfl)
theorem TXG.kit_int_str (T : TXG fileC fa fx fn P K mg) : PySem.W.kitOne K (.type "int") (.type "str") = some false := of_decide_eq_true (T.fx_ 55 (f := fun K => decide (PySem.W.kitOne K (.type "int") (.type "str") = some false)) rfl)
theorem TXG.kit_str_str (T : TXG fileC fa fx fn P K mg) : PySem.W.kitOne K (.type "str") (.type "str") = some true := of_decide_eq_true (T.fx_ 56 (f := fun K => decide (PySem.W.kitOne K (.type "str") (.type "str") = some true)) rfl)
theorem TXG.kit_tuple_tuple (T : TXG fileC fa fx fn P K mg) : PySem.W.kitOne K (.type "tuple") (.type "tuple") = some true := of_decide_eq_true (T.fx_ 57 (f := fun K => decide (PySem.W.kitOne K (.type "tuple") (.type "tuple") = some true)) rfl)
theorem TXG.kit_list_list (T : TXG fileC fa fx fn P K mg) : PySem.W.kitOne K (.type "list") (.type "list") = some true := of_decide_eq_true (T.fx_ 58 (f := fun K => decide (PySem.W.kitOne K (.type "list") (.type "list") = some true)) rfl)
theorem TXG.kit_Ratio_int (T : TXG fileC fa fx fn P K mg) : PySem.W.kitOne K (.ref (He.ga K "Ratio")) (.type "int") = some false := of_decide_eq_true (T.fx_ 59 (f := fun K => decide (PySem.W.kitOne K (.ref (He.ga K "Ratio")) (.type "int") = some false)) rfl)
theorem TXG.kit_Ratio_Ratio (T : TXG fileC fa fx fn P K mg) : PySem.W.kitOne K (.ref (He.ga K "Ratio")) (.ref (He.ga K "Ratio")) = some true := of_decide_eq_true (T.fx_ 60 (f := fun K => decide (PySem.W.kitOne K (.ref (He.ga K "Ratio")) (.ref (He.ga K "Ratio")) = some true)) rfl)
theorem TXG.eq_AtMost_gains (T : TXG fileC fa fx fn P K mg) : He.ma K (He.ga K "AtMost") "gains" = He.ma K (He.ga K "Choice") "gains" := of_decide_eq_true (T.fx_ 61 (f := fun K => decide (He.ma K (He.ga K "AtMost") "gains" = He.ma K (He.ga K "Choice") "gains")) rfl)
theorem TXG.eq_AtMost_climb (T : TXG fileC fa fx fn P K mg) : He.ma K (He.ga K "AtMost") "climb" = He.ma K (He.ga K "Choice") "climb" := of_decide_eq_true (T.fx_ 62 (f := fun K => decide (He.ma K (He.ga K "AtMost") "climb" = He.ma K (He.ga K "Choice") "climb")) rfl)
theorem TXG.eq_AtMost_best (T : TXG fileC fa fx fn P K mg) : He.ma K (He.ga K "AtMost") "best" = He.ma K (He.ga K "Choice") "best" := of_decide_eq_true (T.fx_ 63 (f := fun K => decide (He.ma K (He.ga K "AtMost") "best" = He.ma K (He.ga K "Choice") "best")) rfl)
theorem TXG.eq_Weighted_worth (T : TXG fileC fa fx fn P K mg) : He.ma K (He.ga K "Weighted") "worth" = He.ma K (He.ga K "Rule") "worth" := of_decide_eq_true (T.fx_ 64 (f := fun K => decide (He.ma K (He.ga K "Weighted") "worth" = He.ma K (He.ga K "Rule") "worth")) rfl)
theorem TXG.ne_State_Desk (T : TXG fileC fa fx fn P K mg) : He.ga K "State" ≠ He.ga K "Desk" := of_decide_eq_true (T.fx_ 65 (f := fun K => decide (He.ga K "State" ≠ He.ga K "Desk")) rfl)
theorem TXG.ne_Ratio_Desk (T : TXG fileC fa fx fn P K mg) : He.ga K "Ratio" ≠ He.ga K "Desk" := of_decide_eq_true (T.fx_ 66 (f := fun K => decide (He.ga K "Ratio" ≠ He.ga K "Desk")) rfl)
theorem TXG.ty_Ratio (T : TXG fileC fa fx fn P K mg) : PySem.W.findIn K (.ref (He.ga K "Ratio")) "__class__" = some (some (.builtin "object.__class__")) ∧ PySem.W.specialIn K (.builtin "object.__class__") "__get__" = some (some (.builtin "getset_descriptor.__get__")) ∧ PySem.W.takesIn K (.builtin "object.__class__") = some true ∧ PySem.W.mroIn K (He.ga K "Ratio") (.type "object") = some true := bTy_ok (T.fx_ 67 (f := bTy "Ratio") rfl)
theorem TXG.ns_Desk (T : TXG fileC fa fx fn P K mg) : PySem.W.noSeq K (He.ga K "Desk") = true := T.fx_ 68 (f := fun K => PySem.W.noSeq K (He.ga K "Desk")) rfl
theorem TXG.d_check_lot (T : TXG fileC fa fx fn P K mg) : HasD K d_check_lot := T.d 0 rfl rfl
theorem TXG.d_check_prices (T : TXG fileC fa fx fn P K mg) : HasD K d_check_prices := T.d 1 rfl rfl
theorem TXG.d_lot_at (T : TXG fileC fa fx fn P K mg) : HasD K d_lot_at := T.d 2 rfl rfl
theorem TXG.d_dearest_order (T : TXG fileC fa fx fn P K mg) : HasD K d_dearest_order := T.d 3 rfl rfl
theorem TXG.d_is_name (T : TXG fileC fa fx fn P K mg) : HasD K d_is_name := T.d 4 rfl rfl
theorem TXG.d_check_least (T : TXG fileC fa fx fn P K mg) : HasD K d_check_least := T.d 5 rfl rfl
theorem TXG.d_best_of (T : TXG fileC fa fx fn P K mg) : HasD K d_best_of := T.d 6 rfl rfl
theorem TXG.d__law_cell (T : TXG fileC fa fx fn P K mg) : HasD K d__law_cell := T.d 7 rfl rfl
theorem TXG.d__law_draws (T : TXG fileC fa fx fn P K mg) : HasD K d__law_draws := T.d 8 rfl rfl
theorem TXG.d__law_own_cell (T : TXG fileC fa fx fn P K mg) : HasD K d__law_own_cell := T.d 9 rfl rfl
theorem TXG.d__law_is_int (T : TXG fileC fa fx fn P K mg) : HasD K d__law_is_int := T.d 10 rfl rfl
theorem TXG.d__law_is_ratio (T : TXG fileC fa fx fn P K mg) : HasD K d__law_is_ratio := T.d 11 rfl rfl
theorem TXG.d__law_same_lot (T : TXG fileC fa fx fn P K mg) : HasD K d__law_same_lot := T.d 12 rfl rfl
theorem TXG.d__law_refused (T : TXG fileC fa fx fn P K mg) : HasD K d__law_refused := T.d 13 rfl rfl
theorem TXG.d__law_signs (T : TXG fileC fa fx fn P K mg) : HasD K d__law_signs := T.d 14 rfl rfl
theorem TXG.d__law_any_name (T : TXG fileC fa fx fn P K mg) : HasD K d__law_any_name := T.d 15 rfl rfl
theorem TXG.d__law_is_name (T : TXG fileC fa fx fn P K mg) : HasD K d__law_is_name := T.d 16 rfl rfl
theorem TXG.d__law_move (T : TXG fileC fa fx fn P K mg) : HasD K d__law_move := T.d 17 rfl rfl
theorem TXG.d__law_pairs (T : TXG fileC fa fx fn P K mg) : HasD K d__law_pairs := T.d 18 rfl rfl
theorem TXG.d__law_place (T : TXG fileC fa fx fn P K mg) : HasD K d__law_place := T.d 19 rfl rfl
theorem TXG.d__law_changed (T : TXG fileC fa fx fn P K mg) : HasD K d__law_changed := T.d 20 rfl rfl
theorem TXG.d__law_do (T : TXG fileC fa fx fn P K mg) : HasD K d__law_do := T.d 21 rfl rfl
theorem TXG.d__law_tried (T : TXG fileC fa fx fn P K mg) : HasD K d__law_tried := T.d 22 rfl rfl
theorem TXG.d__law_due (T : TXG fileC fa fx fn P K mg) : HasD K d__law_due := T.d 23 rfl rfl
theorem TXG.d__law_after (T : TXG fileC fa fx fn P K mg) : HasD K d__law_after := T.d 24 rfl rfl
theorem TXG.d__law_told_right (T : TXG fileC fa fx fn P K mg) : HasD K d__law_told_right := T.d 25 rfl rfl
theorem TXG.d__law_desk_right (T : TXG fileC fa fx fn P K mg) : HasD K d__law_desk_right := T.d 26 rfl rfl
theorem TXG.d__law_look (T : TXG fileC fa fx fn P K mg) : HasD K d__law_look := T.d 27 rfl rfl
theorem TXG.d__law_steps (T : TXG fileC fa fx fn P K mg) : HasD K d__law_steps := T.d 28 rfl rfl
theorem TXG.d__law_stands (T : TXG fileC fa fx fn P K mg) : HasD K d__law_stands := T.d 29 rfl rfl
theorem TXG.d__law_back (T : TXG fileC fa fx fn P K mg) : HasD K d__law_back := T.d 30 rfl rfl
theorem TXG.d_law (T : TXG fileC fa fx fn P K mg) : HasD K d_law := T.d 31 rfl rfl
theorem TXG.s_BadNumber___init__ (T : TXG fileC fa fx fn P K mg) : HasS K fileC d_BadNumber___init__ "BadNumber" := T.s 32 rfl rfl
theorem TXG.s_TooMany___init__ (T : TXG fileC fa fx fn P K mg) : HasS K fileC d_TooMany___init__ "TooMany" := T.s 33 rfl rfl
theorem TXG.s_BadName___init__ (T : TXG fileC fa fx fn P K mg) : HasS K fileC d_BadName___init__ "BadName" := T.s 34 rfl rfl
theorem TXG.s_KnownName___init__ (T : TXG fileC fa fx fn P K mg) : HasS K fileC d_KnownName___init__ "KnownName" := T.s 35 rfl rfl
theorem TXG.s_UnknownName___init__ (T : TXG fileC fa fx fn P K mg) : HasS K fileC d_UnknownName___init__ "UnknownName" := T.s 36 rfl rfl
theorem TXG.d_Ratio___init__ (T : TXG fileC fa fx fn P K mg) : HasD K d_Ratio___init__ := T.d 37 rfl rfl
theorem TXG.d_Ratio___add__ (T : TXG fileC fa fx fn P K mg) : HasD K d_Ratio___add__ := T.d 38 rfl rfl
theorem TXG.d_Ratio___mul__ (T : TXG fileC fa fx fn P K mg) : HasD K d_Ratio___mul__ := T.d 39 rfl rfl
theorem TXG.d_Ratio___lt__ (T : TXG fileC fa fx fn P K mg) : HasD K d_Ratio___lt__ := T.d 40 rfl rfl
theorem TXG.d_Ratio___gt__ (T : TXG fileC fa fx fn P K mg) : HasD K d_Ratio___gt__ := T.d 41 rfl rfl
theorem TXG.d_Choice___init__ (T : TXG fileC fa fx fn P K mg) : HasD K d_Choice___init__ := T.d 42 rfl rfl
theorem TXG.d_Choice_gains (T : TXG fileC fa fx fn P K mg) : HasD K d_Choice_gains := T.d 43 rfl rfl
theorem TXG.d_Choice_pick (T : TXG fileC fa fx fn P K mg) : HasD K d_Choice_pick := T.d 44 rfl rfl
theorem TXG.d_Choice_climb (T : TXG fileC fa fx fn P K mg) : HasD K d_Choice_climb := T.d 45 rfl rfl
theorem TXG.d_Choice_best (T : TXG fileC fa fx fn P K mg) : HasD K d_Choice_best := T.d 46 rfl rfl
theorem TXG.s_AtMost___init__ (T : TXG fileC fa fx fn P K mg) : HasS K fileC d_AtMost___init__ "AtMost" := T.s 47 rfl rfl
theorem TXG.s_AtMost_pick (T : TXG fileC fa fx fn P K mg) : HasS K fileC d_AtMost_pick "AtMost" := T.s 48 rfl rfl
theorem TXG.d_Rule___init__ (T : TXG fileC fa fx fn P K mg) : HasD K d_Rule___init__ := T.d 49 rfl rfl
theorem TXG.d_Rule_shares (T : TXG fileC fa fx fn P K mg) : HasD K d_Rule_shares := T.d 50 rfl rfl
theorem TXG.d_Rule_worth (T : TXG fileC fa fx fn P K mg) : HasD K d_Rule_worth := T.d 51 rfl rfl
theorem TXG.s_Weighted___init__ (T : TXG fileC fa fx fn P K mg) : HasS K fileC d_Weighted___init__ "Weighted" := T.s 52 rfl rfl
theorem TXG.d_Weighted_total_of (T : TXG fileC fa fx fn P K mg) : HasD K d_Weighted_total_of := T.d 53 rfl rfl
theorem TXG.s_Weighted_shares (T : TXG fileC fa fx fn P K mg) : HasS K fileC d_Weighted_shares "Weighted" := T.s 54 rfl rfl
theorem TXG.d_State___init__ (T : TXG fileC fa fx fn P K mg) : HasD K d_State___init__ := T.d 55 rfl rfl
theorem TXG.d_Desk___init__ (T : TXG fileC fa fx fn P K mg) : HasD K d_Desk___init__ := T.d 56 rfl rfl
theorem TXG.d_Desk__change (T : TXG fileC fa fx fn P K mg) : HasD K d_Desk__change := T.d 57 rfl rfl
theorem TXG.d_Desk__change_rows (T : TXG fileC fa fx fn P K mg) : HasD K d_Desk__change_rows := T.d 58 rfl rfl
theorem TXG.d_Desk__check_known (T : TXG fileC fa fx fn P K mg) : HasD K d_Desk__check_known := T.d 59 rfl rfl
theorem TXG.d_Desk_put (T : TXG fileC fa fx fn P K mg) : HasD K d_Desk_put := T.d 60 rfl rfl
theorem TXG.d_Desk_drop (T : TXG fileC fa fx fn P K mg) : HasD K d_Desk_drop := T.d 61 rfl rfl
theorem TXG.d_Desk_set_price (T : TXG fileC fa fx fn P K mg) : HasD K d_Desk_set_price := T.d 62 rfl rfl
theorem TXG.d_Desk_set_weight (T : TXG fileC fa fx fn P K mg) : HasD K d_Desk_set_weight := T.d 63 rfl rfl
theorem TXG.d_Desk_reprice (T : TXG fileC fa fx fn P K mg) : HasD K d_Desk_reprice := T.d 64 rfl rfl
theorem TXG.d_Desk_set_aside (T : TXG fileC fa fx fn P K mg) : HasD K d_Desk_set_aside := T.d 65 rfl rfl
theorem TXG.d_Desk_set_limit (T : TXG fileC fa fx fn P K mg) : HasD K d_Desk_set_limit := T.d 66 rfl rfl
theorem TXG.d_Desk_undo (T : TXG fileC fa fx fn P K mg) : HasD K d_Desk_undo := T.d 67 rfl rfl
theorem TXG.d_Desk_weight_of (T : TXG fileC fa fx fn P K mg) : HasD K d_Desk_weight_of := T.d 68 rfl rfl
theorem TXG.d_Desk_limit (T : TXG fileC fa fx fn P K mg) : HasD K d_Desk_limit := T.d 69 rfl rfl
theorem TXG.d_Desk_aside_weight (T : TXG fileC fa fx fn P K mg) : HasD K d_Desk_aside_weight := T.d 70 rfl rfl
theorem TXG.d_Desk_best_lot (T : TXG fileC fa fx fn P K mg) : HasD K d_Desk_best_lot := T.d 71 rfl rfl
theorem TXG.d_Desk_best_worth (T : TXG fileC fa fx fn P K mg) : HasD K d_Desk_best_worth := T.d 72 rfl rfl
theorem TXG.d_Desk___getitem__ (T : TXG fileC fa fx fn P K mg) : HasD K d_Desk___getitem__ := T.d 73 rfl rfl
theorem TXG.d_Desk___setitem__ (T : TXG fileC fa fx fn P K mg) : HasD K d_Desk___setitem__ := T.d 74 rfl rfl
theorem TXG.d_Desk___contains__ (T : TXG fileC fa fx fn P K mg) : HasD K d_Desk___contains__ := T.d 75 rfl rfl
theorem TXG.d_Desk___len__ (T : TXG fileC fa fx fn P K mg) : HasD K d_Desk___len__ := T.d 76 rfl rfl
theorem TXG.d_Desk___iter__ (T : TXG fileC fa fx fn P K mg) : HasD K d_Desk___iter__ := T.d 77 rfl rfl
theorem TXG.me_AtMost_gains (T : TXG fileC fa fx fn P K mg) : Meth K (He.ga K "AtMost") "gains" (He.ma K (He.ga K "Choice") "gains") := by
  have h := T.me0_AtMost_gains
  rw [T.eq_AtMost_gains] at h
  exact h
theorem TXG.me_AtMost_climb (T : TXG fileC fa fx fn P K mg) : Meth K (He.ga K "AtMost") "climb" (He.ma K (He.ga K "Choice") "climb") := by
  have h := T.me0_AtMost_climb
  rw [T.eq_AtMost_climb] at h
  exact h
theorem TXG.me_AtMost_best (T : TXG fileC fa fx fn P K mg) : Meth K (He.ga K "AtMost") "best" (He.ma K (He.ga K "Choice") "best") := by
  have h := T.me0_AtMost_best
  rw [T.eq_AtMost_best] at h
  exact h
theorem TXG.me_Weighted_worth (T : TXG fileC fa fx fn P K mg) : Meth K (He.ga K "Weighted") "worth" (He.ma K (He.ga K "Rule") "worth") := by
  have h := T.me0_Weighted_worth
  rw [T.eq_Weighted_worth] at h
  exact h
end
end K7

/-! K9B (printed by wip/tool/mkerr.py): the errors' __init__. -/
namespace K7
open PySem PySem.Spec PyProof.Rows L2 Evl
section
variable {P : Program} {w : World} {K : PySem.W.Frag} {mg : Str → Option Value} {base : Heap}
/-- an own exception's __init__: its fields put -/
def spErr (C : Addr) (fs : List V → List (Str × V)) (n : Nat) : Sp := fun vs H Q _ => ∃ x ys, vs = .ref x :: ys ∧ ys.length = n ∧ H x = some (exo x C none) ∧ ∀ d H', H' x = some (exo x C (some d)) → H' d = some (exd d (fs ys)) → H d = none → d ≠ x → (∀ b, b ≠ x → b ≠ d → H' b = H b) → Q .non H'
def fs2 (a b : Str) : List V → List (Str × V)
  | [x, y] => [(b, y), (a, x)]
  | _ => []
def fs1 (a : Str) : List V → List (Str × V)
  | [x] => [(a, x)]
  | _ => []
theorem scs_BadNumber : FnScopeS ["self", "what", "at"] ["self", "what", "at"] (defScope s_BadNumber___init__) := ⟨rfl, rfl, rfl, by decide +kernel, rfl, by decide +kernel, by decide +kernel, by decide +kernel⟩
theorem ok_BadNumber___init__ (T : TXG fileC fa fx fn P K mg) : FnB P w K mg base 1 (He.ma K (He.ga K "BadNumber") "__init__") ["self", "what", "at"] (spErr (He.ga K "BadNumber") (fs2 "what" "at") 2) := by
  refine fnb_sup T.s_BadNumber___init__ T.file T.sup T.n_super T.sup_BadNumber rfl rfl rfl rfl scs_BadNumber rfl rfl rfl rfl (fun vs H Q E h => ?_) (fun _ _ _ _ _ _ _ us hl => match us, hl with | [_, _, _], _ => rfl) (fun cda cc A outer s H vs Q E hr S B h => ?_)
  · obtain ⟨x, ys, rfl, hl, _⟩ := h
    rw [List.length_cons, hl]; rfl
  · refine ⟨_, _, psat_expr (peat_superE ⟨B, T.supE_BadNumber.1, T.supE_BadNumber.2⟩ T.oex_BadNumber S (pa_cons pe_str pa_nil)), (pss_cons (ps_ost (pv 0) (pv 1)) (pss_one (ps_ost (pv 0) (pv 2)))), ?_⟩
    obtain ⟨x, ys, rfl, hl, hx, q⟩ := h
    match ys, hl with
    | [y, z], _ => exact ⟨x, rfl, hx, by decide, hx, _, rfl, _, rfl, x, _, rfl, T.oex_BadNumber, T.no_BadNumber_what, .inl ⟨hx, fun dx hd hn => ⟨_, rfl, _, rfl, x, _, rfl, T.oex_BadNumber, T.no_BadNumber_at, .inr ⟨dx, _, upd_same, (upd_ne hn).trans upd_same, by simp, q dx _ ((upd_ne (Ne.symm hn)).trans upd_same) upd_same hd hn fun b h1 h2 => (upd_ne h2).trans ((upd_ne h1).trans (upd_ne h2))⟩⟩⟩⟩
theorem scs_TooMany : FnScopeS ["self", "many", "most"] ["self", "many", "most"] (defScope s_TooMany___init__) := ⟨rfl, rfl, rfl, by decide +kernel, rfl, by decide +kernel, by decide +kernel, by decide +kernel⟩
theorem ok_TooMany___init__ (T : TXG fileC fa fx fn P K mg) : FnB P w K mg base 1 (He.ma K (He.ga K "TooMany") "__init__") ["self", "many", "most"] (spErr (He.ga K "TooMany") (fs2 "many" "most") 2) := by
  refine fnb_sup T.s_TooMany___init__ T.file T.sup T.n_super T.sup_TooMany rfl rfl rfl rfl scs_TooMany rfl rfl rfl rfl (fun vs H Q E h => ?_) (fun _ _ _ _ _ _ _ us hl => match us, hl with | [_, _, _], _ => rfl) (fun cda cc A outer s H vs Q E hr S B h => ?_)
  · obtain ⟨x, ys, rfl, hl, _⟩ := h
    rw [List.length_cons, hl]; rfl
  · refine ⟨_, _, psat_expr (peat_superE ⟨B, T.supE_TooMany.1, T.supE_TooMany.2⟩ T.oex_TooMany S (pa_cons pe_str pa_nil)), (pss_cons (ps_ost (pv 0) (pv 1)) (pss_one (ps_ost (pv 0) (pv 2)))), ?_⟩
    obtain ⟨x, ys, rfl, hl, hx, q⟩ := h
    match ys, hl with
    | [y, z], _ => exact ⟨x, rfl, hx, by decide, hx, _, rfl, _, rfl, x, _, rfl, T.oex_TooMany, T.no_TooMany_many, .inl ⟨hx, fun dx hd hn => ⟨_, rfl, _, rfl, x, _, rfl, T.oex_TooMany, T.no_TooMany_most, .inr ⟨dx, _, upd_same, (upd_ne hn).trans upd_same, by simp, q dx _ ((upd_ne (Ne.symm hn)).trans upd_same) upd_same hd hn fun b h1 h2 => (upd_ne h2).trans ((upd_ne h1).trans (upd_ne h2))⟩⟩⟩⟩
theorem scs_BadName : FnScopeS ["self", "name"] ["self", "name"] (defScope s_BadName___init__) := ⟨rfl, rfl, rfl, by decide +kernel, rfl, by decide +kernel, by decide +kernel, by decide +kernel⟩
theorem ok_BadName___init__ (T : TXG fileC fa fx fn P K mg) : FnB P w K mg base 1 (He.ma K (He.ga K "BadName") "__init__") ["self", "name"] (spErr (He.ga K "BadName") (fs1 "name") 1) := by
  refine fnb_sup T.s_BadName___init__ T.file T.sup T.n_super T.sup_BadName rfl rfl rfl rfl scs_BadName rfl rfl rfl rfl (fun vs H Q E h => ?_) (fun _ _ _ _ _ _ _ us hl => match us, hl with | [_, _], _ => rfl) (fun cda cc A outer s H vs Q E hr S B h => ?_)
  · obtain ⟨x, ys, rfl, hl, _⟩ := h
    rw [List.length_cons, hl]; rfl
  · refine ⟨_, _, psat_expr (peat_superE ⟨B, T.supE_BadName.1, T.supE_BadName.2⟩ T.oex_BadName S (pa_cons pe_str pa_nil)), (pss_one (ps_ost (pv 0) (pv 1))), ?_⟩
    obtain ⟨x, ys, rfl, hl, hx, q⟩ := h
    match ys, hl with
    | [y], _ => exact ⟨x, rfl, hx, by decide, hx, _, rfl, _, rfl, x, _, rfl, T.oex_BadName, T.no_BadName_name, .inl ⟨hx, fun dx hd hn => q dx _ upd_same ((upd_ne hn).trans upd_same) hd hn fun b h1 h2 => (upd_ne h1).trans (upd_ne h2)⟩⟩
theorem scs_KnownName : FnScopeS ["self", "name"] ["self", "name"] (defScope s_KnownName___init__) := ⟨rfl, rfl, rfl, by decide +kernel, rfl, by decide +kernel, by decide +kernel, by decide +kernel⟩
theorem ok_KnownName___init__ (T : TXG fileC fa fx fn P K mg) : FnB P w K mg base 1 (He.ma K (He.ga K "KnownName") "__init__") ["self", "name"] (spErr (He.ga K "KnownName") (fs1 "name") 1) := by
  refine fnb_sup T.s_KnownName___init__ T.file T.sup T.n_super T.sup_KnownName rfl rfl rfl rfl scs_KnownName rfl rfl rfl rfl (fun vs H Q E h => ?_) (fun _ _ _ _ _ _ _ us hl => match us, hl with | [_, _], _ => rfl) (fun cda cc A outer s H vs Q E hr S B h => ?_)
  · obtain ⟨x, ys, rfl, hl, _⟩ := h
    rw [List.length_cons, hl]; rfl
  · refine ⟨_, _, psat_expr (peat_superE ⟨B, T.supE_KnownName.1, T.supE_KnownName.2⟩ T.oex_KnownName S (pa_cons pe_str pa_nil)), (pss_one (ps_ost (pv 0) (pv 1))), ?_⟩
    obtain ⟨x, ys, rfl, hl, hx, q⟩ := h
    match ys, hl with
    | [y], _ => exact ⟨x, rfl, hx, by decide, hx, _, rfl, _, rfl, x, _, rfl, T.oex_KnownName, T.no_KnownName_name, .inl ⟨hx, fun dx hd hn => q dx _ upd_same ((upd_ne hn).trans upd_same) hd hn fun b h1 h2 => (upd_ne h1).trans (upd_ne h2)⟩⟩
theorem scs_UnknownName : FnScopeS ["self", "name"] ["self", "name"] (defScope s_UnknownName___init__) := ⟨rfl, rfl, rfl, by decide +kernel, rfl, by decide +kernel, by decide +kernel, by decide +kernel⟩
theorem ok_UnknownName___init__ (T : TXG fileC fa fx fn P K mg) : FnB P w K mg base 1 (He.ma K (He.ga K "UnknownName") "__init__") ["self", "name"] (spErr (He.ga K "UnknownName") (fs1 "name") 1) := by
  refine fnb_sup T.s_UnknownName___init__ T.file T.sup T.n_super T.sup_UnknownName rfl rfl rfl rfl scs_UnknownName rfl rfl rfl rfl (fun vs H Q E h => ?_) (fun _ _ _ _ _ _ _ us hl => match us, hl with | [_, _], _ => rfl) (fun cda cc A outer s H vs Q E hr S B h => ?_)
  · obtain ⟨x, ys, rfl, hl, _⟩ := h
    rw [List.length_cons, hl]; rfl
  · refine ⟨_, _, psat_expr (peat_superE ⟨B, T.supE_UnknownName.1, T.supE_UnknownName.2⟩ T.oex_UnknownName S (pa_cons pe_str pa_nil)), (pss_one (ps_ost (pv 0) (pv 1))), ?_⟩
    obtain ⟨x, ys, rfl, hl, hx, q⟩ := h
    match ys, hl with
    | [y], _ => exact ⟨x, rfl, hx, by decide, hx, _, rfl, _, rfl, x, _, rfl, T.oex_UnknownName, T.no_UnknownName_name, .inl ⟨hx, fun dx hd hn => q dx _ upd_same ((upd_ne hn).trans upd_same) hd hn fun b h1 h2 => (upd_ne h1).trans (upd_ne h2)⟩⟩
end
end K7

/-! K9C: Ratio. -/
namespace K7
open PySem PySem.Spec PyProof.Rows L2 Evl
/-- a Ratio of the two numbers -/
def RatAt (K : PySem.W.Frag) (H : Hp) (v : V) (r : Int × Int) : Prop := ∃ a dx, v = .ref a ∧ H a = some (.ins (He.ga K "Ratio") dx [("top", .int r.1), ("bottom", .int r.2)])
theorem stay_Rat {K : PySem.W.Frag} : Stay (RatAt K) := fun H H' v d e ⟨a, dx, h1, h2⟩ => ⟨a, dx, h1, e _ _ h2⟩
theorem stayL_Rat {K : PySem.W.Frag} : StayL (RatAt K) := fun H p xs ys v d hp ⟨a, dx, h1, h2⟩ => ⟨a, dx, h1, by
  rw [upd_ne]
  · exact h2
  · rintro rfl
    rw [hp] at h2
    cases h2⟩
/-- what was known stays, but at a -/
def ExB (a : Addr) (H H' : Hp) : Prop := ∀ x o, x ≠ a → H x = some o → H' x = some o
theorem Ex.b {a : Addr} {H H' : Hp} (e : Ex H H') : ExB a H H' := fun x o _ h => e x o h
theorem ExB.trans {a : Addr} {H H1 H2 : Hp} (e : ExB a H H1) (e2 : ExB a H1 H2) : ExB a H H2 := fun x o n h => e2 x o n (e x o n h)
theorem ExB.upd {a : Addr} {H : Hp} {u : HO} : ExB a H (upd H a u) := fun x o n h => by rw [upd_ne n]; exact h
theorem ExB.ex {a : Addr} {H H' : Hp} (e : ExB a H H') (h : H a = none) : Ex H H' := fun x o hx => e x o (by rintro rfl; rw [h] at hx; cases hx) hx
theorem ExB.exU {a dx : Addr} {H H' : Hp} {u v : HO} (e : ExB a (L2.upd (L2.upd H dx v) a u) H') (h : H a = none) (h2 : H dx = none) : Ex H H' := fun x o hx => by
  have n1 : x ≠ a := by rintro rfl; rw [h] at hx; cases hx
  have n2 : x ≠ dx := by rintro rfl; rw [h2] at hx; cases hx
  exact e x o n1 (by rw [upd_ne n1, upd_ne n2]; exact hx)
theorem ps_dead {X : Cx} {st : Stmt} : PS X st (fun _ _ _ => False) := ⟨fun _ _ _ _ _ _ h => h.elim⟩
def rnorm (t b : Int) : Int × Int := (t / ((Nat.gcd t.natAbs b.natAbs : Nat) : Int), b / ((Nat.gcd t.natAbs b.natAbs : Nat) : Int))
section
variable {P : Program} {w : World} {K : PySem.W.Frag} {mg : Str → Option Value} {base : Heap}
theorem sc_Ratio___init__ : FnScope ["self", "top", "bottom", "shared"] ["self", "top", "bottom"] (defScope s_Ratio___init__) := ⟨rfl, rfl, rfl, by decide +kernel, rfl, by decide +kernel, by decide +kernel⟩
def spRI (K : PySem.W.Frag) : Sp := fun vs H Q _ => ∃ a dx t b, vs = [.ref a, .int t, .int b] ∧ H a = some (.ins (He.ga K "Ratio") dx []) ∧ 1 ≤ b ∧ b.natAbs < 2 ^ 9000 ∧ ∀ H', ExB a H H' → H' a = some (.ins (He.ga K "Ratio") dx [("top", .int (rnorm t b).1), ("bottom", .int (rnorm t b).2)]) → Q .non H'
theorem run_RI (T : TXG fileC fa fx fn P K mg) {fd : FuncData} (F : FunD K "__init__" "Ratio.__init__" (defArgs s_Ratio___init__) (defBody s_Ratio___init__) (defScope s_Ratio___init__) [.int 1] [] (He.ma K (He.ga K "Ratio") "__init__") fd) : FnOk P w K mg base (L2.CX P w) 1 (He.ma K (He.ga K "Ratio") "__init__") fd ["self", "top", "bottom"] (spRI K) := by
  refine F.ok sc_Ratio___init__ (fun vs H Q E h => ?_) (fun cdv A outer s H vs Q E hr h => ?_)
  · obtain ⟨_, _, _, _, rfl, _⟩ := h
    rfl
  · refine ⟨_, (pss_cons (ps_if (pt_cmpR op_eq (pv 2) pe_int (nomark _)) (pss_one (ps_raise rfl (takes_of rfl rfl rfl rfl) (pmk_own PySem.F.excBase_ValueError T.exc_ZeroBottom.1 T.g_ZeroBottom T.k_ZeroBottom (raises_own T.exc_ZeroBottom.2.2.1 T.exc_ZeroBottom.2.2.2) (by rfl)))) pss_nil)
      (pss_cons (ps_if (pt_cmpR op_lt (pv 2) pe_int (nomark _)) (pss_one (ps_par rfl sc_Ratio___init__.nd (i := 1) (j := 2) rfl rfl (by decide) rfl rfl (pa_cons (pe_un un_neg (pv 1)) (pa_cons (pe_un un_neg (pv 2)) pa_nil)) (by rfl))) pss_nil)
      (pss_cons (ps_set (i := 3) sc_Ratio___init__.nd rfl (Or.inl rfl) (pe_callBfun cr_gcd (by rfl) T.b_gcd (pa_cons (pv 1) (pa_cons (pv 2) pa_nil))))
      (pss_cons (ps_fld (pv 0) (pe_op op_fdivW (pv 1) (pv 3)) rfl)
      (pss_one (ps_fld (pv 0) (pe_op op_fdivW (pv 2) (pv 3)) rfl)))))), ?_⟩
    obtain ⟨a, dx, t, b, rfl, ha, hb1, hb2, q⟩ := h
    refine Evl.q_when (b := false) (et_is (et_B (ev_op (ev_var rfl) ev_c (rv_eq rfl))) (decide_eq_false fun e => by injection e; omega)) (fun h => by cases h) fun _ H1 e1 => ?_
    refine Evl.q_when (b := false) (et_is (et_B (ev_op (ev_var rfl) ev_c rv_I0)) (decide_eq_false (by omega))) (fun h => by cases h) fun _ H2 e2 => ?_
    refine Evl.q_asg (v := .int ((Nat.gcd t.natAbs b.natAbs : Nat) : Int)) (ev_cb (ea_cons (ev_var rfl) (ea_cons (ev_var rfl) ea_nil)) fun _ _ _ q => ⟨t, b, rfl, q _ (Ex.refl _)⟩) fun H3 e3 => ?_
    have hg : 0 < Nat.gcd t.natAbs b.natAbs := Nat.gcd_pos_of_pos_right _ (by omega)
    have hg2 : Nat.gcd t.natAbs b.natAbs ≤ b.natAbs := Nat.le_of_dvd (by omega) (Nat.gcd_dvd_right _ _)
    have hc : ∀ i : Int, CDivW i ((Nat.gcd t.natAbs b.natAbs : Nat) : Int) := fun i => wide_div (by omega) (b := 9000) (by rw [Int.natAbs_natCast]; exact Nat.lt_of_le_of_lt hg2 hb2) (by omega) (by omega)
    have e : Ex H H3 := (e1.trans e2).trans e3
    refine (ev_op (ev_var rfl) (ev_var rfl) (rv_I (hc _))) H3 (Ex.refl _) _ fun H4 e4 => ⟨_, rfl, a, _, dx, [], rfl, (e.trans e4) _ _ ha, T.c_Ratio, T.no_Ratio_top, by decide, ?_⟩
    refine (ev_op (ev_var rfl) (ev_var rfl) (rv_I (hc _))) _ (Ex.refl _) _ fun H5 e5 => ⟨_, rfl, a, _, dx, _, rfl, e5 _ _ upd_same, T.c_Ratio, T.no_Ratio_bottom, by simp [putF], ?_⟩
    exact q _ (((Ex.b (e.trans e4)).trans ExB.upd).trans ((Ex.b e5).trans ExB.upd)) upd_same
theorem ok_RI2 (T : TXG fileC fa fx fn P K mg) : FnR P w K mg base (L2.CX P w) 1 (He.ma K (He.ga K "Ratio") "__init__") (spRI K) := by
  obtain ⟨fd, F⟩ := T.d_Ratio___init__
  obtain ⟨ds, h1, h2⟩ := FunD.binds1 (ps := ["self", "top", "bottom"]) F 3 1 (by simp [d_Ratio___init__]) rfl (fun _ _ _ _ _ _ _ us its hl hi => match us, its, hl, hi with | [_, _, _], [_], _, _ => ⟨_, rfl, rfl⟩)
  have h1 : Vals [] ds := h1
  cases h1
  exact ((run_RI T F).raw h2 .nil).imp fun vs H Q E h => by rw [List.append_nil]; exact h
theorem ok_RI1 (T : TXG fileC fa fx fn P K mg) : FnR P w K mg base (L2.CX P w) 1 (He.ma K (He.ga K "Ratio") "__init__") (fun vs H Q E => spRI K (vs ++ [.int 1]) H Q E) := by
  obtain ⟨fd, F⟩ := T.d_Ratio___init__
  obtain ⟨ds, h1, h2⟩ := FunD.binds1 (ps := ["self", "top", "bottom"]) F 2 0 (by simp [d_Ratio___init__]) rfl (fun _ _ _ _ _ _ _ us its hl hi => match us, its, hl, hi with | [_, _], [_], _, _ => ⟨_, rfl, rfl⟩)
  exact ((run_RI T F).raw h2 h1).imp fun vs H Q E h => h
/-- Ratio(t, b), Ratio(t) -/
theorem mk_rat2 {σ : L2.St} {H : Hp} {ta : TA} {t b : Int} {E : XK} (h : EvA ta σ H [.int t, .int b]) (h1 : 1 ≤ b) (h2 : b.natAbs < 2 ^ 9000) : EvQ (StX.tMakeR (He.ga K "Ratio") (spRI K) E ta) σ H (RatAt K) (rnorm t b) := fun H1 e Q q =>
  h H1 e _ fun H2 e2 x dx hx hd hn => ⟨x, dx, t, b, rfl, upd_same, h1, h2, fun H3 e3 hf => ⟨rfl, q _ H3 (e2.trans (e3.exU hx hd)) ⟨x, dx, rfl, hf⟩⟩⟩
theorem mk_rat1 {σ : L2.St} {H : Hp} {ta : TA} {t : Int} {E : XK} (h : EvA ta σ H [.int t]) : EvQ (StX.tMakeR (He.ga K "Ratio") (fun vs H Q E => spRI K (vs ++ [.int 1]) H Q E) E ta) σ H (RatAt K) (rnorm t 1) := fun H1 e Q q =>
  h H1 e _ fun H2 e2 x dx hx hd hn => ⟨x, dx, t, 1, rfl, upd_same, by omega, Nat.one_lt_two_pow (by omega), fun H3 e3 hf => ⟨rfl, q _ H3 (e2.trans (e3.exU hx hd)) ⟨x, dx, rfl, hf⟩⟩⟩
/-- a promise's end: a value of which R d -/
def RetQ {α : Type} (R : Hp → V → α → Prop) (d : α) (H : Hp) (Q : VK) : Prop := ∀ v H', Ex H H' → R H' v d → Q v H'
theorem sq_ret {α : Type} {R : Hp → V → α → Prop} {d : α} {te : TE} {σ : L2.St} {H H0 : Hp} {Q : VK} {D : Ends} (e : Ex H0 H) (h : EvQ te σ H R d) (k : RetQ R d H0 Q) (hD : D.rt = Q) : tRet te D σ H := by
  subst hD
  exact h H (Ex.refl H) _ fun v H1 e1 hv => k v H1 (e.trans e1) hv
/-- size of a ratio -/
structure Rsz (k : Nat) (r : Int × Int) : Prop where
  pos : 1 ≤ r.2
  top : r.1.natAbs < 2 ^ k
  bot : r.2.natAbs < 2 ^ k
def radd (r s : Int × Int) : Int × Int := rnorm (r.1 * s.2 + s.1 * r.2) (r.2 * s.2)
def rmul (r : Int × Int) (n : Int) : Int × Int := rnorm (r.1 * n) r.2
/-- o.top, o.bottom -/
theorem ev_top (T : TXG fileC fa fx fn P K mg) {σ : L2.St} {H : Hp} {te : TE} {r : Int × Int} {v : V} (h : Ev te σ H v) (hv : RatAt K H v r) : Ev (tFld K te "top") σ H (.int r.1) := fun H1 e Q q => h H1 e _ fun H2 e2 => by
  obtain ⟨a, dx, rfl, ha⟩ := hv
  exact ⟨a, _, dx, _, _, rfl, (e.trans e2) _ _ ha, T.c_Ratio, T.no_Ratio_top, rfl, q H2 e2⟩
theorem ev_bot (T : TXG fileC fa fx fn P K mg) {σ : L2.St} {H : Hp} {te : TE} {r : Int × Int} {v : V} (h : Ev te σ H v) (hv : RatAt K H v r) : Ev (tFld K te "bottom") σ H (.int r.2) := fun H1 e Q q => h H1 e _ fun H2 e2 => by
  obtain ⟨a, dx, rfl, ha⟩ := hv
  exact ⟨a, _, dx, _, _, rfl, (e.trans e2) _ _ ha, T.c_Ratio, T.no_Ratio_bottom, rfl, q H2 e2⟩
theorem ev_isi {σ : L2.St} {H : Hp} {te : TE} {v c : V} {cu t : Value} {b : Bool} (h : Ev te σ H v) (hc : ClsV c cu) (ty : ∀ H1, Ex H H1 → TyX K H1 v t) (e : PySem.W.kitOne K t cu = some b) : Ev (tCB (rIsi K) (tCons te (tCons (tC c) tNil))) σ H (.bl b) :=
  ev_cb (ea_cons h (ea_cons ev_c ea_nil)) fun H1 e1 Q q => ⟨v, c, t, cu, b, rfl, hc, ty H1 e1, e, q H1 (Ex.refl _)⟩
theorem RatAt.ty (T : TXG fileC fa fx fn P K mg) {H : Hp} {v : V} {r : Int × Int} (h : RatAt K H v r) : TyX K H v (.ref (He.ga K "Ratio")) := by
  obtain ⟨a, dx, rfl, ha⟩ := h
  exact .base (.ins ha T.c_Ratio T.ty_Ratio.1 T.ty_Ratio.2.1 T.ty_Ratio.2.2.1 T.ty_Ratio.2.2.2)
theorem et_isR (T : TXG fileC fa fx fn P K mg) {σ : L2.St} {H : Hp} {te : TE} {v : V} {r : Int × Int} (h : Ev te σ H v) (hv : RatAt K H v r) : EvT (tB (tCB (rIsi K) (tCons te (tCons (tC (.ref (He.ga K "Ratio"))) tNil)))) σ H true := et_B (ev_isi h (.own _) (fun H1 e => (stay_Rat _ _ _ _ e hv).ty T) T.kit_Ratio_Ratio)
theorem et_isRi (T : TXG fileC fa fx fn P K mg) {σ : L2.St} {H : Hp} {te : TE} {v : V} {r : Int × Int} (h : Ev te σ H v) (hv : RatAt K H v r) : EvT (tB (tCB (rIsi K) (tCons te (tCons (tC (.ty "int")) tNil)))) σ H false := et_B (ev_isi h (.ty _) (fun H1 e => (stay_Rat _ _ _ _ e hv).ty T) T.kit_Ratio_int)
theorem et_isI (T : TXG fileC fa fx fn P K mg) {σ : L2.St} {H : Hp} {te : TE} {i : Int} (h : Ev te σ H (.int i)) : EvT (tB (tCB (rIsi K) (tCons te (tCons (tC (.ty "int")) tNil)))) σ H true := et_B (ev_isi h (.ty _) (fun H1 e => .base (.int i)) T.kit_int_int)
theorem sc_Ratio___add__ : FnScope ["self", "other"] ["self", "other"] (defScope s_Ratio___add__) := ⟨rfl, rfl, rfl, by decide +kernel, rfl, by decide +kernel, by decide +kernel⟩
def spRAdd (K : PySem.W.Frag) : Sp := fun vs H Q _ => ∃ v u r s, vs = [v, u] ∧ RatAt K H v r ∧ RatAt K H u s ∧ Rsz 4000 r ∧ Rsz 4000 s ∧ RetQ (RatAt K) (radd r s) H Q
theorem cmw {i j : Int} {a b : Nat} (ha : i.natAbs < 2 ^ a) (hb : j.natAbs < 2 ^ b) (h : a + b ≤ 900000) (h1 : 0 < a) (h2 : 0 < b) : CMulW i j := wide_mul ha hb h1 h2 (by omega)
theorem ok_Ratio___add__ (T : TXG fileC fa fx fn P K mg) : FnB P w K mg base 3 (He.ma K (He.ga K "Ratio") "__add__") ["self", "other"] (spRAdd K) := by
  refine fnb T.d_Ratio___add__ rfl sc_Ratio___add__ (fun vs H Q E h => ?_) (fun _ _ _ _ _ _ us hl => match us, hl with | [_, _], _ => rfl) (fun cdv A outer s H vs Q E hr h => ?_)
  · obtain ⟨_, _, _, _, rfl, _⟩ := h
    rfl
  · refine ⟨_, (pss_cons (ps_if (pt_val (pe_callB call_isi (by rfl) T.n_isinstance (by decide +kernel) (pa_cons (pv 1) (pa_cons (pe_bltn (v := .ty "int") (by rfl) T.n_int PyProof.Rows.boot_int rfl) pa_nil)))) (pss_one ps_dead) pss_nil)
      (pss_cons (ps_if (pt_not (pt_val (pe_callB call_isi (by rfl) T.n_isinstance (by decide +kernel) (pa_cons (pv 1) (pa_cons (pe_glob (v := .ref (He.ga _ "Ratio")) (by rfl) T.g_Ratio rfl) pa_nil))))) (pss_one ps_dead) pss_nil)
      (pss_one (ps_ret (StX.pe_makeR T.mk_Ratio (ok_RI2 T) (hr.mono (by decide)) (by rfl) T.g_Ratio (E := E0) passL (pa_cons (pe_op op_add (pe_op op_mulW (pe_fld (pv 0) rfl) (pe_fld (pv 1) rfl)) (pe_op op_mulW (pe_fld (pv 1) rfl) (pe_fld (pv 0) rfl))) (pa_cons (pe_op op_mulW (pe_fld (pv 0) rfl) (pe_fld (pv 1) rfl)) pa_nil))))))), ?_⟩
    obtain ⟨v, u, r, s, rfl, hv, hu, zr, zs, q⟩ := h
    refine Evl.q_when (et_isRi T (ev_var rfl) hu) (fun h => by cases h) fun _ H1 e1 => ?_
    refine Evl.q_when (et_not (et_isR T (ev_var rfl) (stay_Rat _ _ _ _ e1 hu))) (fun h => by cases h) fun _ H2 e2 => ?_
    have e := e1.trans e2
    have hv2 := stay_Rat _ _ _ _ e hv
    have hu2 := stay_Rat _ _ _ _ e hu
    refine sq_ret e (mk_rat2 (t := r.1 * s.2 + s.1 * r.2) (b := r.2 * s.2) (ea_cons (ev_op (ev_op (ev_top T (ev_var rfl) hv2) (ev_bot T (ev_var rfl) hu2) (rv_I (cmw zr.top zs.bot (by omega) (by omega) (by omega)))) (ev_op (ev_top T (ev_var rfl) hu2) (ev_bot T (ev_var rfl) hv2) (rv_I (cmw zs.top zr.bot (by omega) (by omega) (by omega)))) rv_I0)
      (ea_cons (ev_op (ev_bot T (ev_var rfl) hv2) (ev_bot T (ev_var rfl) hu2) (rv_I (cmw zr.bot zs.bot (by omega) (by omega) (by omega)))) ea_nil)) ?_ ?_) q rfl
    · have h1 := zr.pos
      have h2 := zs.pos
      have := Int.mul_pos (show 0 < r.2 by omega) (show 0 < s.2 by omega)
      omega
    · exact Nat.lt_of_lt_of_le (wide_lt zr.bot zs.bot) (Nat.pow_le_pow_right (by omega) (by omega))
theorem sc_Ratio___mul__ : FnScope ["self", "other"] ["self", "other"] (defScope s_Ratio___mul__) := ⟨rfl, rfl, rfl, by decide +kernel, rfl, by decide +kernel, by decide +kernel⟩
def spRMul (K : PySem.W.Frag) : Sp := fun vs H Q _ => ∃ v n r, vs = [v, .int n] ∧ RatAt K H v r ∧ Rsz 4000 r ∧ n.natAbs < 2 ^ 4000 ∧ RetQ (RatAt K) (rmul r n) H Q
theorem ok_Ratio___mul__ (T : TXG fileC fa fx fn P K mg) : FnB P w K mg base 3 (He.ma K (He.ga K "Ratio") "__mul__") ["self", "other"] (spRMul K) := by
  refine fnb T.d_Ratio___mul__ rfl sc_Ratio___mul__ (fun vs H Q E h => ?_) (fun _ _ _ _ _ _ us hl => match us, hl with | [_, _], _ => rfl) (fun cdv A outer s H vs Q E hr h => ?_)
  · obtain ⟨_, _, _, rfl, _⟩ := h
    rfl
  · refine ⟨_, (pss_cons (ps_if (pt_val (pe_callB call_isi (by rfl) T.n_isinstance (by decide +kernel) (pa_cons (pv 1) (pa_cons (pe_bltn (v := .ty "int") (by rfl) T.n_int PyProof.Rows.boot_int rfl) pa_nil)))) (pss_one (ps_ret (StX.pe_makeR T.mk_Ratio (ok_RI2 T) (hr.mono (by decide)) (by rfl) T.g_Ratio (E := E0) passL (pa_cons (pe_op op_mulW (pe_fld (pv 0) rfl) (pv 1)) (pa_cons (pe_fld (pv 0) rfl) pa_nil))))) pss_nil)
      (pss_cons (ps_if (pt_not (pt_val (pe_callB call_isi (by rfl) T.n_isinstance (by decide +kernel) (pa_cons (pv 1) (pa_cons (pe_glob (v := .ref (He.ga _ "Ratio")) (by rfl) T.g_Ratio rfl) pa_nil))))) (pss_one ps_dead) pss_nil)
      (pss_one ps_dead))), ?_⟩
    obtain ⟨v, n, r, rfl, hv, zr, hn, q⟩ := h
    refine Evl.q_when (et_isI T (ev_var rfl)) (fun _ H1 e1 => ?_) (fun h => by cases h)
    have hv2 := stay_Rat _ _ _ _ e1 hv
    exact sq_ret e1 (mk_rat2 (t := r.1 * n) (b := r.2) (ea_cons (ev_op (ev_top T (ev_var rfl) hv2) (ev_var rfl) (rv_I (cmw zr.top hn (by omega) (by omega) (by omega)))) (ea_cons (ev_bot T (ev_var rfl) hv2) ea_nil)) zr.pos (Nat.lt_of_lt_of_le zr.bot (Nat.pow_le_pow_right (by omega) (by omega)))) q rfl
theorem sc_Ratio___lt__ : FnScope ["self", "other"] ["self", "other"] (defScope s_Ratio___lt__) := ⟨rfl, rfl, rfl, by decide +kernel, rfl, by decide +kernel, by decide +kernel⟩
def spRLt (K : PySem.W.Frag) : Sp := fun vs H Q _ => ∃ v u r s, vs = [v, u] ∧ RatAt K H v r ∧ RatAt K H u s ∧ Rsz 4000 r ∧ Rsz 4000 s ∧ RetV (.bl (decide (r.1 * s.2 < s.1 * r.2))) H Q
theorem ok_Ratio___lt__ (T : TXG fileC fa fx fn P K mg) : FnB P w K mg base 3 (He.ma K (He.ga K "Ratio") "__lt__") ["self", "other"] (spRLt K) := by
  refine fnb T.d_Ratio___lt__ rfl sc_Ratio___lt__ (fun vs H Q E h => ?_) (fun _ _ _ _ _ _ us hl => match us, hl with | [_, _], _ => rfl) (fun cdv A outer s H vs Q E hr h => ?_)
  · obtain ⟨_, _, _, _, rfl, _⟩ := h
    rfl
  · refine ⟨_, (pss_cons (ps_if (pt_val (pe_callB call_isi (by rfl) T.n_isinstance (by decide +kernel) (pa_cons (pv 1) (pa_cons (pe_bltn (v := .ty "int") (by rfl) T.n_int PyProof.Rows.boot_int rfl) pa_nil)))) (pss_one ps_dead) pss_nil)
      (pss_cons (ps_if (pt_not (pt_val (pe_callB call_isi (by rfl) T.n_isinstance (by decide +kernel) (pa_cons (pv 1) (pa_cons (pe_glob (v := .ref (He.ga _ "Ratio")) (by rfl) T.g_Ratio rfl) pa_nil))))) (pss_one ps_dead) pss_nil)
      (pss_one (ps_ret (pe_cmpR op_lt (pe_op op_mulW (pe_fld (pv 0) rfl) (pe_fld (pv 1) rfl)) (pe_op op_mulW (pe_fld (pv 1) rfl) (pe_fld (pv 0) rfl)) (nomark _)))))), ?_⟩
    obtain ⟨v, u, r, s, rfl, hv, hu, zr, zs, q⟩ := h
    refine Evl.q_when (et_isRi T (ev_var rfl) hu) (fun h => by cases h) fun _ H1 e1 => ?_
    refine Evl.q_when (et_not (et_isR T (ev_var rfl) (stay_Rat _ _ _ _ e1 hu))) (fun h => by cases h) fun _ H2 e2 => ?_
    have e := e1.trans e2
    have hv2 := stay_Rat _ _ _ _ e hv
    have hu2 := stay_Rat _ _ _ _ e hu
    exact Evl.s_ret (ev_op (ev_op (ev_top T (ev_var rfl) hv2) (ev_bot T (ev_var rfl) hu2) (rv_I (cmw zr.top zs.bot (by omega) (by omega) (by omega)))) (ev_op (ev_top T (ev_var rfl) hu2) (ev_bot T (ev_var rfl) hv2) (rv_I (cmw zs.top zr.bot (by omega) (by omega) (by omega)))) rv_I0) fun H3 e3 => q H3 (e.trans e3)
theorem sc_Ratio___gt__ : FnScope ["self", "other"] ["self", "other"] (defScope s_Ratio___gt__) := ⟨rfl, rfl, rfl, by decide +kernel, rfl, by decide +kernel, by decide +kernel⟩
def spRGt (K : PySem.W.Frag) : Sp := fun vs H Q _ => ∃ v u r, vs = [v, u] ∧ RatAt K H v r ∧ Rsz 4000 r ∧ ((∃ s, RatAt K H u s ∧ Rsz 4000 s ∧ RetV (.bl (decide (s.1 * r.2 < r.1 * s.2))) H Q) ∨ ∃ n : Int, u = .int n ∧ n.natAbs < 2 ^ 4000 ∧ RetV (.bl (decide (n * r.2 < r.1))) H Q)
theorem ok_Ratio___gt__ (T : TXG fileC fa fx fn P K mg) : FnB P w K mg base 3 (He.ma K (He.ga K "Ratio") "__gt__") ["self", "other"] (spRGt K) := by
  refine fnb T.d_Ratio___gt__ rfl sc_Ratio___gt__ (fun vs H Q E h => ?_) (fun _ _ _ _ _ _ us hl => match us, hl with | [_, _], _ => rfl) (fun cdv A outer s H vs Q E hr h => ?_)
  · obtain ⟨_, _, _, rfl, _⟩ := h
    rfl
  · refine ⟨_, (pss_cons (ps_if (pt_val (pe_callB call_isi (by rfl) T.n_isinstance (by decide +kernel) (pa_cons (pv 1) (pa_cons (pe_bltn (v := .ty "int") (by rfl) T.n_int PyProof.Rows.boot_int rfl) pa_nil)))) (pss_one (ps_ret (pe_cmpR op_gt (pe_fld (pv 0) rfl) (pe_op op_mulW (pv 1) (pe_fld (pv 0) rfl)) (nomark _)))) pss_nil)
      (pss_cons (ps_if (pt_not (pt_val (pe_callB call_isi (by rfl) T.n_isinstance (by decide +kernel) (pa_cons (pv 1) (pa_cons (pe_glob (v := .ref (He.ga _ "Ratio")) (by rfl) T.g_Ratio rfl) pa_nil))))) (pss_one ps_dead) pss_nil)
      (pss_one (ps_ret (pe_cmpR op_gt (pe_op op_mulW (pe_fld (pv 0) rfl) (pe_fld (pv 1) rfl)) (pe_op op_mulW (pe_fld (pv 1) rfl) (pe_fld (pv 0) rfl)) (nomark _)))))), ?_⟩
    obtain ⟨v, u, r, rfl, hv, zr, h⟩ := h
    rcases h with ⟨s, hu, zs, q⟩ | ⟨n, rfl, hn, q⟩
    · refine Evl.q_when (et_isRi T (ev_var rfl) hu) (fun h => by cases h) fun _ H1 e1 => ?_
      refine Evl.q_when (et_not (et_isR T (ev_var rfl) (stay_Rat _ _ _ _ e1 hu))) (fun h => by cases h) fun _ H2 e2 => ?_
      have e := e1.trans e2
      have hv2 := stay_Rat _ _ _ _ e hv
      have hu2 := stay_Rat _ _ _ _ e hu
      exact Evl.s_ret (ev_op (ev_op (ev_top T (ev_var rfl) hv2) (ev_bot T (ev_var rfl) hu2) (rv_I (cmw zr.top zs.bot (by omega) (by omega) (by omega)))) (ev_op (ev_top T (ev_var rfl) hu2) (ev_bot T (ev_var rfl) hv2) (rv_I (cmw zs.top zr.bot (by omega) (by omega) (by omega)))) rv_I0) fun H3 e3 => q H3 (e.trans e3)
    · refine Evl.q_when (et_isI T (ev_var rfl)) (fun _ H1 e1 => ?_) (fun h => by cases h)
      have hv2 := stay_Rat _ _ _ _ e1 hv
      exact Evl.s_ret (ev_op (ev_top T (ev_var rfl) hv2) (ev_op (ev_var rfl) (ev_bot T (ev_var rfl) hv2) (rv_I (cmw hn zr.bot (by omega) (by omega) (by omega)))) rv_I0) fun H3 e3 => q H3 (e1.trans e3)
end
end K7

/-! K9D: check_least, check_lot, check_prices, is_name. -/
namespace K7
open PySem PySem.Spec PyProof.Rows L2 Evl RZ
/-- an exception with its fields -/
def XR (K : PySem.W.Frag) (E : XK) (H : Hp) (c : Str) (fs : List (Str × V)) : Prop := ∀ d H', Ex H H' → H' d = some (.xd fs) → E (.ref (He.ga K c)) (some d) H'
theorem XR.mono {K : PySem.W.Frag} {E : XK} {H H' : Hp} {c : Str} {fs : List (Str × V)} (h : XR K E H c fs) (e : Ex H H') : XR K E H' c fs := fun d H2 e2 hd => h d H2 (e.trans e2) hd
theorem mk_err {K : PySem.W.Frag} {c : Str} {fs : List V → List (Str × V)} {n : Nat} {ta : TA} {σ : L2.St} {H : Hp} {E : XK} {ys : List V} (h : EvA ta σ H ys) (hn : ys.length = n) (hk : n ≤ 100) (x : XR K E H c (fs ys)) : tMkO (He.ga K c) (spErr (He.ga K c) fs n) [] ta σ H E :=
  h H (Ex.refl H) _ fun H1 e1 => ⟨by omega, fun a ha => ⟨a, ys ++ [], rfl, by rw [List.append_nil]; exact hn, upd_same, fun d H' h1 h2 h3 h4 h5 => ⟨rfl, d, fs ys, h1, by rw [List.append_nil] at h2; exact h2, by rw [upd_ne h4] at h3; exact h3, x d _ (fun b o hb => by
    have hb1 := e1 _ _ hb
    have nb1 : b ≠ a := by rintro rfl; rw [ha] at hb1; cases hb1
    have nb2 : b ≠ d := by
      rintro rfl
      rw [upd_ne nb1, hb1] at h3
      cases h3
    rw [upd_ne nb2, del_ne nb1, h5 b nb1 nb2, upd_ne nb1]
    exact hb1) upd_same⟩⟩⟩
/-- ints of a lot -/
def lv (ls : List Nat) : List V := ls.map fun (i : Nat) => .int (i : Int)
structure LotOk (n : Nat) (ls : List Nat) : Prop where
  asc : ls.Pairwise (· < ·)
  lt : ∀ x ∈ ls, x < n
theorem ev_cbL1 {r : List V → Hp → VK → Prop} {te : TE} {σ : L2.St} {H : Hp} {xs : List V} {z : V} (h : EvL te σ H xs) (hr : ∀ p H1, H1 p = some (.lst xs) → Ex H H1 → RC r [.ref p] H1 z) : Ev (tCB r (tCons te tNil)) σ H z := fun H1 e Q q =>
  h H1 e _ fun p H2 hn e2 hp => hr p H2 hp (e.trans e2) H2 (Ex.refl _) Q fun H3 e3 => q H3 (e2.trans e3)
theorem all_range (l : List Nat) (f : Nat → Bool) : ((List.range l.length).all fun i => f (l.getD i 0)) = l.all f := by
  rw [Bool.eq_iff_iff, List.all_eq_true, List.all_eq_true]
  constructor
  · intro h c hc
    obtain ⟨i, hi, e⟩ := List.mem_iff_getElem.mp hc
    have := h i (List.mem_range.mpr hi)
    rwa [List.getD_eq_getElem?_getD, List.getElem?_eq_getElem hi, Option.getD_some, e] at this
  · intro h i hi
    have hi := List.mem_range.mp hi
    rw [List.getD_eq_getElem?_getD, List.getElem?_eq_getElem hi, Option.getD_some]
    exact h _ (List.getElem_mem hi)
section
variable {P : Program} {w : World} {K : PySem.W.Frag} {mg : Str → Option Value} {base : Heap}
theorem sc_check_least : FnScope ["what", "number", "least"] ["what", "number", "least"] (defScope s_check_least) := ⟨rfl, rfl, rfl, by decide +kernel, rfl, by decide +kernel, by decide +kernel⟩
def spLeast (K : PySem.W.Frag) : Sp := fun vs H Q E => ∃ x n l, vs = [.str x, .int n, .int l] ∧ (l ≤ n → RetV .non H Q) ∧ (n < l → XR K E H "BadNumber" (fs2 "what" "at" [.str x, .non]))
theorem ok_check_least (T : TXG fileC fa fx fn P K mg) : FnB P w K mg base 3 (He.ga K "check_least") ["what", "number", "least"] (spLeast K) := by
  refine fnb T.d_check_least rfl sc_check_least (fun vs H Q E h => ?_) (fun _ _ _ _ _ _ us hl => match us, hl with | [_, _, _], _ => rfl) (fun cdv A outer s H vs Q E hr h => ?_)
  · obtain ⟨_, _, _, rfl, _⟩ := h
    rfl
  · refine ⟨_, (pss_one (ps_if (pt_cmpR op_lt (pv 1) (pv 2) (nomark _)) (pss_one (ps_raise rfl (takes_of rfl rfl rfl rfl) (pmk_oexB T.oex_BadNumber T.ini_BadNumber (ok_BadNumber___init__ T) (hr.mono (by decide)) passL (by rfl) T.g_BadNumber (pa_cons (pv 0) (pa_cons pe_non pa_nil))))) pss_nil)), ?_⟩
    obtain ⟨x, n, l, rfl, h1, h2⟩ := h
    refine Evl.s_when (b := decide (n < l)) (et_B (ev_op (ev_var rfl) (ev_var rfl) rv_I0)) (fun hb H1 e1 => ?_) fun hb H1 e1 => ?_
    · exact mk_err (ea_cons (ev_var rfl) (ea_cons ev_c ea_nil)) rfl (by omega) ((h2 (of_decide_eq_true hb)).mono e1)
    · exact h1 (by have := of_decide_eq_false hb; omega) _ e1
theorem sc_check_lot : FnScope ["lot", "many", "before", "thing"] ["lot", "many"] (defScope s_check_lot) := ⟨rfl, rfl, rfl, by decide +kernel, rfl, by decide +kernel, by decide +kernel⟩
def spLot : Sp := fun vs H Q _ => ∃ a n ls, vs = [.ref a, .int ((n : Nat) : Int)] ∧ H a = some (.tup (lv ls)) ∧ LotOk n ls ∧ ls.length ≤ 40000 ∧ RetV .non H Q
theorem ok_check_lot (T : TXG fileC fa fx fn P K mg) : FnB P w K mg base 3 (He.ga K "check_lot") ["lot", "many"] spLot := by
  refine fnb T.d_check_lot rfl sc_check_lot (fun vs H Q E h => ?_) (fun _ _ _ _ _ _ us hl => match us, hl with | [_, _], _ => rfl) (fun cdv A outer s H vs Q E hr h => ?_)
  · obtain ⟨_, _, _, rfl, _⟩ := h
    rfl
  · refine ⟨_, (pss_cons (ps_set (i := 2) sc_check_lot.nd rfl (Or.inl rfl) (pe_un un_neg pe_int))
      (pss_one (ps_for (passes_of rfl) rfl (pi_tup (pv 0)) (pg_name (i := 3) sc_check_lot.nd rfl (Or.inl rfl))
      (pss_cons (ps_if (PW.pt (pw_or (pt_cmpR op_le (pv 3) (pv 2) (nomark _)) (pw_or1 (pt_cmpR op_ge (pv 3) (pv 1) (nomark _))))) (pss_one ps_dead) pss_nil)
      (pss_one (ps_set (i := 2) sc_check_lot.nd rfl (Or.inl rfl) (pv 3))))))), ?_⟩
    obtain ⟨a, n, ls, rfl, ha, hl, hz, q⟩ := h
    refine Evl.q_asg (v := .int (-1)) (ev_un ev_c ru_neg) fun H1 e1 => ?_
    refine ep_for (ei_tup (ev_var rfl) (e1 _ _ ha)) (by unfold lv; rw [List.length_map]; exact hz) fun H2 e2 => ?_
    refine ⟨fun i σ' H' => Ex H2 H' ∧ ∃ (b : Int) (x : Option V), σ' = [some (.ref a), some (.int (n : Int)), some (.int b), x] ∧ ∀ y, ls[i]? = some y → b < (y : Int), ⟨Ex.refl _, -1, none, rfl, fun y _ => by omega⟩, fun i σ' H' h => h.1, ?_, fun σ' H' h => q H' ((e1.trans e2).trans h.1)⟩
    rintro i x σ' H' H'' hi ⟨h1, b, x0, rfl, hb⟩ h2 hy
    unfold lv at hy
    rw [List.getElem?_map] at hy
    cases hq : ls[i]? with
    | none => rw [hq] at hy; cases hy
    | some y =>
      rw [hq] at hy
      cases hy
      have hy1 := hb y hq
      have hy2 := hl.lt y (List.mem_of_getElem? hq)
      refine Evl.q_when (b := false) (et_is (et_or (b := false) (et_test (ev_is (ev_op (ev_var rfl) (ev_var rfl) rv_I0) (congrArg V.bl (decide_eq_false (by omega))))) fun _ => et_test (ev_is (ev_op (ev_var rfl) (ev_var rfl) rv_I0) (congrArg V.bl (decide_eq_false (by omega))))) rfl) (fun h => by cases h) fun _ H3 e3 => ?_
      refine Evl.s_asg (ev_var rfl) fun H4 e4 => ?_
      refine ⟨(h1.trans h2).trans (e3.trans e4), y, _, rfl, fun z hz => ?_⟩
      have hlt : i + 1 < ls.length := (List.getElem?_eq_some_iff.mp hz).1
      have := List.pairwise_iff_getElem.mp hl.asc i (i + 1) (by omega) hlt (by omega)
      rw [(List.getElem?_eq_some_iff.mp hq).2, (List.getElem?_eq_some_iff.mp hz).2] at this
      omega
theorem sc_check_prices : FnScope ["prices", "many", "at", "price"] ["prices", "many"] (defScope s_check_prices) := ⟨rfl, rfl, rfl, by decide +kernel, rfl, by decide +kernel, by decide +kernel⟩
def spPrT : Sp := fun vs H Q _ => ∃ (a : Addr) (ps : List Int), vs = [.ref a, .int ((ps.length : Nat) : Int)] ∧ H a = some (.tup (ps.map V.int)) ∧ (∀ p ∈ ps, 0 ≤ p) ∧ ps.length ≤ 40000 ∧ RetV .non H Q
def spPrL : Sp := fun vs H Q _ => ∃ (a : Addr) (ps : List Int), vs = [.ref a, .int ((ps.length : Nat) : Int)] ∧ H a = some (.lst (ps.map V.int)) ∧ (∀ p ∈ ps, 0 ≤ p) ∧ ps.length ≤ 40000 ∧ RetV .non H Q
theorem ok_check_pricesT (T : TXG fileC fa fx fn P K mg) : FnB P w K mg base 3 (He.ga K "check_prices") ["prices", "many"] spPrT := by
  refine fnb T.d_check_prices rfl sc_check_prices (fun vs H Q E h => ?_) (fun _ _ _ _ _ _ us hl => match us, hl with | [_, _], _ => rfl) (fun cdv A outer s H vs Q E hr h => ?_)
  · obtain ⟨_, _, rfl, _⟩ := h
    rfl
  · refine ⟨_, (pss_cons (ps_if (pt_cmpR op_ne (pe_callB call_len_seq (by rfl) T.n_len PySem.boot_len (pa_cons (pv 0) pa_nil)) (pv 1) (nomark _)) (pss_one ps_dead) pss_nil)
      (pss_one (ps_for (passes_of rfl) rfl (pi_enumT (by rfl) T.n_enumerate (pa_cons (pv 0) pa_nil)) (pg_tup rfl (pgs_cons (pg_name (i := 2) sc_check_prices.nd rfl (Or.inl rfl)) (pgs_cons (pg_name (i := 3) sc_check_prices.nd rfl (Or.inl rfl)) pgs_nil)))
      (pss_one (ps_if (pt_cmpR op_lt (pv 3) pe_int (nomark _)) (pss_one ps_dead) pss_nil))))), ?_⟩
    obtain ⟨a, ps, rfl, ha, hl, hz, q⟩ := h
    refine Evl.q_when (b := false) (et_is (et_B (ev_op (ev_cb (ea_cons (ev_var rfl) ea_nil) (z := .int ((ps.length : Nat) : Int)) fun H1 e1 Q q => ⟨a, _, rfl, .inr (st_of (e1 _ _ ha)), by rw [List.length_map]; exact q _ (Ex.refl _)⟩) (ev_var rfl) (rv_ne rfl))) (by simp)) (fun h => by cases h) fun _ H1 e1 => ?_
    refine ep_for (ei_enumT (ea_cons (ev_var rfl) ea_nil) (e1 _ _ ha)) (by rw [List.length_map]; exact hz) fun H2 e2 => ?_
    refine ⟨fun i σ' H' => Ex H2 H' ∧ ∃ (x y : Option V), σ' = [some (.ref a), some (.int (ps.length : Int)), x, y], ⟨Ex.refl _, none, none, rfl⟩, fun i σ' H' h => h.1, ?_, fun σ' H' h => q H' ((e1.trans e2).trans h.1)⟩
    rintro i x σ' H' H'' hi ⟨h1, x0, y0, rfl⟩ h2 ⟨Tt, y, rfl, hT, hy⟩
    rw [List.getElem?_map] at hy
    cases hq : ps[i]? with
    | none => rw [hq] at hy; cases hy
    | some p =>
      rw [hq] at hy
      cases hy
      refine ⟨Tt, _, rfl, st_of hT, rfl, ?_⟩
      refine ⟨_, _, rfl, _, _, rfl, rfl, ?_⟩
      refine Evl.s_when (b := false) (et_is (et_B (ev_op (ev_var rfl) ev_c rv_I0)) (decide_eq_false (by have := hl p (List.mem_of_getElem? hq); omega))) (fun h => by cases h) fun _ H3 e3 => ?_
      exact ⟨(h1.trans h2).trans e3, _, _, rfl⟩
theorem ok_check_pricesL (T : TXG fileC fa fx fn P K mg) : FnB P w K mg base 3 (He.ga K "check_prices") ["prices", "many"] spPrL := by
  refine fnb T.d_check_prices rfl sc_check_prices (fun vs H Q E h => ?_) (fun _ _ _ _ _ _ us hl => match us, hl with | [_, _], _ => rfl) (fun cdv A outer s H vs Q E hr h => ?_)
  · obtain ⟨_, _, rfl, _⟩ := h
    rfl
  · refine ⟨_, (pss_cons (ps_if (pt_cmpR op_ne (pe_callB call_len_seq (by rfl) T.n_len PySem.boot_len (pa_cons (pv 0) pa_nil)) (pv 1) (nomark _)) (pss_one ps_dead) pss_nil)
      (pss_one (ps_for (passes_of rfl) rfl (pi_enum (by rfl) T.n_enumerate (pa_cons (pv 0) pa_nil)) (pg_tup rfl (pgs_cons (pg_name (i := 2) sc_check_prices.nd rfl (Or.inl rfl)) (pgs_cons (pg_name (i := 3) sc_check_prices.nd rfl (Or.inl rfl)) pgs_nil)))
      (pss_one (ps_if (pt_cmpR op_lt (pv 3) pe_int (nomark _)) (pss_one ps_dead) pss_nil))))), ?_⟩
    obtain ⟨a, ps, rfl, ha, hl, hz, q⟩ := h
    refine Evl.q_when (b := false) (et_is (et_B (ev_op (ev_cb (ea_cons (ev_var rfl) ea_nil) (z := .int ((ps.length : Nat) : Int)) fun H1 e1 Q q => ⟨a, _, rfl, .inl (sq_of (e1 _ _ ha)), by rw [List.length_map]; exact q _ (Ex.refl _)⟩) (ev_var rfl) (rv_ne rfl))) (by simp)) (fun h => by cases h) fun _ H1 e1 => ?_
    refine ep_for (ei_enum (ea_cons (ev_var rfl) ea_nil) (e1 _ _ ha)) (by rw [List.length_map]; exact hz) fun H2 e2 => ?_
    refine ⟨fun i σ' H' => Ex H2 H' ∧ ∃ (x y : Option V), σ' = [some (.ref a), some (.int (ps.length : Int)), x, y], ⟨Ex.refl _, none, none, rfl⟩, fun i σ' H' h => h.1, ?_, fun σ' H' h => q H' ((e1.trans e2).trans h.1)⟩
    rintro i x σ' H' H'' hi ⟨h1, x0, y0, rfl⟩ h2 ⟨Tt, y, rfl, hT, hy⟩
    rw [List.getElem?_map] at hy
    cases hq : ps[i]? with
    | none => rw [hq] at hy; cases hy
    | some p =>
      rw [hq] at hy
      cases hy
      refine ⟨Tt, _, rfl, st_of hT, rfl, ?_⟩
      refine ⟨_, _, rfl, _, _, rfl, rfl, ?_⟩
      refine Evl.s_when (b := false) (et_is (et_B (ev_op (ev_var rfl) ev_c rv_I0)) (decide_eq_false (by have := hl p (List.mem_of_getElem? hq); omega))) (fun h => by cases h) fun _ H3 e3 => ?_
      exact ⟨(h1.trans h2).trans e3, _, _, rfl⟩
theorem sc_is_name : FnScope ["name", "letter"] ["name"] (defScope s_is_name) := ⟨rfl, rfl, rfl, by decide +kernel, rfl, by decide +kernel, by decide +kernel⟩
def lets : Str := "abcdefghijklmnopqrstuvwxyz"
def nmOk (x : Str) : Bool := !(decide (x.length < 1) || decide (12 < x.length)) && x.cps.toList.all fun c => decide (c ∈ lets.cps.toList)
def spName : Sp := fun vs H Q _ => ∃ x, vs = [.str x] ∧ x.length ≤ 1000 ∧ RetV (.bl (nmOk x)) H Q
theorem ok_is_name (T : TXG fileC fa fx fn P K mg) : FnB P w K mg base 3 (He.ga K "is_name") ["name"] spName := by
  refine fnb T.d_is_name rfl sc_is_name (fun vs H Q E h => ?_) (fun _ _ _ _ _ _ us hl => match us, hl with | [_], _ => rfl) (fun cdv A outer s H vs Q E hr h => ?_)
  · obtain ⟨_, rfl, _⟩ := h
    rfl
  · refine ⟨_, (pss_cons (ps_if (PW.pt (pw_or (pt_cmpR op_lt (pe_callB call_len_str (by rfl) T.n_len PySem.boot_len (pa_cons (pv 0) pa_nil)) pe_int (nomark _)) (pw_or1 (pt_cmpR op_gt (pe_callB call_len_str (by rfl) T.n_len PySem.boot_len (pa_cons (pv 0) pa_nil)) (pe_globE (by rfl) T.m_LONGEST_NAME) (nomark _))))) (pss_one (ps_ret pe_bl)) pss_nil)
      (pss_one (ps_ret (pe_callB (cr_all rfl) (by rfl) T.n_all (by decide +kernel) (pa_cons (pe_lc (own := [("letter", 1)]) rfl sc_is_name.nd (pi_str (pv 0)) (blkOk_by (own := [("letter", 1)]) (N := ["name", "letter"]) (sc := defScope s_is_name) (by decide +kernel)) (fun _ _ _ _ _ => (pg_name (i := 1) sc_is_name.nd rfl (Or.inl rfl))) (fun _ _ _ _ _ => pts_nil) (fun _ _ _ _ _ => (pe_cmpR op_in_sign (pv 1) (pe_globE (by rfl) T.m_LETTERS) (by rfl)))) pa_nil))))), ?_⟩
    obtain ⟨x, rfl, hx, q⟩ := h
    refine Evl.q_when (b := decide (x.length < 1) || decide (12 < x.length)) (et_is (et_or (et_test (ev_is (ev_op (ev_cb (ea_cons (ev_var rfl) ea_nil) (z := .int x.length) fun H1 e1 Q q => ⟨x, rfl, sz_of (by omega), q _ (Ex.refl _)⟩) ev_c rv_I0) rfl)) fun _ => et_test (ev_is (ev_op (ev_cb (ea_cons (ev_var rfl) ea_nil) (z := .int x.length) fun H1 e1 Q q => ⟨x, rfl, sz_of (by omega), q _ (Ex.refl _)⟩) ev_c rv_I0) rfl)) ?_) (fun hb H1 e1 => ?_) fun hb H1 e1 => ?_
    · congr 1 <;> exact decide_eq_decide.mpr (by omega)
    · refine Evl.s_ret ev_c fun H2 e2 => ?_
      have := q H2 (e1.trans e2)
      unfold nmOk at this
      rw [hb] at this
      exact this
    · have hall : ((List.range x.length).map fun i => decide (x.cps.toList.getD i 0 ∈ lets.cps.toList)).all id = x.cps.toList.all fun c => decide (c ∈ lets.cps.toList) := by
        rw [List.all_map]
        exact all_range x.cps.toList (fun c => decide (c ∈ lets.cps.toList))
      refine Evl.s_ret (v := .bl (nmOk x)) (ev_is (ev_cbL1 (z := .bl (((List.range x.length).map fun i => decide (x.cps.toList.getD i 0 ∈ lets.cps.toList)).all id)) (EvQF.toL (ep_lc stay_V stayL_V x.length (fun _ => true) (fun i => V.bl (decide (x.cps.toList.getD i 0 ∈ lets.cps.toList))) (ei_str (ev_var rfl)) (by omega) ?_)) fun p H2 hp e2 => ?_) ?_) fun H2 e2 => q H2 (e1.trans e2)
      · rintro i _ H2 e2 hi ⟨c, hc, rfl⟩ Q k
        refine k _ H2 (Ex.refl _) rfl (fun H3 e3 Q k => k H3 (Ex.refl _)) fun H3 e3 _ => Ev.toV (ev_is (ev_op (ev_var rfl) ev_c (rv_val fun H4 e4 Q k => ⟨c, lets, rfl, rfl, k⟩)) ?_)
        have h1 : x.cps.toList.getD i 0 = c := by
          rw [List.getD_eq_getElem?_getD, Array.getElem?_toList, hc]; rfl
        rw [h1]
      · refine fun H3 e3 Q k => ⟨p, _, rfl, sq_of (e3 _ _ (by rw [hp, givenA_all, List.map_map]; rfl)), k H3 (Ex.refl _)⟩
      · rw [hall]
        unfold nmOk
        rw [hb]
        rfl
end
end K7

/-! K9E: dearest_order. -/
namespace K7
open PySem PySem.Spec PyProof.Rows L2 Evl RZ
/-- an iterator over what stands in H0 -/
def EvIB (ti : TI) (σ : L2.St) (H H0 : Hp) (n : Nat) (Y : Nat → V → Hp → Prop) : Prop := ∀ H1, Ex H H1 → ∀ R : It → Hp → Prop, (∀ J H2, Ex H1 H2 → Walks J H0 n Y → R J H2) → ti σ H1 R
section
variable {K : PySem.W.Frag} {σ : L2.St} {H H0 : Hp} {te : TE} {ti : TI} {g : TG} {ta : TA} {xs : List V} {n : Nat} {Y : Nat → V → Hp → Prop} {tb tz : TS} {D : Ends}
theorem eib_enum {a : Addr} (h : EvA ta σ H [.ref a]) (h0 : Ex H0 H) (hx : H0 a = some (.lst xs)) : EvIB (iEnum K ta) σ H H0 xs.length (fun i x H => ∃ T y, x = .ref T ∧ H T = some (.tup [.int (i : Int), y]) ∧ xs[i]? = some y) := fun H1 e R r => h H1 e _ fun H2 e2 => ⟨a, xs, rfl, sq_of ((h0.trans (e.trans e2)) _ _ hx), r _ _ e2 (wk_enum (sq_of hx))⟩
theorem eib_list {a : Addr} (h : Ev te σ H (.ref a)) (h0 : Ex H0 H) (hx : H0 a = some (.lst xs)) : EvIB (iList K te) σ H H0 xs.length (fun i x _ => xs[i]? = some x) := fun H1 e R r => h H1 e _ fun H2 e2 => ⟨a, rfl, ⟨xs, sq_of ((h0.trans (e.trans e2)) _ _ hx)⟩, r _ _ e2 (wk_list (sq_of hx))⟩
theorem eib_tup {a : Addr} (h : Ev te σ H (.ref a)) (h0 : Ex H0 H) (hx : H0 a = some (.tup xs)) : EvIB (iTup K te) σ H H0 xs.length (fun i x _ => xs[i]? = some x) := fun H1 e R r => h H1 e _ fun H2 e2 => ⟨a, rfl, ⟨xs, st_of ((h0.trans (e.trans e2)) _ _ hx)⟩, r _ _ e2 (wk_tup (st_of hx))⟩
theorem eib_rng (h : EvA ta σ H [.int (n : Int)]) (hn : n ≤ 100000) : EvIB (iRng1 ta) σ H H0 n (fun i x _ => x = .int (i : Int)) := fun H1 e R r => h H1 e _ fun H2 e2 => ⟨n, rfl, by omega, by omega, r _ _ e2 (by rw [Int.toNat_natCast]; exact wk_rng)⟩
theorem ep_forB (Pv : Nat → L2.St → Hp → Prop) (hi : EvIB ti σ H H0 n Y) (h0 : ∀ H1, Ex H H1 → Pv 0 σ H1) (hx : ∀ i σ' H', Pv i σ' H' → Ex H0 H')
    (hs : ∀ i x σ' H' H'', i < n → Pv i σ' H' → Ex H' H'' → Y i x H'' → g x σ' H'' fun σ2 H2 => tb { D with nx := Pv (i + 1), ct := Pv (i + 1), bk := D.nx } σ2 H2) (hd : ∀ σ' H', Pv n σ' H' → D.nx σ' H') : tFor ti g tb D σ H :=
  hi H (Ex.refl H) _ fun J H2 e2 W => by
    refine ⟨fun i m σ' H' => i + m = n ∧ Pv i σ' H', ⟨n, by omega, h0 H2 e2⟩, fun i m σ' H' w => ?_⟩
    obtain ⟨him, w⟩ := w
    cases m with
    | zero =>
      obtain rfl : i = n := by omega
      exact .inl ⟨W.stop H' (hx _ _ _ w), hd _ _ w⟩
    | succ m =>
      have hlt : i < n := by omega
      refine .inr ⟨W.go i H' hlt (hx _ _ _ w), fun σ'' H'' => Pv (i + 1) σ'' H'', fun σ'' H'' z => ⟨m, Nat.lt_succ_self m, by omega, z⟩, fun x H'' y => ?_⟩
      obtain ⟨y1, y2⟩ := W.yld i H' x H'' hlt (hx _ _ _ w) y
      exact hs i x σ' H' H'' hlt w y1 y2
theorem eq_forB (Pv : Nat → L2.St → Hp → Prop) (hi : EvIB ti σ H H0 n Y) (h0 : ∀ H1, Ex H H1 → Pv 0 σ H1) (hx : ∀ i σ' H', Pv i σ' H' → Ex H0 H')
    (hs : ∀ i x σ' H' H'', i < n → Pv i σ' H' → Ex H' H'' → Y i x H'' → g x σ' H'' fun σ2 H2 => tb { D with nx := Pv (i + 1), ct := Pv (i + 1), bk := tz D } σ2 H2) (hd : ∀ σ' H', Pv n σ' H' → tz D σ' H') : tSeq (tFor ti g tb) tz D σ H := ep_forB (D := { D with nx := tz D }) Pv hi h0 hx hs hd
end
theorem perm_insert {os : List Nat} {i p : Nat} (h : os.Perm (List.range i)) : (os.take p ++ [i] ++ os.drop p).Perm (List.range (i + 1)) := by
  rw [List.range_succ, List.append_assoc]
  refine List.Perm.trans ?_ (h.append_right [i])
  conv => rhs; rw [← List.take_append_drop p os]
  rw [List.append_assoc]
  exact (List.Perm.append_left _ List.perm_append_comm)
section
variable {P : Program} {w : World} {K : PySem.W.Frag} {mg : Str → Option Value} {base : Heap}
theorem RatAt.own {H : Hp} {v : V} {r : Int × Int} (h : RatAt K H v r) : OrInt (He.ga K "Ratio") v H := by
  obtain ⟨a, dx, rfl, ha⟩ := h
  exact .inl ⟨a, dx, _, rfl, ha⟩
theorem rv_lt {H : Hp} {v u : V} {r s : Int × Int} {E : XK} (hv : RatAt K H v r) (hu : RatAt K H u s) (zr : Rsz 4000 r) (zs : Rsz 4000 s) : RV (rOwnB (He.ga K "Ratio") (spRLt K) E) v u H (.bl (decide (r.1 * s.2 < s.1 * r.2))) := fun H1 e Q q => by
  obtain ⟨a, dx, rfl, ha⟩ := id hv
  exact ⟨a, dx, _, rfl, e _ _ ha, (stay_Rat _ _ _ _ e hu).own, _, _, r, s, rfl, stay_Rat _ _ _ _ e hv, stay_Rat _ _ _ _ e hu, zr, zs, q⟩
theorem rv_gt {H : Hp} {v u : V} {r s : Int × Int} {E : XK} (hv : RatAt K H v r) (hu : RatAt K H u s) (zr : Rsz 4000 r) (zs : Rsz 4000 s) : RV (rOwnB (He.ga K "Ratio") (spRGt K) E) v u H (.bl (decide (s.1 * r.2 < r.1 * s.2))) := fun H1 e Q q => by
  obtain ⟨a, dx, rfl, ha⟩ := id hv
  exact ⟨a, dx, _, rfl, e _ _ ha, (stay_Rat _ _ _ _ e hu).own, _, _, r, rfl, stay_Rat _ _ _ _ e hv, zr, .inl ⟨s, stay_Rat _ _ _ _ e hu, zs, q⟩⟩
theorem rv_gtI {H : Hp} {v : V} {r : Int × Int} {n : Int} {E : XK} (hv : RatAt K H v r) (zr : Rsz 4000 r) (hn : n.natAbs < 2 ^ 4000) : RV (rOwnB (He.ga K "Ratio") (spRGt K) E) v (.int n) H (.bl (decide (n * r.2 < r.1))) := fun H1 e Q q => by
  obtain ⟨a, dx, rfl, ha⟩ := id hv
  exact ⟨a, dx, _, rfl, e _ _ ha, .inr ⟨n, rfl⟩, _, _, r, rfl, stay_Rat _ _ _ _ e hv, zr, .inr ⟨n, rfl, hn, q⟩⟩
theorem sc_dearest_order : FnScope ["prices", "order", "thing", "price", "place"] ["prices"] (defScope s_dearest_order) := ⟨rfl, rfl, rfl, by decide +kernel, rfl, by decide +kernel, by decide +kernel⟩
def OrdR (n : Nat) (H : Hp) (v : V) : Prop := ∃ a os, v = .ref a ∧ H a = some (.tup (lv os)) ∧ os.Perm (List.range n)
def spOrder (K : PySem.W.Frag) : Sp := fun vs H Q _ => ∃ a xs gs, vs = [.ref a] ∧ H a = some (.lst xs) ∧ All2 (RatAt K H) xs gs ∧ (∀ g ∈ gs, Rsz 4000 g) ∧ xs.length ≤ 1000 ∧ ∀ v H', Ex H H' → OrdR xs.length H' v → Q v H'
theorem ok_dearest_order (T : TXG fileC fa fx fn P K mg) : FnB P w K mg base 5 (He.ga K "dearest_order") ["prices"] (spOrder K) := by
  refine fnb T.d_dearest_order rfl sc_dearest_order (fun vs H Q E h => ?_) (fun _ _ _ _ _ _ us hl => match us, hl with | [_], _ => rfl) (fun cdv A outer s H vs Q E hr h => ?_)
  · obtain ⟨_, _, _, rfl, _⟩ := h
    rfl
  · refine ⟨_, (pss_cons (ps_set (i := 1) sc_dearest_order.nd rfl (Or.inl rfl) (pe_lst pa_nil))
      (pss_cons (ps_for (passes_of rfl) rfl (pi_enum (by rfl) T.n_enumerate (pa_cons (pv 0) pa_nil)) (pg_tup rfl (pgs_cons (pg_name (i := 2) sc_dearest_order.nd rfl (Or.inl rfl)) (pgs_cons (pg_name (i := 3) sc_dearest_order.nd rfl (Or.inl rfl)) pgs_nil)))
      (pss_cons (ps_set (i := 4) sc_dearest_order.nd rfl (Or.inl rfl) (pe_callB call_len_seq (by rfl) T.n_len PySem.boot_len (pa_cons (pv 1) pa_nil)))
      (pss_cons (ps_while (passes_of rfl) (PW.pt (pw_and (pt_cmpR op_gt (pv 4) pe_int (nomark _)) (pw_and1 (pt_cmpR (op_ownC (op := .Lt) (fun _ _ => rfl) T.cmp_Ratio___lt__ (ok_Ratio___lt__ T).r (hr.mono (by decide)) passL) (pe_ix ix_list (pv 0) (pe_ix ix_list (pv 1) (pe_op op_sub (pv 4) pe_int) (fun _ _ => rfl)) (fun _ _ => rfl)) (pv 3) (nomark _))))) (pss_one (ps_aug (i := 4) sc_dearest_order.nd rfl (Or.inl rfl) pe_int ip_sub)))
      (pss_one (ps_expr (pe_bm PySem.F.plainAttrs_list PySem.F.slot_list_insert PySem.F.type_list_insert mt_insert (pv 1) (pa_cons (pv 4) (pa_cons (pv 2) pa_nil))))))))
      (pss_one (ps_ret (pe_callTy call_tuple_of (by rfl) T.n_tuple (by decide +kernel) (pa_cons (pv 1) pa_nil)))))), ?_⟩
    obtain ⟨a, xs, gs, rfl, ha, hg, hz, hl, q⟩ := h
    refine Evl.q_asgL (xs := []) (el_lst ea_nil (by simp)) fun l H1 hln e1 hl1 => ?_
    refine eq_forB (fun i σ' H' => Ex H H' ∧ ∃ (os : List Nat) (y1 y2 y3 : Option V), σ' = [some (.ref a), some (.ref l), y1, y2, y3] ∧ H' l = some (.lst (lv os)) ∧ os.Perm (List.range i)) (eib_enum (ea_cons (ev_var rfl) ea_nil) e1 ha) (fun H2 e2 => ⟨e1.trans e2, [], none, none, none, rfl, e2 _ _ hl1, List.Perm.nil⟩) (fun _ _ _ h => h.1) ?_ ?_
    · rintro i x σ' H2 H3 hi ⟨h1, os, y1, y2, y3, rfl, ho, hp⟩ e3 ⟨Tt, y, rfl, hT, hy⟩
      refine ⟨Tt, _, rfl, st_of hT, rfl, ?_⟩
      refine ⟨_, _, rfl, _, _, rfl, rfl, ?_⟩
      have ho3 := e3 _ _ ho
      have hlen : os.length = i := by rw [hp.length_eq, List.length_range]
      refine Evl.q_asg (v := .int ((os.length : Nat) : Int)) (ev_cb (ea_cons (ev_var rfl) ea_nil) fun H4 e4 Q q => ⟨l, _, rfl, .inl (sq_of (e4 _ _ ho3)), by unfold lv; rw [List.length_map]; exact q _ (Ex.refl _)⟩) fun H4 e4 => ?_
      obtain ⟨g, hgi, hgr⟩ := (hg.imp fun a b r => stay_Rat _ _ _ _ (h1.trans (e3.trans e4)) r).getA hy
      refine Evl.q_while (fun m σ' H' => Ex H4 H' ∧ m ≤ i ∧ σ' = [some (.ref a), some (.ref l), some (.int (i : Int)), some y, some (.int (m : Int))]) i ⟨Ex.refl _, Nat.le_refl _, by rw [hlen]; rfl⟩ ?_
      rintro m σ' H5 ⟨e5, hm, rfl⟩
      have hb : H5 l = some (.lst (lv os)) := (e4.trans e5) _ _ ho3
      have hE : Ex H H5 := h1.trans (e3.trans (e4.trans e5))
      have hin : (m - 1 : Nat) < os.length ∨ m = 0 := by omega
      refine ⟨_, et_and (a := decide (0 < (m : Int))) (et_test (ev_op (ev_var rfl) ev_c rv_I0)) (b := if h : m = 0 then false else decide ((gs.getD (os.getD (m - 1) 0) (0, 1)).1 * g.2 < g.1 * (gs.getD (os.getD (m - 1) 0) (0, 1)).2)) (fun h0 => ?_), ?_, ?_⟩
      · have h0 : m ≠ 0 := by have := of_decide_eq_true h0; omega
        rw [dif_neg h0]
        have hm1 : m - 1 < os.length := by omega
        have hk : os[m - 1]? = some (os[m - 1]'hm1) := List.getElem?_eq_getElem hm1
        have hkk : os.getD (m - 1) 0 = os[m - 1]'hm1 := by rw [List.getD_eq_getElem?_getD, hk]; rfl
        have hlt : os[m - 1]'hm1 < i := List.mem_range.mp (hp.subset (List.getElem_mem hm1))
        have hlx : os[m - 1]'hm1 < xs.length := by omega
        have hgl := hg.len
        have hgk : gs[os[m - 1]'hm1]? = some (gs[os[m - 1]'hm1]'(by omega)) := List.getElem?_eq_getElem _
        have hgd : gs.getD (os.getD (m - 1) 0) (0, 1) = gs[os[m - 1]'hm1]'(by omega) := by rw [hkk, List.getD_eq_getElem?_getD, hgk]; rfl
        obtain ⟨z, hz1, hz2⟩ := (hg.imp fun a b r => stay_Rat _ _ _ _ hE r).get hgk
        rw [hgd]
        refine et_test (ev_op (ev_op (ev_var rfl) (ev_op (x := .ref l) (y := .int ((m - 1 : Nat) : Int)) (ev_var rfl) (ev_is (ev_op (ev_var rfl) ev_c rv_I0) (congrArg V.int (by omega))) (rv_ixL (v := .int ((os[m - 1]'hm1 : Nat) : Int)) (sq_of hb) ?_)) (rv_ixL (v := z) (sq_of (hE _ _ ha)) ?_)) (ev_var rfl) (rv_lt hz2 (stay_Rat _ _ _ _ e5 hgr) (hz _ (List.getElem_mem _)) (hz _ (List.mem_of_getElem? hgi))))
        · unfold atI lv
          rw [List.length_map, ixN_nat hm1]
          show (os.map _)[m - 1]? = _
          rw [List.getElem?_map, hk]; rfl
        · unfold atI
          rw [ixN_nat hlx]
          exact hz1
      · intro hb1 H6 e6
        have h0 : m ≠ 0 := by
          have := (Bool.and_eq_true_iff.mp hb1).1
          have := of_decide_eq_true this
          omega
        refine ⟨fun σ2 H7 => Ex H4 H7 ∧ σ2 = [some (.ref a), some (.ref l), some (.int (i : Int)), some y, some (.int ((m - 1 : Nat) : Int))], fun σ2 H7 ⟨z1, z2⟩ => ⟨m - 1, by omega, z1, by omega, z2⟩, ?_⟩
        refine Evl.s_aug (a := (m : Int)) (b := 1) rfl ev_c fun H7 e7 => ⟨(e5.trans e6).trans e7, ?_⟩
        show [_, _, _, _, some (V.int ((m : Int) - 1))] = _
        rw [show ((m - 1 : Nat) : Int) = (m : Int) - 1 by omega]
      · intro _ H6 e6
        refine ⟨_, rfl, .inl ⟨rfl, lv os, sq_of (e6 _ _ hb)⟩, _, rfl, _, rfl, l, lv os, _, _, rfl, rfl, e6 _ _ hb, ?_, by omega, by omega, ?_⟩
        · unfold lv
          rw [List.length_map]
          exact sz_lt (by omega)
        · rw [Int.toNat_natCast]
          refine ⟨(hE.trans e6).mut hln, os.take m ++ [i] ++ os.drop m, _, _, _, rfl, ?_, perm_insert hp⟩
          rw [upd_same]
          unfold lv
          rw [List.map_append, List.map_append, List.map_take, List.map_drop]
          rfl
    · rintro σ' H2 ⟨h1, os, y1, y2, y3, rfl, ho, hp⟩
      refine (ev_var (i := 1) (v := .ref l) rfl) H2 (Ex.refl _) _ fun H3 e3 => ⟨l, lv os, rfl, .inl ⟨sq_of (e3 _ _ ho), fun p hpn => ?_⟩⟩
      exact q _ _ ((h1.trans e3).trans (Ex.new hpn)) ⟨p, os, rfl, upd_same, hp⟩
end
end K7

/-! K9F: Rule, Weighted. -/
namespace K7
open PySem PySem.Spec PyProof.Rows L2 Evl RZ
/-- a Weighted with its weights, its aside -/
def WtF (K : PySem.W.Frag) (H : Hp) (a dx : Addr) (ws : List Int) (s : Int) : Prop := ∃ tw, H a = some (.ins (He.ga K "Weighted") dx [("many", .int ((ws.length : Nat) : Int)), ("weights", .ref tw), ("aside", .int s)]) ∧ H tw = some (.tup (ws.map V.int))
def WtAt (K : PySem.W.Frag) (H : Hp) (v : V) (ws : List Int) (s : Int) : Prop := ∃ a dx, v = .ref a ∧ WtF K H a dx ws s
theorem WtF.ex {K : PySem.W.Frag} {H H' : Hp} {a dx : Addr} {ws : List Int} {s : Int} (h : WtF K H a dx ws s) (e : Ex H H') : WtF K H' a dx ws s := by
  obtain ⟨tw, h1, h2⟩ := h
  exact ⟨tw, e _ _ h1, e _ _ h2⟩
theorem WtAt.ex {K : PySem.W.Frag} {H H' : Hp} {v : V} {ws : List Int} {s : Int} (h : WtAt K H v ws s) (e : Ex H H') : WtAt K H' v ws s := by
  obtain ⟨a, dx, h1, h2⟩ := h
  exact ⟨a, dx, h1, h2.ex e⟩
structure WsOk (ws : List Int) (s : Int) : Prop where
  len : ws.length ≤ 24
  pos : ∀ x ∈ ws, 1 ≤ x ∧ x < 2 ^ 60
  as1 : 1 ≤ s
  as2 : s < 2 ^ 60
section
variable {K : PySem.W.Frag} {σ : L2.St} {H : Hp} {te tv : TE} {a C dx : Addr} {fs : List (Str × V)} {f : Str} {v : V} {D : Ends} {tz : TS}
theorem putF_len (f : Str) (v : V) : ∀ fs : List (Str × V), (putF f v fs).length ≤ fs.length + 1
  | [] => Nat.le_refl 1
  | (g, x) :: r => by
    unfold putF
    by_cases h : g = f
    · rw [if_pos h]; simp
    · rw [if_neg h]; have := putF_len f v r; simp only [List.length_cons]; omega
theorem ev_fld (h : Ev te σ H (.ref a)) (ha : H a = some (.ins C dx fs)) (c : Cls K C) (n : NoAttr K C f) (hl : fs.lookup f = some v) : Ev (tFld K te f) σ H v := fun H1 e Q q => h H1 e _ fun H2 e2 => ⟨a, C, dx, fs, v, rfl, (e.trans e2) _ _ ha, c, n, hl, q H2 e2⟩
theorem ev_con {u : Value} (h : Ev te σ H (.ref a)) (ha : H a = some (.ins C dx fs)) (c : Cls K C) (n : Con K C f v u) (hl : fs.lookup f = none) : Ev (tCon K te f) σ H v := fun H1 e Q q => h H1 e _ fun H2 e2 => ⟨a, C, dx, fs, v, u, rfl, (e.trans e2) _ _ ha, c, n, hl, q H2 e2⟩
theorem s_fld (hv : Ev tv σ H v) (h : Ev te σ H (.ref a)) (ha : H a = some (.ins C dx fs)) (c : Cls K C) (n : NoAttr K C f) (hz : fs.length < 1000) (k : ∀ H1, Ex H H1 → D.nx σ (upd H1 a (.ins C dx (putF f v fs)))) : sFld K te tv f D σ H :=
  hv H (Ex.refl _) _ fun H1 e1 => h H1 e1 _ fun H2 e2 => ⟨a, C, dx, fs, rfl, (e1.trans e2) _ _ ha, c, n, hz, k H2 (e1.trans e2)⟩
theorem q_fld (hv : Ev tv σ H v) (h : Ev te σ H (.ref a)) (ha : H a = some (.ins C dx fs)) (c : Cls K C) (n : NoAttr K C f) (hz : fs.length < 1000) (k : ∀ H1, Ex H H1 → tz D σ (upd H1 a (.ins C dx (putF f v fs)))) : tSeq (sFld K te tv f) tz D σ H := s_fld (D := { D with nx := tz D }) hv h ha c n hz k
theorem s_fldU {xs : List V} (hv : EvU tv σ H xs) (h : Ev te σ H (.ref a)) (ha : H a = some (.ins C dx fs)) (c : Cls K C) (n : NoAttr K C f) (hz : fs.length < 1000) (k : ∀ p H1, Ex H H1 → H1 p = some (.tup xs) → H p = none → D.nx σ (upd H1 a (.ins C dx (putF f (.ref p) fs)))) : sFld K te tv f D σ H :=
  hv H (Ex.refl _) _ fun p H1 hp e1 hx => h H1 e1 _ fun H2 e2 => ⟨a, C, dx, fs, rfl, (e1.trans e2) _ _ ha, c, n, hz, k p H2 (e1.trans e2) (e2 _ _ hx) hp⟩
theorem q_fldU {xs : List V} (hv : EvU tv σ H xs) (h : Ev te σ H (.ref a)) (ha : H a = some (.ins C dx fs)) (c : Cls K C) (n : NoAttr K C f) (hz : fs.length < 1000) (k : ∀ p H1, Ex H H1 → H1 p = some (.tup xs) → H p = none → tz D σ (upd H1 a (.ins C dx (putF f (.ref p) fs)))) : tSeq (sFld K te tv f) tz D σ H := s_fldU (D := { D with nx := tz D }) hv h ha c n hz k
end
section
variable {P : Program} {w : World} {K : PySem.W.Frag} {mg : Str → Option Value} {base : Heap}
theorem sc_Rule___init__ : FnScope ["self", "many"] ["self", "many"] (defScope s_Rule___init__) := ⟨rfl, rfl, rfl, by decide +kernel, rfl, by decide +kernel, by decide +kernel⟩
def spRuI (K : PySem.W.Frag) : Sp := fun vs H Q _ => ∃ (a dx : Addr) (n : Nat), vs = [.ref a, .int (n : Int)] ∧ H a = some (.ins (He.ga K "Weighted") dx []) ∧ n ≤ 24 ∧ ∀ H', ExB a H H' → H' a = some (.ins (He.ga K "Weighted") dx [("many", .int (n : Int))]) → Q .non H'
theorem ok_Rule___init__ (T : TXG fileC fa fx fn P K mg) : FnB P w K mg base 3 (He.ma K (He.ga K "Rule") "__init__") ["self", "many"] (spRuI K) := by
  obtain ⟨uM, hM⟩ := T.con_MOST
  refine fnb T.d_Rule___init__ rfl sc_Rule___init__ (fun vs H Q E h => ?_) (fun _ _ _ _ _ _ us hl => match us, hl with | [_, _], _ => rfl) (fun cdv A outer s H vs Q E hr h => ?_)
  · obtain ⟨_, _, _, rfl, _⟩ := h
    rfl
  · refine ⟨_, (pss_cons (ps_if (pt_cmpR op_gt (pv 1) (pe_con (pv 0) rfl) (nomark _)) (pss_one ps_dead) pss_nil)
      (pss_one (ps_fld (pv 0) (pv 1) rfl))), ?_⟩
    obtain ⟨a, dx, n, rfl, ha, hn, q⟩ := h
    refine Evl.q_when (b := false) (et_is (et_test (ev_op (ev_var rfl) (ev_con (C := He.ga K "Weighted") (v := .int 24) (ev_var (v := .ref a) rfl) ha T.c_Weighted hM rfl) rv_I0)) (decide_eq_false (by omega))) (fun h => by cases h) fun _ H1 e1 => ?_
    refine s_fld (ev_var rfl) (ev_var (v := .ref a) rfl) (e1 _ _ ha) T.c_Weighted T.no_Weighted_many (by simp) fun H2 e2 => ?_
    exact q _ ((Ex.b (e1.trans e2)).trans ExB.upd) upd_same
theorem scs_Weighted_init : FnScopeS ["self", "weights", "aside", "at", "weight"] ["self", "weights", "aside"] (defScope s_Weighted___init__) := ⟨rfl, rfl, rfl, by decide +kernel, rfl, by decide +kernel, by decide +kernel, by decide +kernel⟩
def spWI (K : PySem.W.Frag) : Sp := fun vs H Q _ => ∃ (a dx l : Addr) (ws : List Int) (s : Int), vs = [.ref a, .ref l, .int s] ∧ H a = some (.ins (He.ga K "Weighted") dx []) ∧ H l = some (.lst (ws.map V.int)) ∧ WsOk ws s ∧ ∀ H', ExB a H H' → WtF K H' a dx ws s → Q .non H'
theorem ok_Weighted___init__ (T : TXG fileC fa fx fn P K mg) : FnB P w K mg base 5 (He.ma K (He.ga K "Weighted") "__init__") ["self", "weights", "aside"] (spWI K) := by
  obtain ⟨fR, FR, bR⟩ := ok_Rule___init__ (w := w) (base := base) T
  refine fnb_sup T.s_Weighted___init__ T.file T.sup T.n_super T.sup_Weighted rfl rfl rfl rfl scs_Weighted_init rfl rfl rfl rfl (fun vs H Q E h => ?_) (fun _ _ _ _ _ _ _ us hl => match us, hl with | [_, _, _], _ => rfl) (fun cda cc A outer s H vs Q E hr S B h => ?_)
  · obtain ⟨_, _, _, _, _, rfl, _⟩ := h
    rfl
  · refine ⟨_, _, psat_expr (peat_super (E := E0) ⟨B, T.supK_Weighted___init__.1, T.supK_Weighted___init__.2.1, T.supK_Weighted___init__.2.2⟩ S FR bR (hr.mono (by decide)) passL (pa_cons (pe_callB call_len_seq (by rfl) T.n_len PySem.boot_len (pa_cons (pv 1) pa_nil)) pa_nil)), (pss_cons (ps_for (passes_of rfl) rfl (pi_enum (by rfl) T.n_enumerate (pa_cons (pv 1) pa_nil)) (pg_tup rfl (pgs_cons (pg_name (i := 3) scs_Weighted_init.nd rfl (Or.inl rfl)) (pgs_cons (pg_name (i := 4) scs_Weighted_init.nd rfl (Or.inl rfl)) pgs_nil)))
      (pss_one (ps_if (pt_cmpR op_lt (pv 4) pe_int (nomark _)) (pss_one ps_dead) pss_nil)))
      (pss_cons (ps_if (pt_cmpR op_lt (pv 2) pe_int (nomark _)) (pss_one ps_dead) pss_nil)
      (pss_cons (ps_fld (pv 0) (pe_callTy call_tuple_of (by rfl) T.n_tuple (by decide +kernel) (pa_cons (pv 1) pa_nil)) rfl)
      (pss_one (ps_fld (pv 0) (pv 2) rfl))))), ?_⟩
    obtain ⟨a, dx, l, ws, as_, rfl, ha, hl, hw, q⟩ := h
    have nla : l ≠ a := by rintro rfl; rw [ha] at hl; cases hl
    refine ⟨a, dx, _, rfl, ha, ?_⟩
    refine (ea_cons (ev_cb (ea_cons (ev_var (i := 1) (v := .ref l) rfl) ea_nil) (z := .int ((ws.length : Nat) : Int)) fun H1 e1 Q q => ⟨l, _, rfl, .inl (sq_of (e1 _ _ hl)), by rw [List.length_map]; exact q _ (Ex.refl _)⟩) ea_nil) H (Ex.refl _) _ fun H1 e1 => ?_
    refine ⟨a, dx, ws.length, rfl, e1 _ _ ha, hw.len, fun H2 e2 ha2 => ?_⟩
    have hl2 : H2 l = some (.lst (ws.map V.int)) := e2 _ _ nla (e1 _ _ hl)
    refine eq_for (ei_enum (ea_cons (ev_var (v := .ref l) rfl) ea_nil) hl2) (by rw [List.length_map]; have := hw.len; omega) fun H3 e3 => ?_
    refine ⟨fun i σ' H' => Ex H3 H' ∧ ∃ (x y : Option V), σ' = [some (.ref a), some (.ref l), some (.int as_), x, y], ⟨Ex.refl _, none, none, rfl⟩, fun i σ' H' h => h.1, ?_, ?_⟩
    · rintro i x σ' H4 H5 hi ⟨h1, x0, y0, rfl⟩ h2 ⟨Tt, y, rfl, hT, hy⟩
      rw [List.getElem?_map] at hy
      cases hq : ws[i]? with
      | none => rw [hq] at hy; cases hy
      | some p =>
        rw [hq] at hy
        cases hy
        refine ⟨Tt, _, rfl, st_of hT, rfl, ?_⟩
        refine ⟨_, _, rfl, _, _, rfl, rfl, ?_⟩
        refine Evl.s_when (b := false) (et_is (et_test (ev_op (ev_var rfl) ev_c rv_I0)) (decide_eq_false (by have := (hw.pos p (List.mem_of_getElem? hq)).1; omega))) (fun h => by cases h) fun _ H6 e6 => ?_
        exact ⟨(h1.trans h2).trans e6, _, _, rfl⟩
    · rintro σ' H4 ⟨h1, x0, y0, rfl⟩
      have E4 := e3.trans h1
      refine Evl.q_when (b := false) (et_is (et_test (ev_op (ev_var rfl) ev_c rv_I0)) (decide_eq_false (by have := hw.as1; omega))) (fun h => by cases h) fun _ H5 e5 => ?_
      have E5 := E4.trans e5
      refine q_fldU (xs := ws.map V.int) (fun H6 e6 Q q => ?_) (ev_var (v := .ref a) rfl) (E5 _ _ ha2) T.c_Weighted T.no_Weighted_weights (by simp) fun tw H6 e6 htw hn => ?_
      · refine (ev_var (i := 1) (v := .ref l) rfl) H6 (Ex.refl _) _ fun H7 e7 => ⟨l, _, rfl, .inl ⟨sq_of (((E5.trans e6).trans e7) _ _ hl2), fun p hp => q p _ (fresh_back e7 hp) (e7.trans (Ex.new hp)) upd_same⟩⟩
      have nta : tw ≠ a := by rintro rfl; rw [E5 _ _ ha2] at hn; cases hn
      refine s_fld (ev_var rfl) (ev_var (v := .ref a) rfl) upd_same T.c_Weighted T.no_Weighted_aside (Nat.lt_of_le_of_lt (putF_len _ _ _) (by simp)) fun H7 e7 => ?_
      refine q _ (((((Ex.b e1).trans e2).trans (Ex.b (E5.trans e6))).trans ExB.upd).trans ((Ex.b e7).trans ExB.upd)) ⟨tw, upd_same, ?_⟩
      rw [upd_ne nta]
      refine e7 _ _ ?_
      rw [upd_ne nta]
      exact htw
end
end K7

/-! K9G: total_of, shares, worth. -/
namespace K7
open PySem PySem.Spec PyProof.Rows L2 Evl RZ
theorem ev_callE {ta : TA} {sp : Sp} {E : XK} {σ : L2.St} {H : Hp} {vs : List V} {z : V} (h : EvA ta σ H vs) (hr : ∀ H1, Ex H H1 → ∀ Q : VK, RetV z H1 Q → sp vs H1 Q E) : Ev (fun σ H Q => ta σ H fun vs H1 => sp vs H1 Q E) σ H z := fun H1 e Q q =>
  h H1 e _ fun H2 e2 => hr H2 (e.trans e2) Q fun H3 e3 => q H3 (e2.trans e3)
theorem ev_meth {C : Addr} {m : Str} {te : TE} {ta : TA} {sp : Sp} {E : XK} {σ : L2.St} {H : Hp} {vs : List V} {z : V} {a dx : Addr} {fs : List (Str × V)} (ho : Ev te σ H (.ref a)) (ha : H a = some (.ins C dx fs)) (hm : fs.lookup m = none) (h : EvA ta σ H vs) (hr : ∀ H1, Ex H H1 → ∀ Q : VK, RetV z H1 Q → sp (.ref a :: vs) H1 Q E) : Ev (tMethR C m sp E te ta) σ H z := fun H1 e Q q =>
  ho H1 e _ fun H2 e2 => ⟨a, dx, fs, rfl, (e.trans e2) _ _ ha, hm, h H2 (e.trans e2) _ fun H3 e3 => hr H3 ((e.trans e2).trans e3) Q fun H4 e4 => q H4 ((e2.trans e3).trans e4)⟩
theorem s_setQ {α : Type} {R : Hp → V → α → Prop} {d : α} {σ : L2.St} {H : Hp} {te ta tb : TE} {D : Ends} {l : Addr} {xs : List V} {j : Nat} (hR : Stay R) (hl : H l = some (.lst xs)) (h : EvQ te σ H R d) (ho : Ev ta σ H (.ref l)) (hi : Ev tb σ H (.int (j : Int))) (hj : j < xs.length) (k : ∀ z H1, Ex H H1 → R H1 z d → D.nx σ (upd H1 l (.lst (xs.set j z)))) : tAsg te (gSub ta tb rSetL) D σ H :=
  h H (Ex.refl _) _ fun z H1 e1 hz => ho H1 e1 _ fun H2 e2 => hi H2 (e1.trans e2) _ fun H3 e3 => ⟨l, xs, (j : Int), j, rfl, rfl, ((e1.trans e2).trans e3) l _ hl, ixN_nat hj, k z H3 ((e1.trans e2).trans e3) (hR _ _ _ _ (e2.trans e3) hz)⟩
theorem pe_fldK {X : Cx} {K : PySem.W.Frag} {e : Expr} {ta : TE} {f : Str} {pos : Pos} (hK : X.K = K) (he : PE X e ta) (hb : attributeBase e f X.env (eval e X.env) = eval e X.env) : PE X (.Attribute e f pos) (tFld K ta f) := by
  subst hK
  exact pe_fld he hb
def wsum (ws : List Int) (ls : List Nat) : Int := (ls.map fun i => ws.getD i 0).sum
section
variable {P : Program} {w : World} {K : PySem.W.Frag} {mg : Str → Option Value} {base : Heap}
theorem sc_Weighted_total_of : FnScope ["self", "lot", "thing"] ["self", "lot"] (defScope s_Weighted_total_of) := ⟨rfl, rfl, rfl, by decide +kernel, rfl, by decide +kernel, by decide +kernel⟩
def spTot (K : PySem.W.Frag) : Sp := fun vs H Q _ => ∃ (v : V) (l : Addr) (ws : List Int) (s : Int) (ls : List Nat), vs = [v, .ref l] ∧ WtAt K H v ws s ∧ H l = some (.tup (lv ls)) ∧ LotOk ws.length ls ∧ ls.length ≤ 1000 ∧ RetV (.int (s + wsum ws ls)) H Q
theorem ok_Weighted_total_of (T : TXG fileC fa fx fn P K mg) : FnB P w K mg base 3 (He.ma K (He.ga K "Weighted") "total_of") ["self", "lot"] (spTot K) := by
  refine fnb T.d_Weighted_total_of rfl sc_Weighted_total_of (fun vs H Q E h => ?_) (fun _ _ _ _ _ _ us hl => match us, hl with | [_, _], _ => rfl) (fun cdv A outer s H vs Q E hr h => ?_)
  · obtain ⟨_, _, _, _, _, rfl, _⟩ := h
    rfl
  · refine ⟨_, (pss_one (ps_ret (pe_op op_add (pe_fld (pv 0) rfl) (pe_callB (cr_sum rfl) (by rfl) T.n_sum (by decide +kernel) (pa_cons (pe_lc (own := [("thing", 2)]) rfl sc_Weighted_total_of.nd (pi_tup (pv 1)) (blkOk_by (own := [("thing", 2)]) (N := ["self", "lot", "thing"]) (sc := defScope s_Weighted_total_of) (by decide +kernel)) (fun _ _ _ _ _ => (pg_name (i := 2) sc_Weighted_total_of.nd rfl (Or.inl rfl))) (fun _ _ _ _ _ => pts_nil) (fun _ _ _ _ _ => (pe_ix (r := rIxT K) ix_tup (pe_fldK (K := K) rfl (pv 0) rfl) (pv 2) (fun _ _ => rfl)))) pa_nil))))), ?_⟩
    obtain ⟨v, l, ws, as_, ls, rfl, hv, hl, ho, hz, q⟩ := h
    obtain ⟨a, dx, rfl, tw, ha, htw⟩ := hv
    refine Evl.s_ret (ev_op (ev_fld (ev_var (v := .ref a) rfl) ha T.c_Weighted T.no_Weighted_aside rfl) (ev_cbL1 (z := .int (wsum ws ls)) (EvQF.toL (ep_lc stay_V stayL_V (lv ls).length (fun _ => true) (fun i => V.int (ws.getD (ls.getD i 0) 0)) (ei_tup (ev_var (v := .ref l) rfl) hl) (by unfold lv; rw [List.length_map]; omega) ?_)) fun p H2 hp e2 => ?_) rv_I0) fun H1 e1 => q H1 e1
    · rintro i x H2 e2 hi hx Q k
      unfold lv at hx hi
      rw [List.length_map] at hi
      rw [List.getElem?_map, List.getElem?_eq_getElem hi] at hx
      cases hx
      refine k _ H2 (Ex.refl _) rfl (fun H3 e3 Q k => k H3 (Ex.refl _)) fun H3 e3 _ => Ev.toV ?_
      have h1 : ls.getD i 0 = ls[i] := by rw [List.getD_eq_getElem?_getD, List.getElem?_eq_getElem hi]; rfl
      have hlt := ho.lt _ (List.getElem_mem hi)
      have e := e2.trans e3
      refine ev_op (ev_fld (ev_var (v := .ref a) rfl) (e _ _ ha) T.c_Weighted T.no_Weighted_weights rfl) (ev_var rfl) (rv_ixT (st_of (e _ _ htw)) ?_)
      unfold atI
      rw [List.length_map, ixN_nat hlt, h1]
      show (ws.map V.int)[ls[i]]? = _
      rw [List.getElem?_map, List.getElem?_eq_getElem hlt, List.getD_eq_getElem?_getD, List.getElem?_eq_getElem hlt]; rfl
    · refine fun H3 e3 Q k => ⟨p, (List.range ls.length).map fun i => ws.getD (ls.getD i 0) 0, rfl, sq_of (e3 _ _ (by rw [hp, givenA_all, List.map_map]; unfold lv; rw [List.length_map]; rfl)), ?_⟩
      have : ((List.range ls.length).map fun i => ws.getD (ls.getD i 0) 0) = ls.map fun i => ws.getD i 0 := by
        apply List.ext_getElem
        · simp
        · intro i h1 h2
          have h3 : i < ls.length := by simpa using h2
          simp [List.getD_eq_getElem?_getD, List.getElem?_eq_getElem h3]
      rw [this]
      exact k H3 (Ex.refl _)
theorem sc_Rule_shares : FnScope ["self", "lot", "_"] ["self", "lot"] (defScope s_Rule_shares) := ⟨rfl, rfl, rfl, by decide +kernel, rfl, by decide +kernel, by decide +kernel⟩
def spRuS (K : PySem.W.Frag) : Sp := fun vs H Q _ => ∃ (v : V) (l : Addr) (ws : List Int) (s : Int) (ls : List Nat), vs = [v, .ref l] ∧ WtAt K H v ws s ∧ H l = some (.tup (lv ls)) ∧ LotOk ws.length ls ∧ ls.length ≤ 1000 ∧ ws.length ≤ 24 ∧
  ∀ p xs H', Ex H H' → H p = none → H' p = some (.lst xs) → All2 (RatAt K H') xs ((List.range ws.length).map fun _ => rnorm 0 1) → Q (.ref p) H'
theorem ok_Rule_shares (T : TXG fileC fa fx fn P K mg) : FnB P w K mg base 5 (He.ma K (He.ga K "Rule") "shares") ["self", "lot"] (spRuS K) := by
  refine fnb T.d_Rule_shares rfl sc_Rule_shares (fun vs H Q E h => ?_) (fun _ _ _ _ _ _ us hl => match us, hl with | [_, _], _ => rfl) (fun cdv A outer s H vs Q E hr h => ?_)
  · obtain ⟨_, _, _, _, _, rfl, _⟩ := h
    rfl
  · refine ⟨_, (pss_cons (ps_expr (pe_callR (ok_check_lot T).r (hr.mono (by decide)) T.k_check_lot (by rfl) T.g_check_lot passL (pa_cons (pv 1) (pa_cons (pe_fld (pv 0) rfl) pa_nil))))
      (pss_one (ps_ret (pe_lc (own := [("_", 2)]) rfl sc_Rule_shares.nd (pi_range1 (by rfl) T.n_range (pa_cons (pe_fld (pv 0) rfl) pa_nil)) (blkOk_by (own := [("_", 2)]) (N := ["self", "lot", "_"]) (sc := defScope s_Rule_shares) (by decide +kernel)) (fun _ _ _ _ _ => (pg_name (i := 2) sc_Rule_shares.nd rfl (Or.inl rfl))) (fun _ _ _ _ _ => pts_nil) (fun _ _ _ _ _ => (StX.pe_makeR T.mk_Ratio (ok_RI1 T) (hr.mono (by decide)) (by rfl) T.g_Ratio (E := E0) passL (pa_cons pe_int pa_nil))))))), ?_⟩
    obtain ⟨v, l, ws, as_, ls, rfl, hv, hl, ho, hz, hz2, q⟩ := h
    obtain ⟨a, dx, rfl, tw, ha, htw⟩ := hv
    refine Evl.q_drop (v := .non) (ev_callE (ea_cons (ev_var (v := .ref l) rfl) (ea_cons (ev_fld (ev_var (v := .ref a) rfl) ha T.c_Weighted T.no_Weighted_many rfl) ea_nil)) fun H1 e1 Q k => ⟨l, ws.length, ls, rfl, e1 _ _ hl, ho, by omega, k⟩) fun H1 e1 => ?_
    refine (ep_lc (R := RatAt K) stay_Rat stayL_Rat ws.length (fun _ => true) (fun _ => rnorm 0 1) (ei_rng (ea_cons (ev_fld (ev_var (v := .ref a) rfl) (e1 _ _ ha) T.c_Weighted T.no_Weighted_many rfl) ea_nil) (by omega)) (by omega) ?_) H1 (Ex.refl _) _ fun p xs H2 e2 hn hp hx => ?_
    · rintro i x H2 e2 hi rfl Q k
      exact k _ H2 (Ex.refl _) rfl (fun H3 e3 Q k => k H3 (Ex.refl _)) fun H3 e3 _ => mk_rat1 (ea_cons ev_c ea_nil)
    · rw [givenA_all] at hx
      exact q p xs H2 (e1.trans e2) (fresh_back e1 hn) hp hx
theorem scs_Weighted_shares : FnScopeS ["self", "lot", "row", "total", "thing"] ["self", "lot"] (defScope s_Weighted_shares) := ⟨rfl, rfl, rfl, by decide +kernel, rfl, by decide +kernel, by decide +kernel, by decide +kernel⟩
def spWS (K : PySem.W.Frag) : Sp := fun vs H Q _ => ∃ (v : V) (l : Addr) (ws : List Int) (s : Int) (ls : List Nat), vs = [v, .ref l] ∧ WtAt K H v ws s ∧ H l = some (.tup (lv ls)) ∧ LotOk ws.length ls ∧ ls.length ≤ 1000 ∧ WsOk ws s ∧ 1 ≤ s + wsum ws ls ∧ s + wsum ws ls < 2 ^ 70 ∧
  ∀ p xs gs H', Ex H H' → H' p = some (.lst xs) → All2 (RatAt K H') xs gs → gs.length = ws.length → (∀ i ∈ ls, gs[i]? = some (rnorm (ws.getD i 0) (s + wsum ws ls))) → Q (.ref p) H'
theorem ok_Weighted_shares (T : TXG fileC fa fx fn P K mg) : FnB P w K mg base 7 (He.ma K (He.ga K "Weighted") "shares") ["self", "lot"] (spWS K) := by
  obtain ⟨fR, FR, bR⟩ := ok_Rule_shares (w := w) (base := base) T
  refine fnb_sup T.s_Weighted_shares T.file T.sup T.n_super T.sup_Weighted rfl rfl rfl rfl scs_Weighted_shares rfl rfl rfl rfl (fun vs H Q E h => ?_) (fun _ _ _ _ _ _ _ us hl => match us, hl with | [_, _], _ => rfl) (fun cda cc A outer s H vs Q E hr S B h => ?_)
  · obtain ⟨_, _, _, _, _, rfl, _⟩ := h
    rfl
  · refine ⟨_, _, psat_set (i := 2) scs_Weighted_shares.nd rfl (Or.inl rfl) (peat_super (E := E0) ⟨B, T.supK_Weighted_shares.1, T.supK_Weighted_shares.2.1, T.supK_Weighted_shares.2.2⟩ S FR bR (hr.mono (by decide)) passL (pa_cons (pv 1) pa_nil)), (pss_cons (ps_set (i := 3) scs_Weighted_shares.nd rfl (Or.inl rfl) (pe_methR (pv 0) T.c_Weighted T.me_Weighted_total_of (ok_Weighted_total_of T).r (hr.mono (by decide)) passL (pa_cons (pv 1) pa_nil)))
      (pss_cons (ps_for (passes_of rfl) rfl (pi_tup (pv 1)) (pg_name (i := 4) scs_Weighted_shares.nd rfl (Or.inl rfl))
      (pss_one (ps_asg (StX.pe_makeR T.mk_Ratio (ok_RI2 T) (hr.mono (by decide)) (by rfl) T.g_Ratio (E := E0) passL (pa_cons (pe_ix ix_tup (pe_fld (pv 0) rfl) (pv 4) (fun _ _ => rfl)) (pa_cons (pv 3) pa_nil))) (pg_sub (pv 2) (pv 4) set_list))))
      (pss_one (ps_ret (pv 2))))), ?_⟩
    obtain ⟨v, l, ws, as_, ls, rfl, hv, hl, ho, hz, hw, ht1, ht2, q⟩ := h
    obtain ⟨a, dx, rfl, tw, ha, htw⟩ := id hv
    refine ⟨a, dx, _, rfl, ha, _, rfl, _, l, ws, as_, ls, rfl, hv, hl, ho, hz, hw.len, fun r xs H1 e1 hrn hr1 hx1 => ?_⟩
    refine Evl.q_asg (v := .int (as_ + wsum ws ls)) (ev_meth (ev_var (v := .ref a) rfl) (e1 _ _ ha) rfl (ea_cons (ev_var (v := .ref l) rfl) ea_nil) fun H2 e2 Q k => ⟨_, l, ws, as_, ls, rfl, hv.ex (e1.trans e2), (e1.trans e2) _ _ hl, ho, hz, k⟩) fun H2 e2 => ?_
    have E2 := e1.trans e2
    refine eq_forB (fun i σ' H' => Ex H H' ∧ ∃ (xs : List V) (gs : List (Int × Int)) (y : Option V), σ' = [some (.ref a), some (.ref l), some (.ref r), some (.int (as_ + wsum ws ls)), y] ∧ H' r = some (.lst xs) ∧ All2 (RatAt K H') xs gs ∧ gs.length = ws.length ∧ ∀ j, j ∈ ls.take i → gs[j]? = some (rnorm (ws.getD j 0) (as_ + wsum ws ls)))
      (eib_tup (ev_var (v := .ref l) rfl) E2 hl) (fun H3 e3 => ⟨E2.trans e3, xs, _, none, rfl, (e2.trans e3) _ _ hr1, hx1.imp fun a b r => stay_Rat _ _ _ _ (e2.trans e3) r, by simp, by simp⟩) (fun _ _ _ h => h.1) ?_ ?_
    · rintro i x σ' H3 H4 hi ⟨h1, xs, gs, y, rfl, hr3, hg, hgl, hgs⟩ e4 hx
      unfold lv at hx hi
      rw [List.length_map] at hi
      rw [List.getElem?_map, List.getElem?_eq_getElem hi] at hx
      cases hx
      have hlt := ho.lt _ (List.getElem_mem hi)
      have E4 := h1.trans e4
      have hwm := hw.pos _ (List.getElem_mem hlt)
      have hgd : ws.getD ls[i] 0 = ws[ls[i]] := by rw [List.getD_eq_getElem?_getD, List.getElem?_eq_getElem hlt]; rfl
      have hxl : xs.length = ws.length := by rw [hg.len, hgl]
      refine s_setQ (R := RatAt K) (d := rnorm (ws.getD ls[i] 0) (as_ + wsum ws ls)) (j := ls[i]) stay_Rat (e4 _ _ hr3) (mk_rat2 (ea_cons (ev_op (ev_fld (ev_var (v := .ref a) rfl) (E4 _ _ ha) T.c_Weighted T.no_Weighted_weights rfl) (ev_var rfl) (rv_ixT (st_of (E4 _ _ htw)) ?_)) (ea_cons (ev_var rfl) ea_nil)) ht1 ?_) (ev_var rfl) (ev_var rfl) (by omega) fun z H5 e5 hz5 => ?_
      · unfold atI
        rw [List.length_map, ixN_nat hlt]
        show (ws.map V.int)[ls[i]]? = _
        rw [List.getElem?_map, List.getElem?_eq_getElem hlt, hgd]; rfl
      · exact Nat.lt_of_lt_of_le (m := 2 ^ 70) (by omega) (Nat.pow_le_pow_right (by omega) (by omega))
      · have hr5 := (e4.trans e5) _ _ hr3
        refine ⟨((h1.trans e4).trans e5).mut hrn, _, gs.set ls[i] (rnorm (ws.getD ls[i] 0) (as_ + wsum ws ls)), _, rfl, upd_same, ?_, by rw [List.length_set]; exact hgl, fun j hj => ?_⟩
        · refine All2.set (stayL_Rat _ _ _ _ _ _ hr5 hz5) ls[i] ?_
          exact hg.imp fun a b r => stayL_Rat _ _ _ _ _ _ hr5 (stay_Rat _ _ _ _ (e4.trans e5) r)
        · by_cases hji : j = ls[i]
          · subst hji
            rw [List.getElem?_set_self (by omega)]
          · rw [List.getElem?_set_ne (Ne.symm hji)]
            refine hgs j ?_
            rw [List.take_succ, List.getElem?_eq_getElem hi] at hj
            rcases List.mem_append.mp hj with hj | hj
            · exact hj
            · simp at hj
              exact absurd hj hji
    · rintro σ' H3 ⟨h1, xs, gs, y, rfl, hr3, hg, hgl, hgs⟩
      refine ⟨_, rfl, q r xs gs H3 h1 hr3 hg hgl fun j hj => hgs j ?_⟩
      unfold lv
      rw [List.length_map, List.take_length]
      exact hj
end
end K7

/-! K9H: numbers: lots, sizes. -/
namespace K7
theorem div_small {t : Int} {g : Nat} (hg : 0 < g) (hd : (g : Int) ∣ t) : (t / (g : Int)).natAbs ≤ t.natAbs := by
  obtain ⟨c, rfl⟩ := hd
  rw [Int.mul_ediv_cancel_left _ (by omega), Int.natAbs_mul, Int.natAbs_natCast]
  exact Nat.le_mul_of_pos_left _ hg
theorem rnorm_top {t b : Int} (hb : 1 ≤ b) : (rnorm t b).1.natAbs ≤ t.natAbs := div_small (Nat.gcd_pos_of_pos_right _ (by omega)) (Int.ofNat_dvd_left.mpr (Nat.gcd_dvd_left _ _))
theorem rnorm_bot {t b : Int} (hb : 1 ≤ b) : (rnorm t b).2.natAbs ≤ b.natAbs := div_small (Nat.gcd_pos_of_pos_right _ (by omega)) (Int.ofNat_dvd_left.mpr (Nat.gcd_dvd_right _ _))
theorem rnorm_pos {t b : Int} (hb : 1 ≤ b) : 1 ≤ (rnorm t b).2 := by
  have hg : 0 < Nat.gcd t.natAbs b.natAbs := Nat.gcd_pos_of_pos_right _ (by omega)
  have hd : ((Nat.gcd t.natAbs b.natAbs : Nat) : Int) ∣ b := Int.ofNat_dvd_left.mpr (Nat.gcd_dvd_right _ _)
  have := Int.le_of_dvd (by omega) hd
  show 1 ≤ b / _
  exact (Int.le_ediv_iff_mul_le (by omega)).mpr (by omega)
theorem rsz_norm {t b : Int} {k : Nat} (hb : 1 ≤ b) (h1 : t.natAbs < 2 ^ k) (h2 : b.natAbs < 2 ^ k) : Rsz k (rnorm t b) := ⟨rnorm_pos hb, Nat.lt_of_le_of_lt (rnorm_top hb) h1, Nat.lt_of_le_of_lt (rnorm_bot hb) h2⟩
theorem Rsz.mono {j k : Nat} {r : Int × Int} (h : Rsz j r) (hk : j ≤ k) : Rsz k r := ⟨h.pos, Nat.lt_of_lt_of_le h.top (Nat.pow_le_pow_right (by omega) hk), Nat.lt_of_lt_of_le h.bot (Nat.pow_le_pow_right (by omega) hk)⟩
theorem LotOk.le {n : Nat} {ls : List Nat} (h : LotOk n ls) : ls.length ≤ n := by
  have key : ∀ i (hi : i < ls.length), i ≤ ls[i] := by
    intro i
    induction i with
    | zero => intro _; omega
    | succ i ih =>
      intro hi
      have h1 := ih (by omega)
      have h2 := List.pairwise_iff_getElem.mp h.asc i (i + 1) (by omega) hi (by omega)
      omega
  by_cases h0 : ls.length = 0
  · omega
  · have h1 := key (ls.length - 1) (by omega)
    have h2 := h.lt _ (List.getElem_mem (show ls.length - 1 < ls.length by omega))
    omega
theorem wsum_bounds {ws : List Int} {s : Int} (hw : WsOk ws s) : ∀ {ls : List Nat}, (∀ x ∈ ls, x < ws.length) → 0 ≤ wsum ws ls ∧ wsum ws ls ≤ (ls.length : Int) * 2 ^ 60
  | [], _ => ⟨Int.le_refl _, Int.le_refl _⟩
  | x :: ls, h => by
    have ⟨h1, h2⟩ := wsum_bounds hw (ls := ls) fun y hy => h y (List.mem_cons_of_mem _ hy)
    have hx := h x List.mem_cons_self
    have hp := hw.pos _ (List.getElem_mem hx)
    have hg : ws.getD x 0 = ws[x] := by rw [List.getD_eq_getElem?_getD, List.getElem?_eq_getElem hx]; rfl
    have e : wsum ws (x :: ls) = ws.getD x 0 + wsum ws ls := rfl
    rw [e, hg, List.length_cons]
    omega
theorem tot_bounds {ws : List Int} {s : Int} {ls : List Nat} (hw : WsOk ws s) (ho : LotOk ws.length ls) : 1 ≤ s + wsum ws ls ∧ s + wsum ws ls < 2 ^ 70 := by
  have ⟨h1, h2⟩ := wsum_bounds hw ho.lt
  have h3 := ho.le
  have h4 := hw.len
  have h5 := hw.as1
  have h6 := hw.as2
  omega
/-- prices -/
structure PsOk (ps : List Int) (n : Nat) : Prop where
  len : ps.length = n
  pos : ∀ x ∈ ps, 0 ≤ x ∧ x < 2 ^ 60
def share (ws : List Int) (t : Int) (ps : List Int) (i : Nat) : Int × Int := rmul (rnorm (ws.getD i 0) t) (ps.getD i 0)
def worK (ws : List Int) (t : Int) (ps : List Int) (ls : List Nat) : Int × Int := ls.foldl (fun r i => radd r (share ws t ps i)) (rnorm 0 1)
def wor (ws : List Int) (s : Int) (ps : List Int) (ls : List Nat) : Int × Int := worK ws (s + wsum ws ls) ps ls
theorem nat_lt2 {a b j k m : Nat} (ha : a < 2 ^ j) (hb : b < 2 ^ k) (h : j + k ≤ m) : a * b < 2 ^ m := by
  have h1 : a * b < 2 ^ j * 2 ^ k := Nat.mul_lt_mul'' ha hb
  rw [← Nat.pow_add] at h1
  exact Nat.lt_of_lt_of_le h1 (Nat.pow_le_pow_right (by omega) h)
theorem int_lt2 {a b : Int} {j k m : Nat} (ha : a.natAbs < 2 ^ j) (hb : b.natAbs < 2 ^ k) (h : j + k ≤ m) : (a * b).natAbs < 2 ^ m := by
  rw [Int.natAbs_mul]
  exact nat_lt2 ha hb h
theorem add_lt2 {a b : Int} {m : Nat} (ha : a.natAbs < 2 ^ m) (hb : b.natAbs < 2 ^ m) : (a + b).natAbs < 2 ^ (m + 1) := by
  have := Int.natAbs_add_le a b
  rw [Nat.pow_succ]
  omega
structure Rsz2 (j k : Nat) (r : Int × Int) : Prop where
  pos : 1 ≤ r.2
  top : r.1.natAbs < 2 ^ j
  bot : r.2.natAbs < 2 ^ k
theorem Rsz2.toR {j k m : Nat} {r : Int × Int} (h : Rsz2 j k r) (h1 : j ≤ m) (h2 : k ≤ m) : Rsz m r := ⟨h.pos, Nat.lt_of_lt_of_le h.top (Nat.pow_le_pow_right (by omega) h1), Nat.lt_of_lt_of_le h.bot (Nat.pow_le_pow_right (by omega) h2)⟩
theorem rsz2_norm {t b : Int} {j k : Nat} (hb : 1 ≤ b) (h1 : t.natAbs < 2 ^ j) (h2 : b.natAbs < 2 ^ k) : Rsz2 j k (rnorm t b) := ⟨rnorm_pos hb, Nat.lt_of_le_of_lt (rnorm_top hb) h1, Nat.lt_of_le_of_lt (rnorm_bot hb) h2⟩
theorem getD_ws {ws : List Int} {s : Int} (hw : WsOk ws s) {i : Nat} (hi : i < ws.length) : 1 ≤ ws.getD i 0 ∧ ws.getD i 0 < 2 ^ 60 := by
  have := hw.pos _ (List.getElem_mem hi)
  rwa [show ws.getD i 0 = ws[i] by rw [List.getD_eq_getElem?_getD, List.getElem?_eq_getElem hi]; rfl]
theorem getD_ps {ps : List Int} {n : Nat} (hp : PsOk ps n) {i : Nat} (hi : i < n) : 0 ≤ ps.getD i 0 ∧ ps.getD i 0 < 2 ^ 60 := by
  have hi : i < ps.length := by rw [hp.len]; exact hi
  have := hp.pos _ (List.getElem_mem hi)
  rwa [show ps.getD i 0 = ps[i] by rw [List.getD_eq_getElem?_getD, List.getElem?_eq_getElem hi]; rfl]
theorem abs_lt {i : Int} {k : Nat} (h0 : 0 ≤ i) (h : i < 2 ^ k) : i.natAbs < 2 ^ k := by
  have : ((i.natAbs : Nat) : Int) < ((2 ^ k : Nat) : Int) := by
    rw [Int.natAbs_of_nonneg h0]
    push_cast
    exact h
  exact_mod_cast this
theorem sh_sz {ws : List Int} {s t : Int} {i : Nat} (hw : WsOk ws s) (hi : i < ws.length) (h1 : 1 ≤ t) (h2 : t < 2 ^ 70) : Rsz2 60 70 (rnorm (ws.getD i 0) t) := by
  have := getD_ws hw hi
  exact rsz2_norm h1 (abs_lt (by omega) this.2) (abs_lt (by omega) h2)
theorem share_sz {ws : List Int} {s t : Int} {ps : List Int} {i : Nat} (hw : WsOk ws s) (hp : PsOk ps ws.length) (hi : i < ws.length) (h1 : 1 ≤ t) (h2 : t < 2 ^ 70) : Rsz2 120 70 (share ws t ps i) := by
  have h := sh_sz hw hi h1 h2
  have hq := getD_ps hp hi
  exact rsz2_norm h.pos (int_lt2 h.top (abs_lt hq.1 hq.2) (by omega)) h.bot
theorem radd_sz {r q : Int × Int} {i : Nat} (hr : Rsz2 (71 * i + 130) (70 * i + 1) r) (hq : Rsz2 120 70 q) : Rsz2 (71 * (i + 1) + 130) (70 * (i + 1) + 1) (radd r q) := by
  have hp : 1 ≤ r.2 * q.2 := by
    have := Int.mul_pos (show 0 < r.2 by have := hr.pos; omega) (show 0 < q.2 by have := hq.pos; omega)
    omega
  refine rsz2_norm hp ?_ (int_lt2 hr.bot hq.bot (by omega))
  have h1 := int_lt2 (m := 71 * i + 200) hr.top hq.bot (by omega)
  have h2 := int_lt2 (m := 71 * i + 200) hq.top hr.bot (by omega)
  exact Nat.lt_of_lt_of_le (add_lt2 h1 h2) (Nat.pow_le_pow_right (by omega) (by omega))
theorem worK_snoc {ws : List Int} {t : Int} {ps : List Int} {ls : List Nat} {x : Nat} : worK ws t ps (ls ++ [x]) = radd (worK ws t ps ls) (share ws t ps x) := by
  unfold worK
  rw [List.foldl_append]
  rfl
theorem worK_sz {ws : List Int} {s t : Int} {ps : List Int} (hw : WsOk ws s) (hp : PsOk ps ws.length) (h1 : 1 ≤ t) (h2 : t < 2 ^ 70) {ls : List Nat} (ho : ∀ x ∈ ls, x < ws.length) : ∀ i, Rsz2 (71 * i + 130) (70 * i + 1) (worK ws t ps (ls.take i))
  | 0 => by
    rw [List.take_zero]
    exact rsz2_norm (by omega) (Nat.pow_pos (by omega)) (by show 1 < 2 ^ 1; omega)
  | i + 1 => by
    by_cases hi : i < ls.length
    · rw [List.take_succ, List.getElem?_eq_getElem hi]
      show Rsz2 _ _ (worK ws t ps (ls.take i ++ [ls[i]]))
      rw [worK_snoc]
      exact radd_sz (worK_sz hw hp h1 h2 ho i) (share_sz hw hp (ho _ (List.getElem_mem hi)) h1 h2)
    · have h := worK_sz hw hp h1 h2 ho i
      rw [List.take_of_length_le (by omega)] at h ⊢
      exact ⟨h.pos, Nat.lt_of_lt_of_le h.top (Nat.pow_le_pow_right (by omega) (by omega)), Nat.lt_of_lt_of_le h.bot (Nat.pow_le_pow_right (by omega) (by omega))⟩
theorem worK_2000 {ws : List Int} {s t : Int} {ps : List Int} (hw : WsOk ws s) (hp : PsOk ps ws.length) (h1 : 1 ≤ t) (h2 : t < 2 ^ 70) {ls : List Nat} (ho : LotOk ws.length ls) (i : Nat) (hi : i ≤ ls.length) : Rsz 2000 (worK ws t ps (ls.take i)) := by
  have h3 := ho.le
  have h4 := hw.len
  exact (worK_sz hw hp h1 h2 ho.lt i).toR (by omega) (by omega)
theorem wor_sz {ws : List Int} {s : Int} {ps : List Int} {ls : List Nat} (hw : WsOk ws s) (hp : PsOk ps ws.length) (ho : LotOk ws.length ls) : Rsz 2000 (wor ws s ps ls) := by
  have ⟨h1, h2⟩ := tot_bounds hw ho
  have := worK_2000 hw hp h1 h2 ho ls.length (Nat.le_refl _)
  rwa [List.take_length] at this
/-- what a thing gains -/
def gain (ws ps : List Int) (r : Int × Int) (i : Nat) : Int × Int := rnorm (ws.getD i 0 * (ps.getD i 0 * r.2 - r.1)) r.2
theorem gain_sz {ws : List Int} {s : Int} {ps : List Int} {r : Int × Int} {i : Nat} (hw : WsOk ws s) (hp : PsOk ps ws.length) (hr : Rsz 2000 r) (hi : i < ws.length) : Rsz 4000 (gain ws ps r i) := by
  have hq := getD_ps hp hi
  have hq2 := getD_ws hw hi
  have h1 := int_lt2 (m := 2060) (abs_lt hq.1 hq.2) hr.bot (by omega)
  have h2 : r.1.natAbs < 2 ^ 2060 := Nat.lt_of_lt_of_le hr.top (Nat.pow_le_pow_right (by omega) (by omega))
  have h3 : (ps.getD i 0 * r.2 - r.1).natAbs < 2 ^ 2061 := by
    rw [Int.sub_eq_add_neg]
    exact add_lt2 h1 (by rw [Int.natAbs_neg]; exact h2)
  exact rsz_norm hr.pos (int_lt2 (abs_lt (by omega) hq2.2) h3 (by omega)) (Nat.lt_of_lt_of_le hr.bot (Nat.pow_le_pow_right (by omega) (by omega)))
theorem lot_filter {n : Nat} {f : Nat → Bool} : LotOk n (givenA n f id) := by
  unfold givenA
  rw [List.map_id]
  exact ⟨List.pairwise_lt_range.filter _, fun x hx => List.mem_range.mp (List.mem_filter.mp hx).1⟩
end K7

/-! K9I: worth, gains. -/
namespace K7
open PySem PySem.Spec PyProof.Rows L2 Evl RZ
section
variable {P : Program} {w : World} {K : PySem.W.Frag} {mg : Str → Option Value} {base : Heap}
theorem q_asgQ {α : Type} {R : Hp → V → α → Prop} {d : α} {σ : L2.St} {H : Hp} {te : TE} {tz : TS} {D : Ends} {n : Nat} (h : EvQ te σ H R d) (k : ∀ z H1, Ex H H1 → R H1 z d → tz D (σ.set n (some z)) H1) : tSeq (tAsg te (gName n)) tz D σ H := h H (Ex.refl _) _ fun z H1 e1 hz => k z H1 e1 hz
theorem s_asgQ {α : Type} {R : Hp → V → α → Prop} {d : α} {σ : L2.St} {H : Hp} {te : TE} {D : Ends} {n : Nat} (h : EvQ te σ H R d) (k : ∀ z H1, Ex H H1 → R H1 z d → D.nx (σ.set n (some z)) H1) : tAsg te (gName n) D σ H := h H (Ex.refl _) _ fun z H1 e1 hz => k z H1 e1 hz
theorem ev_radd {σ : L2.St} {H : Hp} {ta tb : TE} {v : V} {r q : Int × Int} {E : XK} (h : Ev ta σ H v) (hv : RatAt K H v r) (zr : Rsz 4000 r) (h2 : EvQ tb σ H (RatAt K) q) (zq : Rsz 4000 q) : EvQ (tOp (rOwnB (He.ga K "Ratio") (spRAdd K) E) ta tb) σ H (RatAt K) (radd r q) := fun H1 e Q k =>
  h H1 e _ fun H2 e2 => h2 H2 (e.trans e2) _ fun u H3 e3 hu => by
    obtain ⟨a, dx, rfl, ha⟩ := id hv
    exact ⟨a, dx, _, rfl, (e.trans (e2.trans e3)) _ _ ha, hu.own, _, _, r, q, rfl, stay_Rat _ _ _ _ (e.trans (e2.trans e3)) hv, hu, zr, zq, fun w H4 e4 hw => k w H4 ((e2.trans e3).trans e4) hw⟩
theorem ev_rmul {σ : L2.St} {H : Hp} {ta tb : TE} {v : V} {r : Int × Int} {n : Int} {E : XK} (h : Ev ta σ H v) (hv : RatAt K H v r) (zr : Rsz 4000 r) (h2 : Ev tb σ H (.int n)) (zn : n.natAbs < 2 ^ 4000) : EvQ (tOp (rOwnB (He.ga K "Ratio") (spRMul K) E) ta tb) σ H (RatAt K) (rmul r n) := fun H1 e Q k =>
  h H1 e _ fun H2 e2 => h2 H2 (e.trans e2) _ fun H3 e3 => by
    obtain ⟨a, dx, rfl, ha⟩ := id hv
    exact ⟨a, dx, _, rfl, (e.trans (e2.trans e3)) _ _ ha, .inr ⟨n, rfl⟩, _, n, r, rfl, stay_Rat _ _ _ _ (e.trans (e2.trans e3)) hv, zr, zn, fun w H4 e4 hw => k w H4 ((e2.trans e3).trans e4) hw⟩
theorem sc_Rule_worth : FnScope ["self", "lot", "prices", "shares", "total", "thing"] ["self", "lot", "prices"] (defScope s_Rule_worth) := ⟨rfl, rfl, rfl, by decide +kernel, rfl, by decide +kernel, by decide +kernel⟩
def spWorth (K : PySem.W.Frag) : Sp := fun vs H Q _ => ∃ (v : V) (l tp : Addr) (ws : List Int) (s : Int) (ls : List Nat) (ps : List Int), vs = [v, .ref l, .ref tp] ∧ WtAt K H v ws s ∧ H l = some (.tup (lv ls)) ∧ H tp = some (.tup (ps.map V.int)) ∧ LotOk ws.length ls ∧ WsOk ws s ∧ PsOk ps ws.length ∧ RetQ (RatAt K) (wor ws s ps ls) H Q
theorem ok_Rule_worth (T : TXG fileC fa fx fn P K mg) : FnB P w K mg base 9 (He.ma K (He.ga K "Rule") "worth") ["self", "lot", "prices"] (spWorth K) := by
  refine fnb T.d_Rule_worth rfl sc_Rule_worth (fun vs H Q E h => ?_) (fun _ _ _ _ _ _ us hl => match us, hl with | [_, _, _], _ => rfl) (fun cdv A outer s H vs Q E hr h => ?_)
  · obtain ⟨_, _, _, _, _, _, _, rfl, _⟩ := h
    rfl
  · refine ⟨_, (pss_cons (ps_expr (pe_callR (ok_check_pricesT T).r (hr.mono (by decide)) T.k_check_prices (by rfl) T.g_check_prices passL (pa_cons (pv 2) (pa_cons (pe_fld (pv 0) rfl) pa_nil))))
      (pss_cons (ps_set (i := 3) sc_Rule_worth.nd rfl (Or.inl rfl) (pe_methR (pv 0) T.c_Weighted T.me_Weighted_shares (ok_Weighted_shares T).r (hr.mono (by decide)) passL (pa_cons (pv 1) pa_nil)))
      (pss_cons (ps_set (i := 4) sc_Rule_worth.nd rfl (Or.inl rfl) (StX.pe_makeR T.mk_Ratio (ok_RI1 T) (hr.mono (by decide)) (by rfl) T.g_Ratio (E := E0) passL (pa_cons pe_int pa_nil)))
      (pss_cons (ps_for (passes_of rfl) rfl (pi_tup (pv 1)) (pg_name (i := 5) sc_Rule_worth.nd rfl (Or.inl rfl))
      (pss_one (ps_set (i := 4) sc_Rule_worth.nd rfl (Or.inl rfl) (pe_op (op_ownB T.b_Ratio___add__ (ok_Ratio___add__ T).r (hr.mono (by decide)) passL) (pv 4) (pe_op (op_ownB T.b_Ratio___mul__ (ok_Ratio___mul__ T).r (hr.mono (by decide)) passL) (pe_ix ix_list (pv 3) (pv 5) (fun _ _ => rfl)) (pe_ix ix_tup (pv 2) (pv 5) (fun _ _ => rfl)))))))
      (pss_one (ps_ret (pv 4))))))), ?_⟩
    obtain ⟨v, l, tp, ws, as_, ls, ps, rfl, hv, hl, htp, ho, hw, hp, q⟩ := h
    obtain ⟨a, dx, rfl, tw, ha, htw⟩ := id hv
    have ⟨ht1, ht2⟩ := tot_bounds hw ho
    have hle := ho.le
    have hwl := hw.len
    refine Evl.q_drop (v := .non) (ev_callE (ea_cons (ev_var (v := .ref tp) rfl) (ea_cons (ev_fld (ev_var (v := .ref a) rfl) ha T.c_Weighted T.no_Weighted_many rfl) ea_nil)) fun H1 e1 Q k => ⟨tp, ps, by rw [hp.len], e1 _ _ htp, fun p hpm => (hp.pos p hpm).1, by rw [hp.len]; omega, k⟩) fun H1 e1 => ?_
    refine ⟨_, rfl, a, dx, _, rfl, e1 _ _ ha, rfl, _, rfl, _, l, ws, as_, ls, rfl, hv.ex e1, e1 _ _ hl, ho, by omega, hw, ht1, ht2, fun r xs gs H2 e2 hr2 hg2 hgl hgs => ?_⟩
    have E2 := e1.trans e2
    refine q_asgQ (mk_rat1 (ea_cons ev_c ea_nil)) fun z H3 e3 hz3 => ?_
    have E3 := E2.trans e3
    refine eq_forB (fun i σ' H' => Ex H3 H' ∧ ∃ (z : V) (y : Option V), σ' = [some (.ref a), some (.ref l), some (.ref tp), some (.ref r), some z, y] ∧ RatAt K H' z (worK ws (as_ + wsum ws ls) ps (ls.take i))) (eib_tup (ev_var (v := .ref l) rfl) (Ex.refl _) (E3 _ _ hl)) (fun H4 e4 => ⟨e4, z, none, rfl, stay_Rat _ _ _ _ e4 hz3⟩) (fun _ _ _ h => h.1) ?_ ?_
    · rintro i x σ' H4 H5 hi ⟨h1, z, y, rfl, hz⟩ e5 hx
      unfold lv at hx hi
      rw [List.length_map] at hi
      rw [List.getElem?_map, List.getElem?_eq_getElem hi] at hx
      cases hx
      have hlt := ho.lt _ (List.getElem_mem hi)
      have E5 : Ex H3 H5 := h1.trans e5
      have hz5 := stay_Rat _ _ _ _ e5 hz
      have hr5 := (e3.trans E5) _ _ hr2
      obtain ⟨u, hu1, hu2⟩ := (hg2.imp fun a b r => stay_Rat _ _ _ _ (e3.trans E5) r).get (hgs _ (List.getElem_mem hi))
      have hxl : xs.length = ws.length := by rw [hg2.len, hgl]
      have hq := getD_ps hp hlt
      have hR := worK_2000 hw hp ht1 ht2 ho i (by omega)
      have hS := share_sz hw hp hlt ht1 ht2
      refine s_asgQ (d := radd (worK ws (as_ + wsum ws ls) ps (ls.take i)) (share ws (as_ + wsum ws ls) ps ls[i])) (ev_radd (ev_var rfl) hz5 (hR.mono (by omega)) (ev_rmul (ev_op (ev_var rfl) (ev_var rfl) (rv_ixL (v := u) (sq_of hr5) ?_)) hu2 ((sh_sz hw hlt ht1 ht2).toR (by omega) (by omega)) (ev_op (ev_var rfl) (ev_var rfl) (rv_ixT (v := .int (ps.getD ls[i] 0)) (st_of ((E3.trans E5) _ _ htp)) ?_)) (Nat.lt_of_lt_of_le (abs_lt hq.1 hq.2) (Nat.pow_le_pow_right (by omega) (by omega)))) (hS.toR (by omega) (by omega))) fun z6 H6 e6 hz6 => ?_
      · unfold atI
        rw [hxl, ixN_nat hlt]
        exact hu1
      · have hpl : ls[i] < ps.length := by rw [hp.len]; exact hlt
        unfold atI
        rw [List.length_map, ixN_nat hpl]
        show (ps.map V.int)[ls[i]]? = _
        rw [List.getElem?_map, List.getElem?_eq_getElem hpl, List.getD_eq_getElem?_getD, List.getElem?_eq_getElem hpl]; rfl
      · refine ⟨E5.trans e6, z6, _, rfl, ?_⟩
        rw [List.take_succ, List.getElem?_eq_getElem hi]
        show RatAt K H6 z6 (worK _ _ _ (ls.take i ++ [ls[i]]))
        rw [worK_snoc]
        exact hz6
    · rintro σ' H4 ⟨h1, z, y, rfl, hz⟩
      refine ⟨_, rfl, q z H4 (E3.trans h1) ?_⟩
      unfold lv at hz
      rw [List.length_map, List.take_length] at hz
      exact hz
end
end K7

/-! K9J: gains, pick. -/
namespace K7
open PySem PySem.Spec PyProof.Rows L2 Evl RZ
/-- a Choice (an AtMost: mo has its bound) -/
def ChAt (K : PySem.W.Frag) (C : Str) (mo : List (Str × V)) (H : Hp) (v : V) (ws : List Int) (s : Int) (ps : List Int) : Prop := ∃ a dx vr tp, v = .ref a ∧ H a = some (.ins (He.ga K C) dx (("rule", vr) :: ("prices", .ref tp) :: mo)) ∧ WtAt K H vr ws s ∧ H tp = some (.tup (ps.map V.int))
theorem ChAt.ex {K : PySem.W.Frag} {C : Str} {mo : List (Str × V)} {H H' : Hp} {v : V} {ws : List Int} {s : Int} {ps : List Int} (h : ChAt K C mo H v ws s ps) (e : Ex H H') : ChAt K C mo H' v ws s ps := by
  obtain ⟨a, dx, vr, tp, h1, h2, h3, h4⟩ := h
  exact ⟨a, dx, vr, tp, h1, e _ _ h2, h3.ex e, e _ _ h4⟩
/-- what the two classes find -/
structure ChC (K : PySem.W.Frag) (C : Str) (pk : Addr) : Prop where
  cls : Cls K (He.ga K C)
  rule : NoAttr K (He.ga K C) "rule"
  prices : NoAttr K (He.ga K C) "prices"
  gains : Meth K (He.ga K C) "gains" (He.ma K (He.ga K "Choice") "gains")
  climb : Meth K (He.ga K C) "climb" (He.ma K (He.ga K "Choice") "climb")
  best : Meth K (He.ga K C) "best" (He.ma K (He.ga K "Choice") "best")
  pick : Meth K (He.ga K C) "pick" pk
structure ChOk (ws : List Int) (s : Int) (ps : List Int) : Prop where
  w : WsOk ws s
  p : PsOk ps ws.length
/-- the bound that an AtMost has -/
def MoOk (mo : List (Str × V)) : Prop := mo = [] ∨ ∃ m : Int, 0 ≤ m ∧ m < 2 ^ 60 ∧ mo = [(("most" : Str), V.int m)]
theorem pg_tupK {X : Cx} {K : PySem.W.Frag} {pos : Pos} {es : List Expr} {k : Nat} {t : TGs} {n : Nat} (hK : X.K = K) (hc : X.calm = true) (h : PGs X es t) (h1 : (assignEach es X.env).length = n := by rfl) (h2 : (assignEach es X.env).findIdx? (·.1) = none := by rfl) : PG X (.Tuple es k pos) (gTup K n t) := by
  subst hK
  exact pg_tup hc h h1 h2
section
variable {K : PySem.W.Frag} {σ : L2.St} {H : Hp} {te : TE} {α : Type} {R : Hp → V → α → Prop} {ds : List α}
theorem ei_enumQ (hR : Stay R) (h : EvQF te σ H R ds) : EvI (iEnum K (tCons te tNil)) σ H ds.length (fun i x H => ∃ T y d, x = .ref T ∧ H T = some (.tup [.int (i : Int), y]) ∧ ds[i]? = some d ∧ R H y d) := fun H1 e Q q => h H1 e _ fun p xs H2 e2 hn hp ha => ⟨p, xs, rfl, sq_of hp, q _ _ e2 (by
  rw [← ha.len]
  have W := wk_enum (K := K) (sq_of (K := K) hp)
  exact ⟨W.stop, W.go, fun i H x H' hi e y => by
    obtain ⟨z1, T, z, rfl, hT, hy⟩ := W.yld i H x H' hi e y
    obtain ⟨d, h1, h2⟩ := ha.getA hy
    exact ⟨z1, T, z, d, rfl, hT, h1, hR _ _ _ _ (e.trans z1) h2⟩⟩)⟩
end
section
variable {P : Program} {w : World} {K : PySem.W.Frag} {mg : Str → Option Value} {base : Heap} {C : Str} {pk : Addr} {mo : List (Str × V)}
theorem chC (T : TXG fileC fa fx fn P K mg) : ChC K "Choice" (He.ma K (He.ga K "Choice") "pick") := ⟨T.c_Choice, T.no_Choice_rule, T.no_Choice_prices, T.me_Choice_gains, T.me_Choice_climb, T.me_Choice_best, T.me_Choice_pick⟩
theorem chA (T : TXG fileC fa fx fn P K mg) : ChC K "AtMost" (He.ma K (He.ga K "AtMost") "pick") := ⟨T.c_AtMost, T.no_AtMost_rule, T.no_AtMost_prices, T.me_AtMost_gains, T.me_AtMost_climb, T.me_AtMost_best, T.me_AtMost_pick⟩
theorem sc_Choice_gains : FnScope ["self", "rate", "top", "bottom", "weight", "price"] ["self", "rate"] (defScope s_Choice_gains) := ⟨rfl, rfl, rfl, by decide +kernel, rfl, by decide +kernel, by decide +kernel⟩
def spGains (K : PySem.W.Frag) (C : Str) (mo : List (Str × V)) : Sp := fun vs H Q _ => ∃ (v u : V) (ws : List Int) (s : Int) (ps : List Int) (r : Int × Int), vs = [v, u] ∧ ChAt K C mo H v ws s ps ∧ RatAt K H u r ∧ ChOk ws s ps ∧ Rsz 2000 r ∧
  ∀ p xs H', Ex H H' → H p = none → H' p = some (.lst xs) → All2 (RatAt K H') xs ((List.range ws.length).map (gain ws ps r)) → Q (.ref p) H'
theorem ok_Choice_gains (T : TXG fileC fa fx fn P K mg) (hC : ChC K C pk) : FnB P w K mg base 3 (He.ma K (He.ga K "Choice") "gains") ["self", "rate"] (spGains K C mo) := by
  refine fnb T.d_Choice_gains rfl sc_Choice_gains (fun vs H Q E h => ?_) (fun _ _ _ _ _ _ us hl => match us, hl with | [_, _], _ => rfl) (fun cdv A outer s H vs Q E hr h => ?_)
  · obtain ⟨_, _, _, _, _, _, rfl, _⟩ := h
    rfl
  · refine ⟨_, (pss_cons (ps_set (i := 2) sc_Choice_gains.nd rfl (Or.inr rfl) (pe_fld (pv 1) rfl))
      (pss_cons (ps_set (i := 3) sc_Choice_gains.nd rfl (Or.inr rfl) (pe_fld (pv 1) rfl))
      (pss_one (ps_ret (pe_lc (own := [("weight", 4), ("price", 5)]) rfl sc_Choice_gains.nd (pi_zipA (by rfl) T.n_zip (pa_cons (pe_fld (pe_fld (pv 0) rfl) rfl) (pa_cons (pe_fld (pv 0) rfl) pa_nil))) (blkOk_by (own := [("weight", 4), ("price", 5)]) (N := ["self", "rate", "top", "bottom", "weight", "price"]) (sc := defScope s_Choice_gains) (by decide +kernel)) (fun _ _ _ _ _ => (pg_tupK (K := K) (n := 2) rfl rfl (pgs_cons (pg_name (i := 4) sc_Choice_gains.nd rfl (Or.inl rfl)) (pgs_cons (pg_name (i := 5) sc_Choice_gains.nd rfl (Or.inl rfl)) pgs_nil)))) (fun _ _ _ _ _ => pts_nil) (fun _ _ _ _ _ => (StX.pe_makeR T.mk_Ratio (ok_RI2 T) (hr.mono (by decide)) (by rfl) T.g_Ratio (E := E0) passL (pa_cons (pe_op op_mulW (pv 4) (pe_op op_sub (pe_op op_mulW (pv 5) (pv 3)) (pv 2))) (pa_cons (pv 3) pa_nil))))))))), ?_⟩
    obtain ⟨v, u, ws, as_, ps, r, rfl, hv, hu, hk, zr, q⟩ := h
    obtain ⟨a, dx, vr, tp, rfl, ha, ⟨b, dy, rfl, tw, hb, htw⟩, htp⟩ := hv
    refine Evl.q_asg (ev_top T (ev_var rfl) hu) fun H1 e1 => ?_
    refine Evl.q_asg (ev_bot T (ev_var rfl) (stay_Rat _ _ _ _ e1 hu)) fun H2 e2 => ?_
    have E2 := e1.trans e2
    have hwl := hk.w.len
    refine (ep_lc (R := RatAt K) stay_Rat stayL_Rat ws.length (fun _ => true) (gain ws ps r) (Y := fun i x H => ∃ Tt y z, x = V.ref Tt ∧ H Tt = some (HO.tup [y, z]) ∧ (ws.map V.int)[i]? = some y ∧ (ps.map V.int)[i]? = some z) ?_ (by omega) ?_) H2 (Ex.refl _) _ fun p xs H3 e3 hn hp hx => ?_
    · have := ei_zipT (K := K) (σ := [some (V.ref a), some u, some (V.int r.1), some (V.int r.2), none, none]) (H := H2) (xs := ws.map V.int) (ys := ps.map V.int) (a := tw) (b := tp) (ea_cons (ev_fld (ev_fld (ev_var (i := 0) (v := .ref a) rfl) (E2 _ _ ha) hC.cls hC.rule rfl) (E2 _ _ hb) T.c_Weighted T.no_Weighted_weights rfl) (ea_cons (ev_fld (ev_var (i := 0) (v := .ref a) rfl) (E2 _ _ ha) hC.cls hC.prices rfl) ea_nil)) (E2 _ _ htw) (E2 _ _ htp) (by rw [List.length_map, List.length_map, hk.p.len])
      rw [List.length_map] at this
      exact this
    · rintro i x H3 e3 hi ⟨Tt, y, z, rfl, hT, hy, hz⟩ Q k
      have hi2 : i < ps.length := by rw [hk.p.len]; exact hi
      rw [List.getElem?_map, List.getElem?_eq_getElem hi] at hy
      rw [List.getElem?_map, List.getElem?_eq_getElem hi2] at hz
      cases hy
      cases hz
      have g1 : ws.getD i 0 = ws[i] := by rw [List.getD_eq_getElem?_getD, List.getElem?_eq_getElem hi]; rfl
      have g2 : ps.getD i 0 = ps[i] := by rw [List.getD_eq_getElem?_getD, List.getElem?_eq_getElem hi2]; rfl
      have hq := getD_ps hk.p hi
      have hq2 := getD_ws hk.w hi
      have h1 := int_lt2 (m := 2060) (abs_lt hq.1 hq.2) zr.bot (by omega)
      have h2 : r.1.natAbs < 2 ^ 2060 := Nat.lt_of_lt_of_le zr.top (Nat.pow_le_pow_right (by omega) (by omega))
      have h3 : (ps.getD i 0 * r.2 - r.1).natAbs < 2 ^ 2061 := by
        rw [Int.sub_eq_add_neg]
        exact add_lt2 h1 (by rw [Int.natAbs_neg]; exact h2)
      have h4 := abs_lt hq.1 hq.2
      have h5 := abs_lt (show 0 ≤ ws.getD i 0 by omega) hq2.2
      rw [g2] at h3 h4
      rw [g1] at h5
      refine ⟨Tt, _, rfl, st_of hT, rfl, ⟨_, _, rfl, _, _, rfl, rfl, ?_⟩⟩
      refine k _ _ (Ex.refl _) rfl (fun H3 e3 Q k => k H3 (Ex.refl _)) fun H4 e4 _ => ?_
      unfold gain
      rw [g1, g2]
      exact mk_rat2 (ea_cons (ev_op (ev_var rfl) (ev_op (ev_op (ev_var rfl) (ev_var rfl) (rv_I (cmw h4 zr.bot (by omega) (by omega) (by omega)))) (ev_var rfl) rv_I0) (rv_I (cmw h5 h3 (by omega) (by omega) (by omega)))) (ea_cons (ev_var rfl) ea_nil)) zr.pos (Nat.lt_of_lt_of_le zr.bot (Nat.pow_le_pow_right (by omega) (by omega)))
    · rw [givenA_all] at hx
      exact q p xs H3 (E2.trans e3) (fresh_back E2 hn) hp hx
/-- a lot as a value -/
def LotR (n : Nat) (H : Hp) (v : V) : Prop := ∃ a ls, v = .ref a ∧ H a = some (.tup (lv ls)) ∧ LotOk n ls
def spPick (K : PySem.W.Frag) (C : Str) (mo : List (Str × V)) : Sp := fun vs H Q _ => ∃ (v u : V) (ws : List Int) (s : Int) (ps : List Int) (r : Int × Int), vs = [v, u] ∧ ChAt K C mo H v ws s ps ∧ RatAt K H u r ∧ ChOk ws s ps ∧ Rsz 2000 r ∧ ∀ v' H', Ex H H' → LotR ws.length H' v' → Q v' H'
theorem mo_look (h : MoOk mo) {f : Str} (h1 : (f == ("rule" : Str)) = false) (h2 : (f == ("prices" : Str)) = false) (h3 : (f == ("most" : Str)) = false) {a b : V} : ((("rule" : Str), a) :: (("prices" : Str), b) :: mo).lookup f = none := by
  rcases h with rfl | ⟨m, _, _, rfl⟩
  · simp only [List.lookup, h1, h2]
  · simp only [List.lookup, h1, h2, h3]
theorem eu_tupL {te : TE} {σ : L2.St} {H : Hp} {xs : List V} (h : EvL te σ H xs) : EvU (tCB (fun xs H Q => ∃ p ys, xs = [V.ref p] ∧ ((SqL K H p ys ∧ ∀ l, H l = none → Q (V.ref l) (upd H l (.tup ys))) ∨ (SqT K H p ys ∧ Q (V.ref p) H))) (tCons te tNil)) σ H xs := fun H1 e1 Q k =>
  h H1 e1 _ fun p H2 hp e2 hx => ⟨p, _, rfl, .inl ⟨sq_of hx, fun l hl => k l _ (fresh_back e2 hl) (e2.trans (Ex.new hl)) upd_same⟩⟩
theorem ev_list_map {te : TE} {σ : L2.St} {H : Hp} {n : Nat} {f : Nat → Bool} (h : EvQF te σ H IsV (givenA n f fun i => V.int (i : Int))) : EvL te σ H (lv (givenA n f id)) := by
  have h := h.toL
  unfold lv givenA
  rw [List.map_id]
  exact h
theorem sc_Choice_pick : FnScope ["self", "rate", "thing", "gain"] ["self", "rate"] (defScope s_Choice_pick) := ⟨rfl, rfl, rfl, by decide +kernel, rfl, by decide +kernel, by decide +kernel⟩
theorem ok_Choice_pick (T : TXG fileC fa fx fn P K mg) (hC : ChC K C pk) (hm : MoOk mo) : FnB P w K mg base 5 (He.ma K (He.ga K "Choice") "pick") ["self", "rate"] (spPick K C mo) := by
  refine fnb T.d_Choice_pick rfl sc_Choice_pick (fun vs H Q E h => ?_) (fun _ _ _ _ _ _ us hl => match us, hl with | [_, _], _ => rfl) (fun cdv A outer s H vs Q E hr h => ?_)
  · obtain ⟨_, _, _, _, _, _, rfl, _⟩ := h
    rfl
  · refine ⟨_, (pss_one (ps_ret (pe_callTy call_tuple_of (by rfl) T.n_tuple (by decide +kernel) (pa_cons (pe_lc (own := [("thing", 2), ("gain", 3)]) rfl sc_Choice_pick.nd (pi_enum (by rfl) T.n_enumerate (pa_cons (pe_methR (pv 0) hC.cls hC.gains (ok_Choice_gains (mo := mo) T hC).r (hr.mono (by decide)) passL (pa_cons (pv 1) pa_nil)) pa_nil)) (blkOk_by (own := [("thing", 2), ("gain", 3)]) (N := ["self", "rate", "thing", "gain"]) (sc := defScope s_Choice_pick) (by decide +kernel)) (fun _ _ _ _ _ => (pg_tupK (K := K) (n := 2) rfl rfl (pgs_cons (pg_name (i := 2) sc_Choice_pick.nd rfl (Or.inl rfl)) (pgs_cons (pg_name (i := 3) sc_Choice_pick.nd rfl (Or.inl rfl)) pgs_nil)))) (fun _ _ _ _ _ => (pts_one (pt_cmpR (op_ownC (op := .Gt) (fun _ _ => rfl) T.cmp_Ratio___gt__ (ok_Ratio___gt__ T).r (hr.mono (by decide)) passL) (pv 3) pe_int (nomark _)))) (fun _ _ _ _ _ => (pv 2))) pa_nil)))), ?_⟩
    obtain ⟨v, u, ws, as_, ps, r, rfl, hv, hu, hk, zr, q⟩ := h
    obtain ⟨a, dx, vr, tp, rfl, ha, hb, htp⟩ := id hv
    have hwl := hk.w.len
    have hG : ∀ {C' : Addr} {E : XK}, C' = He.ga K C → EvQF (tMethR C' "gains" (spGains K C mo) E (tVar 0) (tCons (tVar 1) tNil)) [some (V.ref a), some u, none, none] H (RatAt K) ((List.range ws.length).map (gain ws ps r)) := fun {C' E} hC' H1 e Q k => ⟨_, rfl, a, dx, _, rfl, hC' ▸ e _ _ ha, mo_look hm (by decide) (by decide) (by decide), _, rfl, _, u, ws, as_, ps, r, rfl, hv.ex e, stay_Rat _ _ _ _ e hu, hk, zr, fun p xs H2 e2 hn hp hx => k p xs H2 e2 hn hp hx⟩
    have hE := ei_enumQ (K := K) stay_Rat (hG (E := E0) rfl)
    rw [List.length_map, List.length_range] at hE
    have hL := ev_list_map (ep_lc (vs := [2, 3]) (g := gTup K 2 (gCons (gName 2) (gCons (gName 3) gNil))) (tt := tTest (tOp (rOwnB (He.ga K "Ratio") (spRGt K) E0) (tVar 3) (tC (.int 0)))) (te := tVar 2) (R := IsV) stay_V stayL_V ws.length (fun i => decide (0 * (gain ws ps r i).2 < (gain ws ps r i).1)) (fun i => V.int (i : Int)) hE (by omega) (fun i x H1 e1 hi hY Q k => by
        obtain ⟨Tt, y, d, hx, hT, hd, hy⟩ := hY
        subst hx
        have hd : d = gain ws ps r i := by
          rw [List.getElem?_map, List.getElem?_range hi] at hd
          exact (Option.some.inj hd).symm
        subst hd
        refine ⟨Tt, _, rfl, st_of hT, rfl, ⟨_, _, rfl, _, _, rfl, rfl, k _ _ (Ex.refl _) rfl ?_ fun H3 e3 _ => Ev.toV (ev_var rfl)⟩⟩
        exact et_test (ev_op (ev_var rfl) ev_c (rv_gtI hy (gain_sz hk.w hk.p zr hi) (Nat.pow_pos (by omega))))))
    exact Evl.s_retU (eu_tupL hL) fun p H1 hp e1 hx => q _ H1 e1 ⟨p, _, rfl, hx, lot_filter⟩
end
end K7

/-! K9K: climb. -/
namespace K7
open PySem PySem.Spec PyProof.Rows L2 Evl RZ
/-! ### lots are few -/
def allLots : Nat → List (List Nat)
  | 0 => [[]]
  | n + 1 => allLots n ++ (allLots n).map (· ++ [n])
theorem mem_lots : ∀ {n : Nat} {ls : List Nat}, LotOk n ls → ls ∈ allLots n
  | 0, ls, h => by
    have := h.le
    have : ls = [] := List.eq_nil_of_length_eq_zero (by omega)
    subst this
    exact List.mem_singleton.mpr rfl
  | n + 1, ls, h => by
    by_cases hn : n ∈ ls
    · have hne : ls ≠ [] := List.ne_nil_of_mem hn
      have e := List.dropLast_concat_getLast hne
      have hl : ls.getLast hne = n := by
        have h1 := h.lt _ (List.getLast_mem hne)
        obtain ⟨i, hi, ei⟩ := List.mem_iff_getElem.mp hn
        rw [List.getLast_eq_getElem] at h1 ⊢
        by_cases hq : i = ls.length - 1
        · subst hq; exact ei
        · have := List.pairwise_iff_getElem.mp h.asc i (ls.length - 1) hi (by omega) (by omega)
          omega
      rw [hl] at e
      have h2 : LotOk n ls.dropLast := by
        have hp := h.asc
        rw [← e, List.pairwise_append] at hp
        refine ⟨hp.1, fun x hx => hp.2.2 x hx n (List.mem_singleton.mpr rfl)⟩
      rw [← e]
      exact List.mem_append_right _ (List.mem_map.mpr ⟨_, mem_lots h2, rfl⟩)
    · refine List.mem_append_left _ (mem_lots ⟨h.asc, fun x hx => ?_⟩)
      have := h.lt x hx
      have : x ≠ n := by rintro rfl; exact hn hx
      omega
/-- r < q -/
def rlt (r q : Int × Int) : Bool := decide (r.1 * q.2 < q.1 * r.2)
theorem rlt_trans {a b c : Int × Int} (ha : 1 ≤ a.2) (hb : 1 ≤ b.2) (hc : 1 ≤ c.2) (h1 : rlt a b = true) (h2 : rlt b c = true) : rlt a c = true := by
  have h1 := of_decide_eq_true h1
  have h2 := of_decide_eq_true h2
  refine decide_eq_true ?_
  have e1 : a.1 * b.2 * c.2 < b.1 * a.2 * c.2 := Int.mul_lt_mul_of_pos_right h1 (by omega)
  have e2 : b.1 * c.2 * a.2 < c.1 * b.2 * a.2 := Int.mul_lt_mul_of_pos_right h2 (by omega)
  have e3 : b.1 * a.2 * c.2 = b.1 * c.2 * a.2 := by rw [Int.mul_assoc, Int.mul_comm a.2, ← Int.mul_assoc]
  have e4 : (a.1 * c.2) * b.2 < (c.1 * a.2) * b.2 := by
    rw [show (a.1 * c.2) * b.2 = a.1 * b.2 * c.2 by rw [Int.mul_assoc, Int.mul_comm c.2, ← Int.mul_assoc], show (c.1 * a.2) * b.2 = c.1 * b.2 * a.2 by rw [Int.mul_assoc, Int.mul_comm a.2, ← Int.mul_assoc]]
    omega
  exact Int.lt_of_mul_lt_mul_right e4 (by omega)
def cnt (ws : List Int) (s : Int) (ps : List Int) (r : Int × Int) : Nat := ((allLots ws.length).filter fun ls => decide (1 ≤ (wor ws s ps ls).2) && rlt r (wor ws s ps ls)).length
theorem filter_lt {α : Type} {f g : α → Bool} {x : α} (h : ∀ y, f y = true → g y = true) (hx : g x = true) (hx2 : f x = false) : ∀ {l : List α}, x ∈ l → (l.filter f).length < (l.filter g).length
  | [], hm => nomatch hm
  | y :: l, hm => by
    have hle : (l.filter f).length ≤ (l.filter g).length := by
      clear hm
      induction l with
      | nil => exact Nat.le_refl _
      | cons z l ih =>
        cases hf : f z with
        | true => rw [List.filter_cons_of_pos hf, List.filter_cons_of_pos (h z hf)]; simp only [List.length_cons]; omega
        | false =>
          rw [List.filter_cons_of_neg (by rw [hf]; simp)]
          cases hg : g z with
          | true => rw [List.filter_cons_of_pos hg]; simp only [List.length_cons]; omega
          | false => rw [List.filter_cons_of_neg (by rw [hg]; simp)]; exact ih
    rcases List.mem_cons.mp hm with rfl | hm
    · rw [List.filter_cons_of_pos hx, List.filter_cons_of_neg (by rw [hx2]; simp)]
      simp only [List.length_cons]
      omega
    · have ih := filter_lt h hx hx2 hm
      cases hf : f y with
      | true => rw [List.filter_cons_of_pos hf, List.filter_cons_of_pos (h y hf)]; simp only [List.length_cons]; omega
      | false =>
        rw [List.filter_cons_of_neg (by rw [hf]; simp)]
        cases hg : g y with
        | true => rw [List.filter_cons_of_pos hg]; simp only [List.length_cons]; omega
        | false => rw [List.filter_cons_of_neg (by rw [hg]; simp)]; exact ih
theorem cnt_lt {ws : List Int} {s : Int} {ps : List Int} {r : Int × Int} {ls : List Nat} (hk : ChOk ws s ps) (ho : LotOk ws.length ls) (hr : 1 ≤ r.2) (h : rlt r (wor ws s ps ls) = true) : cnt ws s ps (wor ws s ps ls) < cnt ws s ps r := by
  have hw := (wor_sz hk.w hk.p ho).pos
  refine filter_lt (x := ls) (fun y hy => ?_) ?_ ?_ (mem_lots ho)
  · obtain ⟨h1, h2⟩ := Bool.and_eq_true_iff.mp hy
    rw [h1, Bool.true_and]
    exact rlt_trans hr hw (of_decide_eq_true h1) h h2
  · rw [h, decide_eq_true hw]; rfl
  · rw [show rlt (wor ws s ps ls) (wor ws s ps ls) = false from decide_eq_false (Int.lt_irrefl _), Bool.and_false]
theorem cnt_le {ws : List Int} {s : Int} {ps : List Int} {r : Int × Int} : cnt ws s ps r ≤ (allLots ws.length).length := List.length_filter_le _ _
section
variable {P : Program} {w : World} {K : PySem.W.Frag} {mg : Str → Option Value} {base : Heap} {C : Str} {pk : Addr} {mo : List (Str × V)}
theorem sc_climb : GScope ["self", "rate", "lot", "worth"] ["self"] (defScope s_Choice_climb) := ⟨rfl, rfl, rfl, by decide +kernel, rfl, by decide +kernel, by decide +kernel⟩
/-- a rate and its lot -/
def ZC (K : PySem.W.Frag) (n : Nat) : V → V → Hp → Prop := fun q l H => (∃ r, RatAt K H q r ∧ Rsz 2000 r) ∧ LotR n H l
theorem ZC.ex {n : Nat} {q l : V} {H H' : Hp} (h : ZC K n q l H) (e : Ex H H') : ZC K n q l H' := by
  obtain ⟨⟨r, h1, h2⟩, a, ls, h3, h4, h5⟩ := h
  exact ⟨⟨r, stay_Rat _ _ _ _ e h1, h2⟩, a, ls, h3, e _ _ h4, h5⟩
def pcC (K : PySem.W.Frag) (C : Str) (mo : List (Str × V)) (n : Nat) : List V → Hp → Nat → Prop := fun vs H m => ∃ (v : V) (ws : List Int) (s : Int) (ps : List Int), vs = [v] ∧ ChAt K C mo H v ws s ps ∧ ChOk ws s ps ∧ ws.length = n ∧ m = (allLots n).length + 1
theorem ok_climb (T : TXG fileC fa fx fn P K mg) (hC : ChC K C pk) (hm : MoOk mo) (n : Nat) (okP : FnB P w K mg base 9 pk ["self", "rate"] (spPick K C mo)) : ∃ fd, GFnH P w K mg base 11 (He.ma K (He.ga K "Choice") "climb") fd ["self", "rate", "lot", "worth"] ["self"] (pcC K C mo n) (ZP (ZC K n)) ∧ Binds K fd ["self"] [] := by
  obtain ⟨fd, F⟩ := T.d_Choice_climb
  have b := FunD.bindsN (ps := ["self"]) F fun _ _ _ _ _ _ us hl => match us, hl with | [_], _ => rfl
  obtain ⟨oc, od, dV, kV, doc, pm, an, cdv, ct, osl, rfl, lk, hcd, hD, hK⟩ := F.ex
  refine ⟨_, gfnH_of lk hcd sc_climb (by decide +kernel) (fun _ => rfl) (fun _ => rfl) (fun vs H m h => ?_) (fun vs H H' m h e => ?_) (fun d L H vs m O hP hw hK hmg hbase hN henv hYP hr h => ?_), b⟩
  · obtain ⟨_, _, _, _, rfl, _⟩ := h
    rfl
  · obtain ⟨v, ws, s, ps, h1, h2, h3, h4, h5⟩ := h
    exact ⟨v, ws, s, ps, h1, h2.ex e, h3, h4, h5⟩
  · obtain ⟨dP, dw, dK, dmg, dbase, dN, denv, dA, douter, dpins, dYP⟩ := d
    simp only at hP hw hK hmg hbase hN henv hYP hr
    have hP := hP.symm
    have hw := hw.symm
    have hK := hK.symm
    have hmg := hmg.symm
    have hbase := hbase.symm
    have hN := hN.symm
    have henv := henv.symm
    have hYP := hYP.symm
    subst hP hw hK hmg hbase hN henv hYP
    refine ⟨_, (gssr_cons (gsr_ps fun s0 H0 => (ps_set (i := 1) sc_climb.nd rfl (Or.inl rfl) (StX.pe_makeR T.mk_Ratio (ok_RI1 T) (hr.mono (by decide)) (by rfl) T.g_Ratio (E := E0) passL (pa_cons pe_int pa_nil))))
      (gssr_cons (gsr_ps fun s0 H0 => (ps_set (i := 2) sc_climb.nd rfl (Or.inl rfl) (pe_methR (pv 0) hC.cls hC.pick okP.r (hr.mono (by decide)) passL (pa_cons (pv 1) pa_nil))))
      (gssr_cons (gsr_yield O fun s0 H0 => (pe_tup (pa_cons (pv 1) (pa_cons (pv 2) pa_nil))))
      (gssr_cons (gsr_ps fun s0 H0 => (ps_set (i := 3) sc_climb.nd rfl (Or.inl rfl) (pe_methR (pe_fldK (K := K) rfl (pv 0) rfl) T.c_Weighted T.me_Weighted_worth (ok_Rule_worth T).r (hr.mono (by decide)) passL (pa_cons (pv 2) (pa_cons (pe_fldK (K := K) rfl (pv 0) rfl) pa_nil)))))
      (gssr_cons (gsr_while (fun s0 H0 => (pt_cmpR (op_ownC (op := .Gt) (fun _ _ => rfl) T.cmp_Ratio___gt__ (ok_Ratio___gt__ T).r (hr.mono (by decide)) passL) (pv 3) (pv 1) (nomark _))) (gssr_cons (gsr_ps fun s0 H0 => (ps_set (i := 1) sc_climb.nd rfl (Or.inl rfl) (pv 3)))
      (gssr_cons (gsr_ps fun s0 H0 => (ps_set (i := 2) sc_climb.nd rfl (Or.inl rfl) (pe_methR (pv 0) hC.cls hC.pick okP.r (hr.mono (by decide)) passL (pa_cons (pv 1) pa_nil))))
      (gssr_cons (gsr_yield O fun s0 H0 => (pe_tup (pa_cons (pv 1) (pa_cons (pv 2) pa_nil))))
      (gssr_cons (gsr_ps fun s0 H0 => (ps_set (i := 3) sc_climb.nd rfl (Or.inl rfl) (pe_methR (pe_fldK (K := K) rfl (pv 0) rfl) T.c_Weighted T.me_Weighted_worth (ok_Rule_worth T).r (hr.mono (by decide)) passL (pa_cons (pv 2) (pa_cons (pe_fldK (K := K) rfl (pv 0) rfl) pa_nil)))))
      gssr_nil)))))
      gssr_nil))))), ?_⟩
    obtain ⟨v, ws, as_, ps, rfl, hv, hk, rfl, rfl⟩ := h
    obtain ⟨a, dx, vr, tp, rfl, ha, hb, htp⟩ := id hv
    obtain ⟨b', dy, rfl, tw, hb1, htw⟩ := id hb
    have hnp := mo_look (a := .ref b') (b := .ref tp) hm (show (("pick" : Str) == ("rule" : Str)) = false by decide) (by decide) (by decide)
    have r01 : Rsz 2000 (rnorm 0 1) := rsz_norm (by omega) (Nat.pow_pos (by omega)) (Nat.one_lt_two_pow (by omega))
    have worth : ∀ {σ : L2.St} {H1 : Hp} {l : Addr} {ls : List Nat} {E : XK}, Ex H H1 → σ[0]? = some (some (.ref a)) → σ[2]? = some (some (.ref l)) → H1 l = some (.tup (lv ls)) → LotOk ws.length ls →
        EvQ (tMethR (He.ga K "Weighted") "worth" (spWorth K) E (tFld K (tVar 0) "rule") (tCons (tVar 2) (tCons (tFld K (tVar 0) "prices") tNil))) σ H1 (RatAt K) (wor ws as_ ps ls) := fun {σ H1 l ls E} e0 h0 h2 hl ho H2 e2 Q k => by
      have E2 := e0.trans e2
      exact ⟨_, h0, a, _, dx, _, _, rfl, E2 _ _ ha, hC.cls, hC.rule, rfl, b', dy, _, rfl, E2 _ _ hb1, rfl, _, h2, _, h0, a, _, dx, _, _, rfl, E2 _ _ ha, hC.cls, hC.prices, rfl, _, l, tp, ws, as_, ls, ps, rfl, hb.ex E2, e2 _ _ hl, E2 _ _ htp, ho, hk.w, hk.p, fun w H3 e3 hw => k w H3 e3 hw⟩
    refine s_asgQ (mk_rat1 (ea_cons ev_c ea_nil)) fun z H1 e1 hz1 => ?_
    refine ⟨_, rfl, a, dx, _, rfl, e1 _ _ ha, hnp, _, rfl, _, z, ws, as_, ps, _, rfl, hv.ex e1, hz1, hk, r01, fun v' H2 e2 hl2 => ?_⟩
    obtain ⟨l, ls, rfl, hl, ho⟩ := hl2
    have E2 := e1.trans e2
    have hz2 := stay_Rat _ _ _ _ e2 hz1
    refine ⟨by omega, _, rfl, _, rfl, sz_of (by simp), fun p hp => ⟨E2.trans (Ex.new hp), ⟨p, _, _, rfl, upd_same, ZC.ex ⟨⟨_, hz2, r01⟩, l, ls, rfl, hl, ho⟩ (Ex.new hp)⟩, fun H3 e3 => ?_⟩⟩
    have E3 : Ex H2 H3 := (Ex.new hp).trans e3
    refine s_asgQ (worth (E2.trans E3) rfl rfl (E3 _ _ hl) ho) fun y H4 e4 hy4 => ?_
    refine ⟨fun m' n' Ha σ' H' => ∃ (r : Int × Int) (ls : List Nat) (q z : V) (l : Addr), σ' = [some (.ref a), some q, some (.ref l), some z] ∧ RatAt K H' q r ∧ Rsz 2000 r ∧ H' l = some (.tup (lv ls)) ∧ LotOk ws.length ls ∧ RatAt K H' z (wor ws as_ ps ls) ∧ cnt ws as_ ps r ≤ n' ∧ m' = n' ∧ Ex H H' ∧ Ex Ha H', ⟨_, _, ls, _, _, l, rfl, stay_Rat _ _ _ _ (E3.trans e4) hz2, r01, (E3.trans e4) _ _ hl, ho, hy4, by have := cnt_le (ws := ws) (s := as_) (ps := ps) (r := rnorm 0 1); omega, rfl, E2.trans (E3.trans e4), e4⟩, ?_⟩
    rintro m' n' Ha σ' H' ⟨r, ls, q, z, l, rfl, hq, zr, hl, ho, hz, hc, rfl, hE, hS⟩
    have zw := wor_sz hk.w hk.p ho
    refine (et_test (ev_op (ev_var rfl) (ev_var rfl) (rv_gt hz hq (zw.mono (by omega)) (zr.mono (by omega))))) H' (Ex.refl _) _ fun H5 e5 => ?_
    by_cases hgt : r.1 * (wor ws as_ ps ls).2 < (wor ws as_ ps ls).1 * r.2
    · rw [decide_eq_true hgt, if_pos rfl]
      have hlt := cnt_lt hk ho zr.pos (decide_eq_true hgt)
      refine Evl.s_asg (ev_var rfl) fun H6 e6 => ?_
      have E6 := hE.trans (e5.trans e6)
      have hz6 := stay_Rat _ _ _ _ (e5.trans e6) hz
      refine ⟨_, rfl, a, dx, _, rfl, E6 _ _ ha, hnp, _, rfl, _, z, ws, as_, ps, _, rfl, hv.ex E6, hz6, hk, zw, fun v' H7 e7 hl7 => ?_⟩
      obtain ⟨l2, ls2, rfl, hl2, ho2⟩ := hl7
      have hz7 := stay_Rat _ _ _ _ e7 hz6
      refine ⟨by omega, _, rfl, _, rfl, sz_of (by simp), fun p hp => ⟨(hS.trans (e5.trans e6)).trans (e7.trans (Ex.new hp)), ⟨p, _, _, rfl, upd_same, ZC.ex ⟨⟨_, hz7, zw⟩, l2, ls2, rfl, hl2, ho2⟩ (Ex.new hp)⟩, fun H8 e8 => ?_⟩⟩
      have E8 : Ex H7 H8 := (Ex.new hp).trans e8
      refine s_asgQ (worth ((E6.trans e7).trans E8) rfl rfl (E8 _ _ hl2) ho2) fun y H9 e9 hy9 => ?_
      exact ⟨m' - 1, by omega, _, ls2, _, _, l2, rfl, stay_Rat _ _ _ _ (E8.trans e9) hz7, zw, (E8.trans e9) _ _ hl2, ho2, hy9, by omega, rfl, ((E6.trans e7).trans E8).trans e9, e9⟩
    · rw [decide_eq_false hgt, if_neg (by decide)]
      exact hS.trans e5
end
end K7

/-! K9L: AtMost.pick. -/
namespace K7
open PySem PySem.Spec PyProof.Rows L2 Evl RZ
theorem lv_len (ls : List Nat) : (lv ls).length = ls.length := by unfold lv; rw [List.length_map]
theorem lot_sorted {n : Nat} {ns : List Nat} {ns' : List Int} (hp : ns'.Perm (ns.map fun (i : Nat) => (i : Int))) (hs : ns'.Pairwise (· ≤ ·)) (hd : ns.Nodup) (hl : ∀ x ∈ ns, x < n) : ∃ ls, ns'.map V.int = lv ls ∧ LotOk n ls := by
  have hnn : ∀ x ∈ ns', 0 ≤ x := fun x hx => by
    obtain ⟨y, _, rfl⟩ := List.mem_map.mp (hp.subset hx)
    omega
  have hinj : (ns.map fun (i : Nat) => (i : Int)).Nodup := List.Pairwise.map _ (fun a b h => by intro e; exact h (by exact_mod_cast e)) hd
  have hnd : ns'.Nodup := hp.nodup_iff.mpr hinj
  refine ⟨ns'.map Int.toNat, ?_, ?_, ?_⟩
  · unfold lv
    rw [List.map_map]
    refine List.map_congr_left fun x hx => ?_
    show V.int x = V.int ((x.toNat : Nat) : Int)
    rw [Int.toNat_of_nonneg (hnn x hx)]
  · rw [List.pairwise_map]
    refine List.Pairwise.imp_of_mem ?_ (hs.and hnd)
    intro a b ha hb ⟨h1, h2⟩
    have := hnn a ha
    have := hnn b hb
    have h2 : a ≠ b := h2
    omega
  · intro x hx
    obtain ⟨y, hy, rfl⟩ := List.mem_map.mp hx
    obtain ⟨z, hz, rfl⟩ := List.mem_map.mp (hp.subset hy)
    have := hl z hz
    omega
theorem lot_inj {n : Nat} {ls : List Nat} (h : LotOk n ls) {i j : Nat} (hi : i < ls.length) (hj : j < ls.length) (hn : i ≠ j) : ls[i] ≠ ls[j] := by
  rcases Nat.lt_or_ge i j with h1 | h1
  · have := List.pairwise_iff_getElem.mp h.asc i j hi hj h1
    omega
  · have := List.pairwise_iff_getElem.mp h.asc j i hj hi (by omega)
    omega
theorem picked_nodup {n : Nat} {ls os : List Nat} (h : LotOk n ls) (hp : os.Perm (List.range ls.length)) (m : Nat) : ((os.take m).map fun p => ls.getD p 0).Nodup := by
  have h1 : os.Nodup := hp.nodup_iff.mpr List.nodup_range
  have h2 : (os.take m).Nodup := List.Nodup.sublist (List.take_sublist _ _) h1
  refine List.pairwise_map.mpr (List.Pairwise.imp_of_mem ?_ h2)
  intro a b ha hb hab
  have ha := List.mem_range.mp (hp.subset (List.mem_of_mem_take ha))
  have hb := List.mem_range.mp (hp.subset (List.mem_of_mem_take hb))
  rw [List.getD_eq_getElem?_getD, List.getElem?_eq_getElem ha, List.getD_eq_getElem?_getD, List.getElem?_eq_getElem hb]
  exact lot_inj h ha hb hab
section
variable {K : PySem.W.Frag} {σ : L2.St} {H : Hp} {te th : TE}
theorem ei_tupN {xs : List V} (h : EvU te σ H xs) : EvI (iTup K te) σ H xs.length (fun i x _ => xs[i]? = some x) := fun H1 e R r => h H1 e _ fun a H2 hn e2 hx => ⟨a, rfl, ⟨xs, st_of hx⟩, r _ _ e2 (wk_tup (st_of hx))⟩
/-- te gives a value of which P -/
def EvPr (te : TE) (σ : L2.St) (H : Hp) (P : V → Hp → Prop) : Prop := ∀ H1, Ex H H1 → ∀ Q : VK, (∀ v H2, Ex H1 H2 → P v H2 → Q v H2) → te σ H1 Q
theorem q_asgP {P : V → Hp → Prop} {tz : TS} {D : Ends} {n : Nat} (h : EvPr te σ H P) (k : ∀ v H1, Ex H H1 → P v H1 → tz D (σ.set n (some v)) H1) : tSeq (tAsg te (gName n)) tz D σ H := h H (Ex.refl _) _ fun z H1 e1 hz => k z H1 e1 hz
theorem s_asgP {P : V → Hp → Prop} {D : Ends} {n : Nat} (h : EvPr te σ H P) (k : ∀ v H1, Ex H H1 → P v H1 → D.nx (σ.set n (some v)) H1) : tAsg te (gName n) D σ H := h H (Ex.refl _) _ fun z H1 e1 hz => k z H1 e1 hz
theorem s_retP {P : V → Hp → Prop} {D : Ends} (h : EvPr te σ H P) (k : ∀ v H1, Ex H H1 → P v H1 → D.rt v H1) : tRet te D σ H := h H (Ex.refl _) _ fun z H1 e1 hz => k z H1 e1 hz
theorem q_asgQF {α : Type} {R : Hp → V → α → Prop} {ds : List α} {tz : TS} {D : Ends} {n : Nat} (h : EvQF te σ H R ds) (k : ∀ p xs H1, Ex H H1 → H p = none → H1 p = some (.lst xs) → All2 (R H1) xs ds → tz D (σ.set n (some (.ref p))) H1) : tSeq (tAsg te (gName n)) tz D σ H := h H (Ex.refl _) _ fun p xs H1 e1 hn hp hx => k p xs H1 e1 hn hp hx
/-- a tuple as it stands, perhaps not new -/
def EvT' (te : TE) (σ : L2.St) (H : Hp) (xs : List V) : Prop := ∀ H1, Ex H H1 → ∀ Q : VK, (∀ p H2, Ex H1 H2 → H2 p = some (.tup xs) → Q (.ref p) H2) → te σ H1 Q
theorem ei_tupT {xs : List V} (h : EvT' te σ H xs) : EvI (iTup K te) σ H xs.length (fun i x _ => xs[i]? = some x) := fun H1 e R r => h H1 e _ fun a H2 e2 hx => ⟨a, rfl, ⟨xs, st_of hx⟩, r _ _ e2 (wk_tup (st_of hx))⟩
theorem et_take {a : Addr} {os : List Nat} {m : Int} (h : Ev te σ H (.ref a)) (ha : H a = some (.tup (lv os))) (h2 : Ev th σ H (.int m)) (hm : 0 ≤ m) : EvT' (tSl (rSlA K) te tNoPart (tPart th)) σ H (lv (os.take m.toNat)) := fun H1 e Q q =>
  h H1 e _ fun H2 e2 => h2 H2 (e.trans e2) _ fun H3 e3 => by
    have hx := (e.trans (e2.trans e3)) _ _ ha
    have hl : (lv os).length = os.length := by unfold lv; rw [List.length_map]
    have s0 : HT.sIx (lv os).length 0 none = 0 := rfl
    have s1 : HT.sIx (lv os).length (lv os).length (some m) = min m.toNat os.length := by
      rw [hl]
      unfold HT.sIx
      simp only
      split <;> omega
    refine ⟨m, rfl, a, lv os, rfl, st_of hx, fun hw => ?_, fun hw p hp => ?_⟩
    · have : os.length ≤ m.toNat := by rw [s1, hl] at hw; omega
      exact q a H3 (e2.trans e3) (by rw [List.take_of_length_le this]; exact hx)
    · refine q p _ ((e2.trans e3).trans (Ex.new hp)) ?_
      rw [upd_same]
      unfold cutV
      rw [s0, s1, List.drop_zero, Nat.sub_zero]
      unfold lv
      rw [← List.map_take]
      by_cases hq : m.toNat ≤ os.length
      · rw [Nat.min_eq_left hq]
      · rw [Nat.min_eq_right (by omega), List.take_of_length_le (Nat.le_refl _), List.take_of_length_le (by omega)]
end
theorem ep_tupSorted {K : PySem.W.Frag} {te : TE} {σ : L2.St} {H : Hp} {ns : List Int} (h : EvL te σ H (ns.map V.int)) (hl : ns.length < 64) : EvPr (tCB (fun xs H Q => ∃ p ys, xs = [V.ref p] ∧ ((SqL K H p ys ∧ ∀ l, H l = none → Q (V.ref l) (upd H l (.tup ys))) ∨ (SqT K H p ys ∧ Q (V.ref p) H))) (tCons (tCB (rSorted K) (tCons te tNil)) tNil)) σ H (fun v H2 => ∃ (t : Addr) (ns' : List Int), v = .ref t ∧ H2 t = some (.tup (ns'.map V.int)) ∧ ns'.Perm ns ∧ ns'.Pairwise (· ≤ ·)) := fun H1 e1 Q k =>
  h H1 e1 _ fun p H2 hn e2 hp => ⟨p, ns, rfl, sq_of hp, hl, fun ns' p' h1 h2 h3 => ⟨p', _, rfl, .inl ⟨sq_of upd_same, fun t ht => k _ _ (e2.trans ((Ex.new h3).trans (Ex.new ht))) ⟨t, ns', rfl, upd_same, h1, h2⟩⟩⟩⟩
section
variable {P : Program} {w : World} {K : PySem.W.Frag} {mg : Str → Option Value} {base : Heap} {m : Int}
theorem scs_AtMost_pick : FnScopeS ["self", "rate", "lot", "gains", "order", "thing", "place"] ["self", "rate"] (defScope s_AtMost_pick) := ⟨rfl, rfl, rfl, by decide +kernel, rfl, by decide +kernel, by decide +kernel, by decide +kernel⟩
abbrev moM (m : Int) : List (Str × V) := [("most", V.int m)]
theorem ok_AtMost_pick (T : TXG fileC fa fx fn P K mg) (h0 : 0 ≤ m) (h1 : m < 2 ^ 60) : FnB P w K mg base 8 (He.ma K (He.ga K "AtMost") "pick") ["self", "rate"] (spPick K "AtMost" (moM m)) := by
  have hm : MoOk (moM m) := .inr ⟨m, h0, h1, rfl⟩
  obtain ⟨fR, FR, bR⟩ := ok_Choice_pick (w := w) (base := base) T (chA T) hm
  refine fnb_sup T.s_AtMost_pick T.file T.sup T.n_super T.sup_AtMost rfl rfl rfl rfl scs_AtMost_pick rfl rfl rfl rfl (fun vs H Q E h => ?_) (fun _ _ _ _ _ _ _ us hl => match us, hl with | [_, _], _ => rfl) (fun cda cc A outer s H vs Q E hr S B h => ?_)
  · obtain ⟨_, _, _, _, _, _, rfl, _⟩ := h
    rfl
  · refine ⟨_, _, psat_set (i := 2) scs_AtMost_pick.nd rfl (Or.inr rfl) (peat_super (E := E0) ⟨B, T.supK_AtMost_pick.1, T.supK_AtMost_pick.2.1, T.supK_AtMost_pick.2.2⟩ S FR bR (hr.mono (by decide)) passL (pa_cons (pv 1) pa_nil)), (pss_cons (ps_set (i := 3) scs_AtMost_pick.nd rfl (Or.inr rfl) (pe_methR (pv 0) T.c_AtMost T.me_AtMost_gains (ok_Choice_gains (mo := moM m) T (chA T)).r (hr.mono (by decide)) passL (pa_cons (pv 1) pa_nil)))
      (pss_cons (ps_set (i := 4) scs_AtMost_pick.nd rfl (Or.inl rfl) (pe_callR (ok_dearest_order T).r (hr.mono (by decide)) T.k_dearest_order (by rfl) T.g_dearest_order passL (pa_cons (pe_lc (own := [("thing", 5)]) rfl scs_AtMost_pick.nd (pi_tup (pv 2)) (blkOk_by (own := [("thing", 5)]) (N := ["self", "rate", "lot", "gains", "order", "thing", "place"]) (sc := defScope s_AtMost_pick) (by decide +kernel)) (fun _ _ _ _ _ => (pg_name (i := 5) scs_AtMost_pick.nd rfl (Or.inl rfl))) (fun _ _ _ _ _ => pts_nil) (fun _ _ _ _ _ => (pe_ix (r := rIxL K) ix_list (pv 3) (pv 5) (fun _ _ => rfl)))) pa_nil)))
      (pss_one (ps_ret (pe_callTy call_tuple_of (by rfl) T.n_tuple (by decide +kernel) (pa_cons (pe_callB cr_sorted (by rfl) T.n_sorted (by decide +kernel) (pa_cons (pe_lc (own := [("place", 6)]) rfl scs_AtMost_pick.nd (pi_tup (pe_slice sl_tupA (pv 4) po_none (po_some (pe_fld (pv 0) rfl)))) (blkOk_by (own := [("place", 6)]) (N := ["self", "rate", "lot", "gains", "order", "thing", "place"]) (sc := defScope s_AtMost_pick) (by decide +kernel)) (fun _ _ _ _ _ => (pg_name (i := 6) scs_AtMost_pick.nd rfl (Or.inl rfl))) (fun _ _ _ _ _ => pts_nil) (fun _ _ _ _ _ => (pe_callTy call_int1 (by rfl) T.n_int (by decide +kernel) (pa_cons (pe_ix (r := rIxT K) ix_tup (pv 2) (pv 6) (fun _ _ => rfl)) pa_nil)))) pa_nil)) pa_nil)))))), ?_⟩
    obtain ⟨v, u, ws, as_, ps, r, rfl, hv, hu, hk, zr, q⟩ := h
    obtain ⟨a, dx, vr, tp, rfl, ha, hb, htp⟩ := id hv
    have hwl := hk.w.len
    refine s_asgP (P := fun v H => LotR ws.length H v) (fun H1 e1 Q k => ⟨a, dx, _, rfl, e1 _ _ ha, _, rfl, _, u, ws, as_, ps, r, rfl, hv.ex e1, stay_Rat _ _ _ _ e1 hu, hk, zr, fun v' H2 e2 hl => k v' H2 e2 hl⟩) fun v' H1 e1 hlr => ?_
    obtain ⟨l, ls, rfl, hl, ho⟩ := hlr
    have hle := ho.le
    dsimp only
    refine q_asgQF (R := RatAt K) (ds := (List.range ws.length).map (gain ws ps r)) (fun H2 e2 Q k => ⟨_, rfl, a, dx, _, rfl, (e1.trans e2) _ _ ha, rfl, _, rfl, _, u, ws, as_, ps, r, rfl, hv.ex (e1.trans e2), stay_Rat _ _ _ _ (e1.trans e2) hu, hk, zr, fun gp xs H3 e3 hgn hg1 hg2 => k gp xs H3 e3 hgn hg1 hg2⟩) fun gp xs H2 e2 hgn hg1 hg2 => ?_
    have hT := ei_tup (K := K) (te := tVar 2) (σ := [some (V.ref a), some u, some (V.ref l), some (V.ref gp), none, none, none]) (ev_var (v := V.ref l) rfl) (e2 _ _ hl)
    rw [lv_len] at hT
    have hC : EvQF (tLc (iTup K (tVar 2)) (gName 5) tYes (tOp (rIxL K) (tVar 3) (tVar 5)) [5]) [some (V.ref a), some u, some (V.ref l), some (V.ref gp), none, none, none] H2 (RatAt K) (givenA ls.length (fun _ => true) fun i => gain ws ps r (ls.getD i 0)) := ep_lc (R := RatAt K) stay_Rat stayL_Rat ls.length (fun _ => true) (fun i => gain ws ps r (ls.getD i 0)) hT (by omega) (by
      rintro i x H3 e3 hi hx Q k
      unfold lv at hx
      rw [List.getElem?_map, List.getElem?_eq_getElem hi] at hx
      cases hx
      have hlt := ho.lt _ (List.getElem_mem hi)
      have hgd : ls.getD i 0 = ls[i] := by rw [List.getD_eq_getElem?_getD, List.getElem?_eq_getElem hi]; rfl
      refine k _ H3 (Ex.refl _) rfl (fun H3 e3 Q k => k H3 (Ex.refl _)) fun H4 e4 _ => ?_
      have hgx := hg2.imp fun a b r => stay_Rat _ _ _ _ (e3.trans e4) r
      have hxl : xs.length = ws.length := by rw [hg2.len, List.length_map, List.length_range]
      obtain ⟨z, hz1, hz2⟩ := hgx.get (i := ls[i]) (b := gain ws ps r ls[i]) (by rw [List.getElem?_map, List.getElem?_range hlt]; rfl)
      rw [hgd]
      intro H5 e5 Q' k'
      refine (ev_op (ev_var rfl) (ev_var rfl) (rv_ixL (v := z) (sq_of ((e3.trans e4) _ _ hg1)) ?_)) H5 e5 _ fun H6 e6 => k' z H6 e6 (stay_Rat _ _ _ _ (e5.trans e6) hz2)
      unfold atI
      rw [hxl, ixN_nat hlt]
      exact hz1)
    have hSz : ∀ g ∈ givenA ls.length (fun _ => true) (fun i => gain ws ps r (ls.getD i 0)), Rsz 4000 g := by
      intro g hg
      rw [givenA_all] at hg
      obtain ⟨i, hi, rfl⟩ := List.mem_map.mp hg
      have hi := List.mem_range.mp hi
      refine gain_sz hk.w hk.p zr ?_
      rw [List.getD_eq_getElem?_getD, List.getElem?_eq_getElem hi]
      exact ho.lt _ (List.getElem_mem hi)
    refine q_asgP (P := fun v H => OrdR ls.length H v) (fun H3 e3 Q k => hC H3 e3 _ fun op ys H4 e4 hon ho1 ho2 => ?_) fun v' H4 e4' hor => ?_
    · refine ⟨op, ys, _, rfl, ho1, ho2, hSz, by rw [ho2.len]; have := givenA_len ls.length (fun _ => true) (fun i => gain ws ps r (ls.getD i 0)); omega, fun v' H5 e5 hor => k v' H5 (e4.trans e5) ?_⟩
      rw [ho2.len, givenA_all, List.length_map, List.length_range] at hor
      exact hor
    · obtain ⟨ot, os, rfl, hot, hpo⟩ := hor
      have E4 := e1.trans (e2.trans e4')
      have hl4 := (e2.trans e4') _ _ hl
      have hol : os.length = ls.length := by rw [hpo.length_eq, List.length_range]
      have hT2 := ei_tupT (K := K) (et_take (K := K) (σ := [some (V.ref a), some u, some (V.ref l), some (V.ref gp), some (V.ref ot), none, none]) (te := tVar 4) (th := tFld K (tVar 0) "most") (ev_var (v := V.ref ot) rfl) hot (ev_fld (v := .int m) (ev_var (v := V.ref a) rfl) (E4 _ _ ha) T.c_AtMost T.no_AtMost_most rfl) h0)
      rw [lv_len] at hT2
      have hpl : (os.take m.toNat).length ≤ ls.length := by rw [← hol, List.length_take]; exact Nat.min_le_right _ _
      have hC2 : EvQF (tLc (iTup K (tSl (rSlA K) (tVar 4) tNoPart (tPart (tFld K (tVar 0) "most")))) (gName 6) tYes (tCB (fun xs H Q => (∃ i, xs = [V.int i] ∧ Q (V.int i) H) ∨ ∃ k, xs = [V.bl k] ∧ Q (V.int (if k = true then 1 else 0)) H) (tCons (tOp (rIxT K) (tVar 2) (tVar 6)) tNil)) [6]) [some (V.ref a), some u, some (V.ref l), some (V.ref gp), some (V.ref ot), none, none] H4 IsV (givenA (os.take m.toNat).length (fun _ => true) (fun i => V.int ((ls.getD ((os.take m.toNat).getD i 0) 0 : Nat) : Int))) := ep_lc (R := IsV) stay_V stayL_V (os.take m.toNat).length (fun _ => true) (fun i => V.int ((ls.getD ((os.take m.toNat).getD i 0) 0 : Nat) : Int)) hT2 (by omega) (by
        rintro i x H5 e5 hi hx Q k
        unfold lv at hx
        rw [List.getElem?_map, List.getElem?_eq_getElem hi] at hx
        cases hx
        have hgd : (os.take m.toNat).getD i 0 = (os.take m.toNat)[i] := by rw [List.getD_eq_getElem?_getD, List.getElem?_eq_getElem hi]; rfl
        have hlt : (os.take m.toNat)[i] < ls.length := List.mem_range.mp (hpo.subset (List.mem_of_mem_take (List.getElem_mem hi)))
        refine k _ H5 (Ex.refl _) rfl (fun H3 e3 Q k => k H3 (Ex.refl _)) fun H6 e6 _ => Ev.toV ?_
        rw [hgd]
        refine ev_cb (ea_cons (ev_op (z := .int ((ls.getD (os.take m.toNat)[i] 0 : Nat) : Int)) (ev_var rfl) (ev_var rfl) (rv_ixT (st_of ((e5.trans e6) _ _ hl4)) ?_)) ea_nil) fun H7 e7 Q k => .inl ⟨_, rfl, k H7 (Ex.refl _)⟩
        unfold atI lv
        rw [List.length_map, ixN_nat hlt]
        show (ls.map _)[(os.take m.toNat)[i]]? = _
        rw [List.getElem?_map, List.getElem?_eq_getElem hlt, List.getD_eq_getElem?_getD, List.getElem?_eq_getElem hlt]; rfl)
      have e0 : givenA (os.take m.toNat).length (fun _ => true) (fun i => V.int ((ls.getD ((os.take m.toNat).getD i 0) 0 : Nat) : Int)) = (((os.take m.toNat).map fun p => ls.getD p 0).map fun (i : Nat) => (i : Int)).map V.int := by
        rw [givenA_all]
        apply List.ext_getElem
        · simp
        · intro i h1 h2
          have h3 : i < (os.take m.toNat).length := by simpa using h1
          simp [List.getD_eq_getElem?_getD, List.getElem?_eq_getElem h3]
      rw [e0] at hC2
      have hb2 : ∀ x ∈ (os.take m.toNat).map (fun p => ls.getD p 0), x < ws.length := fun x hx => by
        obtain ⟨y, hy, rfl⟩ := List.mem_map.mp hx
        have hy := List.mem_range.mp (hpo.subset (List.mem_of_mem_take hy))
        rw [List.getD_eq_getElem?_getD, List.getElem?_eq_getElem hy]
        exact ho.lt _ (List.getElem_mem hy)
      refine s_retP (ep_tupSorted hC2.toL (by simp only [List.length_map]; omega)) fun v' H5 e5 hv' => ?_
      obtain ⟨t, ns', rfl, ht, hp1, hp2⟩ := hv'
      obtain ⟨fs, hf1, hf2⟩ := lot_sorted hp1 hp2 (picked_nodup ho hpo _) hb2
      exact q _ H5 (E4.trans e5) ⟨t, fs, rfl, by rw [ht, hf1], hf2⟩
end
end K7

/-! K9M: Choice, AtMost made; best. -/
namespace K7
open PySem PySem.Spec PyProof.Rows L2 Evl RZ
theorem eu_tupV {K : PySem.W.Frag} {te : TE} {σ : L2.St} {H : Hp} {l : Addr} {xs : List V} (h : Ev te σ H (.ref l)) (hl : H l = some (.lst xs)) : EvU (tCB (fun xs H Q => ∃ p ys, xs = [V.ref p] ∧ ((SqL K H p ys ∧ ∀ l, H l = none → Q (V.ref l) (upd H l (.tup ys))) ∨ (SqT K H p ys ∧ Q (V.ref p) H))) (tCons te tNil)) σ H xs := fun H1 e1 Q k =>
  h H1 e1 _ fun H2 e2 => ⟨l, _, rfl, .inl ⟨sq_of ((e1.trans e2) _ _ hl), fun p hp => k p _ (fresh_back e2 hp) (e2.trans (Ex.new hp)) upd_same⟩⟩
section
variable {P : Program} {w : World} {K : PySem.W.Frag} {mg : Str → Option Value} {base : Heap} {C : Str} {pk : Addr} {mo : List (Str × V)}
theorem sc_Choice___init__ : FnScope ["self", "rule", "prices"] ["self", "rule", "prices"] (defScope s_Choice___init__) := ⟨rfl, rfl, rfl, by decide +kernel, rfl, by decide +kernel, by decide +kernel⟩
/-- a Choice in the making: rule, prices put -/
def spChI (K : PySem.W.Frag) (C : Str) : Sp := fun vs H Q _ => ∃ (a dx l : Addr) (vr : V) (ws : List Int) (s : Int) (ps : List Int), vs = [.ref a, vr, .ref l] ∧ H a = some (.ins (He.ga K C) dx []) ∧ WtAt K H vr ws s ∧ H l = some (.lst (ps.map V.int)) ∧ ChOk ws s ps ∧
  ∀ tp H', ExB a H H' → H' a = some (.ins (He.ga K C) dx [("rule", vr), ("prices", .ref tp)]) → H' tp = some (.tup (ps.map V.int)) → Q .non H'
theorem ok_ChI (T : TXG fileC fa fx fn P K mg) (hC : ChC K C pk) : FnB P w K mg base 5 (He.ma K (He.ga K "Choice") "__init__") ["self", "rule", "prices"] (spChI K C) := by
  refine fnb T.d_Choice___init__ rfl sc_Choice___init__ (fun vs H Q E h => ?_) (fun _ _ _ _ _ _ us hl => match us, hl with | [_, _, _], _ => rfl) (fun cdv A outer s H vs Q E hr h => ?_)
  · obtain ⟨_, _, _, _, _, _, _, rfl, _⟩ := h
    rfl
  · refine ⟨_, (pss_cons (ps_expr (pe_callR (ok_check_pricesL T).r (hr.mono (by decide)) T.k_check_prices (by rfl) T.g_check_prices passL (pa_cons (pv 2) (pa_cons (pe_fld (pv 1) rfl) pa_nil))))
      (pss_cons (ps_fld (pv 0) (pv 1) rfl)
      (pss_one (ps_fld (pv 0) (pe_callTy call_tuple_of (by rfl) T.n_tuple (by decide +kernel) (pa_cons (pv 2) pa_nil)) rfl)))), ?_⟩
    obtain ⟨a, dx, l, vr, ws, as_, ps, rfl, ha, hw, hl, hk, q⟩ := h
    obtain ⟨b, dy, rfl, tw, hb, htw⟩ := id hw
    have hwl := hk.w.len
    have hpl := hk.p.len
    refine Evl.q_drop (v := .non) (ev_callE (ea_cons (ev_var (v := .ref l) rfl) (ea_cons (ev_fld (ev_var (v := .ref b) rfl) hb T.c_Weighted T.no_Weighted_many rfl) ea_nil)) fun H1 e1 Q k => ⟨l, ps, by rw [hpl], e1 _ _ hl, fun p hp => (hk.p.pos p hp).1, by omega, k⟩) fun H1 e1 => ?_
    refine q_fld (ev_var rfl) (ev_var (v := .ref a) rfl) (e1 _ _ ha) hC.cls hC.rule (by simp) fun H2 e2 => ?_
    have nla : l ≠ a := by rintro rfl; rw [ha] at hl; cases hl
    have hl2 : upd H2 a (.ins (He.ga K C) dx (putF "rule" (.ref b) [])) l = some (.lst (ps.map V.int)) := by rw [upd_ne nla]; exact (e1.trans e2) _ _ hl
    refine s_fldU (xs := ps.map V.int) (eu_tupV (l := l) (ev_var rfl) hl2) (ev_var (v := .ref a) rfl) upd_same hC.cls hC.prices (Nat.lt_of_le_of_lt (putF_len _ _ _) (by simp)) fun tp H3 e3 htp htn => ?_
    have nta : tp ≠ a := by rintro rfl; rw [upd_same] at htn; cases htn
    exact q tp _ (((Ex.b (e1.trans e2)).trans ExB.upd).trans ((Ex.b e3).trans ExB.upd)) upd_same (by rw [upd_ne nta]; exact htp)
theorem scs_AtMost_init : FnScopeS ["self", "rule", "prices", "most", "more"] ((["self", "rule", "prices", "most"] : List Str) ++ (["more"] : List Str)) (defScope s_AtMost___init__) := ⟨rfl, rfl, rfl, by decide +kernel, rfl, by decide +kernel, by decide +kernel, by decide +kernel⟩
def spAI (K : PySem.W.Frag) : Sp := fun vs H Q _ => ∃ (a dx l d : Addr) (vr : V) (m : Int) (ws : List Int) (s : Int) (ps : List Int), vs = [.ref a, vr, .ref l, .int m, .ref d] ∧ H a = some (.ins (He.ga K "AtMost") dx []) ∧ H d = some (.dK []) ∧ WtAt K H vr ws s ∧ H l = some (.lst (ps.map V.int)) ∧ ChOk ws s ps ∧ 0 ≤ m ∧
  ∀ tp H', ExB a H H' → H' a = some (.ins (He.ga K "AtMost") dx [("rule", vr), ("prices", .ref tp), ("most", .int m)]) → H' tp = some (.tup (ps.map V.int)) → Q .non H'
theorem ok_AtMost___init__ (T : TXG fileC fa fx fn P K mg) : FnRK P w K mg base (L2.CX P w) 7 (He.ma K (He.ga K "AtMost") "__init__") ["most"] (fun vs H Q E => vs.length = 4 ∧ ∀ d, H d = none → spAI K (vs ++ [.ref d]) (upd H d (.dK [])) Q E) := by
  obtain ⟨fR, FR, bR⟩ := ok_ChI (w := w) (base := base) T (chA T)
  have hfirst : ∃ ar, ((defArgs d_AtMost___init__.st).posonlyargs ++ (defArgs d_AtMost___init__.st).args).head? = some ar ∧ ar.arg = ("self" : Str) := ⟨_, rfl, rfl⟩
  obtain ⟨ar, har1, har2⟩ := hfirst
  obtain ⟨oc, od, dV, kV, doc, pm, an, cda, ct, osl, cc, occ, v0, h1, h2, h8, h3, h4, B, h7⟩ := supB_of T.s_AtMost___init__ T.file T.sup_AtMost ar har1 har2
  have h8 : dV = .none := by
    rcases h8 with ⟨_, e⟩ | ⟨e, _⟩
    · exact e
    · exact absurd rfl e
  subst h8
  refine fn_superK (k := 6) (ps := ["self", "rule", "prices", "most"]) (pd := "more") (first := (defBody s_AtMost___init__).headD (.Pass ⟨0, 0, 0, 0⟩)) (rest := (defBody s_AtMost___init__).tail) h1 h2 scs_AtMost_init h3 h4 (fun us ws hl hw => by
    match ws, hw with
    | [w1], _ =>
      have h3 : us.length = 3 := by simpa using hl
      match us, h3 with
      | [_, _, _], _ => rfl) fun A outer s H vs Q E hr h => ?_
  have S : SupX (cxS P w K mg base ["self", "rule", "prices", "most", "more"] d_AtMost___init__.qual (defScope d_AtMost___init__.st) (d_AtMost___init__.ad K) (.ref cda) cc A outer s H E) (d_AtMost___init__.ad K) cda cc := by
    refine ⟨rfl, rfl, rfl, rfl, ?_, rfl, rfl, T.sup, T.n_super⟩
    have : (cellsFrom (s.heap.objs.size + 1) (defScope d_AtMost___init__.st).names []).lookup ("__class__" : Str) = none := look_none fun v hm => scs_AtMost_init.ncl _ (cells_names _ _ hm) rfl rfl
    exact (look_app0 (m := [(("__class__" : Str), cc)]) this).trans rfl
  refine ⟨_, _, psat_expr (peat_superK (E := E0) (j := 4) ⟨B, T.supK_AtMost___init__.1, T.supK_AtMost___init__.2.1, T.supK_AtMost___init__.2.2⟩ S FR bR (hr.mono (by decide)) passL (pa_cons (pv 1) (pa_cons (pv 2) pa_nil)) rfl rfl), (pss_cons (ps_if (pt_cmpR op_lt (pv 3) pe_int (nomark _)) (pss_one ps_dead) pss_nil)
      (pss_one (ps_fld (pv 0) (pv 3) rfl))), ?_⟩
  obtain ⟨a, dx, l, d, vr, m, ws, as_, ps, rfl, ha, hd, hw, hl, hk, h0, q⟩ := h
  have nda : d ≠ a := by rintro rfl; rw [ha] at hd; cases hd
  refine ⟨a, dx, _, d, rfl, ha, rfl, _, rfl, _, rfl, hd, a, dx, l, vr, ws, as_, ps, rfl, ha, hw, hl, hk, fun tp H1 e1 h1 h2 => ?_⟩
  have nta : tp ≠ a := by rintro rfl; rw [h1] at h2; cases h2
  dsimp only
  refine Evl.q_when (b := false) (et_is (et_B (ev_op (ev_var rfl) ev_c rv_I0)) (decide_eq_false (by omega))) (fun h => by cases h) fun _ H2 e2 => ?_
  refine s_fld (ev_var rfl) (ev_var (v := .ref a) rfl) (e2 _ _ h1) T.c_AtMost T.no_AtMost_most (by simp) fun H3 e3 => ?_
  exact q tp _ ((e1.trans (Ex.b (e2.trans e3))).trans ExB.upd) upd_same (by rw [upd_ne nta]; exact (e2.trans e3) _ _ h2)
theorem sc_Choice_best : FnScope ["self", "found", "rate", "lot"] ["self"] (defScope s_Choice_best) := ⟨rfl, rfl, rfl, by decide +kernel, rfl, by decide +kernel, by decide +kernel⟩
/-- a lot and its worth -/
def BestR (K : PySem.W.Frag) (n : Nat) (H : Hp) (v : V) : Prop := ∃ t l q, v = .ref t ∧ H t = some (.tup [l, q]) ∧ ZC K n q l H
def spBest (K : PySem.W.Frag) (C : Str) (mo : List (Str × V)) (n : Nat) : Sp := fun vs H Q _ => ∃ (v : V) (ws : List Int) (s : Int) (ps : List Int), vs = [v] ∧ ChAt K C mo H v ws s ps ∧ ChOk ws s ps ∧ ws.length = n ∧ ∀ v' H', Ex H H' → BestR K n H' v' → Q v' H'
theorem ok_best (T : TXG fileC fa fx fn P K mg) (hC : ChC K C pk) (hm : MoOk mo) (n : Nat) (okP : FnB P w K mg base 9 pk ["self", "rate"] (spPick K C mo)) : FnB P w K mg base 13 (He.ma K (He.ga K "Choice") "best") ["self"] (spBest K C mo n) := by
  obtain ⟨fG, FG, bG⟩ := ok_climb (w := w) (base := base) T hC hm n okP
  refine fnb T.d_Choice_best rfl sc_Choice_best (fun vs H Q E h => ?_) (fun _ _ _ _ _ _ us hl => match us, hl with | [_], _ => rfl) (fun cdv A outer s H vs Q E hr h => ?_)
  · obtain ⟨_, _, _, _, rfl, _⟩ := h
    rfl
  · refine ⟨_, pss_cons (ps_set (i := 1) sc_Choice_best.nd rfl (Or.inl rfl) (pe_tup (pa_cons (pe_tup pa_nil) (pa_cons (StX.pe_makeR T.mk_Ratio (ok_RI1 T) (hr.mono (by decide)) (by rfl) T.g_Ratio (E := E0) passL (pa_cons pe_int pa_nil)) pa_nil))))
      (pss_cons (ps_forG (ir := 2) (il := 3) (jf := 1) rfl rfl rfl (pv 0) hC.cls hC.climb FG (hr.mono (by decide)) bG (fun q l H H' h e => h.ex e) sc_Choice_best.nd rfl rfl rfl rfl rfl rfl (by decide) (by decide) (by decide)) (pss_one (ps_ret (pv 1)))), ?_⟩
    obtain ⟨v, ws, as_, ps, rfl, hv, hk, hn, q⟩ := h
    obtain ⟨a, dx, vr, tp, rfl, ha, hb, htp⟩ := id hv
    have hnc := mo_look (a := vr) (b := .ref tp) hm (show (("climb" : Str) == ("rule" : Str)) = false by decide) (by decide) (by decide)
    refine q_asgP (P := fun v H => BestR K n H v) (fun H1 e1 Q k => ?_) fun f H1 e1 hf => ?_
    · refine ⟨by decide, fun p hp => ?_⟩
      refine (mk_rat1 (K := K) (ea_cons ev_c ea_nil)) _ (Ex.refl _) _ fun z H2 e2 hz => ⟨sz_of (by simp), fun t ht => k _ _ ((Ex.new hp).trans (e2.trans (Ex.new ht))) ⟨t, _, _, rfl, upd_same, ZC.ex ⟨⟨_, hz, rsz_norm (by omega) (Nat.pow_pos (by omega)) (Nat.one_lt_two_pow (by omega))⟩, p, [], rfl, e2 _ _ upd_same, ⟨List.Pairwise.nil, fun x hx => by cases hx⟩⟩ (Ex.new ht)⟩⟩
    · refine ⟨_, rfl, a, dx, _, _, rfl, e1 _ _ ha, hnc, ⟨_, ws, as_, ps, rfl, hv.ex e1, hk, hn, rfl⟩, fun σ' H2 e2 hlen hs hfn => ?_⟩
      have h0 := hs 0 (by decide) (by decide) (by decide)
      rcases hfn with hfn | ⟨t, qq, l, hfn, ht, hz⟩
      · refine ⟨f, by rw [hfn]; rfl, ?_⟩
        obtain ⟨t, l, qq, rfl, ht, hz⟩ := hf
        exact q _ _ (e1.trans e2) ⟨t, l, qq, rfl, e2 _ _ ht, hz.ex e2⟩
      · exact ⟨_, hfn, q _ _ (e1.trans e2) ⟨t, l, qq, rfl, ht, hz⟩⟩
end
end K7

/-! K9N: rows; best_of. -/
namespace K7
open PySem PySem.Spec PyProof.Rows L2 Evl RZ
/-- a row: name, price, weight -/
abbrev Row : Type := Str × Int × Int
def PairAt (H : Hp) (v : V) (p w : Int) : Prop := ∃ t, v = .ref t ∧ H t = some (.tup [.int p, .int w])
def RowsD (H : Hp) (kvs : List (Key × V)) (rows : List Row) : Prop := All2 (fun (kv : Key × V) (r : Row) => kv.1 = .inr r.1 ∧ PairAt H kv.2 r.2.1 r.2.2) kvs rows
theorem RowsD.ex {H H' : Hp} {kvs : List (Key × V)} {rows : List Row} (h : RowsD H kvs rows) (e : Ex H H') : RowsD H' kvs rows := h.imp fun a b ⟨h1, t, h2, h3⟩ => ⟨h1, t, h2, e _ _ h3⟩
/-- rows of a desk -/
structure RowsOk (rows : List Row) : Prop where
  len : rows.length ≤ 24
  nd : (rows.map (·.1)).Nodup
  pr : ∀ r ∈ rows, 0 ≤ r.2.1 ∧ r.2.1 < 2 ^ 60
  wt : ∀ r ∈ rows, 1 ≤ r.2.2 ∧ r.2.2 < 2 ^ 60
  nm : ∀ r ∈ rows, nmOk r.1 = true
/-- names that a desk shows -/
def NsOk (ns : List Str) : Prop := ns.length ≤ 24 ∧ ∀ x ∈ ns, nmOk x = true
theorem RowsD.keys {H : Hp} : ∀ {kvs : List (Key × V)} {rows : List Row}, RowsD H kvs rows → kvs.map (fun kv => kV kv.1) = rows.map fun r => V.str r.1
  | [], _, .nil => rfl
  | kv :: kvs, r :: rows, .cons ⟨h1, _⟩ t => by
    rw [List.map_cons, List.map_cons, h1, RowsD.keys t]
    rfl
theorem RowsD.at_ {H : Hp} : ∀ {kvs : List (Key × V)} {rows : List Row} {i : Nat} {r : Row}, RowsD H kvs rows → (rows.map (·.1)).Nodup → rows[i]? = some r → ∃ v, valV kvs (.inr r.1) = some v ∧ PairAt H v r.2.1 r.2.2
  | _, _, _, _, .nil, _, e => by simp at e
  | kv :: kvs, r0 :: rows, 0, r, .cons ⟨h1, h2⟩ t, _, e => by
    simp at e
    subst e
    exact ⟨kv.2, valV_pos h1, h2⟩
  | kv :: kvs, r0 :: rows, i + 1, r, .cons ⟨h1, h2⟩ t, hn, e => by
    have e2 : rows[i]? = some r := by simpa using e
    have hn2 := List.nodup_cons.mp hn
    obtain ⟨v, h3, h4⟩ := RowsD.at_ t hn2.2 e2
    refine ⟨v, ?_, h4⟩
    rw [valV_neg]
    · exact h3
    · rw [h1]
      intro e3
      have e4 : r0.1 = r.1 := Sum.inr.inj e3
      exact hn2.1 (List.mem_map.mpr ⟨r, List.mem_of_getElem? e2, e4.symm⟩)
section
variable {P : Program} {w : World} {K : PySem.W.Frag} {mg : Str → Option Value} {base : Heap}
theorem sc_best_of : FnScope ["rows", "aside", "cap", "names", "rule", "prices", "choice", "lot", "worth", "name", "thing"] ["rows", "aside", "cap"] (defScope s_best_of) := ⟨rfl, rfl, rfl, by decide +kernel, rfl, by decide +kernel, by decide +kernel⟩
/-- the limit of a desk -/
def capV : Option Int → V
  | none => .non
  | some m => .int m
/-- what a desk shows -/
def LookR (K : PySem.W.Frag) (H0 H : Hp) (v : V) : Prop := ∃ t l q ns r, H0 l = none ∧ v = .ref t ∧ H t = some (.tup [.ref l, q]) ∧ H l = some (.lst (List.map V.str ns)) ∧ RatAt K H q r ∧ 1 ≤ r.2 ∧ NsOk ns
structure DkOk (rows : List Row) (s : Int) (cap : Option Int) : Prop where
  r : RowsOk rows
  s1 : 1 ≤ s
  s2 : s < 2 ^ 60
  c : ∀ m, cap = some m → 0 ≤ m ∧ m < 2 ^ 60
def spBestOf (K : PySem.W.Frag) : Sp := fun vs H Q _ => ∃ (d : Addr) (kvs : List (Key × V)) (rows : List Row) (s : Int) (cap : Option Int), vs = [.ref d, .int s, capV cap] ∧ Rd H d (.dK kvs) ∧ RowsD H kvs rows ∧ DkOk rows s cap ∧ ∀ v H', Ex H H' → LookR K H H' v → Q v H'
theorem ExB.refl (a : Addr) (H : Hp) : ExB a H H := fun _ _ _ h => h
theorem comp_rows {H : Hp} {d l : Addr} {kvs : List (Key × V)} {rows : List Row} {a1 a2 a4 a5 a6 a7 a8 : Option V} {j : Nat} {f : Row → Int} (hj : j < 2) (hf : ∀ r : Row, ([r.2.1, r.2.2] : List Int)[j]? = some (f r)) (hd : Rd H d (.dK kvs)) (hr : RowsD H kvs rows) (hk : RowsOk rows) (hl : H l = some (.lst (rows.map fun r => V.str r.1))) :
    EvL (tLc (iList K (tVar 3)) (gName 9) tYes (tOp (rIxT K) (tDGet (tVar 0) (tVar 9)) (tC (.int (j : Int)))) [9]) [some (.ref d), a1, a2, some (.ref l), a4, a5, a6, a7, a8, none, none] H ((rows.map f).map V.int) := by
  have hI := ei_list (K := K) (te := tVar 3) (σ := [some (V.ref d), a1, a2, some (V.ref l), a4, a5, a6, a7, a8, none, none]) (ev_var (v := V.ref l) rfl) hl
  rw [List.length_map] at hI
  have h := (ep_lc (g := gName 9) (tt := tYes) (te := tOp (rIxT K) (tDGet (tVar 0) (tVar 9)) (tC (.int (j : Int)))) (vs := [9]) (R := IsV) stay_V stayL_V rows.length (fun _ => true) (fun i => V.int (f (rows.getD i ("", 0, 0)))) hI (by have := hk.len; omega) (by
    rintro i x H1 e1 hi hx Q k
    rw [List.getElem?_map, List.getElem?_eq_getElem hi] at hx
    cases hx
    obtain ⟨v, h1, t, rfl, h2⟩ := (hr.ex e1).at_ hk.nd (List.getElem?_eq_getElem hi)
    refine k _ H1 (Ex.refl _) rfl (fun H3 e3 Q k => k H3 (Ex.refl _)) fun H3 e3 _ => Ev.toV fun H4 e4 Q k => ?_
    have hg : rows.getD i ("", 0, 0) = rows[i] := by rw [List.getD_eq_getElem?_getD, List.getElem?_eq_getElem hi]; rfl
    rw [hg] at k
    refine ⟨_, rfl, _, rfl, d, _, rfl, .inl ⟨kvs, .inr rows[i].1, ex_rd ((e1.trans e3).trans e4) hd, rfl, h1.symm⟩, t, [.int rows[i].2.1, .int rows[i].2.2], _, .int (f rows[i]), rfl, rfl, st_of ((e3.trans e4) _ _ h2), ?_, k H4 (Ex.refl _)⟩
    unfold atI
    rw [show ([V.int rows[i].2.1, V.int rows[i].2.2] : List V).length = 2 from rfl, ixN_nat hj]
    have := hf rows[i]
    show ([V.int rows[i].2.1, V.int rows[i].2.2] : List V)[j]? = _
    rw [show ([V.int rows[i].2.1, V.int rows[i].2.2] : List V) = ([rows[i].2.1, rows[i].2.2] : List Int).map V.int from rfl, List.getElem?_map, this]
    rfl)).toL
  have e : givenA rows.length (fun _ => true) (fun i => V.int (f (rows.getD i ("", 0, 0)))) = (rows.map f).map V.int := by
    rw [givenA_all]
    apply List.ext_getElem
    · simp
    · intro i h1 h2
      have h3 : i < rows.length := by simpa using h1
      simp [List.getD_eq_getElem?_getD, List.getElem?_eq_getElem h3]
  rw [e] at h
  exact h
/-- the last line: the names of the lot -/
theorem comp_names {H : Hp} {l lt : Addr} {rows : List Row} {ls : List Nat} {a0 a1 a2 a4 a5 a6 a8 : Option V} (ho : LotOk rows.length ls) (hk : RowsOk rows) (hl : H l = some (.lst (rows.map fun r => V.str r.1))) (ht : H lt = some (.tup (lv ls))) :
    EvL (tLc (iTup K (tVar 7)) (gName 10) tYes (tOp (rIxL K) (tVar 3) (tVar 10)) [10]) [a0, a1, a2, some (.ref l), a4, a5, a6, some (.ref lt), a8, none, none] H ((ls.map fun i => (rows.getD i ("", 0, 0)).1).map V.str) := by
  have hI := ei_tup (K := K) (te := tVar 7) (σ := [a0, a1, a2, some (V.ref l), a4, a5, a6, some (V.ref lt), a8, none, none]) (ev_var (v := V.ref lt) rfl) ht
  rw [lv_len] at hI
  have hle := ho.le
  have h := (ep_lc (g := gName 10) (tt := tYes) (te := tOp (rIxL K) (tVar 3) (tVar 10)) (vs := [10]) (R := IsV) stay_V stayL_V ls.length (fun _ => true) (fun i => V.str (rows.getD (ls.getD i 0) ("", 0, 0)).1) hI (by have := hk.len; omega) (by
    rintro i x H1 e1 hi hx Q k
    unfold lv at hx
    rw [List.getElem?_map, List.getElem?_eq_getElem hi] at hx
    cases hx
    have hlt := ho.lt _ (List.getElem_mem hi)
    refine k _ H1 (Ex.refl _) rfl (fun H3 e3 Q k => k H3 (Ex.refl _)) fun H3 e3 _ => Ev.toV (ev_op (ev_var rfl) (ev_var rfl) (rv_ixL (sq_of ((e1.trans e3) _ _ hl)) ?_))
    unfold atI
    rw [List.length_map, ixN_nat hlt]
    show (rows.map _)[ls[i]]? = _
    rw [List.getElem?_map, List.getElem?_eq_getElem hlt]
    have h1 : ls.getD i 0 = ls[i] := by rw [List.getD_eq_getElem?_getD, List.getElem?_eq_getElem hi]; rfl
    rw [h1, List.getD_eq_getElem?_getD, List.getElem?_eq_getElem hlt]
    rfl)).toL
  have e : givenA ls.length (fun _ => true) (fun i => V.str (rows.getD (ls.getD i 0) ("", 0, 0)).1) = (ls.map fun i => (rows.getD i ("", 0, 0)).1).map V.str := by
    rw [givenA_all]
    apply List.ext_getElem
    · simp
    · intro i h1 h2
      have h3 : i < ls.length := by simpa using h1
      simp [List.getD_eq_getElem?_getD, List.getElem?_eq_getElem h3]
  rw [e] at h
  exact h
theorem el_listD {te : TE} {σ : L2.St} {H : Hp} {d : Addr} {kvs : List (Key × V)} (h : Ev te σ H (.ref d)) (hd : Rd H d (.dK kvs)) : EvL (tCB (fun xs H Q => ∃ a kvs, xs = [V.ref a] ∧ Rd H a (.dK kvs) ∧ ∀ p, H p = none → Q (.ref p) (upd H p (.lst (kvs.map fun kv => kV kv.1)))) (tCons te tNil)) σ H (kvs.map fun kv => kV kv.1) := fun H1 e1 Q k =>
  h H1 e1 _ fun H2 e2 => ⟨d, kvs, rfl, ex_rd (e1.trans e2) hd, fun p hp => k p _ (fresh_back e2 hp) (e2.trans (Ex.new hp)) upd_same⟩
theorem mk_Wt {σ : L2.St} {H : Hp} {te t2 : TE} {ws : List Int} {s : Int} {E : XK} (h : EvL te σ H (ws.map V.int)) (h2 : Ev t2 σ H (.int s)) (hk : WsOk ws s) : EvPr (StX.tMakeR (He.ga K "Weighted") (spWI K) E (tCons te (tCons t2 tNil))) σ H (fun v H => WtAt K H v ws s) := fun H1 e1 Q k =>
  h H1 e1 _ fun p H2 hn e2 hp => h2 H2 (e1.trans e2) _ fun H3 e3 => fun x dx hx hdx hne => ⟨x, dx, p, ws, s, rfl, upd_same, (by
    have hp3 := e3 _ _ hp
    have n1 : p ≠ x := by rintro rfl; rw [hx] at hp3; cases hp3
    have n2 : p ≠ dx := by rintro rfl; rw [hdx] at hp3; cases hp3
    rw [upd_ne n1, upd_ne n2]
    exact hp3), hk, fun H4 e4 h4 => ⟨rfl, k _ H4 ((e2.trans e3).trans (e4.exU hx hdx)) ⟨x, dx, rfl, h4⟩⟩⟩
theorem mk_Ch {σ : L2.St} {H : Hp} {te t2 : TE} {l : Addr} {wv : V} {ws ps : List Int} {s : Int} {E : XK} (h : Ev te σ H wv) (hw : WtAt K H wv ws s) (h2 : Ev t2 σ H (.ref l)) (hl : H l = some (.lst (ps.map V.int))) (hk : ChOk ws s ps) : EvPr (StX.tMakeR (He.ga K "Choice") (spChI K "Choice") E (tCons te (tCons t2 tNil))) σ H (fun v H => ChAt K "Choice" [] H v ws s ps) := fun H1 e1 Q k =>
  h H1 e1 _ fun H2 e2 => h2 H2 (e1.trans e2) _ fun H3 e3 => fun x dx hx hdx hne => by
    have E3 := e1.trans (e2.trans e3)
    have eU : Ex H3 (upd (upd H3 dx (.own x)) x (.ins (He.ga K "Choice") dx [])) := (ExB.refl x _).exU hx hdx
    exact ⟨x, dx, l, wv, ws, s, ps, rfl, upd_same, hw.ex (E3.trans eU), (E3.trans eU) _ _ hl, hk, fun tp H4 e4 h4 h5 => ⟨rfl, k _ H4 ((e2.trans e3).trans (e4.exU hx hdx)) ⟨x, dx, wv, tp, rfl, h4, hw.ex (E3.trans (e4.exU hx hdx)), h5⟩⟩⟩
theorem mk_At {σ : L2.St} {H : Hp} {te t2 t3 : TE} {l : Addr} {wv : V} {ws ps : List Int} {s m : Int} {E : XK} (h : Ev te σ H wv) (hw : WtAt K H wv ws s) (h2 : Ev t2 σ H (.ref l)) (hl : H l = some (.lst (ps.map V.int))) (h3 : Ev t3 σ H (.int m)) (h0 : 0 ≤ m) (hk : ChOk ws s ps) : EvPr (tMakeRK (He.ga K "AtMost") 1 (fun vs H Q E => vs.length = 4 ∧ ∀ d, H d = none → spAI K (vs ++ [.ref d]) (upd H d (.dK [])) Q E) E (tCons te (tCons t2 tNil)) (tCons t3 tNil)) σ H (fun v H => ChAt K "AtMost" (moM m) H v ws s ps) := fun H1 e1 Q k =>
  h H1 e1 _ fun H2 e2 => h2 H2 (e1.trans e2) _ fun H3 e3 => h3 H3 ((e1.trans e2).trans e3) _ fun H4 e4 => ⟨rfl, fun x dx hx hdx hne => ⟨rfl, fun d hd => by
    have E4 := (e1.trans (e2.trans e3)).trans e4
    have eU : Ex H4 (upd (upd H4 dx (.own x)) x (.ins (He.ga K "AtMost") dx [])) := (ExB.refl x _).exU hx hdx
    have ndx : d ≠ x := by rintro rfl; rw [upd_same] at hd; cases hd
    have eD := eU.trans (Ex.new (o := .dK []) hd)
    refine ⟨x, dx, l, d, wv, m, ws, s, ps, rfl, ?_, upd_same, hw.ex (E4.trans eD), (E4.trans eD) _ _ hl, hk, h0, fun tp H5 e5 h5 h6 => ?_⟩
    · rw [upd_ne (Ne.symm ndx), upd_same]
    · have e7 : Ex H4 H5 := fun b o hb => by
        have n1 : b ≠ x := by rintro rfl; rw [hx] at hb; cases hb
        exact e5 b o n1 (eD _ _ hb)
      exact ⟨rfl, k _ H5 (((e2.trans e3).trans e4).trans e7) ⟨x, dx, wv, tp, rfl, h5, hw.ex (E4.trans e7), h6⟩⟩⟩⟩
theorem ep_if {t : TT} {ta tb : TE} {σ : L2.St} {H : Hp} {b : Bool} {P : V → Hp → Prop} (h : EvT t σ H b) (h1 : b = true → EvPr ta σ H P) (h2 : b = false → EvPr tb σ H P) : EvPr (tIf t ta tb) σ H P := fun H1 e Q q => h H1 e _ fun H2 e2 => by
  cases b with
  | true => exact h1 rfl H2 (e.trans e2) Q fun v H3 e3 => q v H3 (e2.trans e3)
  | false => exact h2 rfl H2 (e.trans e2) Q fun v H3 e3 => q v H3 (e2.trans e3)
theorem ep_tup2L {te t2 : TE} {σ : L2.St} {H : Hp} {xs : List V} {v : V} (h : EvL te σ H xs) (h2 : Ev t2 σ H v) : EvPr (tTup (tCons te (tCons t2 tNil))) σ H (fun w H' => ∃ t p, H p = none ∧ w = .ref t ∧ H' t = some (.tup [.ref p, v]) ∧ H' p = some (.lst xs)) := fun H1 e1 Q k =>
  h H1 e1 _ fun p H2 hn e2 hp => h2 H2 (e1.trans e2) _ fun H3 e3 => ⟨sz_of (by simp), fun t ht => k _ _ ((e2.trans e3).trans (Ex.new ht)) ⟨t, p, fresh_back e1 hn, rfl, upd_same, (e3.trans (Ex.new ht)) _ _ hp⟩⟩
/-- lot, worth = choice.best(), the return -/
theorem fin_best {C : Str} {mo : List (Str × V)} {H : Hp} {ov cv : V} {d l : Addr} {as_ : Int} {x4 x5 : V} {rows : List Row} {ws ps : List Int} {s : Int} {D : Ends} (hcv : ChAt K C mo H cv ws s ps) (hm : MoOk mo) (hk : ChOk ws s ps) (hn : ws.length = rows.length) (hr : RowsOk rows) (hl : H l = some (.lst (rows.map fun r => V.str r.1)))
    (k : ∀ v H', Ex H H' → LookR K H H' v → D.rt v H') :
    tSeq (tAsg (tMethR0 (He.ga K C) "best" (spBest K C mo rows.length) E0 (tVar 6)) (gTup K 2 (gCons (gName 7) (gCons (gName 8) gNil))))
      (tRet (tTup (tCons (tLc (iTup K (tVar 7)) (gName 10) tYes (tOp (rIxL K) (tVar 3) (tVar 10)) [10]) (tCons (tVar 8) tNil)))) D [some (.ref d), some (.int as_), some ov, some (.ref l), some x4, some x5, some cv, none, none, none, none] H := by
  obtain ⟨a, dx, vr, tp, rfl, ha, hb, htp⟩ := id hcv
  have hnb := mo_look (a := vr) (b := .ref tp) hm (show (("best" : Str) == ("rule" : Str)) = false by decide) (by decide) (by decide)
  refine ⟨_, rfl, a, dx, _, rfl, ha, hnb, _, ws, s, ps, rfl, hcv, hk, hn, fun v H1 e1 hv => ?_⟩
  obtain ⟨t, lt, qv, rfl, ht, ⟨r, hr1, hr2⟩, la, ls, rfl, hla, ho⟩ := hv
  refine ⟨t, _, rfl, st_of ht, rfl, ⟨_, _, rfl, ⟨_, _, rfl, rfl, ?_⟩⟩⟩
  have hx := comp_names (K := K) (l := l) (lt := la) (rows := rows) (a0 := some (.ref d)) (a1 := some (.int as_)) (a2 := some ov) (a4 := some x4) (a5 := some x5) (a6 := some (.ref a)) (a8 := some qv) ho hr (e1 _ _ hl) hla
  dsimp only
  refine s_retP (ep_tup2L (v := qv) hx (ev_var rfl)) fun v H2 e2 hv => ?_
  obtain ⟨z, p, hpn, rfl, hz, hp⟩ := hv
  refine k _ H2 (e1.trans e2) ⟨z, p, qv, _, r, fresh_back e1 hpn, rfl, hz, hp, stay_Rat _ _ _ _ e2 hr1, hr2.pos, ?_, fun x hx => ?_⟩
  · rw [List.length_map]
    have := ho.le
    have := hr.len
    omega
  · obtain ⟨i, hi, rfl⟩ := List.mem_map.mp hx
    have hlt := ho.lt i hi
    rw [List.getD_eq_getElem?_getD, List.getElem?_eq_getElem hlt]
    exact hr.nm _ (List.getElem_mem hlt)
theorem DkOk.ch {rows : List Row} {s : Int} {cap : Option Int} (h : DkOk rows s cap) : ChOk (rows.map (·.2.2)) s (rows.map (·.2.1)) :=
  ⟨⟨by rw [List.length_map]; exact h.r.len, fun x hx => by obtain ⟨r, hr, rfl⟩ := List.mem_map.mp hx; exact h.r.wt r hr, h.s1, h.s2⟩, ⟨by rw [List.length_map, List.length_map], fun x hx => by obtain ⟨r, hr, rfl⟩ := List.mem_map.mp hx; exact h.r.pr r hr⟩⟩
theorem ok_best_of (T : TXG fileC fa fx fn P K mg) : FnB P w K mg base 15 (He.ga K "best_of") ["rows", "aside", "cap"] (spBestOf K) := by
  refine fnb T.d_best_of rfl sc_best_of (fun vs H Q E h => ?_) (fun _ _ _ _ _ _ us hl => match us, hl with | [_, _, _], _ => rfl) (fun cdv A outer s H vs Q E hr h => ?_)
  · obtain ⟨_, _, _, _, _, rfl, _⟩ := h
    rfl
  · have hu := hu_of hr
    obtain ⟨d, kvs, rows, as_, cap, rfl, hd, hrw, hk, q⟩ := h
    cases cap with
    | none =>
      refine ⟨_, (pss_cons (ps_set (i := 3) sc_best_of.nd rfl (Or.inr rfl) (pe_callTy (call_listD rfl) (by rfl) T.n_list (by decide +kernel) (pa_cons (pv 0) pa_nil)))
      (pss_cons (ps_set (i := 4) sc_best_of.nd rfl (Or.inl rfl) (StX.pe_makeR T.mk_Weighted (ok_Weighted___init__ T).r (hr.mono (by decide)) (by rfl) T.g_Weighted passL (pa_cons (pe_lc (own := [("name", 9)]) rfl sc_best_of.nd (pi_list (pv 3)) (blkOk_by (own := [("name", 9)]) (N := ["rows", "aside", "cap", "names", "rule", "prices", "choice", "lot", "worth", "name", "thing"]) (sc := defScope s_best_of) (by decide +kernel)) (fun _ _ _ _ _ => (pg_name (i := 9) sc_best_of.nd rfl (Or.inl rfl))) (fun _ _ _ _ _ => pts_nil) (fun _ _ _ _ _ => (pe_ix (r := rIxT K) ix_tup (pe_dget hu (pv 0) (pv 9) (fun _ _ => rfl)) pe_int (fun _ _ => rfl)))) (pa_cons (pv 1) pa_nil))))
      (pss_cons (ps_setLc (i := 5) (own := [("name", 9)]) rfl sc_best_of.nd rfl rfl (sw_true rfl rfl rfl (by decide +kernel)) (pi_list (pv 3)) (blkOk_by (own := [("name", 9)]) (N := ["rows", "aside", "cap", "names", "rule", "prices", "choice", "lot", "worth", "name", "thing"]) (sc := defScope s_best_of) (by decide +kernel)) (fun _ _ _ _ _ => (pg_name (i := 9) sc_best_of.nd rfl (Or.inl rfl))) (fun _ _ _ _ _ => pts_nil) (fun _ _ _ _ _ => (pe_ix (r := rIxT K) ix_tup (pe_dget hu (pv 0) (pv 9) (fun _ _ => rfl)) pe_int (fun _ _ => rfl))))
      (pss_cons (ps_set (i := 6) sc_best_of.nd rfl (Or.inl rfl) (pe_ifExp (pt_cmpR op_isN (pv 2) pe_non (nomark _)) (StX.pe_makeR T.mk_Choice (ok_ChI T (chC T)).r (hr.mono (by decide)) (by rfl) T.g_Choice passL (pa_cons (pv 4) (pa_cons (pv 5) pa_nil))) (pe_makeRK T.mk_AtMost (ok_AtMost___init__ T) (hr.mono (by decide)) (by rfl) T.g_AtMost passL (pa_cons (pv 4) (pa_cons (pv 5) pa_nil)) (pk_cons (pv 2) pk_nil))))
      (pss_cons (ps_asg (pe_methR0 (pv 6) T.c_Choice T.me_Choice_best (ok_best T (chC T) (.inl rfl) rows.length ((ok_Choice_pick T (chC T) (.inl rfl)).mono (by decide))).r (hr.mono (by decide)) passL) (pg_tup rfl (pgs_cons (pg_name (i := 7) sc_best_of.nd rfl (Or.inl rfl)) (pgs_cons (pg_name (i := 8) sc_best_of.nd rfl (Or.inl rfl)) pgs_nil))))
      (pss_one (ps_ret (pe_tup (pa_cons (pe_lc (own := [("thing", 10)]) rfl sc_best_of.nd (pi_tup (pv 7)) (blkOk_by (own := [("thing", 10)]) (N := ["rows", "aside", "cap", "names", "rule", "prices", "choice", "lot", "worth", "name", "thing"]) (sc := defScope s_best_of) (by decide +kernel)) (fun _ _ _ _ _ => (pg_name (i := 10) sc_best_of.nd rfl (Or.inl rfl))) (fun _ _ _ _ _ => pts_nil) (fun _ _ _ _ _ => (pe_ix (r := rIxL K) ix_list (pv 3) (pv 10) (fun _ _ => rfl)))) (pa_cons (pv 8) pa_nil)))))))))), ?_⟩
      have hwl : (rows.map (·.2.2)).length = rows.length := List.length_map _
      have hnm := el_listD (te := tVar 0) (σ := [some (V.ref d), some (V.int as_), some V.non, none, none, none, none, none, none, none, none]) (ev_var (v := V.ref d) rfl) hd
      rw [hrw.keys] at hnm
      refine Evl.q_asgL hnm fun l H1 hln e1 hl => ?_
      have hd1 := ex_rd e1 hd
      have hw1 := hrw.ex e1
      refine q_asgP (mk_Wt (comp_rows (j := 1) (f := fun r => r.2.2) (by decide) (fun r => rfl) hd1 hw1 hk.r hl) (ev_var rfl) hk.ch.w) fun wv H2 e2 hwt => ?_
      have hd2 := ex_rd e2 hd1
      have hw2 := hw1.ex e2
      have hl2 := e2 _ _ hl
      refine Evl.q_asgL (comp_rows (j := 0) (f := fun r => r.2.1) (by decide) (fun r => rfl) hd2 hw2 hk.r hl2) fun pl H3 hpn e3 hpl => ?_
      have hwt3 := hwt.ex e3
      have E3 := e1.trans (e2.trans e3)
      have hl3 := (e2.trans e3) _ _ hl
      refine q_asgP (ep_if (b := true) (et_is (et_test (ev_op (ev_var (v := capV none) rfl) ev_c (rv_val fun H1 e1 Q k => ⟨rfl, k⟩))) rfl) (fun _ => mk_Ch (ev_var rfl) hwt3 (ev_var rfl) hpl hk.ch) (fun h => by cases h)) fun cv H4 e4 hcv => ?_
      refine fin_best (C := "Choice") (ov := capV none) hcv (.inl rfl) hk.ch hwl hk.r (e4 _ _ hl3) fun v H5 e5 hv => q v H5 ((E3.trans e4).trans e5) (by
        obtain ⟨t, l, qv, ns, r, h1, h2⟩ := hv
        exact ⟨t, l, qv, ns, r, fresh_back (E3.trans e4) h1, h2⟩)
    | some m =>
      have hm := hk.c m rfl
      refine ⟨_, (pss_cons (ps_set (i := 3) sc_best_of.nd rfl (Or.inr rfl) (pe_callTy (call_listD rfl) (by rfl) T.n_list (by decide +kernel) (pa_cons (pv 0) pa_nil)))
      (pss_cons (ps_set (i := 4) sc_best_of.nd rfl (Or.inl rfl) (StX.pe_makeR T.mk_Weighted (ok_Weighted___init__ T).r (hr.mono (by decide)) (by rfl) T.g_Weighted passL (pa_cons (pe_lc (own := [("name", 9)]) rfl sc_best_of.nd (pi_list (pv 3)) (blkOk_by (own := [("name", 9)]) (N := ["rows", "aside", "cap", "names", "rule", "prices", "choice", "lot", "worth", "name", "thing"]) (sc := defScope s_best_of) (by decide +kernel)) (fun _ _ _ _ _ => (pg_name (i := 9) sc_best_of.nd rfl (Or.inl rfl))) (fun _ _ _ _ _ => pts_nil) (fun _ _ _ _ _ => (pe_ix (r := rIxT K) ix_tup (pe_dget hu (pv 0) (pv 9) (fun _ _ => rfl)) pe_int (fun _ _ => rfl)))) (pa_cons (pv 1) pa_nil))))
      (pss_cons (ps_setLc (i := 5) (own := [("name", 9)]) rfl sc_best_of.nd rfl rfl (sw_true rfl rfl rfl (by decide +kernel)) (pi_list (pv 3)) (blkOk_by (own := [("name", 9)]) (N := ["rows", "aside", "cap", "names", "rule", "prices", "choice", "lot", "worth", "name", "thing"]) (sc := defScope s_best_of) (by decide +kernel)) (fun _ _ _ _ _ => (pg_name (i := 9) sc_best_of.nd rfl (Or.inl rfl))) (fun _ _ _ _ _ => pts_nil) (fun _ _ _ _ _ => (pe_ix (r := rIxT K) ix_tup (pe_dget hu (pv 0) (pv 9) (fun _ _ => rfl)) pe_int (fun _ _ => rfl))))
      (pss_cons (ps_set (i := 6) sc_best_of.nd rfl (Or.inl rfl) (pe_ifExp (pt_cmpR op_isN (pv 2) pe_non (nomark _)) (StX.pe_makeR T.mk_Choice (ok_ChI T (chC T)).r (hr.mono (by decide)) (by rfl) T.g_Choice passL (pa_cons (pv 4) (pa_cons (pv 5) pa_nil))) (pe_makeRK T.mk_AtMost (ok_AtMost___init__ T) (hr.mono (by decide)) (by rfl) T.g_AtMost passL (pa_cons (pv 4) (pa_cons (pv 5) pa_nil)) (pk_cons (pv 2) pk_nil))))
      (pss_cons (ps_asg (pe_methR0 (pv 6) T.c_AtMost T.me_AtMost_best (ok_best T (chA T) (.inr ⟨m, hm.1, hm.2, rfl⟩) rows.length ((ok_AtMost_pick T hm.1 hm.2).mono (by decide))).r (hr.mono (by decide)) passL) (pg_tup rfl (pgs_cons (pg_name (i := 7) sc_best_of.nd rfl (Or.inl rfl)) (pgs_cons (pg_name (i := 8) sc_best_of.nd rfl (Or.inl rfl)) pgs_nil))))
      (pss_one (ps_ret (pe_tup (pa_cons (pe_lc (own := [("thing", 10)]) rfl sc_best_of.nd (pi_tup (pv 7)) (blkOk_by (own := [("thing", 10)]) (N := ["rows", "aside", "cap", "names", "rule", "prices", "choice", "lot", "worth", "name", "thing"]) (sc := defScope s_best_of) (by decide +kernel)) (fun _ _ _ _ _ => (pg_name (i := 10) sc_best_of.nd rfl (Or.inl rfl))) (fun _ _ _ _ _ => pts_nil) (fun _ _ _ _ _ => (pe_ix (r := rIxL K) ix_list (pv 3) (pv 10) (fun _ _ => rfl)))) (pa_cons (pv 8) pa_nil)))))))))), ?_⟩
      have hwl : (rows.map (·.2.2)).length = rows.length := List.length_map _
      have hnm := el_listD (te := tVar 0) (σ := [some (V.ref d), some (V.int as_), some (V.int m), none, none, none, none, none, none, none, none]) (ev_var (v := V.ref d) rfl) hd
      rw [hrw.keys] at hnm
      refine Evl.q_asgL hnm fun l H1 hln e1 hl => ?_
      have hd1 := ex_rd e1 hd
      have hw1 := hrw.ex e1
      refine q_asgP (mk_Wt (comp_rows (j := 1) (f := fun r => r.2.2) (by decide) (fun r => rfl) hd1 hw1 hk.r hl) (ev_var rfl) hk.ch.w) fun wv H2 e2 hwt => ?_
      have hd2 := ex_rd e2 hd1
      have hw2 := hw1.ex e2
      have hl2 := e2 _ _ hl
      refine Evl.q_asgL (comp_rows (j := 0) (f := fun r => r.2.1) (by decide) (fun r => rfl) hd2 hw2 hk.r hl2) fun pl H3 hpn e3 hpl => ?_
      have hwt3 := hwt.ex e3
      have E3 := e1.trans (e2.trans e3)
      have hl3 := (e2.trans e3) _ _ hl
      refine q_asgP (ep_if (b := false) (et_is (et_test (ev_op (ev_var (v := V.int m) rfl) ev_c (rv_val fun H1 e1 Q k => ⟨rfl, k⟩))) rfl) (fun h => by cases h) (fun _ => mk_At (ev_var rfl) hwt3 (ev_var rfl) hpl (ev_var rfl) hm.1 hk.ch)) fun cv H4 e4 hcv => ?_
      refine fin_best (C := "AtMost") (ov := V.int m) hcv (.inr ⟨m, hm.1, hm.2, rfl⟩) hk.ch hwl hk.r (e4 _ _ hl3) fun v H5 e5 hv => q v H5 ((E3.trans e4).trans e5) (by
        obtain ⟨t, l, qv, ns, r, h1, h2⟩ := hv
        exact ⟨t, l, qv, ns, r, fresh_back (E3.trans e4) h1, h2⟩)
end
end K7

/-! K9O: State, Desk. -/
namespace K7
open PySem PySem.Spec PyProof.Rows L2 Evl RZ
/-- a state of a desk: rows, weight aside, limit; names and worth that it shows -/
structure SD where
  rows : List Row
  s : Int
  cap : Option Int
  names : List Str
  top : Int × Int
def StF (K : PySem.W.Frag) (H : Hp) (a dx ln : Addr) (st : SD) : Prop := ∃ d kvs q, H a = some (.ins (He.ga K "State") dx [("rows", .ref d), ("aside", .int st.s), ("cap", capV st.cap), ("top_names", .ref ln), ("top_worth", q)]) ∧
  H d = some (.dK kvs) ∧ RowsD H kvs st.rows ∧ DkOk st.rows st.s st.cap ∧ H ln = some (.lst (st.names.map V.str)) ∧ RatAt K H q st.top ∧ 1 ≤ st.top.2 ∧ NsOk st.names
def StAt (K : PySem.W.Frag) (H : Hp) (v : V) (st : SD) : Prop := ∃ a dx ln, v = .ref a ∧ StF K H a dx ln st
theorem StF.ex {K : PySem.W.Frag} {H H' : Hp} {a dx ln : Addr} {st : SD} (h : StF K H a dx ln st) (e : Ex H H') : StF K H' a dx ln st := by
  obtain ⟨d, kvs, q, h1, h2, h3, h4, h5, h6, h7⟩ := h
  exact ⟨d, kvs, q, e _ _ h1, e _ _ h2, h3.ex e, h4, e _ _ h5, stay_Rat _ _ _ _ e h6, h7⟩
theorem StAt.ex {K : PySem.W.Frag} {H H' : Hp} {v : V} {st : SD} (h : StAt K H v st) (e : Ex H H') : StAt K H' v st := by
  obtain ⟨a, dx, ln, h1, h2⟩ := h
  exact ⟨a, dx, ln, h1, h2.ex e⟩
section
variable {P : Program} {w : World} {K : PySem.W.Frag} {mg : Str → Option Value} {base : Heap}
theorem sc_State___init__ : FnScope ["self", "rows", "aside", "cap"] ["self", "rows", "aside", "cap"] (defScope s_State___init__) := ⟨rfl, rfl, rfl, by decide +kernel, rfl, by decide +kernel, by decide +kernel⟩
def spStI (K : PySem.W.Frag) : Sp := fun vs H Q _ => ∃ (a dx d : Addr) (kvs : List (Key × V)) (rows : List Row) (s : Int) (cap : Option Int), vs = [.ref a, .ref d, .int s, capV cap] ∧ H a = some (.ins (He.ga K "State") dx []) ∧ H d = some (.dK kvs) ∧ RowsD H kvs rows ∧ DkOk rows s cap ∧
  ∀ H' ln names top, ExB a H H' → H ln = none → StF K H' a dx ln ⟨rows, s, cap, names, top⟩ → Q .non H'
theorem ok_State___init__ (T : TXG fileC fa fx fn P K mg) : FnB P w K mg base 17 (He.ma K (He.ga K "State") "__init__") ["self", "rows", "aside", "cap"] (spStI K) := by
  refine fnb T.d_State___init__ rfl sc_State___init__ (fun vs H Q E h => ?_) (fun _ _ _ _ _ _ us hl => match us, hl with | [_, _, _, _], _ => rfl) (fun cdv A outer s H vs Q E hr h => ?_)
  · obtain ⟨_, _, _, _, _, _, _, rfl, _⟩ := h
    rfl
  · refine ⟨_, (pss_cons (ps_fld (pv 0) (pv 1) rfl)
      (pss_cons (ps_fld (pv 0) (pv 2) rfl)
      (pss_cons (ps_fld (pv 0) (pv 3) rfl)
      (pss_one (ps_asg (pe_callR (ok_best_of T).r (hr.mono (by decide)) T.k_best_of (by rfl) T.g_best_of passL (pa_cons (pv 1) (pa_cons (pv 2) (pa_cons (pv 3) pa_nil)))) (pg_tup rfl (pgs_cons (pg_fld (pv 0)) (pgs_cons (pg_fld (pv 0)) pgs_nil)))))))), ?_⟩
    obtain ⟨a, dx, d, kvs, rows, as_, cap, rfl, ha, hd, hrw, hk, q⟩ := h
    have nda : d ≠ a := by rintro rfl; rw [ha] at hd; cases hd
    refine q_fld (ev_var rfl) (ev_var (v := .ref a) rfl) ha T.c_State T.no_State_rows (by simp) fun H1 e1 => ?_
    refine q_fld (ev_var rfl) (ev_var (v := .ref a) rfl) upd_same T.c_State T.no_State_aside (Nat.lt_of_le_of_lt (putF_len _ _ _) (by simp)) fun H2 e2 => ?_
    refine q_fld (ev_var (v := capV cap) rfl) (ev_var (v := .ref a) rfl) upd_same T.c_State T.no_State_cap (Nat.lt_of_le_of_lt (putF_len _ _ _) (Nat.lt_of_le_of_lt (Nat.succ_le_succ (putF_len _ _ _)) (by simp))) fun H3 e3 => ?_
    have b1 : ExB a H (upd H3 a (.ins (He.ga K "State") dx (putF "cap" (capV cap) (putF "aside" (.int as_) (putF "rows" (.ref d) []))))) := ((((Ex.b e1).trans ExB.upd).trans (Ex.b e2)).trans ExB.upd).trans ((Ex.b e3).trans ExB.upd)
    have hrw1 : RowsD (upd H3 a (.ins (He.ga K "State") dx (putF "cap" (capV cap) (putF "aside" (.int as_) (putF "rows" (.ref d) []))))) kvs rows := hrw.imp fun kv r ⟨h1, t, h2, h3⟩ => ⟨h1, t, h2, b1 _ _ (by rintro rfl; rw [ha] at h3; cases h3) h3⟩
    refine ⟨_, rfl, _, rfl, _, rfl, d, kvs, rows, as_, cap, rfl, .inl (b1 _ _ nda hd), hrw1, hk, fun v H4 e4 hv => ?_⟩
    obtain ⟨t, ln, qv, ns, r, hln, rfl, ht, hl, hr1, hr2, hns⟩ := hv
    have ha4 := e4 _ _ (upd_same (H := H3) (a := a) (o := .ins (He.ga K "State") dx (putF "cap" (capV cap) (putF "aside" (.int as_) (putF "rows" (.ref d) [])))))
    have nlna : ln ≠ a := by rintro rfl; rw [upd_same] at hln; cases hln
    have hln0 : H ln = none := by
      cases hq : H ln with
      | none => rfl
      | some o => rw [b1 _ _ nlna hq] at hln; cases hln
    have b2 := b1.trans (Ex.b e4)
    refine ⟨t, _, rfl, st_of ht, rfl, ⟨_, _, rfl, ⟨_, rfl, a, _, dx, _, rfl, ha4, T.c_State, T.no_State_top_names, Nat.lt_of_le_of_lt (putF_len _ _ _) (Nat.lt_of_le_of_lt (Nat.succ_le_succ (putF_len _ _ _)) (Nat.lt_of_le_of_lt (Nat.succ_le_succ (Nat.succ_le_succ (putF_len _ _ _))) (by simp))), ⟨_, _, rfl, ⟨_, rfl, a, _, dx, _, rfl, upd_same, T.c_State, T.no_State_top_worth, Nat.lt_of_le_of_lt (putF_len _ _ _) (Nat.lt_of_le_of_lt (Nat.succ_le_succ (putF_len _ _ _)) (Nat.lt_of_le_of_lt (Nat.succ_le_succ (Nat.succ_le_succ (putF_len _ _ _))) (Nat.lt_of_le_of_lt (Nat.succ_le_succ (Nat.succ_le_succ (Nat.succ_le_succ (putF_len _ _ _)))) (by simp)))), ⟨rfl, ?_⟩⟩⟩⟩⟩⟩
    refine q _ ln ns r ((b2.trans ExB.upd).trans ExB.upd) hln0 ⟨d, kvs, qv, upd_same, ?_, ?_, hk, ?_, ?_, hr2, hns⟩
    · rw [upd_ne nda, upd_ne nda]
      exact b2 _ _ nda hd
    · refine (hrw1.ex e4).imp fun kv r ⟨h1, t, h2, h3⟩ => ⟨h1, t, h2, ?_⟩
      have : t ≠ a := by rintro rfl; rw [ha4] at h3; cases h3
      rw [upd_ne this, upd_ne this]
      exact h3
    · rw [upd_ne nlna, upd_ne nlna]
      exact hl
    · obtain ⟨z, dz, rfl, hz⟩ := hr1
      have : z ≠ a := by
        rintro rfl
        rw [ha4] at hz
        have h32 : (3 : Nat) = 2 := congrArg (fun o => match o with | some (HO.ins _ _ fs) => fs.length | _ => 0) hz
        omega
      exact ⟨z, dz, rfl, by rw [upd_ne this, upd_ne this]; exact hz⟩
end
end K7

/-! K9P: Desk: its parts in the heap; _change, _change_rows, _check_known. -/
namespace K7
open PySem PySem.Spec PyProof.Rows L2 Evl RZ
/-- the heap without what changes -/
def fz (Ms : List Addr) (H : Hp) : Hp := fun x => if x ∈ Ms then none else H x
theorem fz_ex {Ms : List Addr} {H : Hp} : Ex (fz Ms H) H := fun x o h => by
  unfold fz at h
  by_cases hm : x ∈ Ms
  · rw [if_pos hm] at h; cases h
  · rw [if_neg hm] at h; exact h
theorem fz_out {Ms : List Addr} {H : Hp} {x : Addr} (h : x ∉ Ms) : fz Ms H x = H x := if_neg h
theorem fz_mono {Ms : List Addr} {H H' : Hp} (e : ∀ x o, x ∉ Ms → H x = some o → H' x = some o) : Ex (fz Ms H) (fz Ms H') := fun x o h => by
  unfold fz at h ⊢
  by_cases hm : x ∈ Ms
  · rw [if_pos hm] at h; cases h
  · rw [if_neg hm] at h ⊢; exact e x o hm h
/-- what was known stays, but at a and at pl -/
def ExD (a pl : Addr) (H H' : Hp) : Prop := ∀ x o, x ≠ a → x ≠ pl → H x = some o → H' x = some o
theorem Ex.d {a pl : Addr} {H H' : Hp} (e : Ex H H') : ExD a pl H H' := fun x o _ _ h => e x o h
theorem ExD.trans {a pl : Addr} {H H1 H2 : Hp} (e : ExD a pl H H1) (e2 : ExD a pl H1 H2) : ExD a pl H H2 := fun x o n m h => e2 x o n m (e x o n m h)
theorem ExD.a {a pl : Addr} {H : Hp} {u : HO} : ExD a pl H (upd H a u) := fun x o n m h => by rw [upd_ne n]; exact h
theorem ExD.p {a pl : Addr} {H : Hp} {u : HO} : ExD a pl H (upd H pl u) := fun x o n m h => by rw [upd_ne m]; exact h
theorem ExD.fz {a pl : Addr} {H H' : Hp} {Ms : List Addr} (e : ExD a pl H H') (h1 : a ∈ Ms) (h2 : pl ∈ Ms) : Ex (fz Ms H) (fz Ms H') := fz_mono fun x o hx h => e x o (by rintro rfl; exact hx h1) (by rintro rfl; exact hx h2) h
/-- what changes: desks, lists -/
def MsOk (K : PySem.W.Frag) (Ms : List Addr) (H : Hp) : Prop := ∀ m ∈ Ms, (∃ dx fs, H m = some (.ins (He.ga K "Desk") dx fs)) ∨ ∃ xs, H m = some (.lst xs)
theorem MsOk.ex {K : PySem.W.Frag} {Ms : List Addr} {H H' : Hp} (h : MsOk K Ms H) (e : Ex H H') : MsOk K Ms H' := fun m hm => (h m hm).imp (fun ⟨dx, fs, h⟩ => ⟨dx, fs, e _ _ h⟩) fun ⟨xs, h⟩ => ⟨xs, e _ _ h⟩
theorem MsOk.exD {K : PySem.W.Frag} {Ms : List Addr} {H H' : Hp} {a pl : Addr} (h : MsOk K Ms H) (e : ExD a pl H H') (h1 : ∃ dx fs, H' a = some (.ins (He.ga K "Desk") dx fs)) (h2 : ∃ xs, H' pl = some (.lst xs)) : MsOk K Ms H' := fun m hm => by
  by_cases q1 : m = a
  · subst q1; exact .inl h1
  · by_cases q2 : m = pl
    · subst q2; exact .inr h2
    · exact (h m hm).imp (fun ⟨dx, fs, h⟩ => ⟨dx, fs, e _ _ q1 q2 h⟩) fun ⟨xs, h⟩ => ⟨xs, e _ _ q1 q2 h⟩
theorem MsOk.some_ {K : PySem.W.Frag} {Ms : List Addr} {H : Hp} (h : MsOk K Ms H) {m : Addr} (hm : m ∈ Ms) : H m ≠ none := by
  rcases h m hm with ⟨_, _, h⟩ | ⟨_, h⟩ <;> rw [h] <;> intro z <;> cases z
/-- a desk and its states, the last one it stands in -/
def DeskF (K : PySem.W.Frag) (Ms : List Addr) (H : Hp) (a pl : Addr) (L : List SD) : Prop := a ∈ Ms ∧ pl ∈ Ms ∧ ∃ dx sv sts, H a = some (.ins (He.ga K "Desk") dx [("_state", sv), ("_past", .ref pl)]) ∧ H pl = some (.lst sts) ∧ All2 (StAt K (fz Ms H)) (sts ++ [sv]) L
theorem DeskF.ex {K : PySem.W.Frag} {Ms : List Addr} {H H' : Hp} {a pl : Addr} {L : List SD} (h : DeskF K Ms H a pl L) (e : Ex H H') : DeskF K Ms H' a pl L := by
  obtain ⟨h1, h2, dx, sv, sts, h3, h4, h5⟩ := h
  exact ⟨h1, h2, dx, sv, sts, e _ _ h3, e _ _ h4, h5.imp fun _ _ h => h.ex (fz_mono fun x o _ h => e x o h)⟩
/-- the other desk's deeds leave it -/
theorem DeskF.exD {K : PySem.W.Frag} {Ms : List Addr} {H H' : Hp} {a pl b pm : Addr} {L : List SD} (h : DeskF K Ms H a pl L) (e : ExD b pm H H') (hb : b ∈ Ms) (hp : pm ∈ Ms) (n1 : a ≠ b) (n2 : a ≠ pm) (n3 : pl ≠ b) (n4 : pl ≠ pm) : DeskF K Ms H' a pl L := by
  obtain ⟨h1, h2, dx, sv, sts, h3, h4, h5⟩ := h
  exact ⟨h1, h2, dx, sv, sts, e _ _ n1 n2 h3, e _ _ n3 n4 h4, h5.imp fun _ _ h => h.ex (e.fz hb hp)⟩
theorem All2.last0 {α β : Type} {R : α → β → Prop} {a : α} {b : β} : ∀ {as : List α} {bs : List β}, as.length = bs.length → All2 R (as ++ [a]) (bs ++ [b]) → All2 R as bs ∧ R a b
  | [], [], _, .cons h _ => ⟨.nil, h⟩
  | _ :: as, _ :: bs, hl, .cons h t => by
    obtain ⟨h1, h2⟩ := All2.last0 (as := as) (bs := bs) (by simpa using hl) t
    exact ⟨.cons h h1, h2⟩
theorem All2.last {α β : Type} {R : α → β → Prop} {as : List α} {a : α} {bs : List β} {b : β} (h : All2 R (as ++ [a]) (bs ++ [b])) : All2 R as bs ∧ R a b := by
  have hl := h.len
  simp only [List.length_append, List.length_cons, List.length_nil] at hl
  exact All2.last0 (by omega) h
theorem StF.fz {P : Program} {K : PySem.W.Frag} {mg : Str → Option Value} (T : TXG fileC fa fx fn P K mg) {Ms : List Addr} {H : Hp} {a dx ln : Addr} {st : SD} (h : StF K H a dx ln st) (hm : MsOk K Ms H) (hl : ln ∉ Ms) : StF K (fz Ms H) a dx ln st := by
  obtain ⟨d, kvs, q, h1, h2, h3, h4, h5, ⟨z, dz, h6, h7⟩, h8⟩ := h
  have key : ∀ {x : Addr} {o : HO}, H x = some o → (∀ dx fs, o ≠ .ins (He.ga K "Desk") dx fs) → (∀ xs, o ≠ .lst xs) → x ∉ Ms := fun {x o} hx n1 n2 hxm => by
    rcases hm x hxm with ⟨dx, fs, h⟩ | ⟨xs, h⟩
    · rw [hx] at h; exact n1 _ _ (Option.some.inj h)
    · rw [hx] at h; exact n2 _ (Option.some.inj h)
  refine ⟨d, kvs, q, ?_, ?_, ?_, h4, by rw [fz_out hl]; exact h5, ⟨z, dz, h6, ?_⟩, h8⟩
  · rw [fz_out (key h1 (fun dx fs e => T.ne_State_Desk (by injection e)) fun xs e => by cases e)]; exact h1
  · rw [fz_out (key h2 (fun dx fs e => by cases e) fun xs e => by cases e)]; exact h2
  · exact h3.imp fun kv r ⟨q1, t, q2, q3⟩ => ⟨q1, t, q2, by rw [fz_out (key q3 (fun dx fs e => by cases e) fun xs e => by cases e)]; exact q3⟩
  · rw [fz_out (key h7 (fun dx fs e => T.ne_Ratio_Desk (by injection e)) fun xs e => by cases e)]; exact h7
section
variable {P : Program} {w : World} {K : PySem.W.Frag} {mg : Str → Option Value} {base : Heap}
theorem sc_Desk__change : FnScope ["self", "rows", "aside", "cap"] ["self", "rows", "aside", "cap"] (defScope s_Desk__change) := ⟨rfl, rfl, rfl, by decide +kernel, rfl, by decide +kernel, by decide +kernel⟩
def spChg (K : PySem.W.Frag) : Sp := fun vs H Q _ => ∃ (Ms : List Addr) (a pl d : Addr) (L : List SD) (kvs : List (Key × V)) (rows : List Row) (s : Int) (cap : Option Int), vs = [.ref a, .ref d, .int s, capV cap] ∧ MsOk K Ms H ∧ DeskF K Ms H a pl L ∧ H d = some (.dK kvs) ∧ RowsD H kvs rows ∧ DkOk rows s cap ∧ L.length ≤ 1000 ∧
  ∀ H' names top, ExD a pl H H' → DeskF K Ms H' a pl (L ++ [⟨rows, s, cap, names, top⟩]) → Q .non H'
theorem s_fldP {σ : L2.St} {H : Hp} {te tv : TE} {a C dx : Addr} {fs : List (Str × V)} {f : Str} {D : Ends} {P : V → Hp → Prop} (hv : EvPr tv σ H P) (h : Ev te σ H (.ref a)) (ha : H a = some (.ins C dx fs)) (c : Cls K C) (n : NoAttr K C f) (hz : fs.length < 1000) (hP : ∀ v H H', Ex H H' → P v H → P v H') (k : ∀ v H1, Ex H H1 → P v H1 → D.nx σ (upd H1 a (.ins C dx (putF f v fs)))) : sFld K te tv f D σ H :=
  hv H (Ex.refl _) _ fun v H1 e1 hx => h H1 e1 _ fun H2 e2 => ⟨a, C, dx, fs, rfl, (e1.trans e2) _ _ ha, c, n, hz, k v H2 (e1.trans e2) (hP _ _ _ e2 hx)⟩
theorem mk_State {σ : L2.St} {H : Hp} {ta : TA} {d : Addr} {kvs : List (Key × V)} {rows : List Row} {s : Int} {cap : Option Int} {E : XK} (h : EvA ta σ H [.ref d, .int s, capV cap]) (hd : H d = some (.dK kvs)) (hr : RowsD H kvs rows) (hk : DkOk rows s cap) : EvPr (StX.tMakeR (He.ga K "State") (spStI K) E ta) σ H (fun v H' => ∃ a dx ln names top, v = .ref a ∧ H ln = none ∧ StF K H' a dx ln ⟨rows, s, cap, names, top⟩) := fun H1 e1 Q k =>
  h H1 e1 _ fun H2 e2 => fun x dx hx hdx hne => by
    have E2 := e1.trans e2
    have eU : Ex H2 (upd (upd H2 dx (.own x)) x (.ins (He.ga K "State") dx [])) := (ExB.refl x _).exU hx hdx
    exact ⟨x, dx, d, kvs, rows, s, cap, rfl, upd_same, (E2.trans eU) _ _ hd, hr.ex (E2.trans eU), hk, fun H3 ln names top e3 hln hst => ⟨rfl, k _ H3 (e2.trans (e3.exU hx hdx)) ⟨x, dx, ln, names, top, rfl, fresh_back (E2.trans eU) hln, hst⟩⟩⟩
theorem ok_Desk__change (T : TXG fileC fa fx fn P K mg) : FnB P w K mg base 19 (He.ma K (He.ga K "Desk") "_change") ["self", "rows", "aside", "cap"] (spChg K) := by
  refine fnb T.d_Desk__change rfl sc_Desk__change (fun vs H Q E h => ?_) (fun _ _ _ _ _ _ us hl => match us, hl with | [_, _, _, _], _ => rfl) (fun cdv A outer s H vs Q E hr h => ?_)
  · obtain ⟨_, _, _, _, _, _, _, _, _, rfl, _⟩ := h
    rfl
  · refine ⟨_, (pss_cons (ps_expr (pe_bm PySem.F.plainAttrs_list PySem.F.slot_list_append PySem.F.type_list_append mt_append (pe_fld (pv 0) rfl) (pa_cons (pe_fld (pv 0) rfl) pa_nil)))
      (pss_one (ps_fld (pv 0) (StX.pe_makeR T.mk_State (ok_State___init__ T).r (hr.mono (by decide)) (by rfl) T.g_State passL (pa_cons (pv 1) (pa_cons (pv 2) (pa_cons (pv 3) pa_nil)))) rfl))), ?_⟩
    obtain ⟨Ms, a, pl, d, L, kvs, rows, as_, cap, rfl, hms, hdk, hd, hrw, hk, hz, q⟩ := h
    obtain ⟨hma, hmp, dx, sv, sts, ha, hpl, hst⟩ := hdk
    have nda : d ≠ a := by rintro rfl; rw [ha] at hd; cases hd
    have ndp : d ≠ pl := by rintro rfl; rw [hpl] at hd; cases hd
    have npa : pl ≠ a := by rintro rfl; rw [ha] at hpl; cases hpl
    have hsl := hst.len
    simp only [List.length_append, List.length_cons, List.length_nil] at hsl
    refine ⟨_, rfl, a, _, dx, _, _, rfl, ha, T.c_Desk, T.no_Desk__past, rfl, .inl ⟨rfl, sts, sq_of hpl⟩, _, rfl, a, _, dx, _, _, rfl, ha, T.c_Desk, T.no_Desk__state, rfl, pl, sts, sv, rfl, rfl, hpl, sz_lt (by omega), ?_⟩
    have b1 : ExD a pl H (upd H pl (.lst (sts ++ [sv]))) := ExD.p
    refine s_fldP (P := fun v H' => ∃ b dy ln names top, v = .ref b ∧ (upd H pl (.lst (sts ++ [sv]))) ln = none ∧ StF K H' b dy ln ⟨rows, as_, cap, names, top⟩) (mk_State (ea_cons (ev_var (v := .ref d) rfl) (ea_cons (ev_var rfl) (ea_cons (ev_var rfl) ea_nil))) (b1 _ _ nda ndp hd) (hrw.imp fun kv r ⟨h1, t, h2, h3⟩ => ⟨h1, t, h2, b1 _ _ (by rintro rfl; rw [ha] at h3; cases h3) (by rintro rfl; rw [hpl] at h3; cases h3) h3⟩) hk) (ev_var (v := .ref a) rfl) (by rw [upd_ne (Ne.symm npa)]; exact ha) T.c_Desk T.no_Desk__state (by simp) (fun v H H' e ⟨b, dy, ln, names, top, h1, h2, h3⟩ => ⟨b, dy, ln, names, top, h1, h2, h3.ex e⟩) fun v H1 e1 hv => ?_
    obtain ⟨b, dy, ln, names, top, rfl, hln, hsf⟩ := hv
    have b2 : ExD a pl H (upd H1 a (.ins (He.ga K "Desk") dx (putF "_state" (.ref b) [("_state", sv), ("_past", .ref pl)]))) := (b1.trans (Ex.d e1)).trans ExD.a
    have hm1 : MsOk K Ms H1 := hms.exD (b1.trans (Ex.d e1)) ⟨dx, _, e1 _ _ (by rw [upd_ne (Ne.symm npa)]; exact ha)⟩ ⟨_, e1 _ _ upd_same⟩
    have nln : ln ∉ Ms := fun hm => by
      have n1 : ln ≠ pl := by rintro rfl; rw [upd_same] at hln; cases hln
      rw [upd_ne n1] at hln
      exact hms.some_ hm hln
    have hsz := hsf.fz T hm1 nln
    refine q _ names top b2 ⟨hma, hmp, dx, .ref b, sts ++ [sv], upd_same, by rw [upd_ne npa]; exact e1 _ _ upd_same, ?_⟩
    refine (hst.imp fun _ _ h => h.ex (b2.fz hma hmp)).snoc ⟨b, dy, ln, rfl, hsz.ex (fz_mono fun x o hx h => ?_)⟩
    rw [upd_ne (by rintro rfl; exact hx hma)]
    exact h
end
end K7

/-! K9Q: Desk: _change_rows, _check_known, readers. -/
namespace K7
open PySem PySem.Spec PyProof.Rows L2 Evl RZ
/-- the desk's state as it stands -/
structure Cur (K : PySem.W.Frag) (H : Hp) (a pl : Addr) (st : SD) (dx b dy ln d : Addr) (kvs : List (Key × V)) (q : V) (sts : List V) : Prop where
  dk : H a = some (.ins (He.ga K "Desk") dx [("_state", .ref b), ("_past", .ref pl)])
  ps : H pl = some (.lst sts)
  st_ : H b = some (.ins (He.ga K "State") dy [("rows", .ref d), ("aside", .int st.s), ("cap", capV st.cap), ("top_names", .ref ln), ("top_worth", q)])
  dc : H d = some (.dK kvs)
  rw_ : RowsD H kvs st.rows
  ok : DkOk st.rows st.s st.cap
  nm : H ln = some (.lst (st.names.map V.str))
  tp : RatAt K H q st.top
  tb : 1 ≤ st.top.2
  nl : NsOk st.names
theorem Cur.ex {K : PySem.W.Frag} {H H' : Hp} {a pl : Addr} {st : SD} {dx b dy ln d : Addr} {kvs : List (Key × V)} {q : V} {sts : List V} (c : Cur K H a pl st dx b dy ln d kvs q sts) (e : Ex H H') : Cur K H' a pl st dx b dy ln d kvs q sts :=
  ⟨e _ _ c.dk, e _ _ c.ps, e _ _ c.st_, e _ _ c.dc, c.rw_.ex e, c.ok, e _ _ c.nm, stay_Rat _ _ _ _ e c.tp, c.tb, c.nl⟩
theorem DeskF.cur {K : PySem.W.Frag} {Ms : List Addr} {H : Hp} {a pl : Addr} {L0 : List SD} {st : SD} (h : DeskF K Ms H a pl (L0 ++ [st])) : ∃ dx b dy ln d kvs q sts, Cur K H a pl st dx b dy ln d kvs q sts ∧ All2 (StAt K (fz Ms H)) sts L0 ∧ StAt K (fz Ms H) (.ref b) st ∧ a ∈ Ms ∧ pl ∈ Ms := by
  obtain ⟨h1, h2, dx, sv, sts, h3, h4, h5⟩ := h
  obtain ⟨h6, h7⟩ := h5.last
  obtain ⟨b, dy, ln, rfl, hsf⟩ := id h7
  obtain ⟨d, kvs, q, q1, q2, q3, q4, q5, q6, q7, q8⟩ := hsf.ex fz_ex
  exact ⟨dx, b, dy, ln, d, kvs, q, sts, ⟨h3, h4, q1, q2, q3, q4, q5, q6, q7, q8⟩, h6, h7, h1, h2⟩
def known (rows : List Row) (x : Str) : Bool := decide (x ∈ rows.map (·.1))
theorem RowsD.isSome_ {H : Hp} {x : Str} : ∀ {kvs : List (Key × V)} {rows : List Row}, RowsD H kvs rows → (valV kvs (.inr x)).isSome = known rows x
  | [], _, .nil => rfl
  | kv :: kvs, r :: rows, .cons ⟨h1, h2⟩ t => by
    by_cases h : r.1 = x
    · rw [valV_pos (by rw [h1, h])]
      exact (decide_eq_true (by rw [List.map_cons, h]; exact List.mem_cons_self)).symm
    · rw [valV_neg (by rw [h1]; intro e; exact h (Sum.inr.inj e)), RowsD.isSome_ t]
      unfold known
      rw [List.map_cons]
      exact decide_eq_decide.mpr ⟨fun z => List.mem_cons_of_mem _ z, fun z => (List.mem_cons.mp z).resolve_left fun e => h e.symm⟩
section
variable {P : Program} {w : World} {K : PySem.W.Frag} {mg : Str → Option Value} {base : Heap}
section
variable {σ : L2.St} {H : Hp} {te ty : TE} {a pl : Addr} {st : SD} {dx b dy ln d : Addr} {kvs : List (Key × V)} {q : V} {sts : List V}
theorem ev_state (T : TXG fileC fa fx fn P K mg) (h : Ev te σ H (.ref a)) (c : Cur K H a pl st dx b dy ln d kvs q sts) : Ev (tFld K te "_state") σ H (.ref b) := ev_fld h c.dk T.c_Desk T.no_Desk__state rfl
theorem ev_rows (T : TXG fileC fa fx fn P K mg) (h : Ev te σ H (.ref a)) (c : Cur K H a pl st dx b dy ln d kvs q sts) : Ev (tFld K (tFld K te "_state") "rows") σ H (.ref d) := ev_fld (ev_state T h c) c.st_ T.c_State T.no_State_rows rfl
theorem ev_aside (T : TXG fileC fa fx fn P K mg) (h : Ev te σ H (.ref a)) (c : Cur K H a pl st dx b dy ln d kvs q sts) : Ev (tFld K (tFld K te "_state") "aside") σ H (.int st.s) := ev_fld (ev_state T h c) c.st_ T.c_State T.no_State_aside rfl
theorem ev_cap (T : TXG fileC fa fx fn P K mg) (h : Ev te σ H (.ref a)) (c : Cur K H a pl st dx b dy ln d kvs q sts) : Ev (tFld K (tFld K te "_state") "cap") σ H (capV st.cap) := ev_fld (ev_state T h c) c.st_ T.c_State T.no_State_cap rfl
theorem s_dropM {C : Addr} {m : Str} {sp : Sp} {E : XK} {ta : TA} {vs : List V} {dz : Addr} {fs : List (Str × V)} {D : Ends} (ho : Ev te σ H (.ref a)) (ha : H a = some (.ins C dz fs)) (hm : fs.lookup m = none) (h : EvA ta σ H vs) (k : ∀ H1, Ex H H1 → sp (.ref a :: vs) H1 (fun _ H2 => D.nx σ H2) E) : tDrop (tMethR C m sp E te ta) D σ H :=
  ho H (Ex.refl _) _ fun H1 e1 => ⟨a, dz, fs, rfl, e1 _ _ ha, hm, h H1 e1 _ fun H2 e2 => k H2 (e1.trans e2)⟩
theorem q_dropM {C : Addr} {m : Str} {sp : Sp} {E : XK} {ta : TA} {vs : List V} {dz : Addr} {fs : List (Str × V)} {D : Ends} {tz : TS} (ho : Ev te σ H (.ref a)) (ha : H a = some (.ins C dz fs)) (hm : fs.lookup m = none) (h : EvA ta σ H vs) (k : ∀ H1, Ex H H1 → sp (.ref a :: vs) H1 (fun _ H2 => tz D σ H2) E) : tSeq (tDrop (tMethR C m sp E te ta)) tz D σ H := s_dropM (D := { D with nx := tz D }) ho ha hm h k
theorem ev_dnin {x : Str} {rows : List Row} (hy : Ev ty σ H (.str x)) (h : Ev te σ H (.ref d)) (hd : Rd H d (.dK kvs)) (hr : RowsD H kvs rows) : Ev (tDNotIn ty te) σ H (.bl (!known rows x)) := fun H1 e1 Q k =>
  hy H1 e1 _ fun H2 e2 => h H2 (e1.trans e2) _ fun H3 e3 => ⟨d, _, rfl, .inl ⟨kvs, .inr x, ex_rd (e1.trans (e2.trans e3)) hd, rfl, rfl⟩, by
    have := hr.isSome_ (x := x)
    first
    | (rw [this]; exact k H3 (e2.trans e3))
    | (rw [← Option.not_isSome, this]; exact k H3 (e2.trans e3))⟩
theorem ev_din {x : Str} {rows : List Row} (hy : Ev ty σ H (.str x)) (h : Ev te σ H (.ref d)) (hd : Rd H d (.dK kvs)) (hr : RowsD H kvs rows) : Ev (tDIn ty te) σ H (.bl (known rows x)) := fun H1 e1 Q k =>
  hy H1 e1 _ fun H2 e2 => h H2 (e1.trans e2) _ fun H3 e3 => ⟨d, _, rfl, .inl ⟨kvs, .inr x, ex_rd (e1.trans (e2.trans e3)) hd, rfl, rfl⟩, by rw [hr.isSome_]; exact k H3 (e2.trans e3)⟩
end
theorem sc_Desk__change_rows : FnScope ["self", "rows"] ["self", "rows"] (defScope s_Desk__change_rows) := ⟨rfl, rfl, rfl, by decide +kernel, rfl, by decide +kernel, by decide +kernel⟩
def spChgR (K : PySem.W.Frag) : Sp := fun vs H Q _ => ∃ (Ms : List Addr) (a pl d : Addr) (L0 : List SD) (st : SD) (kvs : List (Key × V)) (rows : List Row), vs = [.ref a, .ref d] ∧ MsOk K Ms H ∧ DeskF K Ms H a pl (L0 ++ [st]) ∧ H d = some (.dK kvs) ∧ RowsD H kvs rows ∧ RowsOk rows ∧ L0.length ≤ 900 ∧
  ∀ H' names top, ExD a pl H H' → DeskF K Ms H' a pl (L0 ++ [st] ++ [⟨rows, st.s, st.cap, names, top⟩]) → Q .non H'
theorem ok_Desk__change_rows (T : TXG fileC fa fx fn P K mg) : FnB P w K mg base 21 (He.ma K (He.ga K "Desk") "_change_rows") ["self", "rows"] (spChgR K) := by
  refine fnb T.d_Desk__change_rows rfl sc_Desk__change_rows (fun vs H Q E h => ?_) (fun _ _ _ _ _ _ us hl => match us, hl with | [_, _], _ => rfl) (fun cdv A outer s H vs Q E hr h => ?_)
  · obtain ⟨_, _, _, _, _, _, _, _, rfl, _⟩ := h
    rfl
  · refine ⟨_, (pss_one (ps_expr (pe_methR (pv 0) T.c_Desk T.me_Desk__change (ok_Desk__change T).r (hr.mono (by decide)) passL (pa_cons (pv 1) (pa_cons (pe_fld (pe_fld (pv 0) rfl) rfl) (pa_cons (pe_fld (pe_fld (pv 0) rfl) rfl) pa_nil)))))), ?_⟩
    obtain ⟨Ms, a, pl, d', L0, st, kvs', rows, rfl, hms, hdk, hd, hrw, hk, hz, q⟩ := h
    obtain ⟨dx, b, dy, ln, d, kvs, qv, sts, c, _, _, hma, hmp⟩ := hdk.cur
    refine s_dropM (ev_var (v := .ref a) rfl) c.dk rfl (ea_cons (ev_var (v := .ref d') rfl) (ea_cons (ev_aside T (ev_var rfl) c) (ea_cons (ev_cap T (ev_var rfl) c) ea_nil))) fun H1 e1 => ?_
    exact ⟨Ms, a, pl, d', _, kvs', rows, st.s, st.cap, rfl, hms.ex e1, hdk.ex e1, e1 _ _ hd, hrw.ex e1, ⟨hk, c.ok.s1, c.ok.s2, c.ok.c⟩, by simp only [List.length_append, List.length_cons, List.length_nil]; omega, fun H' names top e h => q H' names top ((Ex.d e1).trans e) h⟩
theorem sc_Desk__check_known : FnScope ["self", "name"] ["self", "name"] (defScope s_Desk__check_known) := ⟨rfl, rfl, rfl, by decide +kernel, rfl, by decide +kernel, by decide +kernel⟩
def spKn (K : PySem.W.Frag) : Sp := fun vs H Q E => ∃ (Ms : List Addr) (a pl : Addr) (L0 : List SD) (st : SD) (x : Str), vs = [.ref a, .str x] ∧ DeskF K Ms H a pl (L0 ++ [st]) ∧ (known st.rows x = true → RetV .non H Q) ∧ (known st.rows x = false → XR K E H "UnknownName" (fs1 "name" [.str x]))
theorem ok_Desk__check_known (T : TXG fileC fa fx fn P K mg) : FnB P w K mg base 3 (He.ma K (He.ga K "Desk") "_check_known") ["self", "name"] (spKn K) := by
  refine fnb T.d_Desk__check_known rfl sc_Desk__check_known (fun vs H Q E h => ?_) (fun _ _ _ _ _ _ us hl => match us, hl with | [_, _], _ => rfl) (fun cdv A outer s H vs Q E hr h => ?_)
  · obtain ⟨_, _, _, _, _, _, rfl, _⟩ := h
    rfl
  · have hu := hu_of hr
    refine ⟨_, (pss_one (ps_if (pt_cmp (pc_dnotin hu (pv 1) (pe_fld (pe_fld (pv 0) rfl) rfl))) (pss_one (ps_raise rfl (takes_of rfl rfl rfl rfl) (pmk_oexB T.oex_UnknownName T.ini_UnknownName (ok_UnknownName___init__ T) (hr.mono (by decide)) passL (by rfl) T.g_UnknownName (pa_cons (pv 1) pa_nil)))) pss_nil)), ?_⟩
    obtain ⟨Ms, a, pl, L0, st, x, rfl, hdk, h1, h2⟩ := h
    obtain ⟨dx, b, dy, ln, d, kvs, qv, sts, c, _⟩ := hdk.cur
    refine Evl.s_when (b := !known st.rows x) (et_B (ev_dnin (ev_var rfl) (ev_rows T (ev_var rfl) c) (.inl c.dc) c.rw_)) (fun hb H1 e1 => ?_) fun hb H1 e1 => ?_
    · exact mk_err (ea_cons (ev_var rfl) ea_nil) rfl (by omega) ((h2 (by simpa using hb)).mono e1)
    · exact h1 (by simpa using hb) _ e1
end
end K7

/-! K9R: what the desk's deeds do; put. -/
namespace K7
open PySem PySem.Spec PyProof.Rows L2 Evl RZ
/-- a deed's end: refused, a new state, a value told, one state back -/
inductive Act where
  | bad (c : Str) (fs : List (Str × V))
  | new (rows : List Row) (s : Int) (cap : Option Int)
  | val (i : Int)
  | back
  | nothing
def ActQ (K : PySem.W.Frag) (Ms : List Addr) (a pl : Addr) (L0 : List SD) (st : SD) (H : Hp) (Q : VK) (E : XK) : Act → Prop
  | .bad c fs => XR K E H c fs
  | .new rows s cap => ∀ H' names top, ExD a pl H H' → DeskF K Ms H' a pl (L0 ++ [st] ++ [⟨rows, s, cap, names, top⟩]) → Q .non H'
  | .val i => RetV (.int i) H Q
  | .back => ∀ L1 st1 H', L0 = L1 ++ [st1] → ExD a pl H H' → DeskF K Ms H' a pl L0 → Q .non H'
  | .nothing => ∀ H', Ex H H' → E (.ref (He.ga K "NothingToUndo")) none H'
theorem ActQ.ex {K : PySem.W.Frag} {Ms : List Addr} {a pl : Addr} {L0 : List SD} {st : SD} {H H' : Hp} {Q : VK} {E : XK} {x : Act} (h : ActQ K Ms a pl L0 st H Q E x) (e : Ex H H') : ActQ K Ms a pl L0 st H' Q E x := by
  cases x with
  | bad c fs => exact XR.mono h e
  | new rows s cap => exact fun H2 names top e2 hd => h H2 names top ((Ex.d e).trans e2) hd
  | val i => exact fun H2 e2 => h H2 (e.trans e2)
  | back => exact fun L1 st1 H2 hl e2 hd => h L1 st1 H2 hl ((Ex.d e).trans e2) hd
  | nothing => exact fun H2 e2 => h H2 (e.trans e2)
def nameBad (x : Str) : List (Str × V) := fs1 "name" [.str x]
def numBad (x : Str) : List (Str × V) := fs2 "what" "at" [.str x, .non]
def actPut (st : SD) (x : Str) (p w : Int) : Act :=
  if nmOk x = false then .bad "BadName" (nameBad x) else if known st.rows x = true then .bad "KnownName" (nameBad x) else if p < 0 then .bad "BadNumber" (numBad "price") else if w < 1 then .bad "BadNumber" (numBad "weight")
  else if 24 ≤ st.rows.length then .bad "TooMany" (fs2 "many" "most" [.int (st.rows.length + 1), .int 24]) else .new (st.rows ++ [(x, p, w)]) st.s st.cap
theorem RowsD.put {H : Hp} {kvs : List (Key × V)} {rows : List Row} {x : Str} {v : V} {p w : Int} (h : RowsD H kvs rows) (hk : known rows x = false) (hv : PairAt H v p w) : RowsD H (putK kvs (.inr x) v) (rows ++ [(x, p, w)]) := by
  have h0 : valV kvs (.inr x) = none := by
    have := h.isSome_ (x := x)
    rw [hk] at this
    cases hq : valV kvs (.inr x) with
    | none => rfl
    | some u => rw [hq] at this; cases this
  rw [putK_new v h0]
  exact All2.snoc ⟨rfl, hv⟩ h
theorem RowsOk.put {rows : List Row} {x : Str} {p w : Int} (h : RowsOk rows) (hx : nmOk x = true) (hk : known rows x = false) (hl : rows.length < 24) (hp : 0 ≤ p ∧ p < 2 ^ 60) (hw : 1 ≤ w ∧ w < 2 ^ 60) : RowsOk (rows ++ [(x, p, w)]) := by
  have hn : x ∉ rows.map (·.1) := of_decide_eq_false hk
  refine ⟨by simp; omega, ?_, fun r hr => ?_, fun r hr => ?_, fun r hr => ?_⟩
  · rw [List.map_append, List.nodup_append]
    refine ⟨h.nd, by simp, fun a ha b hb => ?_⟩
    simp at hb
    subst hb
    intro e
    subst e
    exact hn ha
  · rcases List.mem_append.mp hr with q | q
    · exact h.pr r q
    · simp at q; subst q; exact hp
  · rcases List.mem_append.mp hr with q | q
    · exact h.wt r q
    · simp at q; subst q; exact hw
  · rcases List.mem_append.mp hr with q | q
    · exact h.nm r q
    · simp at q; subst q; exact hx
section
variable {P : Program} {w : World} {K : PySem.W.Frag} {mg : Str → Option Value} {base : Heap}
section
variable {σ : L2.St} {H : Hp} {te : TE} {ta : TA} {D : Ends} {tz : TS} {E : XK}
/-- check_least(x, n, l) -/
theorem q_least {x : Str} {n l : Int} (h : EvA ta σ H [.str x, .int n, .int l]) (h1 : l ≤ n → ∀ H1, Ex H H1 → tz D σ H1) (h2 : n < l → XR K E H "BadNumber" (numBad x)) : tSeq (tDrop (fun σ H Q => ta σ H fun vs H1 => spLeast K vs H1 Q E)) tz D σ H :=
  h H (Ex.refl _) _ fun H1 e1 => ⟨x, n, l, rfl, fun hl H2 e2 => h1 hl H2 (e1.trans e2), fun hl => (h2 hl).mono e1⟩
/-- self._check_known(x) -/
theorem q_known {C : Addr} {x : Str} {a pl : Addr} {L0 : List SD} {st : SD} {Ms : List Addr} {dz : Addr} {fs : List (Str × V)} (ho : Ev te σ H (.ref a)) (hC : H a = some (.ins C dz fs)) (hm : fs.lookup ("_check_known" : Str) = none) (h : EvA ta σ H [.str x]) (hd : DeskF K Ms H a pl (L0 ++ [st])) (h1 : known st.rows x = true → ∀ H1, Ex H H1 → tz D σ H1) (h2 : known st.rows x = false → XR K E H "UnknownName" (nameBad x)) : tSeq (tDrop (tMethR C "_check_known" (spKn K) E te ta)) tz D σ H :=
  q_dropM ho hC hm h fun H1 e1 => ⟨Ms, a, pl, L0, st, x, rfl, hd.ex e1, fun hk H2 e2 => h1 hk H2 (e1.trans e2), fun hk => (h2 hk).mono e1⟩
/-- dict(d) -/
theorem ep_dict {d : Addr} {kvs : List (Key × V)} (h : Ev te σ H (.ref d)) (hd : Rd H d (.dK kvs)) : EvPr (tCB (fun xs H Q => ∃ a kvs, xs = [V.ref a] ∧ Rd H a (.dK kvs) ∧ ∀ p, H p = none → Q (V.ref p) (upd H p (.dK kvs))) (tCons te tNil)) σ H (fun v H' => ∃ p, v = .ref p ∧ H p = none ∧ H' p = some (.dK kvs)) := fun H1 e1 Q k =>
  h H1 e1 _ fun H2 e2 => ⟨d, kvs, rfl, ex_rd (e1.trans e2) hd, fun p hp => k _ _ (e2.trans (Ex.new hp)) ⟨p, rfl, fresh_back (e1.trans e2) hp, upd_same⟩⟩
end
section
variable {σ : L2.St} {H : Hp} {te tr td ty tv : TE} {D : Ends} {tz : TS} {E : XK} {Ms : List Addr} {a pl r : Addr} {L0 : List SD} {st : SD} {kvs : List (Key × V)} {rows : List Row}
theorem fin_chg (ho : Ev te σ H (.ref a)) (hr : Ev tr σ H (.ref r)) (hms : MsOk K Ms H) (hdk : DeskF K Ms H a pl (L0 ++ [st])) (hrd : H r = some (.dK kvs)) (hrw : RowsD H kvs rows) (hk : RowsOk rows) (hz : L0.length ≤ 900)
    (k : ∀ H' names top, ExD a pl H H' → DeskF K Ms H' a pl (L0 ++ [st] ++ [⟨rows, st.s, st.cap, names, top⟩]) → D.nx σ H') : tDrop (tMethR (He.ga K "Desk") "_change_rows" (spChgR K) E te (tCons tr tNil)) D σ H := by
  obtain ⟨dx, b, dy, ln, d, kvs', qv, sts, c, _⟩ := hdk.cur
  exact s_dropM ho c.dk rfl (ea_cons hr ea_nil) fun H1 e1 => ⟨Ms, a, pl, r, L0, st, kvs, rows, rfl, hms.ex e1, hdk.ex e1, e1 _ _ hrd, hrw.ex e1, hk, hz, fun H' names top e h => k H' names top ((Ex.d e1).trans e) h⟩
theorem q_dput {x : Str} {p w : Int} (hv : EvPr tv σ H (fun v H' => PairAt H' v p w)) (hd : Ev td σ H (.ref r)) (hy : Ev ty σ H (.str x)) (hr : H r = some (.dK kvs)) (hl : kvs.length < 1000) (k : ∀ v H1, Ex H H1 → PairAt H1 v p w → tz D σ (upd H1 r (.dK (putK kvs (.inr x) v)))) : tSeq (sDPut td ty tv) tz D σ H :=
  hv H (Ex.refl _) _ fun v H1 e1 ⟨t, h1, h2⟩ => hd H1 e1 _ fun H2 e2 => hy H2 (e1.trans e2) _ fun H3 e3 => ⟨r, _, rfl, .inl ⟨kvs, .inr x, (e1.trans (e2.trans e3)) _ _ hr, rfl, sz_lt (by omega), rfl⟩, k v H3 (e1.trans (e2.trans e3)) ⟨t, h1, (e2.trans e3) _ _ h2⟩⟩
theorem PairAt.upd {H : Hp} {v : V} {p w : Int} {o : HO} (h : PairAt H v p w) (hr : H r = some (.dK kvs)) : PairAt (upd H r o) v p w := by
  obtain ⟨t, h1, h2⟩ := h
  exact ⟨t, h1, by rw [upd_ne (by rintro rfl; rw [hr] at h2; cases h2)]; exact h2⟩
theorem RowsD.upd {kvs2 : List (Key × V)} {o : HO} (h : RowsD H kvs2 rows) (hr : H r = some (.dK kvs)) : RowsD (upd H r o) kvs2 rows := h.imp fun _ _ ⟨h1, h2⟩ => ⟨h1, h2.upd hr⟩
theorem ep_pair {t1 t2 : TE} {p w : Int} (h1 : Ev t1 σ H (.int p)) (h2 : Ev t2 σ H (.int w)) : EvPr (tTup (tCons t1 (tCons t2 tNil))) σ H (fun v H' => PairAt H' v p w) := fun H1 e1 Q k =>
  h1 H1 e1 _ fun H2 e2 => h2 H2 (e1.trans e2) _ fun H3 e3 => ⟨sz_of (by simp), fun t ht => k _ _ ((e2.trans e3).trans (Ex.new ht)) ⟨t, rfl, upd_same⟩⟩
theorem ev_lenD {d : Addr} (h : Ev te σ H (.ref d)) (hd : Rd H d (.dK kvs)) (hr : RowsD H kvs rows) : Ev (tCB (fun xs H Q => ∃ a kvs, xs = [V.ref a] ∧ Rd H a (.dK kvs) ∧ Q (V.int kvs.length) H) (tCons te tNil)) σ H (.int rows.length) := fun H1 e1 Q k =>
  h H1 e1 _ fun H2 e2 => ⟨d, kvs, rfl, ex_rd (e1.trans e2) hd, by rw [hr.len]; exact k H2 e2⟩
end
theorem sc_Desk_put : FnScope ["self", "name", "price", "weight", "rows"] ["self", "name", "price", "weight"] (defScope s_Desk_put) := ⟨rfl, rfl, rfl, by decide +kernel, rfl, by decide +kernel, by decide +kernel⟩
def spPut (K : PySem.W.Frag) : Sp := fun vs H Q E => ∃ (Ms : List Addr) (a pl : Addr) (L0 : List SD) (st : SD) (x : Str) (p w : Int), vs = [.ref a, .str x, .int p, .int w] ∧ MsOk K Ms H ∧ DeskF K Ms H a pl (L0 ++ [st]) ∧ L0.length ≤ 900 ∧ x.length ≤ 1000 ∧ p < 2 ^ 60 ∧ w < 2 ^ 60 ∧ ActQ K Ms a pl L0 st H Q E (actPut st x p w)
theorem ok_Desk_put (T : TXG fileC fa fx fn P K mg) : FnB P w K mg base 23 (He.ma K (He.ga K "Desk") "put") ["self", "name", "price", "weight"] (spPut K) := by
  refine fnb T.d_Desk_put rfl sc_Desk_put (fun vs H Q E h => ?_) (fun _ _ _ _ _ _ us hl => match us, hl with | [_, _, _, _], _ => rfl) (fun cdv A outer s H vs Q E hr h => ?_)
  · obtain ⟨_, _, _, _, _, _, _, _, rfl, _⟩ := h
    rfl
  · have hu := hu_of hr
    refine ⟨_, (pss_cons (ps_if (pt_not (pt_val (pe_callR (ok_is_name T).r (hr.mono (by decide)) T.k_is_name (by rfl) T.g_is_name passL (pa_cons (pv 1) pa_nil)))) (pss_one (ps_raise rfl (takes_of rfl rfl rfl rfl) (pmk_oexB T.oex_BadName T.ini_BadName (ok_BadName___init__ T) (hr.mono (by decide)) passL (by rfl) T.g_BadName (pa_cons (pv 1) pa_nil)))) pss_nil)
      (pss_cons (ps_if (pt_cmp (pc_din hu (pv 1) (pe_fld (pe_fld (pv 0) rfl) rfl))) (pss_one (ps_raise rfl (takes_of rfl rfl rfl rfl) (pmk_oexB T.oex_KnownName T.ini_KnownName (ok_KnownName___init__ T) (hr.mono (by decide)) passL (by rfl) T.g_KnownName (pa_cons (pv 1) pa_nil)))) pss_nil)
      (pss_cons (ps_expr (pe_callR (ok_check_least T).r (hr.mono (by decide)) T.k_check_least (by rfl) T.g_check_least (passes_call (takes_of rfl rfl rfl rfl) (fun _ _ _ _ z => z)) (pa_cons pe_str (pa_cons (pv 2) (pa_cons pe_int pa_nil)))))
      (pss_cons (ps_expr (pe_callR (ok_check_least T).r (hr.mono (by decide)) T.k_check_least (by rfl) T.g_check_least (passes_call (takes_of rfl rfl rfl rfl) (fun _ _ _ _ z => z)) (pa_cons pe_str (pa_cons (pv 3) (pa_cons pe_int pa_nil)))))
      (pss_cons (ps_if (pt_cmpR op_ge (pe_callB call_lenR (by rfl) T.n_len PySem.boot_len (pa_cons (pe_fld (pe_fld (pv 0) rfl) rfl) pa_nil)) (pe_globE (by rfl) T.m_MOST_THINGS) (nomark _)) (pss_one (ps_raise rfl (takes_of rfl rfl rfl rfl) (pmk_oexB T.oex_TooMany T.ini_TooMany (ok_TooMany___init__ T) (hr.mono (by decide)) passL (by rfl) T.g_TooMany (pa_cons (pe_op op_add (pe_callB call_lenR (by rfl) T.n_len PySem.boot_len (pa_cons (pe_fld (pe_fld (pv 0) rfl) rfl) pa_nil)) pe_int) (pa_cons (pe_globE (by rfl) T.m_MOST_THINGS) pa_nil))))) pss_nil)
      (pss_cons (ps_set (i := 4) sc_Desk_put.nd rfl (Or.inl rfl) (pe_callTy call_dictD (by rfl) T.n_dict (by decide +kernel) (pa_cons (pe_fld (pe_fld (pv 0) rfl) rfl) pa_nil)))
      (pss_cons (ps_dput hu (pv 4) (pv 1) (pe_tup (pa_cons (pv 2) (pa_cons (pv 3) pa_nil))) rfl)
      (pss_one (ps_expr (pe_methR (pv 0) T.c_Desk T.me_Desk__change_rows (ok_Desk__change_rows T).r (hr.mono (by decide)) passL (pa_cons (pv 4) pa_nil))))))))))), ?_⟩
    obtain ⟨Ms, a, pl, L0, st, x, p, wt, rfl, hms, hdk, hz, hx, hp, hw, q⟩ := h
    obtain ⟨dx, b, dy, ln, d, kvs, qv, sts, c, _⟩ := hdk.cur
    unfold actPut at q
    refine Evl.q_when (b := !nmOk x) (et_not (et_B (ev_callE (ea_cons (ev_var rfl) ea_nil) fun H1 e1 Q k => ⟨x, rfl, hx, k⟩))) (fun hb H1 e1 => ?_) fun hb H1 e1 => ?_
    · have hb : nmOk x = false := by simpa using hb
      rw [if_pos hb] at q
      exact mk_err (ea_cons (ev_var rfl) ea_nil) rfl (by omega) (XR.mono q e1)
    · have hb : nmOk x = true := by simpa using hb
      rw [if_neg (by rw [hb]; simp)] at q
      have q := ActQ.ex q e1
      have c := c.ex e1
      have hms := hms.ex e1
      have hdk := hdk.ex e1
      refine Evl.q_when (b := known st.rows x) (et_B (ev_din (ev_var rfl) (ev_rows T (ev_var rfl) c) (.inl c.dc) c.rw_)) (fun hk H2 e2 => ?_) fun hk H2 e2 => ?_
      · rw [if_pos hk] at q
        exact mk_err (ea_cons (ev_var rfl) ea_nil) rfl (by omega) (XR.mono q e2)
      rw [if_neg (by rw [hk]; simp)] at q
      have q := ActQ.ex q e2
      have c := c.ex e2
      have hms := hms.ex e2
      have hdk := hdk.ex e2
      refine q_least (ea_cons ev_c (ea_cons (ev_var rfl) (ea_cons ev_c ea_nil))) (fun h0 H3 e3 => ?_) fun h0 => ?_
      rotate_left
      · rw [if_pos h0] at q
        exact q
      rw [if_neg (by omega)] at q
      have q := ActQ.ex q e3
      have c := c.ex e3
      have hms := hms.ex e3
      have hdk := hdk.ex e3
      refine q_least (ea_cons ev_c (ea_cons (ev_var rfl) (ea_cons ev_c ea_nil))) (fun h1 H4 e4 => ?_) fun h1 => ?_
      rotate_left
      · rw [if_pos h1] at q
        exact q
      rw [if_neg (by omega)] at q
      have q := ActQ.ex q e4
      have c := c.ex e4
      have hms := hms.ex e4
      have hdk := hdk.ex e4
      refine Evl.q_when (b := decide (24 ≤ (st.rows.length : Int))) (et_B (ev_op (ev_lenD (ev_rows T (ev_var rfl) c) (.inl c.dc) c.rw_) ev_c rv_I0)) (fun hl H5 e5 => ?_) fun hl H5 e5 => ?_
      · have hl := of_decide_eq_true hl
        rw [if_pos (by omega)] at q
        have c := c.ex e5
        exact mk_err (ea_cons (ev_op (ev_lenD (ev_rows T (ev_var rfl) c) (.inl c.dc) c.rw_) ev_c rv_I0) (ea_cons ev_c ea_nil)) rfl (by omega) (XR.mono q e5)
      · have hl := of_decide_eq_false hl
        rw [if_neg (by omega)] at q
        have q := ActQ.ex q e5
        have c := c.ex e5
        have hms := hms.ex e5
        have hdk := hdk.ex e5
        refine q_asgP (ep_dict (ev_rows T (ev_var rfl) c) (.inl c.dc)) fun v H6 e6 hv => ?_
        obtain ⟨r, rfl, hrn, hr6⟩ := hv
        have c6 := c.ex e6
        have hlen := c.rw_.len
        have hlr := c.ok.r.len
        refine q_dput (ep_pair (ev_var rfl) (ev_var rfl)) (ev_var rfl) (ev_var rfl) hr6 (by omega) fun v H7 e7 hv => ?_
        have e8 : Ex H5 (upd H7 r (.dK (putK kvs (.inr x) v))) := (e6.trans e7).mut hrn
        have hr7 := e7 _ _ hr6
        exact fin_chg (ev_var rfl) (ev_var rfl) (hms.ex e8) (hdk.ex e8) upd_same (((c6.rw_.ex e7).put hk hv).upd hr7) (c.ok.r.put hb hk (by omega) ⟨by omega, hp⟩ ⟨by omega, hw⟩) hz fun H' names top e h => q H' names top ((Ex.d e8).trans e) h
end
end K7

/-! K9S: set_price, set_weight, set_aside, set_limit, undo, weight_of, readers. -/
namespace K7
open PySem PySem.Spec PyProof.Rows L2 Evl RZ
def rowOf (rows : List Row) (x : Str) : Row := (rows.find? fun r => decide (r.1 = x)).getD (x, 0, 0)
def setRow (rows : List Row) (x : Str) (p w : Int) : List Row := rows.map fun r => if r.1 = x then (r.1, p, w) else r
theorem rowOf_pos {r : Row} {rows : List Row} {x : Str} (h : r.1 = x) : rowOf (r :: rows) x = r := by unfold rowOf; rw [List.find?_cons_of_pos (by simpa using h)]; rfl
theorem rowOf_neg {r : Row} {rows : List Row} {x : Str} (h : r.1 ≠ x) : rowOf (r :: rows) x = rowOf rows x := by unfold rowOf; rw [List.find?_cons_of_neg (by simpa using h)]
theorem known_neg {r : Row} {rows : List Row} {x : Str} (h : r.1 ≠ x) : known (r :: rows) x = known rows x := by
  unfold known
  rw [List.map_cons]
  exact decide_eq_decide.mpr ⟨fun z => (List.mem_cons.mp z).resolve_left fun e => h e.symm, fun z => List.mem_cons_of_mem _ z⟩
theorem RowsD.get {H : Hp} {x : Str} : ∀ {kvs : List (Key × V)} {rows : List Row}, RowsD H kvs rows → known rows x = true → ∃ v, valV kvs (.inr x) = some v ∧ PairAt H v (rowOf rows x).2.1 (rowOf rows x).2.2
  | _, _, .nil, h => by simp [known] at h
  | kv :: kvs, r :: rows, .cons ⟨h1, h2⟩ t, h => by
    by_cases hx : r.1 = x
    · rw [rowOf_pos hx]
      exact ⟨kv.2, valV_pos (by rw [h1, hx]), h2⟩
    · rw [rowOf_neg hx, valV_neg (by rw [h1]; intro e; exact hx (Sum.inr.inj e))]
      exact RowsD.get t (by rw [← known_neg hx]; exact h)
theorem rowOf_mem {rows : List Row} {x : Str} (h : known rows x = true) : rowOf rows x ∈ rows := by
  induction rows with
  | nil => simp [known] at h
  | cons r rows ih =>
    by_cases hx : r.1 = x
    · rw [rowOf_pos hx]; exact List.mem_cons_self
    · rw [rowOf_neg hx]; exact List.mem_cons_of_mem _ (ih (by rw [← known_neg hx]; exact h))
theorem setRow_names {rows : List Row} {x : Str} {p w : Int} : (setRow rows x p w).map (·.1) = rows.map (·.1) := by
  unfold setRow
  rw [List.map_map]
  refine List.map_congr_left fun r _ => ?_
  show (if r.1 = x then (r.1, p, w) else r).1 = r.1
  split <;> rfl
theorem known_set {rows : List Row} {x y : Str} {p w : Int} : known (setRow rows x p w) y = known rows y := by unfold known; rw [setRow_names]
theorem RowsOk.set {rows : List Row} {x : Str} {p w : Int} (h : RowsOk rows) (hp : 0 ≤ p ∧ p < 2 ^ 60) (hw : 1 ≤ w ∧ w < 2 ^ 60) : RowsOk (setRow rows x p w) := by
  refine ⟨by unfold setRow; rw [List.length_map]; exact h.len, by rw [setRow_names]; exact h.nd, fun r hr => ?_, fun r hr => ?_, fun r hr => ?_⟩
  · obtain ⟨q, hq, rfl⟩ := List.mem_map.mp hr
    split
    · exact hp
    · exact h.pr q hq
  · obtain ⟨q, hq, rfl⟩ := List.mem_map.mp hr
    split
    · exact hw
    · exact h.wt q hq
  · obtain ⟨q, hq, rfl⟩ := List.mem_map.mp hr
    split
    · exact h.nm q hq
    · exact h.nm q hq
theorem RowsD.map_ {H : Hp} {x : Str} {v : V} {p w : Int} (hv : PairAt H v p w) : ∀ {kvs : List (Key × V)} {rows : List Row}, RowsD H kvs rows → RowsD H (kvs.map fun kv => if kv.1 = .inr x then (kv.1, v) else kv) (setRow rows x p w)
  | _, _, .nil => .nil
  | kv :: kvs, r :: rows, .cons ⟨h1, h2⟩ t => by
    refine .cons ?_ (RowsD.map_ hv t)
    dsimp only
    by_cases hx : r.1 = x
    · rw [if_pos (by rw [h1, hx]), if_pos hx]
      exact ⟨h1, hv⟩
    · rw [if_neg (by rw [h1]; intro e; exact hx (Sum.inr.inj e)), if_neg hx]
      exact ⟨h1, h2⟩
theorem RowsD.set {H : Hp} {kvs : List (Key × V)} {rows : List Row} {x : Str} {v : V} {p w : Int} (h : RowsD H kvs rows) (hk : known rows x = true) (hv : PairAt H v p w) : RowsD H (putK kvs (.inr x) v) (setRow rows x p w) := by
  unfold putK
  rw [if_pos (by rw [valV_any, h.isSome_, hk])]
  exact h.map_ hv
theorem putK_len2 {kvs : List (Key × V)} {k : Key} {v : V} : (putK kvs k v).length ≤ kvs.length + 1 := length_putK _ _ _
def actSetP (st : SD) (x : Str) (p : Int) : Act := if known st.rows x = false then .bad "UnknownName" (nameBad x) else if p < 0 then .bad "BadNumber" (numBad "price") else .new (setRow st.rows x p (rowOf st.rows x).2.2) st.s st.cap
def actSetW (st : SD) (x : Str) (w : Int) : Act := if known st.rows x = false then .bad "UnknownName" (nameBad x) else if w < 1 then .bad "BadNumber" (numBad "weight") else .new (setRow st.rows x (rowOf st.rows x).2.1 w) st.s st.cap
def actAside (st : SD) (s : Int) : Act := if s < 1 then .bad "BadNumber" (numBad "aside") else .new st.rows s st.cap
def actLimit (st : SD) (c : Option Int) : Act := match c with
  | some m => if m < 0 then .bad "BadNumber" (numBad "limit") else .new st.rows st.s c
  | none => .new st.rows st.s c
def actGet (st : SD) (x : Str) (f : Row → Int) : Act := if known st.rows x = false then .bad "UnknownName" (nameBad x) else .val (f (rowOf st.rows x))
section
variable {P : Program} {w : World} {K : PySem.W.Frag} {mg : Str → Option Value} {base : Heap}
theorem ev_dgetW {σ : L2.St} {H : Hp} {td ty : TE} {r : Addr} {kvs : List (Key × V)} {rows : List Row} {x : Str} (h : Ev td σ H (.ref r)) (hy : Ev ty σ H (.str x)) (hr : Rd H r (.dK kvs)) (hrw : RowsD H kvs rows) (hk : known rows x = true) : Ev (tOp (rIxT K) (tDGet td ty) (tC (.int 1))) σ H (.int (rowOf rows x).2.2) := fun H1 e1 Q k =>
  h H1 e1 _ fun H2 e2 => hy H2 (e1.trans e2) _ fun H3 e3 => by
    have E3 := e1.trans (e2.trans e3)
    obtain ⟨v, h1, t, rfl, h2⟩ := (hrw.ex E3).get hk
    exact ⟨r, _, rfl, .inl ⟨kvs, .inr x, ex_rd E3 hr, rfl, h1.symm⟩, t, [.int _, .int _], 1, _, rfl, rfl, st_of h2, rfl, k H3 (e2.trans e3)⟩
theorem ev_dgetP {σ : L2.St} {H : Hp} {td ty : TE} {r : Addr} {kvs : List (Key × V)} {rows : List Row} {x : Str} (h : Ev td σ H (.ref r)) (hy : Ev ty σ H (.str x)) (hr : Rd H r (.dK kvs)) (hrw : RowsD H kvs rows) (hk : known rows x = true) : Ev (tOp (rIxT K) (tDGet td ty) (tC (.int 0))) σ H (.int (rowOf rows x).2.1) := fun H1 e1 Q k =>
  h H1 e1 _ fun H2 e2 => hy H2 (e1.trans e2) _ fun H3 e3 => by
    have E3 := e1.trans (e2.trans e3)
    obtain ⟨v, h1, t, rfl, h2⟩ := (hrw.ex E3).get hk
    exact ⟨r, _, rfl, .inl ⟨kvs, .inr x, ex_rd E3 hr, rfl, h1.symm⟩, t, [.int _, .int _], 0, _, rfl, rfl, st_of h2, rfl, k H3 (e2.trans e3)⟩
theorem sc_Desk_set_price : FnScope ["self", "name", "price", "rows"] ["self", "name", "price"] (defScope s_Desk_set_price) := ⟨rfl, rfl, rfl, by decide +kernel, rfl, by decide +kernel, by decide +kernel⟩
def spSetP (K : PySem.W.Frag) : Sp := fun vs H Q E => ∃ (Ms : List Addr) (a pl : Addr) (L0 : List SD) (st : SD) (x : Str) (p : Int), vs = [.ref a, .str x, .int p] ∧ MsOk K Ms H ∧ DeskF K Ms H a pl (L0 ++ [st]) ∧ L0.length ≤ 900 ∧ p < 2 ^ 60 ∧ ActQ K Ms a pl L0 st H Q E (actSetP st x p)
theorem ok_Desk_set_price (T : TXG fileC fa fx fn P K mg) : FnB P w K mg base 23 (He.ma K (He.ga K "Desk") "set_price") ["self", "name", "price"] (spSetP K) := by
  refine fnb T.d_Desk_set_price rfl sc_Desk_set_price (fun vs H Q E h => ?_) (fun _ _ _ _ _ _ us hl => match us, hl with | [_, _, _], _ => rfl) (fun cdv A outer s H vs Q E hr h => ?_)
  · obtain ⟨_, _, _, _, _, _, _, rfl, _⟩ := h
    rfl
  · have hu := hu_of hr
    refine ⟨_, (pss_cons (ps_expr (pe_methR (pv 0) T.c_Desk T.me_Desk__check_known (ok_Desk__check_known T).r (hr.mono (by decide)) (passes_call (takes_of rfl rfl rfl rfl) (fun _ _ _ _ z => z)) (pa_cons (pv 1) pa_nil)))
      (pss_cons (ps_expr (pe_callR (ok_check_least T).r (hr.mono (by decide)) T.k_check_least (by rfl) T.g_check_least (passes_call (takes_of rfl rfl rfl rfl) (fun _ _ _ _ z => z)) (pa_cons pe_str (pa_cons (pv 2) (pa_cons pe_int pa_nil)))))
      (pss_cons (ps_set (i := 3) sc_Desk_set_price.nd rfl (Or.inl rfl) (pe_callTy call_dictD (by rfl) T.n_dict (by decide +kernel) (pa_cons (pe_fld (pe_fld (pv 0) rfl) rfl) pa_nil)))
      (pss_cons (ps_dput hu (pv 3) (pv 1) (pe_tup (pa_cons (pv 2) (pa_cons (pe_ix ix_tup (pe_dget hu (pv 3) (pv 1) (fun _ _ => rfl)) pe_int (fun _ _ => rfl)) pa_nil))) rfl)
      (pss_one (ps_expr (pe_methR (pv 0) T.c_Desk T.me_Desk__change_rows (ok_Desk__change_rows T).r (hr.mono (by decide)) passL (pa_cons (pv 3) pa_nil)))))))), ?_⟩
    obtain ⟨Ms, a, pl, L0, st, x, p, rfl, hms, hdk, hz, hp, q⟩ := h
    obtain ⟨dx, b, dy, ln, d, kvs, qv, sts, c, _⟩ := hdk.cur
    unfold actSetP at q
    refine q_known (ev_var (v := .ref a) rfl) c.dk rfl (ea_cons (ev_var rfl) ea_nil) hdk (fun hk H1 e1 => ?_) fun hk => ?_
    rotate_left
    · rw [if_pos hk] at q; exact q
    rw [if_neg (by rw [hk]; simp)] at q
    have q := ActQ.ex q e1
    have c := c.ex e1
    have hms := hms.ex e1
    have hdk := hdk.ex e1
    refine q_least (ea_cons ev_c (ea_cons (ev_var rfl) (ea_cons ev_c ea_nil))) (fun h0 H3 e3 => ?_) fun h0 => ?_
    rotate_left
    · rw [if_pos h0] at q
      exact q
    rw [if_neg (by omega)] at q
    have q := ActQ.ex q e3
    have c := c.ex e3
    have hms := hms.ex e3
    have hdk := hdk.ex e3
    refine q_asgP (ep_dict (ev_rows T (ev_var rfl) c) (.inl c.dc)) fun v H6 e6 hv => ?_
    obtain ⟨r, rfl, hrn, hr6⟩ := hv
    have c6 := c.ex e6
    have hlen := c.rw_.len
    have hlr := c.ok.r.len
    refine q_dput (ep_pair (ev_var rfl) (ev_dgetW (ev_var rfl) (ev_var rfl) (.inl hr6) c6.rw_ hk)) (ev_var rfl) (ev_var rfl) hr6 (by omega) fun v H7 e7 hv => ?_
    have e8 : Ex H3 (upd H7 r (.dK (putK kvs (.inr x) v))) := (e6.trans e7).mut hrn
    have hr7 := e7 _ _ hr6
    exact fin_chg (ev_var rfl) (ev_var rfl) (hms.ex e8) (hdk.ex e8) upd_same (((c6.rw_.ex e7).set hk hv).upd hr7) (c.ok.r.set ⟨by omega, hp⟩ (c.ok.r.wt _ (rowOf_mem hk))) hz fun H' names top e h => q H' names top ((Ex.d e8).trans e) h
theorem sc_Desk_set_weight : FnScope ["self", "name", "weight", "rows"] ["self", "name", "weight"] (defScope s_Desk_set_weight) := ⟨rfl, rfl, rfl, by decide +kernel, rfl, by decide +kernel, by decide +kernel⟩
def spSetW (K : PySem.W.Frag) : Sp := fun vs H Q E => ∃ (Ms : List Addr) (a pl : Addr) (L0 : List SD) (st : SD) (x : Str) (p : Int), vs = [.ref a, .str x, .int p] ∧ MsOk K Ms H ∧ DeskF K Ms H a pl (L0 ++ [st]) ∧ L0.length ≤ 900 ∧ p < 2 ^ 60 ∧ ActQ K Ms a pl L0 st H Q E (actSetW st x p)
theorem ok_Desk_set_weight (T : TXG fileC fa fx fn P K mg) : FnB P w K mg base 23 (He.ma K (He.ga K "Desk") "set_weight") ["self", "name", "weight"] (spSetW K) := by
  refine fnb T.d_Desk_set_weight rfl sc_Desk_set_weight (fun vs H Q E h => ?_) (fun _ _ _ _ _ _ us hl => match us, hl with | [_, _, _], _ => rfl) (fun cdv A outer s H vs Q E hr h => ?_)
  · obtain ⟨_, _, _, _, _, _, _, rfl, _⟩ := h
    rfl
  · have hu := hu_of hr
    refine ⟨_, (pss_cons (ps_expr (pe_methR (pv 0) T.c_Desk T.me_Desk__check_known (ok_Desk__check_known T).r (hr.mono (by decide)) (passes_call (takes_of rfl rfl rfl rfl) (fun _ _ _ _ z => z)) (pa_cons (pv 1) pa_nil)))
      (pss_cons (ps_expr (pe_callR (ok_check_least T).r (hr.mono (by decide)) T.k_check_least (by rfl) T.g_check_least (passes_call (takes_of rfl rfl rfl rfl) (fun _ _ _ _ z => z)) (pa_cons pe_str (pa_cons (pv 2) (pa_cons pe_int pa_nil)))))
      (pss_cons (ps_set (i := 3) sc_Desk_set_weight.nd rfl (Or.inl rfl) (pe_callTy call_dictD (by rfl) T.n_dict (by decide +kernel) (pa_cons (pe_fld (pe_fld (pv 0) rfl) rfl) pa_nil)))
      (pss_cons (ps_dput hu (pv 3) (pv 1) (pe_tup (pa_cons (pe_ix ix_tup (pe_dget hu (pv 3) (pv 1) (fun _ _ => rfl)) pe_int (fun _ _ => rfl)) (pa_cons (pv 2) pa_nil))) rfl)
      (pss_one (ps_expr (pe_methR (pv 0) T.c_Desk T.me_Desk__change_rows (ok_Desk__change_rows T).r (hr.mono (by decide)) passL (pa_cons (pv 3) pa_nil)))))))), ?_⟩
    obtain ⟨Ms, a, pl, L0, st, x, p, rfl, hms, hdk, hz, hp, q⟩ := h
    obtain ⟨dx, b, dy, ln, d, kvs, qv, sts, c, _⟩ := hdk.cur
    unfold actSetW at q
    refine q_known (ev_var (v := .ref a) rfl) c.dk rfl (ea_cons (ev_var rfl) ea_nil) hdk (fun hk H1 e1 => ?_) fun hk => ?_
    rotate_left
    · rw [if_pos hk] at q; exact q
    rw [if_neg (by rw [hk]; simp)] at q
    have q := ActQ.ex q e1
    have c := c.ex e1
    have hms := hms.ex e1
    have hdk := hdk.ex e1
    refine q_least (ea_cons ev_c (ea_cons (ev_var rfl) (ea_cons ev_c ea_nil))) (fun h0 H3 e3 => ?_) fun h0 => ?_
    rotate_left
    · rw [if_pos h0] at q
      exact q
    rw [if_neg (by omega)] at q
    have q := ActQ.ex q e3
    have c := c.ex e3
    have hms := hms.ex e3
    have hdk := hdk.ex e3
    refine q_asgP (ep_dict (ev_rows T (ev_var rfl) c) (.inl c.dc)) fun v H6 e6 hv => ?_
    obtain ⟨r, rfl, hrn, hr6⟩ := hv
    have c6 := c.ex e6
    have hlen := c.rw_.len
    have hlr := c.ok.r.len
    refine q_dput (ep_pair (ev_dgetP (ev_var rfl) (ev_var rfl) (.inl hr6) c6.rw_ hk) (ev_var rfl)) (ev_var rfl) (ev_var rfl) hr6 (by omega) fun v H7 e7 hv => ?_
    have e8 : Ex H3 (upd H7 r (.dK (putK kvs (.inr x) v))) := (e6.trans e7).mut hrn
    have hr7 := e7 _ _ hr6
    exact fin_chg (ev_var rfl) (ev_var rfl) (hms.ex e8) (hdk.ex e8) upd_same (((c6.rw_.ex e7).set hk hv).upd hr7) (c.ok.r.set (c.ok.r.pr _ (rowOf_mem hk)) ⟨by omega, hp⟩) hz fun H' names top e h => q H' names top ((Ex.d e8).trans e) h
end
end K7

/-! K9T: set_aside, set_limit, undo, weight_of, readers. -/
namespace K7
open PySem PySem.Spec PyProof.Rows L2 Evl RZ
section
variable {P : Program} {w : World} {K : PySem.W.Frag} {mg : Str → Option Value} {base : Heap}
section
variable {σ : L2.St} {H : Hp} {te : TE} {ta : TA} {D : Ends} {E : XK} {Ms : List Addr} {a pl d : Addr} {L0 : List SD} {st : SD} {kvs : List (Key × V)} {rows : List Row} {s : Int} {cap : Option Int}
theorem s_least {x : Str} {n l : Int} (h : EvA ta σ H [.str x, .int n, .int l]) (h1 : l ≤ n → ∀ H1, Ex H H1 → D.nx σ H1) (h2 : n < l → XR K E H "BadNumber" (numBad x)) : tDrop (fun σ H Q => ta σ H fun vs H1 => spLeast K vs H1 Q E) D σ H :=
  h H (Ex.refl _) _ fun H1 e1 => ⟨x, n, l, rfl, fun hl H2 e2 => h1 hl H2 (e1.trans e2), fun hl => (h2 hl).mono e1⟩
theorem ActQ.non {Q : VK} {x : Act} {H' : Hp} (h : ActQ K Ms a pl L0 st H Q E x) (hx : ∀ i, x ≠ .val i) (e : Ex H H') : ActQ K Ms a pl L0 st H' (fun _ H2 => Q .non H2) E x := by
  have h := h.ex e
  cases x with
  | bad c fs => exact h
  | new rows s cap => exact h
  | val i => exact absurd rfl (hx i)
  | back => exact h
  | nothing => exact h
theorem actSetP_val {x : Str} {p : Int} (i : Int) : actSetP st x p ≠ .val i := by
  unfold actSetP
  split
  · intro h; cases h
  · split <;> intro h <;> cases h
theorem fin_chg3 (ho : Ev te σ H (.ref a)) (h : EvA ta σ H [.ref d, .int s, capV cap]) (hms : MsOk K Ms H) (hdk : DeskF K Ms H a pl (L0 ++ [st])) (hrd : H d = some (.dK kvs)) (hrw : RowsD H kvs rows) (hk : DkOk rows s cap) (hz : L0.length ≤ 900)
    (k : ∀ H' names top, ExD a pl H H' → DeskF K Ms H' a pl (L0 ++ [st] ++ [⟨rows, s, cap, names, top⟩]) → D.nx σ H') : tDrop (tMethR (He.ga K "Desk") "_change" (spChg K) E te ta) D σ H := by
  obtain ⟨dx, b, dy, ln, d', kvs', qv, sts, c, _⟩ := hdk.cur
  exact s_dropM ho c.dk rfl h fun H1 e1 => ⟨Ms, a, pl, d, L0 ++ [st], kvs, rows, s, cap, rfl, hms.ex e1, hdk.ex e1, e1 _ _ hrd, hrw.ex e1, hk, by simp only [List.length_append, List.length_cons, List.length_nil]; omega, fun H' names top e h => k H' names top ((Ex.d e1).trans e) h⟩
end
theorem sc_Desk_set_aside : FnScope ["self", "aside"] ["self", "aside"] (defScope s_Desk_set_aside) := ⟨rfl, rfl, rfl, by decide +kernel, rfl, by decide +kernel, by decide +kernel⟩
def spSetA (K : PySem.W.Frag) : Sp := fun vs H Q E => ∃ (Ms : List Addr) (a pl : Addr) (L0 : List SD) (st : SD) (s : Int), vs = [.ref a, .int s] ∧ MsOk K Ms H ∧ DeskF K Ms H a pl (L0 ++ [st]) ∧ L0.length ≤ 900 ∧ s < 2 ^ 60 ∧ ActQ K Ms a pl L0 st H Q E (actAside st s)
theorem ok_Desk_set_aside (T : TXG fileC fa fx fn P K mg) : FnB P w K mg base 21 (He.ma K (He.ga K "Desk") "set_aside") ["self", "aside"] (spSetA K) := by
  refine fnb T.d_Desk_set_aside rfl sc_Desk_set_aside (fun vs H Q E h => ?_) (fun _ _ _ _ _ _ us hl => match us, hl with | [_, _], _ => rfl) (fun cdv A outer s H vs Q E hr h => ?_)
  · obtain ⟨_, _, _, _, _, _, rfl, _⟩ := h
    rfl
  · refine ⟨_, (pss_cons (ps_expr (pe_callR (ok_check_least T).r (hr.mono (by decide)) T.k_check_least (by rfl) T.g_check_least (passes_call (takes_of rfl rfl rfl rfl) (fun _ _ _ _ z => z)) (pa_cons pe_str (pa_cons (pv 1) (pa_cons pe_int pa_nil)))))
      (pss_one (ps_expr (pe_methR (pv 0) T.c_Desk T.me_Desk__change (ok_Desk__change T).r (hr.mono (by decide)) passL (pa_cons (pe_fld (pe_fld (pv 0) rfl) rfl) (pa_cons (pv 1) (pa_cons (pe_fld (pe_fld (pv 0) rfl) rfl) pa_nil))))))), ?_⟩
    obtain ⟨Ms, a, pl, L0, st, s, rfl, hms, hdk, hz, hs, q⟩ := h
    obtain ⟨dx, b, dy, ln, d, kvs, qv, sts, c, _⟩ := hdk.cur
    unfold actAside at q
    refine q_least (ea_cons ev_c (ea_cons (ev_var rfl) (ea_cons ev_c ea_nil))) (fun h0 H3 e3 => ?_) fun h0 => ?_
    rotate_left
    · rw [if_pos h0] at q
      exact q
    rw [if_neg (by omega)] at q
    have c := c.ex e3
    exact fin_chg3 (cap := st.cap) (ev_var rfl) (ea_cons (ev_rows T (ev_var rfl) c) (ea_cons (ev_var rfl) (ea_cons (ev_cap T (ev_var rfl) c) ea_nil))) (hms.ex e3) (hdk.ex e3) c.dc c.rw_ ⟨c.ok.r, h0, hs, c.ok.c⟩ hz fun H' names top e h => q H' names top ((Ex.d e3).trans e) h
theorem sc_Desk_set_limit : FnScope ["self", "limit"] ["self", "limit"] (defScope s_Desk_set_limit) := ⟨rfl, rfl, rfl, by decide +kernel, rfl, by decide +kernel, by decide +kernel⟩
def spSetL (K : PySem.W.Frag) : Sp := fun vs H Q E => ∃ (Ms : List Addr) (a pl : Addr) (L0 : List SD) (st : SD) (m : Option Int), vs = [.ref a, capV m] ∧ MsOk K Ms H ∧ DeskF K Ms H a pl (L0 ++ [st]) ∧ L0.length ≤ 900 ∧ (∀ i, m = some i → i < 2 ^ 60) ∧ ActQ K Ms a pl L0 st H Q E (actLimit st m)
theorem ok_Desk_set_limit (T : TXG fileC fa fx fn P K mg) : FnB P w K mg base 21 (He.ma K (He.ga K "Desk") "set_limit") ["self", "limit"] (spSetL K) := by
  refine fnb T.d_Desk_set_limit rfl sc_Desk_set_limit (fun vs H Q E h => ?_) (fun _ _ _ _ _ _ us hl => match us, hl with | [_, _], _ => rfl) (fun cdv A outer s H vs Q E hr h => ?_)
  · obtain ⟨_, _, _, _, _, _, rfl, _⟩ := h
    rfl
  · refine ⟨_, (pss_cons (ps_if (pt_cmpR op_notN (pv 1) pe_non (nomark _)) (pss_one (ps_expr (pe_callR (ok_check_least T).r (hr.mono (by decide)) T.k_check_least (by rfl) T.g_check_least (passes_call (takes_of rfl rfl rfl rfl) (fun _ _ _ _ z => z)) (pa_cons pe_str (pa_cons (pv 1) (pa_cons pe_int pa_nil)))))) pss_nil)
      (pss_one (ps_expr (pe_methR (pv 0) T.c_Desk T.me_Desk__change (ok_Desk__change T).r (hr.mono (by decide)) passL (pa_cons (pe_fld (pe_fld (pv 0) rfl) rfl) (pa_cons (pe_fld (pe_fld (pv 0) rfl) rfl) (pa_cons (pv 1) pa_nil))))))), ?_⟩
    obtain ⟨Ms, a, pl, L0, st, m, rfl, hms, hdk, hz, hs, q⟩ := h
    obtain ⟨dx, b, dy, ln, d, kvs, qv, sts, c, _⟩ := hdk.cur
    unfold actLimit at q
    cases m with
    | none =>
      refine Evl.q_when (b := false) (et_is (et_B (ev_op (ev_var (v := .non) rfl) ev_c (rv_val fun H1 e1 Q k => ⟨rfl, k⟩))) rfl) (fun h => by cases h) fun _ H3 e3 => ?_
      have c := c.ex e3
      exact fin_chg3 (cap := none) (ev_var rfl) (ea_cons (ev_rows T (ev_var rfl) c) (ea_cons (ev_aside T (ev_var rfl) c) (ea_cons (ev_var rfl) ea_nil))) (hms.ex e3) (hdk.ex e3) c.dc c.rw_ ⟨c.ok.r, c.ok.s1, c.ok.s2, fun _ h => by cases h⟩ hz fun H' names top e h => q H' names top ((Ex.d e3).trans e) h
    | some m =>
      refine Evl.q_when (b := true) (et_is (et_B (ev_op (ev_var (v := .int m) rfl) ev_c (rv_val fun H1 e1 Q k => ⟨rfl, k⟩))) rfl) (fun _ H3 e3 => ?_) fun h => by cases h
      have c := c.ex e3
      refine s_least (ea_cons ev_c (ea_cons (ev_var rfl) (ea_cons ev_c ea_nil))) (fun h0 H4 e4 => ?_) fun h0 => ?_
      rotate_left
      · simp only [if_pos h0] at q
        exact XR.mono q e3
      simp only [if_neg (show ¬ m < 0 by omega)] at q
      have c := c.ex e4
      have e5 := e3.trans e4
      exact fin_chg3 (cap := some m) (ev_var rfl) (ea_cons (ev_rows T (ev_var rfl) c) (ea_cons (ev_aside T (ev_var rfl) c) (ea_cons (ev_var rfl) ea_nil))) (hms.ex e5) (hdk.ex e5) c.dc c.rw_ ⟨c.ok.r, c.ok.s1, c.ok.s2, fun i h => by cases h; exact ⟨h0, hs _ rfl⟩⟩ hz fun H' names top e h => q H' names top ((Ex.d e5).trans e) h
theorem sc_Desk_weight_of : FnScope ["self", "name"] ["self", "name"] (defScope s_Desk_weight_of) := ⟨rfl, rfl, rfl, by decide +kernel, rfl, by decide +kernel, by decide +kernel⟩
def spWo (K : PySem.W.Frag) (f : Row → Int) : Sp := fun vs H Q E => ∃ (Ms : List Addr) (a pl : Addr) (L0 : List SD) (st : SD) (x : Str), vs = [.ref a, .str x] ∧ DeskF K Ms H a pl (L0 ++ [st]) ∧ ActQ K Ms a pl L0 st H Q E (actGet st x f)
theorem ok_Desk_weight_of (T : TXG fileC fa fx fn P K mg) : FnB P w K mg base 5 (He.ma K (He.ga K "Desk") "weight_of") ["self", "name"] (spWo K fun r => r.2.2) := by
  refine fnb T.d_Desk_weight_of rfl sc_Desk_weight_of (fun vs H Q E h => ?_) (fun _ _ _ _ _ _ us hl => match us, hl with | [_, _], _ => rfl) (fun cdv A outer s H vs Q E hr h => ?_)
  · obtain ⟨_, _, _, _, _, _, rfl, _⟩ := h
    rfl
  · have hu := hu_of hr
    refine ⟨_, (pss_cons (ps_expr (pe_methR (pv 0) T.c_Desk T.me_Desk__check_known (ok_Desk__check_known T).r (hr.mono (by decide)) (passes_call (takes_of rfl rfl rfl rfl) (fun _ _ _ _ z => z)) (pa_cons (pv 1) pa_nil)))
      (pss_one (ps_ret (pe_ix ix_tup (pe_dget hu (pe_fld (pe_fld (pv 0) rfl) rfl) (pv 1) (fun _ _ => rfl)) pe_int (fun _ _ => rfl))))), ?_⟩
    obtain ⟨Ms, a, pl, L0, st, x, rfl, hdk, q⟩ := h
    obtain ⟨dx, b, dy, ln, d, kvs, qv, sts, c, _⟩ := hdk.cur
    unfold actGet at q
    refine q_known (ev_var (v := .ref a) rfl) c.dk rfl (ea_cons (ev_var rfl) ea_nil) hdk (fun hk H1 e1 => ?_) fun hk => ?_
    rotate_left
    · rw [if_pos hk] at q; exact q
    rw [if_neg (by rw [hk]; simp)] at q
    have c := c.ex e1
    exact Evl.s_ret (ev_dgetW (ev_rows T (ev_var rfl) c) (ev_var rfl) (.inl c.dc) c.rw_ hk) fun H2 e2 => q H2 (e1.trans e2)
theorem sc_Desk___getitem__ : FnScope ["self", "name"] ["self", "name"] (defScope s_Desk___getitem__) := ⟨rfl, rfl, rfl, by decide +kernel, rfl, by decide +kernel, by decide +kernel⟩
theorem ok_Desk___getitem__ (T : TXG fileC fa fx fn P K mg) : FnB P w K mg base 5 (He.ma K (He.ga K "Desk") "__getitem__") ["self", "name"] (spWo K fun r => r.2.1) := by
  refine fnb T.d_Desk___getitem__ rfl sc_Desk___getitem__ (fun vs H Q E h => ?_) (fun _ _ _ _ _ _ us hl => match us, hl with | [_, _], _ => rfl) (fun cdv A outer s H vs Q E hr h => ?_)
  · obtain ⟨_, _, _, _, _, _, rfl, _⟩ := h
    rfl
  · have hu := hu_of hr
    refine ⟨_, (pss_cons (ps_expr (pe_methR (pv 0) T.c_Desk T.me_Desk__check_known (ok_Desk__check_known T).r (hr.mono (by decide)) (passes_call (takes_of rfl rfl rfl rfl) (fun _ _ _ _ z => z)) (pa_cons (pv 1) pa_nil)))
      (pss_one (ps_ret (pe_ix ix_tup (pe_dget hu (pe_fld (pe_fld (pv 0) rfl) rfl) (pv 1) (fun _ _ => rfl)) pe_int (fun _ _ => rfl))))), ?_⟩
    obtain ⟨Ms, a, pl, L0, st, x, rfl, hdk, q⟩ := h
    obtain ⟨dx, b, dy, ln, d, kvs, qv, sts, c, _⟩ := hdk.cur
    unfold actGet at q
    refine q_known (ev_var (v := .ref a) rfl) c.dk rfl (ea_cons (ev_var rfl) ea_nil) hdk (fun hk H1 e1 => ?_) fun hk => ?_
    rotate_left
    · rw [if_pos hk] at q; exact q
    rw [if_neg (by rw [hk]; simp)] at q
    have c := c.ex e1
    exact Evl.s_ret (ev_dgetP (ev_rows T (ev_var rfl) c) (ev_var rfl) (.inl c.dc) c.rw_ hk) fun H2 e2 => q H2 (e1.trans e2)
theorem sc_Desk___setitem__ : FnScope ["self", "name", "price"] ["self", "name", "price"] (defScope s_Desk___setitem__) := ⟨rfl, rfl, rfl, by decide +kernel, rfl, by decide +kernel, by decide +kernel⟩
theorem ok_Desk___setitem__ (T : TXG fileC fa fx fn P K mg) : FnB P w K mg base 25 (He.ma K (He.ga K "Desk") "__setitem__") ["self", "name", "price"] (spSetP K) := by
  refine fnb T.d_Desk___setitem__ rfl sc_Desk___setitem__ (fun vs H Q E h => ?_) (fun _ _ _ _ _ _ us hl => match us, hl with | [_, _, _], _ => rfl) (fun cdv A outer s H vs Q E hr h => ?_)
  · obtain ⟨_, _, _, _, _, _, _, rfl, _⟩ := h
    rfl
  · refine ⟨_, (pss_one (ps_expr (pe_methR (pv 0) T.c_Desk T.me_Desk_set_price (ok_Desk_set_price T).r (hr.mono (by decide)) (passes_call (takes_of rfl rfl rfl rfl) (fun _ _ _ _ z => z)) (pa_cons (pv 1) (pa_cons (pv 2) pa_nil))))), ?_⟩
    obtain ⟨Ms, a, pl, L0, st, x, p, rfl, hms, hdk, hz, hp, q⟩ := h
    obtain ⟨dx, b, dy, ln, d, kvs, qv, sts, c, _⟩ := hdk.cur
    exact s_dropM (ev_var (v := .ref a) rfl) c.dk rfl (ea_cons (ev_var rfl) (ea_cons (ev_var rfl) ea_nil)) fun H1 e1 => ⟨Ms, a, pl, L0, st, x, p, rfl, hms.ex e1, hdk.ex e1, hz, hp, q.non actSetP_val e1⟩
theorem sc_Desk___contains__ : FnScope ["self", "name"] ["self", "name"] (defScope s_Desk___contains__) := ⟨rfl, rfl, rfl, by decide +kernel, rfl, by decide +kernel, by decide +kernel⟩
def spHas (K : PySem.W.Frag) : Sp := fun vs H Q E => ∃ (Ms : List Addr) (a pl : Addr) (L0 : List SD) (st : SD) (x : Str), vs = [.ref a, .str x] ∧ DeskF K Ms H a pl (L0 ++ [st]) ∧ RetV (.bl (known st.rows x)) H Q
theorem ok_Desk___contains__ (T : TXG fileC fa fx fn P K mg) : FnB P w K mg base 1 (He.ma K (He.ga K "Desk") "__contains__") ["self", "name"] (spHas K) := by
  refine fnb T.d_Desk___contains__ rfl sc_Desk___contains__ (fun vs H Q E h => ?_) (fun _ _ _ _ _ _ us hl => match us, hl with | [_, _], _ => rfl) (fun cdv A outer s H vs Q E hr h => ?_)
  · obtain ⟨_, _, _, _, _, _, rfl, _⟩ := h
    rfl
  · have hu := hu_of hr
    refine ⟨_, (pss_one (ps_ret (pe_cmp (pc_din hu (pv 1) (pe_fld (pe_fld (pv 0) rfl) rfl))))), ?_⟩
    obtain ⟨Ms, a, pl, L0, st, x, rfl, hdk, q⟩ := h
    obtain ⟨dx, b, dy, ln, d, kvs, qv, sts, c, _⟩ := hdk.cur
    exact Evl.s_ret (ev_din (ev_var rfl) (ev_rows T (ev_var rfl) c) (.inl c.dc) c.rw_) fun H2 e2 => q H2 e2
end
end K7

/-! K9U: undo, __len__, __iter__, getters, a new desk. -/
namespace K7
open PySem PySem.Spec PyProof.Rows L2 Evl RZ
def actUndo (L0 : List SD) : Act := if L0 = [] then .nothing else .back
section
variable {P : Program} {w : World} {K : PySem.W.Frag} {mg : Str → Option Value} {base : Heap}
theorem sc_Desk_undo : FnScope ["self"] ["self"] (defScope s_Desk_undo) := ⟨rfl, rfl, rfl, by decide +kernel, rfl, by decide +kernel, by decide +kernel⟩
def spUndo (K : PySem.W.Frag) : Sp := fun vs H Q E => ∃ (Ms : List Addr) (a pl : Addr) (L0 : List SD) (st : SD), vs = [.ref a] ∧ MsOk K Ms H ∧ DeskF K Ms H a pl (L0 ++ [st]) ∧ ActQ K Ms a pl L0 st H Q E (actUndo L0)
theorem ok_Desk_undo (T : TXG fileC fa fx fn P K mg) : FnB P w K mg base 3 (He.ma K (He.ga K "Desk") "undo") ["self"] (spUndo K) := by
  refine fnb T.d_Desk_undo rfl sc_Desk_undo (fun vs H Q E h => ?_) (fun _ _ _ _ _ _ us hl => match us, hl with | [_], _ => rfl) (fun cdv A outer s H vs Q E hr h => ?_)
  · obtain ⟨_, _, _, _, _, rfl, _⟩ := h
    rfl
  · refine ⟨_, (pss_cons (ps_if (pt_cmpR op_eq (pe_callB call_len_seq (by rfl) T.n_len PySem.boot_len (pa_cons (pe_fld (pv 0) rfl) pa_nil)) pe_int (nomark _)) (pss_one (ps_raise rfl (takes_of rfl rfl rfl rfl) (pmk_own PySem.F.excBase_ValueError T.exc_NothingToUndo.1 T.g_NothingToUndo T.k_NothingToUndo (raises_own T.exc_NothingToUndo.2.2.1 T.exc_NothingToUndo.2.2.2) (by rfl)))) pss_nil)
      (pss_one (ps_fld (pv 0) (pe_bm0 PySem.F.plainAttrs_list PySem.F.slot_list_pop PySem.F.type_list_pop mt_pop (pe_fld (pv 0) rfl)) rfl))), ?_⟩
    obtain ⟨Ms, a, pl, L0, st, rfl, hms, hdk, q⟩ := h
    obtain ⟨dx, b, dy, ln, d, kvs, qv, sts, c, hst, hsv, hma, hmp⟩ := hdk.cur
    unfold actUndo at q
    have hsl := hst.len
    refine Evl.q_when (b := decide (sts.length = 0)) (et_is (et_B (ev_op (ev_cb (ea_cons (ev_fld (ev_var (v := .ref a) rfl) c.dk T.c_Desk T.no_Desk__past rfl) ea_nil) (z := .int sts.length) fun H1 e1 Q k => ⟨pl, _, rfl, .inl (sq_of (e1 _ _ c.ps)), k _ (Ex.refl _)⟩) ev_c (rv_eq rfl))) (decide_eq_decide.mpr ⟨fun h => by injection h; omega, fun h => by rw [h]; rfl⟩)) (fun hb H1 e1 => ?_) fun hb H1 e1 => ?_
    · have hb := of_decide_eq_true hb
      rw [if_pos (List.eq_nil_of_length_eq_zero (by omega))] at q
      exact q H1 e1
    · have hb := of_decide_eq_false hb
      have hL : ∃ L1 st1, L0 = L1 ++ [st1] := by
        rcases List.eq_nil_or_concat L0 with h | ⟨L1, st1, h⟩
        · subst h; exact absurd hsl (by simp at hsl; omega)
        · exact ⟨L1, st1, by rw [h, List.concat_eq_append]⟩
      obtain ⟨L1, st1, rfl⟩ := hL
      rw [if_neg (by simp)] at q
      have hS : ∃ s1 v1, sts = s1 ++ [v1] := by
        rcases List.eq_nil_or_concat sts with h | ⟨s1, v1, h⟩
        · subst h; exact absurd rfl hb
        · exact ⟨s1, v1, by rw [h, List.concat_eq_append]⟩
      obtain ⟨s1, v1, rfl⟩ := hS
      have npa : pl ≠ a := by
        rintro rfl
        have := c.dk
        rw [c.ps] at this
        cases this
      have e2 : ExD a pl H (upd H1 pl (.lst s1)) := (Ex.d e1).trans ExD.p
      refine ⟨_, rfl, a, _, dx, _, _, rfl, e1 _ _ c.dk, T.c_Desk, T.no_Desk__past, rfl, .inl ⟨rfl, _, sq_of (e1 _ _ c.ps)⟩, pl, _, v1, rfl, rfl, e1 _ _ c.ps, by simp, ?_⟩
      rw [List.dropLast_concat]
      refine ⟨_, rfl, a, _, dx, _, rfl, by rw [upd_ne (Ne.symm npa)]; exact e1 _ _ c.dk, T.c_Desk, T.no_Desk__state, by simp, ?_⟩
      have e3 : ExD a pl H (upd (upd H1 pl (.lst s1)) a (.ins (He.ga K "Desk") dx (putF "_state" v1 [("_state", .ref b), ("_past", .ref pl)]))) := e2.trans ExD.a
      refine q L1 st1 _ rfl e3 ⟨hma, hmp, dx, v1, s1, upd_same, by rw [upd_ne npa, upd_same], ?_⟩
      exact hst.imp fun _ _ h => h.ex (e3.fz hma hmp)
theorem sc_Desk___len__ : FnScope ["self"] ["self"] (defScope s_Desk___len__) := ⟨rfl, rfl, rfl, by decide +kernel, rfl, by decide +kernel, by decide +kernel⟩
def spLen (K : PySem.W.Frag) : Sp := fun vs H Q _ => ∃ (a dx b dy d : Addr) (pv : V) (rest : List (Str × V)) (kvs : List (Key × V)), vs = [.ref a] ∧ H a = some (.ins (He.ga K "Desk") dx [("_state", .ref b), ("_past", pv)]) ∧ H b = some (.ins (He.ga K "State") dy (("rows", .ref d) :: rest)) ∧ Rd H d (.dK kvs) ∧ Q (.int kvs.length) H
theorem ok_Desk___len__ (T : TXG fileC fa fx fn P K mg) : FnB P w K mg base 1 (He.ma K (He.ga K "Desk") "__len__") ["self"] (spLen K) := by
  refine fnb T.d_Desk___len__ rfl sc_Desk___len__ (fun vs H Q E h => ?_) (fun _ _ _ _ _ _ us hl => match us, hl with | [_], _ => rfl) (fun cdv A outer s H vs Q E hr h => ?_)
  · obtain ⟨_, _, _, _, _, _, _, _, rfl, _⟩ := h
    rfl
  · refine ⟨_, (pss_one (ps_ret (pe_callB call_lenR (by rfl) T.n_len PySem.boot_len (pa_cons (pe_fld (pe_fld (pv 0) rfl) rfl) pa_nil)))), ?_⟩
    obtain ⟨a, dx, b, dy, d, pv, rest, kvs, rfl, ha, hb, hd, q⟩ := h
    exact ⟨_, rfl, a, _, dx, _, _, rfl, ha, T.c_Desk, T.no_Desk__state, rfl, b, _, dy, _, _, rfl, hb, T.c_State, T.no_State_rows, rfl, d, kvs, rfl, hd, q⟩
theorem sc_Desk___iter__ : FnScope ["self"] ["self"] (defScope s_Desk___iter__) := ⟨rfl, rfl, rfl, by decide +kernel, rfl, by decide +kernel, by decide +kernel⟩
def spIter (K : PySem.W.Frag) (n : Nat) : Sp := fun vs H Q _ => ∃ (a dx b dy d : Addr) (pv : V) (rest : List (Str × V)) (kvs : List (Key × V)) (od : Obj), vs = [.ref a] ∧ H a = some (.ins (He.ga K "Desk") dx [("_state", .ref b), ("_past", pv)]) ∧ H b = some (.ins (He.ga K "State") dy (("rows", .ref d) :: rest)) ∧ H d = some (.frz od (.dK kvs)) ∧ ∀ it, H it = none → n ≤ it → Q (.ref it) (upd H it (KItO od d it))
theorem ok_Desk___iter__ (T : TXG fileC fa fx fn P K mg) : FnRN P w K mg base 1 (He.ma K (He.ga K "Desk") "__iter__") (spIter K) := by
  obtain ⟨fd, F⟩ := T.d_Desk___iter__
  have b := FunD.bindsN (ps := ["self"]) F fun _ _ _ _ _ _ us hl => match us, hl with | [_], _ => rfl
  obtain ⟨oc, od, dV, kV, doc, pm, an, cdv, ct, osl, rfl, lk, hcd, hD, hK⟩ := F.ex
  refine fn_ofN lk hcd sc_Desk___iter__ b (fun n vs H Q E h => ?_) fun A outer s H vs Q E hr h => ?_
  · obtain ⟨_, _, _, _, _, _, _, _, _, rfl, _⟩ := h
    rfl
  · refine ⟨_, (pss_one (ps_ret (pe_callB call_iterD (by rfl) T.n_iter (by decide +kernel) (pa_cons (pe_fld (pe_fld (pv 0) rfl) rfl) pa_nil)))), ?_⟩
    obtain ⟨a, dx, b, dy, d, pv, rest, kvs, od, rfl, ha, hb, hd, q⟩ := h
    exact ⟨_, rfl, a, _, dx, _, _, rfl, ha, T.c_Desk, T.no_Desk__state, rfl, b, _, dy, _, _, rfl, hb, T.c_State, T.no_State_rows, rfl, d, od, kvs, rfl, hd, fun it h1 h2 => q it h1 h2⟩
theorem sc_Desk_limit : FnScope ["self"] ["self"] (defScope s_Desk_limit) := ⟨rfl, rfl, rfl, by decide +kernel, rfl, by decide +kernel, by decide +kernel⟩
def spGet (K : PySem.W.Frag) (f : SD → V) : Sp := fun vs H Q _ => ∃ (Ms : List Addr) (a pl : Addr) (L0 : List SD) (st : SD), vs = [.ref a] ∧ DeskF K Ms H a pl (L0 ++ [st]) ∧ RetV (f st) H Q
theorem ok_Desk_limit (T : TXG fileC fa fx fn P K mg) : FnB P w K mg base 1 (pAd "Desk" "limit" K) ["self"] (spGet K fun st => capV st.cap) := by
  refine fnb T.d_Desk_limit rfl sc_Desk_limit (fun vs H Q E h => ?_) (fun _ _ _ _ _ _ us hl => match us, hl with | [_], _ => rfl) (fun cdv A outer s H vs Q E hr h => ?_)
  · obtain ⟨_, _, _, _, _, rfl, _⟩ := h
    rfl
  · refine ⟨_, (pss_one (ps_ret (pe_fld (pe_fld (pv 0) rfl) rfl))), ?_⟩
    obtain ⟨Ms, a, pl, L0, st, rfl, hdk, q⟩ := h
    obtain ⟨dx, b, dy, ln, d, kvs, qv, sts, c, _⟩ := hdk.cur
    exact Evl.s_ret (ev_cap T (ev_var rfl) c) q
theorem sc_Desk_aside_weight : FnScope ["self"] ["self"] (defScope s_Desk_aside_weight) := ⟨rfl, rfl, rfl, by decide +kernel, rfl, by decide +kernel, by decide +kernel⟩
theorem ok_Desk_aside_weight (T : TXG fileC fa fx fn P K mg) : FnB P w K mg base 1 (pAd "Desk" "aside_weight" K) ["self"] (spGet K fun st => .int st.s) := by
  refine fnb T.d_Desk_aside_weight rfl sc_Desk_aside_weight (fun vs H Q E h => ?_) (fun _ _ _ _ _ _ us hl => match us, hl with | [_], _ => rfl) (fun cdv A outer s H vs Q E hr h => ?_)
  · obtain ⟨_, _, _, _, _, rfl, _⟩ := h
    rfl
  · refine ⟨_, (pss_one (ps_ret (pe_fld (pe_fld (pv 0) rfl) rfl))), ?_⟩
    obtain ⟨Ms, a, pl, L0, st, rfl, hdk, q⟩ := h
    obtain ⟨dx, b, dy, ln, d, kvs, qv, sts, c, _⟩ := hdk.cur
    exact Evl.s_ret (ev_aside T (ev_var rfl) c) q
theorem sc_Desk_best_lot : FnScope ["self"] ["self"] (defScope s_Desk_best_lot) := ⟨rfl, rfl, rfl, by decide +kernel, rfl, by decide +kernel, by decide +kernel⟩
def spLot2 (K : PySem.W.Frag) : Sp := fun vs H Q _ => ∃ (Ms : List Addr) (a pl : Addr) (L0 : List SD) (st : SD), vs = [.ref a] ∧ DeskF K Ms H a pl (L0 ++ [st]) ∧ ∀ p H', H p = none → Ex H H' → H' p = some (.lst (st.names.map V.str)) → Q (.ref p) H'
theorem ok_Desk_best_lot (T : TXG fileC fa fx fn P K mg) : FnB P w K mg base 1 (pAd "Desk" "best_lot" K) ["self"] (spLot2 K) := by
  refine fnb T.d_Desk_best_lot rfl sc_Desk_best_lot (fun vs H Q E h => ?_) (fun _ _ _ _ _ _ us hl => match us, hl with | [_], _ => rfl) (fun cdv A outer s H vs Q E hr h => ?_)
  · obtain ⟨_, _, _, _, _, rfl, _⟩ := h
    rfl
  · refine ⟨_, (pss_one (ps_ret (pe_callTy call_list_of (by rfl) T.n_list (by decide +kernel) (pa_cons (pe_fld (pe_fld (pv 0) rfl) rfl) pa_nil)))), ?_⟩
    obtain ⟨Ms, a, pl, L0, st, rfl, hdk, q⟩ := h
    obtain ⟨dx, b, dy, ln, d, kvs, qv, sts, c, _⟩ := hdk.cur
    exact Evl.s_retL (Evl.el_list (ev_fld (ev_state T (ev_var rfl) c) c.st_ T.c_State T.no_State_top_names rfl) (sq_of c.nm)) q
theorem sc_Desk_best_worth : FnScope ["self"] ["self"] (defScope s_Desk_best_worth) := ⟨rfl, rfl, rfl, by decide +kernel, rfl, by decide +kernel, by decide +kernel⟩
def spWo2 (K : PySem.W.Frag) : Sp := fun vs H Q _ => ∃ (Ms : List Addr) (a pl : Addr) (L0 : List SD) (st : SD), vs = [.ref a] ∧ DeskF K Ms H a pl (L0 ++ [st]) ∧ RetQ (RatAt K) st.top H Q
theorem ok_Desk_best_worth (T : TXG fileC fa fx fn P K mg) : FnB P w K mg base 1 (pAd "Desk" "best_worth" K) ["self"] (spWo2 K) := by
  refine fnb T.d_Desk_best_worth rfl sc_Desk_best_worth (fun vs H Q E h => ?_) (fun _ _ _ _ _ _ us hl => match us, hl with | [_], _ => rfl) (fun cdv A outer s H vs Q E hr h => ?_)
  · obtain ⟨_, _, _, _, _, rfl, _⟩ := h
    rfl
  · refine ⟨_, (pss_one (ps_ret (pe_fld (pe_fld (pv 0) rfl) rfl))), ?_⟩
    obtain ⟨Ms, a, pl, L0, st, rfl, hdk, q⟩ := h
    obtain ⟨dx, b, dy, ln, d, kvs, qv, sts, c, _⟩ := hdk.cur
    exact Evl.s_ret (ev_fld (ev_state T (ev_var rfl) c) c.st_ T.c_State T.no_State_top_worth rfl) fun H1 e1 => q _ H1 e1 (stay_Rat _ _ _ _ e1 c.tp)
end
end K7

/-! K9V: a new desk; drop. -/
namespace K7
open PySem PySem.Spec PyProof.Rows L2 Evl RZ
section
variable {P : Program} {w : World} {K : PySem.W.Frag} {mg : Str → Option Value} {base : Heap}
theorem StF.upa (T : TXG fileC fa fx fn P K mg) {H : Hp} {a b dx dy ln : Addr} {fs : List (Str × V)} {st : SD} {o : HO} (h : StF K H b dy ln st) (ha : H a = some (.ins (He.ga K "Desk") dx fs)) : StF K (upd H a o) b dy ln st := by
  obtain ⟨d, kvs, q, h1, h2, h3, h4, h5, ⟨z, dz, h6, h7⟩, h8⟩ := h
  have n1 : b ≠ a := by
    rintro rfl
    rw [ha] at h1
    exact T.ne_State_Desk (by injection h1 with h4; injection h4 with h5; exact h5.symm)
  have n2 : z ≠ a := by
    rintro rfl
    rw [ha] at h7
    exact T.ne_Ratio_Desk (by injection h7 with h4; injection h4 with h5; exact h5.symm)
  have n3 : d ≠ a := by rintro rfl; rw [ha] at h2; cases h2
  have n4 : ln ≠ a := by rintro rfl; rw [ha] at h5; cases h5
  refine ⟨d, kvs, q, by rw [upd_ne n1]; exact h1, by rw [upd_ne n3]; exact h2, h3.imp fun kv r ⟨q1, t, q2, q3⟩ => ⟨q1, t, q2, ?_⟩, h4, by rw [upd_ne n4]; exact h5, ⟨z, dz, h6, by rw [upd_ne n2]; exact h7⟩, h8⟩
  rw [upd_ne (by rintro rfl; rw [ha] at q3; cases q3)]
  exact q3
theorem q_fldP {σ : L2.St} {H : Hp} {te tv : TE} {a C dx : Addr} {fs : List (Str × V)} {f : Str} {D : Ends} {tz : TS} {P : V → Hp → Prop} (hv : EvPr tv σ H P) (h : Ev te σ H (.ref a)) (ha : H a = some (.ins C dx fs)) (c : Cls K C) (n : NoAttr K C f) (hz : fs.length < 1000) (hP : ∀ v H H', Ex H H' → P v H → P v H') (k : ∀ v H1, Ex H H1 → P v H1 → tz D σ (upd H1 a (.ins C dx (putF f v fs)))) : tSeq (sFld K te tv f) tz D σ H := s_fldP (D := { D with nx := tz D }) hv h ha c n hz hP k
theorem sc_Desk___init__ : FnScope ["self", "aside"] ["self", "aside"] (defScope s_Desk___init__) := ⟨rfl, rfl, rfl, by decide +kernel, rfl, by decide +kernel, by decide +kernel⟩
/-- a new desk -/
def NewDk (K : PySem.W.Frag) (H0 H : Hp) (a : Addr) (s : Int) : Prop := ∃ dx pl b dy ln names top, H a = some (.ins (He.ga K "Desk") dx [("_state", .ref b), ("_past", .ref pl)]) ∧ H pl = some (.lst []) ∧ H0 pl = none ∧ H0 ln = none ∧ ln ≠ pl ∧ StF K H b dy ln ⟨[], s, none, names, top⟩
def spDkI (K : PySem.W.Frag) : Sp := fun vs H Q _ => ∃ (a dx : Addr) (s : Int), vs = [.ref a, .int s] ∧ H a = some (.ins (He.ga K "Desk") dx []) ∧ 1 ≤ s ∧ s < 2 ^ 60 ∧ ∀ H', ExB a H H' → NewDk K H H' a s → Q .non H'
theorem ok_Desk___init__ (T : TXG fileC fa fx fn P K mg) : FnB P w K mg base 21 (He.ma K (He.ga K "Desk") "__init__") ["self", "aside"] (spDkI K) := by
  refine fnb T.d_Desk___init__ rfl sc_Desk___init__ (fun vs H Q E h => ?_) (fun _ _ _ _ _ _ us hl => match us, hl with | [_, _], _ => rfl) (fun cdv A outer s H vs Q E hr h => ?_)
  · obtain ⟨_, _, _, rfl, _⟩ := h
    rfl
  · refine ⟨_, (pss_cons (ps_expr (pe_callR (ok_check_least T).r (hr.mono (by decide)) T.k_check_least (by rfl) T.g_check_least (passes_call (takes_of rfl rfl rfl rfl) (fun _ _ _ _ z => z)) (pa_cons pe_str (pa_cons (pv 1) (pa_cons pe_int pa_nil)))))
      (pss_cons (ps_fld (pv 0) (StX.pe_makeR T.mk_State (ok_State___init__ T).r (hr.mono (by decide)) (by rfl) T.g_State passL (pa_cons pe_dnewK (pa_cons (pv 1) (pa_cons pe_non pa_nil)))) rfl)
      (pss_one (ps_fld (pv 0) (pe_lst pa_nil) rfl)))), ?_⟩
    obtain ⟨a, dx, s, rfl, ha, h1, h2, q⟩ := h
    refine q_least (ea_cons ev_c (ea_cons (ev_var rfl) (ea_cons ev_c ea_nil))) (fun h0 H1 e1 => ?_) fun h0 => by omega
    have hk0 : DkOk [] s none := ⟨⟨by simp, List.nodup_nil, fun _ h => (by cases h), fun _ h => (by cases h), fun _ h => (by cases h)⟩, h1, h2, fun _ h => (by cases h)⟩
    refine q_fldP (P := fun v H' => ∃ b dy ln names top, v = .ref b ∧ H1 ln = none ∧ StF K H' b dy ln ⟨[], s, none, names, top⟩) (fun H2 e2 Q k => ?_) (ev_var (v := .ref a) rfl) (e1 _ _ ha) T.c_Desk T.no_Desk__state (by simp) (fun v H H' e ⟨b, dy, ln, names, top, h1, h2, h3⟩ => ⟨b, dy, ln, names, top, h1, h2, h3.ex e⟩) fun v H2 e2 hv => ?_
    · refine fun d hd => ⟨_, rfl, fun x dz hx hdz hne => ?_⟩
      have eU : Ex H2 (upd (upd (upd H2 d (.dK [])) dz (.own x)) x (.ins (He.ga K "State") dz [])) := (Ex.new hd).trans ((ExB.refl x _).exU hx hdz)
      refine ⟨x, dz, d, [], [], s, none, rfl, upd_same, ?_, .nil, hk0, fun H3 ln names top e3 hln hst => ⟨rfl, k _ H3 ((Ex.new hd).trans (e3.exU hx hdz)) ⟨x, dz, ln, names, top, rfl, fresh_back (e2.trans eU) hln, hst⟩⟩⟩
      have n1 : d ≠ x := by rintro rfl; rw [upd_same] at hx; cases hx
      have n2 : d ≠ dz := by rintro rfl; rw [upd_same] at hdz; cases hdz
      rw [upd_ne n1, upd_ne n2, upd_same]
    · obtain ⟨b, dy, ln, names, top, rfl, hln, hst⟩ := hv
      have nba : b ≠ a := by
        rintro rfl
        obtain ⟨d, kvs, q', h3, _⟩ := hst
        rw [e2 _ _ (e1 _ _ ha)] at h3
        exact T.ne_State_Desk (by injection h3 with h4; injection h4 with h5; exact h5.symm)
      have hst' := hst.upa T (e2 _ _ (e1 _ _ ha)) (o := .ins (He.ga K "Desk") dx (putF "_state" (.ref b) []))
      refine s_fldP (P := fun v H' => ∃ pl, v = .ref pl ∧ H' pl = some (.lst []) ∧ (upd H2 a (.ins (He.ga K "Desk") dx (putF "_state" (.ref b) []))) pl = none) (fun H3 e3 Q k => ⟨by decide, fun p hp => k _ _ (Ex.new hp) ⟨p, rfl, upd_same, fresh_back e3 hp⟩⟩) (ev_var (v := .ref a) rfl) upd_same T.c_Desk T.no_Desk__past (Nat.lt_of_le_of_lt (putF_len _ _ _) (by simp)) (fun v H H' e ⟨pl, h1, h2, h3⟩ => ⟨pl, h1, e _ _ h2, h3⟩) fun v H3 e3 hv => ?_
      obtain ⟨pl, rfl, hpl, hpn⟩ := hv
      have npa : pl ≠ a := by rintro rfl; rw [upd_same] at hpn; cases hpn
      have hst3 := hst'.ex e3
      have ha3 := e3 _ _ (upd_same (H := H2) (a := a) (o := .ins (He.ga K "Desk") dx (putF "_state" (.ref b) [])))
      rw [upd_ne npa] at hpn
      have nln : ln ≠ pl := by
        rintro rfl
        obtain ⟨d, kvs, q', _, _, _, _, h5, _⟩ := hst
        rw [hpn] at h5
        cases h5
      refine q _ (((((Ex.b e1).trans (Ex.b e2)).trans ExB.upd).trans (Ex.b e3)).trans ExB.upd) ⟨dx, pl, b, dy, ln, names, top, upd_same, by rw [upd_ne npa]; exact hpl, fresh_back (e1.trans e2) hpn, fresh_back e1 hln, nln, hst3.upa T ha3⟩
theorem s_dropMP {σ : L2.St} {H : Hp} {te tv : TE} {a C dz : Addr} {m : Str} {sp : Sp} {E : XK} {fs : List (Str × V)} {D : Ends} {P : V → Hp → Prop} (ho : Ev te σ H (.ref a)) (ha : H a = some (.ins C dz fs)) (hm : fs.lookup m = none) (h : EvPr tv σ H P) (k : ∀ v H1, Ex H H1 → P v H1 → sp [.ref a, v] H1 (fun _ H2 => D.nx σ H2) E) : tDrop (tMethR C m sp E te (tCons tv tNil)) D σ H :=
  ho H (Ex.refl _) _ fun H1 e1 => ⟨a, dz, fs, rfl, e1 _ _ ha, hm, h H1 e1 _ fun v H2 e2 hv => k v H2 (e1.trans e2) hv⟩
theorem sc_Desk_drop : FnScope ["self", "name", "kept", "other"] ["self", "name"] (defScope s_Desk_drop) := ⟨rfl, rfl, rfl, by decide +kernel, rfl, by decide +kernel, by decide +kernel⟩
def dropRow (rows : List Row) (x : Str) : List Row := rows.filter fun r => decide (r.1 ≠ x)
def actDrop (st : SD) (x : Str) : Act := if known st.rows x = false then .bad "UnknownName" (nameBad x) else .new (dropRow st.rows x) st.s st.cap
theorem PairAt.ex_ {H H' : Hp} {v : V} {p w : Int} (h : PairAt H v p w) (e : Ex H H') : PairAt H' v p w := by
  obtain ⟨t, h1, h2⟩ := h
  exact ⟨t, h1, e _ _ h2⟩
theorem dc_drop {H : Hp} {d : Addr} {x : Str} {kvs : List (Key × V)} {rows : List Row} {o0 o3 : Option V} (hd : H d = some (.dK kvs)) (hrw : RowsD H kvs rows) (hk : RowsOk rows) :
    EvPr (tLockE (tDc (iKeys (tVar 2)) (gName 3) (tTest (tOp rNe (tVar 3) (tVar 1))) (tVar 3) (tDGet (tVar 2) (tVar 3)) [3])) [o0, some (.str x), some (.ref d), o3] H (fun v H' => ∃ r kvs', v = .ref r ∧ H r = none ∧ H' r = some (.dK kvs') ∧ RowsD H' kvs' (dropRow rows x)) := fun H1 e1 Q k => by
  have hd1 := e1 _ _ hd
  have hl := hrw.len
  have hl24 := hk.len
  refine ⟨d, .dK kvs, hd1, True.intro, fun od => ?_⟩
  have hrL : RowsD (upd H1 d (.frz od (.dK kvs))) kvs rows := (hrw.ex e1).upd hd1
  refine ⟨_, rfl, d, od, rfl, .inl ⟨kvs, upd_same, fun D hD => ?_⟩⟩
  have nDd : D ≠ d := by rintro rfl; rw [upd_same] at hD; cases hD
  refine ⟨fun i m H' => i + m = kvs.length ∧ Ex (upd H1 d (.frz od (.dK kvs))) H' ∧ ∃ kvs', H' D = some (.dK kvs') ∧ RowsD H' kvs' (dropRow (rows.take i) x) ∧ kvs'.length ≤ i, ⟨kvs.length, by omega, Ex.new hD, [], upd_same, .nil, by simp⟩, fun i m H' w => ?_⟩
  obtain ⟨him, hE, kvs', h1, h2, h3⟩ := w
  have hd' := hE _ _ (upd_same (H := H1) (a := d) (o := .frz od (.dK kvs)))
  cases m with
  | zero =>
    refine .inl ⟨⟨hd', by omega⟩, hd', ?_⟩
    have e2 : Ex H1 (upd H' d (.dK kvs)) := fun b o hb => by
      by_cases hq : b = d
      · subst hq; rw [hd1] at hb; rw [upd_same]; exact hb
      · rw [upd_ne hq]; exact hE _ _ (by rw [upd_ne hq]; exact hb)
    refine k _ _ e2 ⟨D, kvs', rfl, fresh_back e1 (by rw [upd_ne nDd] at hD; exact hD), by rw [upd_ne nDd]; exact h1, ?_⟩
    rw [List.take_of_length_le (by omega)] at h2
    exact h2.imp fun kv r ⟨q1, t, q2, q3⟩ => ⟨q1, t, q2, by rw [upd_ne (by rintro rfl; rw [hd'] at q3; cases q3)]; exact q3⟩
  | succ m =>
    have hlt : i < kvs.length := by omega
    have hltr : i < rows.length := by omega
    refine .inr ⟨⟨hd', hlt⟩, fun H'' => i + 1 + m = kvs.length ∧ Ex (upd H1 d (.frz od (.dK kvs))) H'' ∧ ∃ kvs', H'' D = some (.dK kvs') ∧ RowsD H'' kvs' (dropRow (rows.take (i + 1)) x) ∧ kvs'.length ≤ i + 1, fun H'' z => ⟨m, Nat.lt_succ_self m, z⟩, fun y H'' hy => ?_⟩
    obtain ⟨rfl, kk, vv, hkv, rfl⟩ := hy
    obtain ⟨r, hr1, hr2, _⟩ := hrL.getA hkv
    simp only at hr2
    subst hr2
    have hrr : rows[i]? = some r := hr1
    have htk : rows.take (i + 1) = rows.take i ++ [r] := by rw [List.take_succ, hrr]; rfl
    refine ⟨rfl, _, rfl, _, rfl, rfl, _, rfl, ?_⟩
    by_cases hx : r.1 = x
    · have hb : (!decide (kV (Sum.inr r.1) = V.str x)) = false := by rw [← hx]; simp [kV]
      rw [hb]
      dsimp only
      rw [if_neg (by decide)]
      refine ⟨by omega, hE, kvs', h1, ?_, by omega⟩
      rw [htk]
      unfold dropRow at h2 ⊢
      rw [List.filter_append, List.filter_cons_of_neg (by simp [hx])]
      simpa using h2
    · have hb : (!decide (kV (Sum.inr r.1) = V.str x)) = true := by simp [kV, hx]
      rw [hb]
      dsimp only
      rw [if_pos rfl]
      obtain ⟨v, hv1, hv2⟩ := hrL.at_ hk.nd hrr
      refine ⟨_, rfl, _, rfl, _, rfl, d, v, rfl, .inl ⟨kvs, .inr r.1, .inr ⟨od, hd'⟩, rfl, hv1.symm⟩, kvs', .inr r.1, rfl, h1, sz_lt (by omega), by omega, hE.mut hD, _, upd_same, ?_, Nat.le_trans putK_len2 (by omega)⟩
      have hkn : known (dropRow (rows.take i) x) r.1 = false := decide_eq_false fun hm => by
        obtain ⟨q, hq, e⟩ := List.mem_map.mp hm
        have hq := (List.mem_filter.mp hq).1
        obtain ⟨j, hj, ej⟩ := List.mem_iff_getElem.mp hq
        have hji : j < i := by rw [List.length_take] at hj; omega
        have hn := List.pairwise_iff_getElem.mp hk.nd j i (by rw [List.length_map]; omega) (by rw [List.length_map]; omega) hji
        apply hn
        rw [List.getElem_map, List.getElem_map]
        rw [List.getElem_take] at ej
        rw [ej, e]
        rw [List.getElem?_eq_getElem hltr] at hrr
        rw [Option.some.inj hrr]
      have e3 := (h2.put hkn (hv2.ex_ hE)).upd (o := .dK (putK kvs' (.inr r.1) v)) h1
      rw [htk]
      unfold dropRow at e3 ⊢
      rw [List.filter_append, List.filter_cons_of_pos (by simp [hx])]
      exact e3
theorem RowsOk.drop {rows : List Row} {x : Str} (h : RowsOk rows) : RowsOk (dropRow rows x) :=
  ⟨Nat.le_trans (List.length_filter_le _ _) h.len, List.Nodup.sublist (List.Sublist.map _ List.filter_sublist) h.nd, fun r hr => h.pr r (List.mem_filter.mp hr).1, fun r hr => h.wt r (List.mem_filter.mp hr).1, fun r hr => h.nm r (List.mem_filter.mp hr).1⟩
def spDrop (K : PySem.W.Frag) : Sp := fun vs H Q E => ∃ (Ms : List Addr) (a pl : Addr) (L0 : List SD) (st : SD) (x : Str), vs = [.ref a, .str x] ∧ MsOk K Ms H ∧ DeskF K Ms H a pl (L0 ++ [st]) ∧ L0.length ≤ 900 ∧ ActQ K Ms a pl L0 st H Q E (actDrop st x)
theorem ok_Desk_drop (T : TXG fileC fa fx fn P K mg) : FnB P w K mg base 23 (He.ma K (He.ga K "Desk") "drop") ["self", "name"] (spDrop K) := by
  refine fnb T.d_Desk_drop rfl sc_Desk_drop (fun vs H Q E h => ?_) (fun _ _ _ _ _ _ us hl => match us, hl with | [_, _], _ => rfl) (fun cdv A outer s H vs Q E hr h => ?_)
  · obtain ⟨_, _, _, _, _, _, rfl, _⟩ := h
    rfl
  · have hu := hu_of hr
    refine ⟨_, (pss_cons (ps_expr (pe_methR (pv 0) T.c_Desk T.me_Desk__check_known (ok_Desk__check_known T).r (hr.mono (by decide)) (passes_call (takes_of rfl rfl rfl rfl) (fun _ _ _ _ z => z)) (pa_cons (pv 1) pa_nil)))
      (pss_cons (ps_set (i := 2) sc_Desk_drop.nd rfl (Or.inr rfl) (pe_fld (pe_fld (pv 0) rfl) rfl))
      (pss_one (ps_expr (pe_methR (pv 0) T.c_Desk T.me_Desk__change_rows (ok_Desk__change_rows T).r (hr.mono (by decide)) passL (pa_cons (pe_lock (pe_dc (own := [("other", 3)]) rfl sc_Desk_drop.nd (pi_keys (pv 2)) (blkOk_by (own := [("other", 3)]) (N := ["self", "name", "kept", "other"]) (sc := defScope s_Desk_drop) (by decide +kernel)) (fun _ _ _ _ _ => (pg_name (i := 3) sc_Desk_drop.nd rfl (Or.inl rfl))) (fun _ _ _ _ _ => (pts_one (pt_cmpR op_ne (pv 3) (pv 1) (nomark _)))) (fun _ _ _ _ _ => (pv 3)) (fun _ _ _ _ _ => (pe_dget hu (pv 2) (pv 3) (fun _ _ => rfl))))) pa_nil)))))), ?_⟩
    obtain ⟨Ms, a, pl, L0, st, x, rfl, hms, hdk, hz, q⟩ := h
    obtain ⟨dx, b, dy, ln, d, kvs, qv, sts, c, _⟩ := hdk.cur
    unfold actDrop at q
    refine q_known (ev_var (v := .ref a) rfl) c.dk rfl (ea_cons (ev_var rfl) ea_nil) hdk (fun hk H1 e1 => ?_) fun hk => ?_
    rotate_left
    · rw [if_pos hk] at q; exact q
    rw [if_neg (by rw [hk]; simp)] at q
    have q := ActQ.ex q e1
    have c := c.ex e1
    have hms := hms.ex e1
    have hdk := hdk.ex e1
    refine Evl.q_asg (ev_rows T (ev_var rfl) c) fun H2 e2 => ?_
    have c := c.ex e2
    have hms := hms.ex e2
    have hdk := hdk.ex e2
    refine s_dropMP (ev_var (v := .ref a) rfl) c.dk rfl (dc_drop (x := x) c.dc c.rw_ c.ok.r) fun v H3 e3 hv => ?_
    obtain ⟨r, kvs', rfl, hrn, hr3, hrw3⟩ := hv
    exact ⟨Ms, a, pl, r, L0, st, kvs', _, rfl, hms.ex e3, hdk.ex e3, hr3, hrw3, c.ok.r.drop, hz, fun H' names top e h => q H' names top ((Ex.d (e2.trans e3)).trans e) h⟩
end
end K7

/-! K9W: reprice. -/
namespace K7
open PySem PySem.Spec PyProof.Rows L2 Evl RZ
def actRe (st : SD) : List Row → List (Str × Int) → Act
  | rows, [] => .new rows st.s st.cap
  | rows, (x, p) :: r => if known st.rows x = false then .bad "UnknownName" (nameBad x) else if p < 0 then .bad "BadNumber" (numBad "price") else actRe st (setRow rows x p (rowOf rows x).2.2) r
def pairK (ps : List (Str × Int)) : List (Key × V) := ps.map fun q => (.inr q.1, .int q.2)
section
variable {P : Program} {w : World} {K : PySem.W.Frag} {mg : Str → Option Value} {base : Heap}
theorem sc_Desk_reprice : FnScope ["self", "prices", "rows", "name"] ["self", "prices"] (defScope s_Desk_reprice) := ⟨rfl, rfl, rfl, by decide +kernel, rfl, by decide +kernel, by decide +kernel⟩
def spRe (K : PySem.W.Frag) : Sp := fun vs H Q E => ∃ (Ms : List Addr) (a pl dp : Addr) (L0 : List SD) (st : SD) (ps : List (Str × Int)) (Hc : Hp), vs = [.ref a, .ref dp] ∧ H = upd Hc dp (.dK (pairK ps)) ∧ Hc dp = none ∧ MsOk K Ms Hc ∧ DeskF K Ms Hc a pl (L0 ++ [st]) ∧ L0.length ≤ 900 ∧ (ps.map (·.1)).Nodup ∧ ps.length ≤ 10 ∧ (∀ q ∈ ps, q.2 < 2 ^ 60) ∧ ActQ K Ms a pl L0 st Hc Q E (actRe st st.rows ps)
theorem pairK_get : ∀ {ps : List (Str × Int)} {i : Nat} {q : Str × Int}, (ps.map (·.1)).Nodup → ps[i]? = some q → valV (pairK ps) (.inr q.1) = some (.int q.2)
  | [], _, _, _, e => by simp at e
  | q0 :: ps, 0, q, _, e => by
    simp at e
    subst e
    exact valV_pos rfl
  | q0 :: ps, i + 1, q, hn, e => by
    have e2 : ps[i]? = some q := by simpa using e
    have hn2 := List.nodup_cons.mp hn
    show valV (_ :: pairK ps) _ = _
    rw [valV_neg]
    · exact pairK_get hn2.2 e2
    · intro e3
      have e4 : q0.1 = q.1 := Sum.inr.inj e3
      exact hn2.1 (List.mem_map.mpr ⟨q, List.mem_of_getElem? e2, e4.symm⟩)
theorem ev_dgetV {σ : L2.St} {H : Hp} {td ty : TE} {r : Addr} {kvs : List (Key × V)} {x : Str} {v : V} (h : Ev td σ H (.ref r)) (hy : Ev ty σ H (.str x)) (hr : Rd H r (.dK kvs)) (hv : valV kvs (.inr x) = some v) : Ev (tDGet td ty) σ H v := fun H1 e1 Q k =>
  h H1 e1 _ fun H2 e2 => hy H2 (e1.trans e2) _ fun H3 e3 => ⟨r, v, rfl, .inl ⟨kvs, .inr x, ex_rd (e1.trans (e2.trans e3)) hr, rfl, hv.symm⟩, k H3 (e2.trans e3)⟩
theorem s_dput {σ : L2.St} {H : Hp} {td ty tv : TE} {D : Ends} {r : Addr} {kvs : List (Key × V)} {x : Str} {p w : Int} (hv : EvPr tv σ H (fun v H' => PairAt H' v p w)) (hd : Ev td σ H (.ref r)) (hy : Ev ty σ H (.str x)) (hr : H r = some (.dK kvs)) (hl : kvs.length < 1000) (k : ∀ v H1, Ex H H1 → PairAt H1 v p w → D.nx σ (upd H1 r (.dK (putK kvs (.inr x) v)))) : sDPut td ty tv D σ H :=
  hv H (Ex.refl _) _ fun v H1 e1 ⟨t, h1, h2⟩ => hd H1 e1 _ fun H2 e2 => hy H2 (e1.trans e2) _ fun H3 e3 => ⟨r, _, rfl, .inl ⟨kvs, .inr x, (e1.trans (e2.trans e3)) _ _ hr, rfl, sz_lt (by omega), rfl⟩, k v H3 (e1.trans (e2.trans e3)) ⟨t, h1, (e2.trans e3) _ _ h2⟩⟩
theorem body_re (T : TXG fileC fa fx fn P K mg) {A : Around} {outer : List Env} {s : Shared} {H : Hp} {vs : List V} {Q : VK} {E : XK} {cdv : Value} (hr : Room 22 (A.deeper (envOfC d_Desk_reprice.qual (defScope d_Desk_reprice.st) s.heap.objs.size (d_Desk_reprice.ad K) cdv))) (h : spRe K vs H Q E) :
    ∃ t, PSs (cxOf (L2.CX P w) P w K mg base ["self", "prices", "rows", "name"] d_Desk_reprice.qual (defScope d_Desk_reprice.st) (d_Desk_reprice.ad K) cdv A outer s H E) (defBody d_Desk_reprice.st) t ∧ t { nx := fun _ H' => Q .non H', rt := Q } (start ["self", "prices", "rows", "name"] vs) H := by
  have hu := hu_of hr
  refine ⟨_, (pss_cons (ps_set (i := 2) sc_Desk_reprice.nd rfl (Or.inl rfl) (pe_callTy call_dictD (by rfl) T.n_dict (by decide +kernel) (pa_cons (pe_fld (pe_fld (pv 0) rfl) rfl) pa_nil)))
      (pss_cons (ps_lock (ps_for (passes_of rfl) rfl (pi_keys (pv 1)) (pg_name (i := 3) sc_Desk_reprice.nd rfl (Or.inl rfl))
      (pss_cons (ps_expr (pe_methR (pv 0) T.c_Desk T.me_Desk__check_known (ok_Desk__check_known T).r (hr.mono (by decide)) (passes_call (takes_of rfl rfl rfl rfl) (fun _ _ _ _ z => z)) (pa_cons (pv 3) pa_nil)))
      (pss_cons (ps_expr (pe_callR (ok_check_least T).r (hr.mono (by decide)) T.k_check_least (by rfl) T.g_check_least (passes_call (takes_of rfl rfl rfl rfl) (fun _ _ _ _ z => z)) (pa_cons pe_str (pa_cons (pe_dget hu (pv 1) (pv 3) (fun _ _ => rfl)) (pa_cons pe_int pa_nil)))))
      (pss_one (ps_dput hu (pv 2) (pv 3) (pe_tup (pa_cons (pe_dget hu (pv 1) (pv 3) (fun _ _ => rfl)) (pa_cons (pe_ix ix_tup (pe_dget hu (pv 2) (pv 3) (fun _ _ => rfl)) pe_int (fun _ _ => rfl)) pa_nil))) rfl))))))
      (pss_one (ps_expr (pe_methR (pv 0) T.c_Desk T.me_Desk__change_rows (ok_Desk__change_rows T).r (hr.mono (by decide)) passL (pa_cons (pv 2) pa_nil)))))), ?_⟩
  obtain ⟨Ms, a, pl, dp, L0, st, ps, Hc, rfl, rfl, hdp, hms, hdk, hz, hnd, hpl, hpb, q⟩ := h
  obtain ⟨dx, b, dy, ln, d, kvs, qv, sts, c, _⟩ := hdk.cur
  have e0 : Ex Hc (upd Hc dp (.dK (pairK ps))) := Ex.new hdp
  have c0 := c.ex e0
  refine q_asgP (ep_dict (ev_rows T (ev_var rfl) c0) (.inl c0.dc)) fun v H1 e1 hv => ?_
  obtain ⟨r, rfl, hrn, hr1⟩ := hv
  have hdp1 := e1 _ _ (upd_same (H := Hc) (a := dp) (o := .dK (pairK ps)))
  have nrd : r ≠ dp := by rintro rfl; rw [upd_same] at hrn; cases hrn
  have hrc : Hc r = none := fresh_back e0 hrn
  have c1 := c0.ex e1
  have hlen := c.rw_.len
  have hlr := c.ok.r.len
  refine ⟨dp, _, hdp1, True.intro, fun od => ?_⟩
  have eL : ∀ {H' : Hp}, Ex Hc H' → Ex Hc (upd H' dp (.frz od (.dK (pairK ps)))) := fun {H'} e => Ex.mut e hdp
  refine ⟨_, rfl, dp, od, rfl, .inl ⟨pairK ps, upd_same, ?_⟩⟩
  refine ⟨fun i m σ' H' => i + m = ps.length ∧ Ex Hc H' ∧ H' dp = some (.frz od (.dK (pairK ps))) ∧ ∃ (o : Option V) (kv : List (Key × V)) (rows : List Row), σ' = [some (.ref a), some (.ref dp), some (.ref r), o] ∧ H' r = some (.dK kv) ∧ RowsD H' kv rows ∧ RowsOk rows ∧ (∀ x, known rows x = known st.rows x) ∧ ActQ K Ms a pl L0 st Hc Q E (actRe st rows (ps.drop i)),
    ⟨ps.length, by omega, eL (e0.trans e1), upd_same, none, kvs, st.rows, rfl, by rw [upd_ne nrd]; exact hr1, c1.rw_.upd hdp1, c.ok.r, fun _ => rfl, q⟩, fun i m σ' H' hw => ?_⟩
  obtain ⟨him, hE, hd', o, kv, rows, rfl, hrr, hrw, hro, hkn, q⟩ := hw
  cases m with
  | zero =>
    have hi : i = ps.length := by omega
    refine .inl ⟨⟨hd', by unfold pairK; rw [List.length_map]; omega⟩, hd', ?_⟩
    rw [hi, List.drop_length] at q
    have e2 : Ex Hc (upd H' dp (.dK (pairK ps))) := Ex.mut hE hdp
    refine fin_chg (ev_var rfl) (ev_var rfl) (hms.ex e2) (hdk.ex e2) (by rw [upd_ne nrd]; exact hrr) (hrw.imp fun kv r ⟨q1, t, q2, q3⟩ => ⟨q1, t, q2, by rw [upd_ne (by rintro rfl; rw [hd'] at q3; cases q3)]; exact q3⟩) hro hz fun H2 names top e h => q H2 names top ((Ex.d e2).trans e) h
  | succ m =>
    have hlt : i < ps.length := by omega
    refine .inr ⟨⟨hd', by unfold pairK; rw [List.length_map]; exact hlt⟩, fun σ'' H'' => i + 1 + m = ps.length ∧ Ex Hc H'' ∧ H'' dp = some (.frz od (.dK (pairK ps))) ∧ ∃ (o : Option V) (kv : List (Key × V)) (rows : List Row), σ'' = [some (.ref a), some (.ref dp), some (.ref r), o] ∧ H'' r = some (.dK kv) ∧ RowsD H'' kv rows ∧ RowsOk rows ∧ (∀ x, known rows x = known st.rows x) ∧ ActQ K Ms a pl L0 st Hc Q E (actRe st rows (ps.drop (i + 1))), fun σ'' H'' z => ⟨m, Nat.lt_succ_self m, z⟩, fun y H'' hy => ?_⟩
    obtain ⟨rfl, kk, vv, hkv, rfl⟩ := hy
    have hq : ps[i]? = some ps[i] := List.getElem?_eq_getElem hlt
    unfold pairK at hkv
    rw [List.getElem?_map, hq] at hkv
    cases hkv
    have hgv := pairK_get hnd hq
    have hqb := hpb _ (List.getElem_mem hlt)
    rw [List.drop_eq_getElem_cons hlt] at q
    generalize ps[i] = qq at *
    obtain ⟨x, p⟩ := qq
    unfold actRe at q
    have hm := hms.ex hE
    have hk' := hdk.ex hE
    have c' := c.ex hE
    refine q_known (ev_var (v := .ref a) rfl) c'.dk rfl (ea_cons (ev_var rfl) ea_nil) hk' (fun hk H2 e2 => ?_) fun hk => ?_
    rotate_left
    · rw [if_pos hk] at q
      exact XR.mono q hE
    rw [if_neg (by rw [hk]; simp)] at q
    have hd2 := e2 _ _ hd'
    refine q_least (ea_cons ev_c (ea_cons (ev_dgetV (ev_var rfl) (ev_var rfl) (.inr ⟨od, hd2⟩) hgv) (ea_cons ev_c ea_nil))) (fun h0 H3 e3 => ?_) fun h0 => ?_
    rotate_left
    · rw [if_pos h0] at q
      exact XR.mono q (hE.trans e2)
    rw [if_neg (by omega)] at q
    have E3 := e2.trans e3
    have hd3 := E3 _ _ hd'
    have hkr : known rows x = true := by rw [hkn]; exact hk
    have hkvl := hrw.len
    have hrl := hro.len
    refine s_dput (ep_pair (ev_dgetV (ev_var rfl) (ev_var rfl) (.inr ⟨od, hd3⟩) hgv) (ev_dgetW (ev_var rfl) (ev_var rfl) (.inl (E3 _ _ hrr)) (hrw.ex E3) hkr)) (ev_var rfl) (ev_var rfl) (E3 _ _ hrr) (by omega) fun v H4 e4 hv => ?_
    have hr4 := (E3.trans e4) _ _ hrr
    have e5 : Ex Hc (upd H4 r (.dK (putK kv (.inr x) v))) := (hE.trans (E3.trans e4)).mut hrc
    refine ⟨by omega, e5, by rw [upd_ne (Ne.symm nrd)]; exact (E3.trans e4) _ _ hd', _, _, _, rfl, upd_same, ((hrw.ex (E3.trans e4)).set hkr hv).upd hr4, hro.set ⟨by omega, hqb⟩ (hro.wt _ (rowOf_mem hkr)), fun y => by rw [known_set, hkn], q⟩
/-- reprice(x=.., ..) -/
def spReK (K : PySem.W.Frag) (ks : List Str) : Sp := fun vs H Q E => ∃ (Ms : List Addr) (a pl : Addr) (L0 : List SD) (st : SD) (ps : List (Str × Int)), vs = .ref a :: ps.map (fun q => V.int q.2) ∧ ps.map (·.1) = ks ∧ MsOk K Ms H ∧ DeskF K Ms H a pl (L0 ++ [st]) ∧ L0.length ≤ 900 ∧ (∀ q ∈ ps, q.2 < 2 ^ 60) ∧ ActQ K Ms a pl L0 st H Q E (actRe st st.rows ps)
theorem kvz_pairs : ∀ ps : List (Str × Int), kvz (ps.map (·.1)) (ps.map fun q => V.int q.2) = pairK ps
  | [] => rfl
  | q :: ps => by
    show (_ :: kvz (ps.map (·.1)) (ps.map fun q => V.int q.2)) = _ :: pairK ps
    rw [kvz_pairs ps]
theorem FnRK.imp_ {base : Heap} {CX : CXT} {k : Nat} {f : Addr} {ks : List Str} {sp sp' : Sp} (F : FnRK P w K mg base CX k f ks sp) (h : ∀ vs H Q E, sp' vs H Q E → sp vs H Q E) : FnRK P w K mg base CX k f ks sp' := fun A outer s H us ws vs zs Q E hr e0 r rz hl hsp => F A outer s H us ws vs zs Q E hr e0 r rz hl (h _ _ _ _ hsp)
theorem re_imp {ks : List Str} (hn : ks.Nodup) (hl : ks.length ≤ 10) (vs : List V) (H : Hp) (Q : VK) (E : XK) (h : spReK K ks vs H Q E) : ∃ a zs, vs = a :: zs ∧ zs.length = ks.length ∧ ∀ d, H d = none → spRe K [a, .ref d] (upd H d (.dK (kvz ks zs))) Q E := by
  obtain ⟨Ms, a, pl, L0, st, ps, rfl, rfl, hms, hdk, hz, hb, q⟩ := h
  exact ⟨_, _, rfl, by simp, fun d hd => ⟨Ms, a, pl, d, L0, st, ps, H, rfl, by rw [kvz_pairs], hd, hms, hdk, hz, hn, by simpa using hl, hb, q⟩⟩
theorem ok_Desk_reprice_none (T : TXG fileC fa fx fn P K mg) : FnRK P w K mg base (L2.CX P w) 23 (He.ma K (He.ga K "Desk") "reprice") [] (spReK K []) := by
  obtain ⟨fd, F⟩ := T.d_Desk_reprice
  obtain ⟨oc, od, dV, kV, doc, pm, an, cdv, ct, osl, rfl, lk, hcd, hD, hK⟩ := F.ex
  have hdV : dV = .none := by
    rcases hD with ⟨_, e⟩ | ⟨e, _⟩
    · exact e
    · exact absurd rfl e
  subst hdV
  exact FnRK.imp_ (fn_kw (ks := []) (sp := spRe K) lk hcd sc_Desk_reprice (by decide +kernel) (by decide) (g := fun d p _ => do nsSet d p.1 p.2; pure (.yield ⟨⟩)) (fun _ _ _ _ => rfl) (fun a ws hl => match ws, hl with | [], _ => rfl) fun A outer s H vs Q E hr h => body_re T hr h) (re_imp (by decide +kernel) (by decide))
theorem ok_Desk_reprice_a (T : TXG fileC fa fx fn P K mg) : FnRK P w K mg base (L2.CX P w) 23 (He.ma K (He.ga K "Desk") "reprice") ["a"] (spReK K ["a"]) := by
  obtain ⟨fd, F⟩ := T.d_Desk_reprice
  obtain ⟨oc, od, dV, kV, doc, pm, an, cdv, ct, osl, rfl, lk, hcd, hD, hK⟩ := F.ex
  have hdV : dV = .none := by
    rcases hD with ⟨_, e⟩ | ⟨e, _⟩
    · exact e
    · exact absurd rfl e
  subst hdV
  exact FnRK.imp_ (fn_kw (ks := ["a"]) (sp := spRe K) lk hcd sc_Desk_reprice (by decide +kernel) (by decide) (g := fun d p _ => do nsSet d p.1 p.2; pure (.yield ⟨⟩)) (fun _ _ _ _ => rfl) (fun a ws hl => match ws, hl with | [_], _ => rfl) fun A outer s H vs Q E hr h => body_re T hr h) (re_imp (by decide +kernel) (by decide))
theorem ok_Desk_reprice_b (T : TXG fileC fa fx fn P K mg) : FnRK P w K mg base (L2.CX P w) 23 (He.ma K (He.ga K "Desk") "reprice") ["b"] (spReK K ["b"]) := by
  obtain ⟨fd, F⟩ := T.d_Desk_reprice
  obtain ⟨oc, od, dV, kV, doc, pm, an, cdv, ct, osl, rfl, lk, hcd, hD, hK⟩ := F.ex
  have hdV : dV = .none := by
    rcases hD with ⟨_, e⟩ | ⟨e, _⟩
    · exact e
    · exact absurd rfl e
  subst hdV
  exact FnRK.imp_ (fn_kw (ks := ["b"]) (sp := spRe K) lk hcd sc_Desk_reprice (by decide +kernel) (by decide) (g := fun d p _ => do nsSet d p.1 p.2; pure (.yield ⟨⟩)) (fun _ _ _ _ => rfl) (fun a ws hl => match ws, hl with | [_], _ => rfl) fun A outer s H vs Q E hr h => body_re T hr h) (re_imp (by decide +kernel) (by decide))
theorem ok_Desk_reprice_a_b (T : TXG fileC fa fx fn P K mg) : FnRK P w K mg base (L2.CX P w) 23 (He.ma K (He.ga K "Desk") "reprice") ["a", "b"] (spReK K ["a", "b"]) := by
  obtain ⟨fd, F⟩ := T.d_Desk_reprice
  obtain ⟨oc, od, dV, kV, doc, pm, an, cdv, ct, osl, rfl, lk, hcd, hD, hK⟩ := F.ex
  have hdV : dV = .none := by
    rcases hD with ⟨_, e⟩ | ⟨e, _⟩
    · exact e
    · exact absurd rfl e
  subst hdV
  exact FnRK.imp_ (fn_kw (ks := ["a", "b"]) (sp := spRe K) lk hcd sc_Desk_reprice (by decide +kernel) (by decide) (g := fun d p _ => do nsSet d p.1 p.2; pure (.yield ⟨⟩)) (fun _ _ _ _ => rfl) (fun a ws hl => match ws, hl with | [_, _], _ => rfl) fun A outer s H vs Q E hr h => body_re T hr h) (re_imp (by decide +kernel) (by decide))
theorem ok_Desk_reprice_b_a (T : TXG fileC fa fx fn P K mg) : FnRK P w K mg base (L2.CX P w) 23 (He.ma K (He.ga K "Desk") "reprice") ["b", "a"] (spReK K ["b", "a"]) := by
  obtain ⟨fd, F⟩ := T.d_Desk_reprice
  obtain ⟨oc, od, dV, kV, doc, pm, an, cdv, ct, osl, rfl, lk, hcd, hD, hK⟩ := F.ex
  have hdV : dV = .none := by
    rcases hD with ⟨_, e⟩ | ⟨e, _⟩
    · exact e
    · exact absurd rfl e
  subst hdV
  exact FnRK.imp_ (fn_kw (ks := ["b", "a"]) (sp := spRe K) lk hcd sc_Desk_reprice (by decide +kernel) (by decide) (g := fun d p _ => do nsSet d p.1 p.2; pure (.yield ⟨⟩)) (fun _ _ _ _ => rfl) (fun a ws hl => match ws, hl with | [_, _], _ => rfl) fun A outer s H vs Q E hr h => body_re T hr h) (re_imp (by decide +kernel) (by decide))
theorem ok_Desk_reprice_tea_a_jam (T : TXG fileC fa fx fn P K mg) : FnRK P w K mg base (L2.CX P w) 23 (He.ma K (He.ga K "Desk") "reprice") ["tea", "a", "jam"] (spReK K ["tea", "a", "jam"]) := by
  obtain ⟨fd, F⟩ := T.d_Desk_reprice
  obtain ⟨oc, od, dV, kV, doc, pm, an, cdv, ct, osl, rfl, lk, hcd, hD, hK⟩ := F.ex
  have hdV : dV = .none := by
    rcases hD with ⟨_, e⟩ | ⟨e, _⟩
    · exact e
    · exact absurd rfl e
  subst hdV
  exact FnRK.imp_ (fn_kw (ks := ["tea", "a", "jam"]) (sp := spRe K) lk hcd sc_Desk_reprice (by decide +kernel) (by decide) (g := fun d p _ => do nsSet d p.1 p.2; pure (.yield ⟨⟩)) (fun _ _ _ _ => rfl) (fun a ws hl => match ws, hl with | [_, _, _], _ => rfl) fun A outer s H vs Q E hr h => body_re T hr h) (re_imp (by decide +kernel) (by decide))
theorem ok_Desk_reprice_jam_tea_a_b (T : TXG fileC fa fx fn P K mg) : FnRK P w K mg base (L2.CX P w) 23 (He.ma K (He.ga K "Desk") "reprice") ["jam", "tea", "a", "b"] (spReK K ["jam", "tea", "a", "b"]) := by
  obtain ⟨fd, F⟩ := T.d_Desk_reprice
  obtain ⟨oc, od, dV, kV, doc, pm, an, cdv, ct, osl, rfl, lk, hcd, hD, hK⟩ := F.ex
  have hdV : dV = .none := by
    rcases hD with ⟨_, e⟩ | ⟨e, _⟩
    · exact e
    · exact absurd rfl e
  subst hdV
  exact FnRK.imp_ (fn_kw (ks := ["jam", "tea", "a", "b"]) (sp := spRe K) lk hcd sc_Desk_reprice (by decide +kernel) (by decide) (g := fun d p _ => do nsSet d p.1 p.2; pure (.yield ⟨⟩)) (fun _ _ _ _ => rfl) (fun a ws hl => match ws, hl with | [_, _, _, _], _ => rfl) fun A outer s H vs Q E hr h => body_re T hr h) (re_imp (by decide +kernel) (by decide))
end
end K7

/-! K9X: the law's small functions. -/
namespace K7
open PySem PySem.Spec PyProof.Rows L2 Evl RZ
def rowD (r : Row) : PyData := .tuple [.str r.1, .int r.2.1, .int r.2.2]
def rowsD (rows : List Row) : PyData := .list (rows.map rowD)
def capD : Option Int → PyData
  | none => .none
  | some m => .int m
theorem ev_pow18 {σ : L2.St} {H : Hp} : Ev (tOp (rI CPow fun i j => .int (i ^ j.toNat)) (tC (.int 10)) (tC (.int 18))) σ H (.int 1000000000000000000) := ev_is (ev_op ev_c ev_c (rv_I ⟨by decide, by decide, by decide⟩)) (congrArg V.int (by decide))
section
variable {P : Program} {w : World} {K : PySem.W.Frag} {mg : Str → Option Value} {base : Heap}
theorem sc__law_cell : FnScope ["_law_script", "_law_place_here"] ["_law_script", "_law_place_here"] (defScope s__law_cell) := ⟨rfl, rfl, rfl, by decide +kernel, rfl, by decide +kernel, by decide +kernel⟩
def spCell (K : PySem.W.Frag) : Sp := fun vs H Q _ => ∃ (a : Addr) (ns : List Int), vs = [.ref a, .int 0] ∧ SqL K H a (ns.map V.int) ∧ RetV (.int (ns.getD 0 0)) H Q
theorem ok__law_cell (T : TXG fileC fa fx fn P K mg) : FnB P w K mg base 1 (He.ga K "_law_cell") ["_law_script", "_law_place_here"] (spCell K) := by
  refine fnb T.d__law_cell rfl sc__law_cell (fun vs H Q E h => ?_) (fun _ _ _ _ _ _ us hl => match us, hl with | [_, _], _ => rfl) (fun cdv A outer s H vs Q E hr h => ?_)
  · obtain ⟨_, _, rfl, _⟩ := h
    rfl
  · refine ⟨_, (pss_cons (ps_if (pt_cmpR op_lt (pv 1) (pe_callB call_len_seq (by rfl) T.n_len PySem.boot_len (pa_cons (pv 0) pa_nil)) (nomark _)) (pss_one (ps_ret (pe_callTy call_int1 (by rfl) T.n_int (by decide +kernel) (pa_cons (pe_ix ix_list (pv 0) (pv 1) (fun _ _ => rfl)) pa_nil)))) pss_nil)
      (pss_one (ps_ret pe_int))), ?_⟩
    obtain ⟨a, ns, rfl, ha, q⟩ := h
    refine Evl.q_when (b := decide ((0 : Int) < ns.length)) (et_B (ev_op (ev_var rfl) (ev_cb (ea_cons (ev_var (v := .ref a) rfl) ea_nil) (z := .int ns.length) fun H1 e1 Q k => ⟨a, _, rfl, .inl (ex_l e1 ha), by rw [List.length_map]; exact k _ (Ex.refl _)⟩) rv_I0)) (fun hb H1 e1 => ?_) fun hb H1 e1 => ?_
    · have hb := of_decide_eq_true hb
      refine Evl.s_ret (ev_cb (ea_cons (ev_op (z := .int (ns.getD 0 0)) (ev_var rfl) (ev_var rfl) (rv_ixL (ex_l e1 ha) ?_)) ea_nil) fun H2 e2 Q k => .inl ⟨_, rfl, k H2 (Ex.refl _)⟩) fun H2 e2 => q H2 (e1.trans e2)
      cases ns with
      | nil => simp at hb
      | cons n ns =>
        unfold atI
        rw [show ((0 : Int)) = ((0 : Nat) : Int) from rfl, ixN_nat (by simp)]
        rfl
    · have hb := of_decide_eq_false hb
      have : ns = [] := List.eq_nil_of_length_eq_zero (by omega)
      subst this
      exact Evl.s_ret ev_c fun H2 e2 => q H2 (e1.trans e2)
theorem sc__law_own_cell : FnScope ["_law_cell_here", "_law_k"] ["_law_cell_here", "_law_k"] (defScope s__law_own_cell) := ⟨rfl, rfl, rfl, by decide +kernel, rfl, by decide +kernel, by decide +kernel⟩
def spOwn : Sp := fun vs H Q _ => ∃ (c k : Int), vs = [.int c, .int k] ∧ ∀ c' H', Ex H H' → Q (.int c') H'
theorem ok__law_own_cell (T : TXG fileC fa fx fn P K mg) : FnB P w K mg base 1 (He.ga K "_law_own_cell") ["_law_cell_here", "_law_k"] spOwn := by
  refine fnb T.d__law_own_cell rfl sc__law_own_cell (fun vs H Q E h => ?_) (fun _ _ _ _ _ _ us hl => match us, hl with | [_, _], _ => rfl) (fun cdv A outer s H vs Q E hr h => ?_)
  · obtain ⟨_, _, rfl, _⟩ := h
    rfl
  · refine ⟨_, (pss_cons (ps_if (pt_cmpR op_lt (pv 0) (pe_op op_pow pe_int pe_int) (nomark _)) (pss_one (ps_ret (pe_op op_add (pe_op op_mul (pv 0) pe_int) (pv 1)))) pss_nil)
      (pss_one (ps_ret (pv 0)))), ?_⟩
    obtain ⟨c, k, rfl, q⟩ := h
    refine Evl.q_when (b := decide (c < 1000000000000000000)) (et_B (ev_op (ev_var rfl) ev_pow18 rv_I0)) (fun hb H1 e1 => ?_) fun hb H1 e1 => ?_
    · exact Evl.s_ret (ev_op (ev_op (ev_var rfl) ev_c (rv_I (.inr ⟨by decide, by decide⟩))) (ev_var rfl) rv_I0) fun H2 e2 => q _ H2 (e1.trans e2)
    · exact Evl.s_ret (ev_var rfl) fun H2 e2 => q _ H2 (e1.trans e2)
theorem sc__law_is_int : FnScope ["_law_x"] ["_law_x"] (defScope s__law_is_int) := ⟨rfl, rfl, rfl, by decide +kernel, rfl, by decide +kernel, by decide +kernel⟩
def spIsInt : Sp := fun vs H Q _ => ∃ (i : Int), vs = [.int i] ∧ RetV (.bl true) H Q
theorem ok__law_is_int (T : TXG fileC fa fx fn P K mg) : FnB P w K mg base 1 (He.ga K "_law_is_int") ["_law_x"] spIsInt := by
  refine fnb T.d__law_is_int rfl sc__law_is_int (fun vs H Q E h => ?_) (fun _ _ _ _ _ _ us hl => match us, hl with | [_], _ => rfl) (fun cdv A outer s H vs Q E hr h => ?_)
  · obtain ⟨_, rfl, _⟩ := h
    rfl
  · refine ⟨_, (pss_one (ps_ret (pe_and (pe_callB call_isi (by rfl) T.n_isinstance (by decide +kernel) (pa_cons (pv 0) (pa_cons (pe_bltn (v := .ty "int") (by rfl) T.n_int PyProof.Rows.boot_int rfl) pa_nil))) (pe_one (pe_not (pe_callB call_isi (by rfl) T.n_isinstance (by decide +kernel) (pa_cons (pv 0) (pa_cons (pe_bltn (v := .ty "bool") (by rfl) T.n_bool PyProof.Rows.boot_bool rfl) pa_nil)))))))), ?_⟩
    obtain ⟨i, rfl, q⟩ := h
    exact Evl.s_ret (ev_is (ev_andV (ev_isi (ev_var rfl) (.ty _) (fun H1 e => .base (.int i)) T.kit_int_int) fun _ => ev_notV (ev_isi (ev_var rfl) (.ty _) (fun H1 e => .base (.int i)) T.kit_int_bool)) rfl) q
theorem sc__law_is_ratio : FnScope ["_law_x"] ["_law_x"] (defScope s__law_is_ratio) := ⟨rfl, rfl, rfl, by decide +kernel, rfl, by decide +kernel, by decide +kernel⟩
def spIsRat (K : PySem.W.Frag) : Sp := fun vs H Q _ => ∃ (v : V) (r : Int × Int), vs = [v] ∧ RatAt K H v r ∧ 1 ≤ r.2 ∧ RetV (.bl true) H Q
theorem ok__law_is_ratio (T : TXG fileC fa fx fn P K mg) : FnB P w K mg base 3 (He.ga K "_law_is_ratio") ["_law_x"] (spIsRat K) := by
  refine fnb T.d__law_is_ratio rfl sc__law_is_ratio (fun vs H Q E h => ?_) (fun _ _ _ _ _ _ us hl => match us, hl with | [_], _ => rfl) (fun cdv A outer s H vs Q E hr h => ?_)
  · obtain ⟨_, _, rfl, _⟩ := h
    rfl
  · refine ⟨_, (pss_cons (ps_if (pt_not (pt_val (pe_callB call_isi (by rfl) T.n_isinstance (by decide +kernel) (pa_cons (pv 0) (pa_cons (pe_glob (v := .ref (He.ga _ "Ratio")) (by rfl) T.g_Ratio rfl) pa_nil))))) (pss_one (ps_ret pe_bl)) pss_nil)
      (pss_one (ps_ret (pe_and (pe_callR (ok__law_is_int T).r (hr.mono (by decide)) T.k__law_is_int (by rfl) T.g__law_is_int passL (pa_cons (pe_fld (pv 0) rfl) pa_nil)) (pe_and (pe_callR (ok__law_is_int T).r (hr.mono (by decide)) T.k__law_is_int (by rfl) T.g__law_is_int passL (pa_cons (pe_fld (pv 0) rfl) pa_nil)) (pe_one (pe_cmpR op_ge (pe_fld (pv 0) rfl) pe_int (nomark _)))))))), ?_⟩
    obtain ⟨v, r, rfl, hv, hb, q⟩ := h
    refine Evl.q_when (et_not (et_isR T (ev_var rfl) hv)) (fun h => by cases h) fun _ H1 e1 => ?_
    have hv1 := stay_Rat _ _ _ _ e1 hv
    refine Evl.s_ret (ev_is (ev_andV (ev_callE (ea_cons (ev_top T (ev_var rfl) hv1) ea_nil) fun H2 e2 Q k => ⟨_, rfl, k⟩) fun _ => ev_andV (ev_callE (ea_cons (ev_bot T (ev_var rfl) hv1) ea_nil) fun H2 e2 Q k => ⟨_, rfl, k⟩) fun _ => ev_op (ev_bot T (ev_var rfl) hv1) ev_c rv_I0) ?_) fun H2 e2 => q H2 (e1.trans e2)
    rw [decide_eq_true hb]
    rfl
theorem sc__law_signs : FnScope ["_law_signs_here"] [] (defScope s__law_signs) := ⟨rfl, rfl, rfl, by decide +kernel, rfl, by decide +kernel, by decide +kernel⟩
def signs : Str := " !\"#$&'()*+,-./0123456789:;<=>?@ABCDEFGHIJKLMNOPQRSTUVWXYZ[\\]^_`" ++ "abcdefghijklmnopqrstuvwxyz{|}~\n"
def spSigns : Sp := fun vs H Q _ => vs = [] ∧ RetV (.str signs) H Q
theorem ok__law_signs (T : TXG fileC fa fx fn P K mg) : FnB P w K mg base 1 (He.ga K "_law_signs") [] spSigns := by
  refine fnb T.d__law_signs rfl sc__law_signs (fun vs H Q E h => ?_) (fun _ _ _ _ _ _ us hl => match us, hl with | [], _ => rfl) (fun cdv A outer s H vs Q E hr h => ?_)
  · obtain ⟨rfl, _⟩ := h
    rfl
  · refine ⟨_, (pss_cons (ps_set (i := 0) sc__law_signs.nd rfl (Or.inl rfl) pe_str)
      (pss_one (ps_ret (pe_op op_add_str (pv 0) pe_str)))), ?_⟩
    obtain ⟨rfl, q⟩ := h
    refine Evl.q_asg ev_c fun H1 e1 => ?_
    exact Evl.s_ret (ev_op (z := .str signs) (ev_var rfl) ev_c (rv_val fun H2 e2 Q k => ⟨_, _, rfl, rfl, sz_of (by decide +kernel), k⟩)) fun H2 e2 => q H2 (e1.trans e2)
theorem sc__law_is_name : FnScope ["_law_name", "_law_letter"] ["_law_name"] (defScope s__law_is_name) := ⟨rfl, rfl, rfl, by decide +kernel, rfl, by decide +kernel, by decide +kernel⟩
theorem ok__law_is_name (T : TXG fileC fa fx fn P K mg) : FnB P w K mg base 3 (He.ga K "_law_is_name") ["_law_name"] spName := by
  refine fnb T.d__law_is_name rfl sc__law_is_name (fun vs H Q E h => ?_) (fun _ _ _ _ _ _ us hl => match us, hl with | [_], _ => rfl) (fun cdv A outer s H vs Q E hr h => ?_)
  · obtain ⟨_, rfl, _⟩ := h
    rfl
  · refine ⟨_, (pss_cons (ps_if (PW.pt (pw_or (pt_cmpR op_lt (pe_callB call_len_str (by rfl) T.n_len PySem.boot_len (pa_cons (pv 0) pa_nil)) pe_int (nomark _)) (pw_or1 (pt_cmpR op_gt (pe_callB call_len_str (by rfl) T.n_len PySem.boot_len (pa_cons (pv 0) pa_nil)) pe_int (nomark _))))) (pss_one (ps_ret pe_bl)) pss_nil)
      (pss_one (ps_ret (pe_callB (cr_all rfl) (by rfl) T.n_all (by decide +kernel) (pa_cons (pe_lc (own := [("_law_letter", 1)]) rfl sc__law_is_name.nd (pi_str (pv 0)) (blkOk_by (own := [("_law_letter", 1)]) (N := ["_law_name", "_law_letter"]) (sc := defScope s__law_is_name) (by decide +kernel)) (fun _ _ _ _ _ => (pg_name (i := 1) sc__law_is_name.nd rfl (Or.inl rfl))) (fun _ _ _ _ _ => pts_nil) (fun _ _ _ _ _ => (pe_cmpR op_in_sign (pv 1) pe_str (by rfl)))) pa_nil))))), ?_⟩
    obtain ⟨x, rfl, hx, q⟩ := h
    refine Evl.q_when (b := decide (x.length < 1) || decide (12 < x.length)) (et_is (et_or (et_test (ev_is (ev_op (ev_cb (ea_cons (ev_var rfl) ea_nil) (z := .int x.length) fun H1 e1 Q q => ⟨x, rfl, sz_of (by omega), q _ (Ex.refl _)⟩) ev_c rv_I0) rfl)) fun _ => et_test (ev_is (ev_op (ev_cb (ea_cons (ev_var rfl) ea_nil) (z := .int x.length) fun H1 e1 Q q => ⟨x, rfl, sz_of (by omega), q _ (Ex.refl _)⟩) ev_c rv_I0) rfl)) ?_) (fun hb H1 e1 => ?_) fun hb H1 e1 => ?_
    · congr 1 <;> exact decide_eq_decide.mpr (by omega)
    · refine Evl.s_ret ev_c fun H2 e2 => ?_
      have := q H2 (e1.trans e2)
      unfold nmOk at this
      rw [hb] at this
      exact this
    · have hall : ((List.range x.length).map fun i => decide (x.cps.toList.getD i 0 ∈ lets.cps.toList)).all id = x.cps.toList.all fun c => decide (c ∈ lets.cps.toList) := by
        rw [List.all_map]
        exact all_range x.cps.toList (fun c => decide (c ∈ lets.cps.toList))
      refine Evl.s_ret (v := .bl (nmOk x)) (ev_is (ev_cbL1 (z := .bl (((List.range x.length).map fun i => decide (x.cps.toList.getD i 0 ∈ lets.cps.toList)).all id)) (EvQF.toL (ep_lc stay_V stayL_V x.length (fun _ => true) (fun i => V.bl (decide (x.cps.toList.getD i 0 ∈ lets.cps.toList))) (ei_str (ev_var rfl)) (by omega) ?_)) fun p H2 hp e2 => ?_) ?_) fun H2 e2 => q H2 (e1.trans e2)
      · rintro i _ H2 e2 hi ⟨c, hc, rfl⟩ Q k
        refine k _ H2 (Ex.refl _) rfl (fun H3 e3 Q k => k H3 (Ex.refl _)) fun H3 e3 _ => Ev.toV (ev_is (ev_op (ev_var rfl) ev_c (rv_val fun H4 e4 Q k => ⟨c, lets, rfl, rfl, k⟩)) ?_)
        have h1 : x.cps.toList.getD i 0 = c := by
          rw [List.getD_eq_getElem?_getD, Array.getElem?_toList, hc]; rfl
        rw [h1]
      · refine fun H3 e3 Q k => ⟨p, _, rfl, sq_of (e3 _ _ (by rw [hp, givenA_all, List.map_map]; rfl)), k H3 (Ex.refl _)⟩
      · rw [hall]
        unfold nmOk
        rw [hb]
        rfl
end
end K7

/-! K9Y: _law_draws. -/
namespace K7
open PySem PySem.Spec PyProof.Rows L2 Evl RZ
/-- drawn: below the sizes -/
structure Drawn (xs sizes : List Int) : Prop where
  len : xs.length = sizes.length
  lo : ∀ i (h : i < xs.length), 0 ≤ xs[i]
  hi : ∀ i (h : i < xs.length) (h2 : i < sizes.length), xs[i] < sizes[i]
theorem Drawn.snoc {xs sizes : List Int} {i : Nat} {v : Int} (h : Drawn xs (sizes.take i)) (hi : i < sizes.length) (h0 : 0 ≤ v) (h1 : v < sizes[i]) : Drawn (xs ++ [v]) (sizes.take (i + 1)) := by
  have hl := h.len
  have e : sizes.take (i + 1) = sizes.take i ++ [sizes[i]] := by rw [List.take_succ, List.getElem?_eq_getElem hi]; rfl
  rw [e]
  refine ⟨by simp only [List.length_append, hl]; rfl, fun j hj => ?_, fun j hj h2 => ?_⟩
  · by_cases hq : j < xs.length
    · rw [List.getElem_append_left hq]; exact h.lo j hq
    · rw [List.getElem_append_right (by omega)]
      simp only [List.getElem_singleton]
      exact h0
  · by_cases hq : j < xs.length
    · rw [List.getElem_append_left hq, List.getElem_append_left (by omega)]; exact h.hi j hq (by omega)
    · rw [List.getElem_append_right (by omega), List.getElem_append_right (by omega)]
      simp only [List.getElem_singleton]
      exact h1
section
variable {P : Program} {w : World} {K : PySem.W.Frag} {mg : Str → Option Value} {base : Heap}
theorem sc__law_draws : FnScope ["_law_cell_here", "_law_sizes", "_law_left", "_law_found", "_law_size", "_law_k", "_law_low", "_law_high"] ["_law_cell_here", "_law_sizes"] (defScope s__law_draws) := ⟨rfl, rfl, rfl, by decide +kernel, rfl, by decide +kernel, by decide +kernel⟩
def spDraws : Sp := fun vs H Q _ => ∃ (c : Int) (l : Addr) (sizes : List Int), vs = [.int c, .ref l] ∧ H l = some (.lst (sizes.map V.int)) ∧ (∀ x ∈ sizes, 1 ≤ x ∧ x < 2 ^ 64) ∧ sizes.length ≤ 100 ∧ ∀ p xs H', Ex H H' → H p = none → H' p = some (.lst (xs.map V.int)) → Drawn xs sizes → Q (.ref p) H'
theorem ok__law_draws (T : TXG fileC fa fx fn P K mg) : FnB P w K mg base 1 (He.ga K "_law_draws") ["_law_cell_here", "_law_sizes"] spDraws := by
  refine fnb T.d__law_draws rfl sc__law_draws (fun vs H Q E h => ?_) (fun _ _ _ _ _ _ us hl => match us, hl with | [_, _], _ => rfl) (fun cdv A outer s H vs Q E hr h => ?_)
  · obtain ⟨_, _, _, rfl, _⟩ := h
    rfl
  · refine ⟨_, (pss_cons (ps_if (pt_cmpR op_eq (pv 0) pe_int (nomark _)) (pss_one (ps_ret (pe_lc (own := [("_law_size", 4)]) rfl sc__law_draws.nd (pi_list (pv 1)) (blkOk_by (own := [("_law_size", 4)]) (N := ["_law_cell_here", "_law_sizes", "_law_left", "_law_found", "_law_size", "_law_k", "_law_low", "_law_high"]) (sc := defScope s__law_draws) (by decide +kernel)) (fun _ _ _ _ _ => (pg_name (i := 4) sc__law_draws.nd rfl (Or.inl rfl))) (fun _ _ _ _ _ => pts_nil) (fun _ _ _ _ _ => pe_int)))) pss_nil)
      (pss_cons (ps_if (pt_cmpR op_ge (pv 0) (pe_op op_pow pe_int pe_int) (nomark _)) (pss_cons (ps_set (i := 2) sc__law_draws.nd rfl (Or.inl rfl) (pe_op op_sub (pv 0) (pe_op op_pow pe_int pe_int)))
      (pss_cons (ps_set (i := 3) sc__law_draws.nd rfl (Or.inl rfl) (pe_lst pa_nil))
      (pss_cons (ps_for (passes_of rfl) rfl (pi_list (pv 1)) (pg_name (i := 4) sc__law_draws.nd rfl (Or.inl rfl))
      (pss_cons (ps_expr (pe_bm PySem.F.plainAttrs_list PySem.F.slot_list_append PySem.F.type_list_append mt_append (pv 3) (pa_cons (pe_op op_modN (pe_callTy call_int1 (by rfl) T.n_int (by decide +kernel) (pa_cons (pv 2) pa_nil)) (pv 4)) pa_nil)))
      (pss_one (ps_set (i := 2) sc__law_draws.nd rfl (Or.inl rfl) (pe_op op_fdivW (pv 2) (pv 4))))))
      (pss_one (ps_ret (pv 3)))))) pss_nil)
      (pss_cons (ps_set (i := 3) sc__law_draws.nd rfl (Or.inl rfl) (pe_lst pa_nil))
      (pss_cons (ps_for (passes_of rfl) rfl (pi_range1 (by rfl) T.n_range (pa_cons (pe_callB call_len_seq (by rfl) T.n_len PySem.boot_len (pa_cons (pv 1) pa_nil)) pa_nil)) (pg_name (i := 5) sc__law_draws.nd rfl (Or.inl rfl))
      (pss_cons (ps_set (i := 6) sc__law_draws.nd rfl (Or.inl rfl) (pe_op op_mod (pe_callTy call_int1 (by rfl) T.n_int (by decide +kernel) (pa_cons (pe_op op_add (pe_op op_mul (pv 0) pe_int) (pe_op op_mul (pe_op op_add (pv 5) pe_int) pe_int)) pa_nil)) pe_int))
      (pss_cons (ps_set (i := 6) sc__law_draws.nd rfl (Or.inl rfl) (pe_op op_mod (pe_callTy call_int1 (by rfl) T.n_int (by decide +kernel) (pa_cons (pe_op op_add (pe_op op_mul (pv 6) pe_int) (pe_op op_mul (pe_op op_add (pv 5) pe_int) pe_int)) pa_nil)) pe_int))
      (pss_cons (ps_set (i := 7) sc__law_draws.nd rfl (Or.inl rfl) (pe_op op_mod (pe_callTy call_int1 (by rfl) T.n_int (by decide +kernel) (pa_cons (pe_op op_add (pe_op op_mul (pv 0) pe_int) (pe_op op_mul (pe_op op_add (pv 5) pe_int) pe_int)) pa_nil)) pe_int))
      (pss_cons (ps_set (i := 7) sc__law_draws.nd rfl (Or.inl rfl) (pe_op op_mod (pe_callTy call_int1 (by rfl) T.n_int (by decide +kernel) (pa_cons (pe_op op_add (pe_op op_mul (pv 7) pe_int) (pv 6)) pa_nil)) pe_int))
      (pss_one (ps_expr (pe_bm PySem.F.plainAttrs_list PySem.F.slot_list_append PySem.F.type_list_append mt_append (pv 3) (pa_cons (pe_op op_modN (pe_callTy call_int1 (by rfl) T.n_int (by decide +kernel) (pa_cons (pe_op op_add (pe_op op_mul (pv 7) pe_int) (pv 6)) pa_nil)) (pe_ix ix_list (pv 1) (pv 5) (fun _ _ => rfl))) pa_nil)))))))))
      (pss_one (ps_ret (pv 3))))))), ?_⟩
    obtain ⟨c, l, sizes, rfl, hl, hs, hz, q⟩ := h
    refine Evl.q_when (b := decide (V.int c = V.int 0)) (et_B (ev_op (ev_var rfl) ev_c (rv_eq rfl))) (fun hb H1 e1 => ?_) fun hb H1 e1 => ?_
    · have hI := ei_list (K := K) (te := tVar 1) (σ := [some (V.int c), some (V.ref l), none, none, none, none, none, none]) (ev_var (v := V.ref l) rfl) (e1 _ _ hl)
      rw [List.length_map] at hI
      have hC := (ep_lc (g := gName 4) (tt := tYes) (te := tC (.int 0)) (vs := [4]) (R := IsV) stay_V stayL_V sizes.length (fun _ => true) (fun _ => V.int 0) hI (by omega) (fun i x H2 e2 hi hx Q k => k _ H2 (Ex.refl _) rfl (fun H3 e3 Q k => k H3 (Ex.refl _)) fun H3 e3 _ => Ev.toV ev_c)).toL
      have e0 : givenA sizes.length (fun _ => true) (fun _ => V.int 0) = (List.replicate sizes.length (0 : Int)).map V.int := by
        rw [givenA_all]
        apply List.ext_getElem
        · simp
        · intro i h1 h2
          simp
      rw [e0] at hC
      refine Evl.s_retL hC fun p H2 hn e2 hp => q p _ H2 (e1.trans e2) (fresh_back e1 hn) hp ⟨by simp, fun i h => by simp, fun i h h2 => ?_⟩
      rw [List.getElem_replicate]
      have := (hs _ (List.getElem_mem h2)).1
      omega
    · refine Evl.q_when (b := decide (1000000000000000000 ≤ c)) (et_B (ev_op (ev_var rfl) ev_pow18 rv_I0)) (fun hb H2 e2 => ?_) fun hb H2 e2 => ?_
      · have E2 := e1.trans e2
        refine Evl.q_asg (ev_op (ev_var rfl) ev_pow18 rv_I0) fun H3 e3 => ?_
        refine Evl.q_asgL (xs := []) (el_lst ea_nil (by simp)) fun f H4 hfn e4 hf => ?_
        have E4 := E2.trans (e3.trans e4)
        have hfn0 : H f = none := fresh_back (E2.trans e3) hfn
        refine eq_forB (fun i σ' H' => Ex H H' ∧ ∃ (xs : List Int) (left : Int) (o : Option V), σ' = [some (V.int c), some (V.ref l), some (V.int left), some (V.ref f), o, none, none, none] ∧ H' f = some (.lst (xs.map V.int)) ∧ Drawn xs (sizes.take i)) (eib_list (ev_var (v := V.ref l) rfl) E4 hl) (fun H5 e5 => ⟨E4.trans e5, [], _, none, rfl, e5 _ _ hf, ⟨rfl, fun i h => by simp at h, fun i h => by simp at h⟩⟩) (fun _ _ _ h => h.1) ?_ ?_
        · rintro i x σ' H5 H6 hi ⟨h1, xs, left, o, rfl, hx5, hd⟩ e6 hx
          rw [List.length_map] at hi
          rw [List.getElem?_map, List.getElem?_eq_getElem hi] at hx
          cases hx
          have hsi := hs _ (List.getElem_mem hi)
          have hxl : xs.length ≤ 100 := by have := hd.len; rw [List.length_take] at this; omega
          refine Evl.q_app (xs := xs.map V.int) (e6 _ _ hx5) (ev_var (v := V.ref f) rfl) (ev_op (ev_cb (ea_cons (ev_var rfl) ea_nil) fun H7 e7 Q k => .inl ⟨left, rfl, k H7 (Ex.refl _)⟩) (ev_var rfl) (rv_I (by omega))) (by rw [List.length_map]; omega) fun H7 e7 => ?_
          refine Evl.s_asg (ev_op (ev_var rfl) (ev_var rfl) (rv_I (wide_div (b := 64) (by omega) (abs_lt (by omega) hsi.2) (by omega) (by omega)))) fun H8 e8 => ?_
          refine ⟨((h1.trans (e6.trans e7)).mut hfn0).trans e8, xs ++ [left.fmod sizes[i]], _, _, rfl, by rw [e8 _ _ upd_same, List.map_append]; rfl, hd.snoc hi ?_ ?_⟩
          · rw [Int.fmod_eq_emod_of_nonneg _ (by omega)]; exact Int.emod_nonneg _ (by omega)
          · rw [Int.fmod_eq_emod_of_nonneg _ (by omega)]; exact Int.emod_lt_of_pos _ (by omega)
        · rintro σ' H5 ⟨h1, xs, left, o, rfl, hx5, hd⟩
          rw [List.length_map, List.take_length] at hd
          exact ⟨_, rfl, q f xs H5 h1 hfn0 hx5 hd⟩
      · have E2 := e1.trans e2
        refine Evl.q_asgL (xs := []) (el_lst ea_nil (by simp)) fun f H4 hfn e4 hf => ?_
        have E4 := E2.trans e4
        have hfn0 : H f = none := fresh_back E2 hfn
        refine eq_forB (n := sizes.length) (fun i σ' H' => Ex H H' ∧ ∃ (xs : List Int) (o1 o2 o3 : Option V), σ' = [some (V.int c), some (V.ref l), none, some (V.ref f), none, o1, o2, o3] ∧ H' f = some (.lst (xs.map V.int)) ∧ Drawn xs (sizes.take i)) (eib_rng (H0 := H) (ea_cons (ev_cb (ea_cons (ev_var (v := V.ref l) rfl) ea_nil) fun H5 e5 Q k => ⟨l, _, rfl, .inl (sq_of ((E4.trans e5) _ _ hl)), by rw [List.length_map]; exact k H5 (Ex.refl _)⟩) ea_nil) (by omega)) (fun H5 e5 => ⟨E4.trans e5, [], none, none, none, rfl, e5 _ _ hf, ⟨rfl, fun i h => by simp at h, fun i h => by simp at h⟩⟩) (fun _ _ _ h => h.1) ?_ ?_
        · rintro i x σ' H5 H6 hi ⟨h1, xs, o1, o2, o3, rfl, hx5, hd⟩ e6 rfl
          have hsi := hs _ (List.getElem_mem hi)
          have hxl : xs.length ≤ 100 := by have := hd.len; rw [List.length_take] at this; omega
          have mulc : ∀ {σ : L2.St} {H : Hp} {te : TE} {v k : Int}, Ev te σ H (.int v) → -(2 ^ 64) < k ∧ k < 2 ^ 64 → Ev (tOp (rI CMul fun i j => .int (i * j)) te (tC (.int k))) σ H (.int (v * k)) := fun h hk => ev_op h ev_c (rv_I (.inr hk))
          have intc : ∀ {σ : L2.St} {H : Hp} {te : TE} {v : Int}, Ev te σ H (.int v) → Ev (tCB (fun xs H Q => (∃ i, xs = [V.int i] ∧ Q (V.int i) H) ∨ ∃ k, xs = [V.bl k] ∧ Q (V.int (if k = true then 1 else 0)) H) (tCons te tNil)) σ H (.int v) := fun h => ev_cb (ea_cons h ea_nil) fun H7 e7 Q k => .inl ⟨_, rfl, k H7 (Ex.refl _)⟩
          refine Evl.q_asg (ev_op (intc (ev_op (mulc (ev_var rfl) (by decide)) (mulc (ev_op (ev_var rfl) ev_c rv_I0) (by decide)) rv_I0)) ev_c (rv_I (by decide))) fun H7 e7 => ?_
          refine Evl.q_asg (ev_op (intc (ev_op (mulc (ev_var rfl) (by decide)) (mulc (ev_op (ev_var rfl) ev_c rv_I0) (by decide)) rv_I0)) ev_c (rv_I (by decide))) fun H8 e8 => ?_
          refine Evl.q_asg (ev_op (intc (ev_op (mulc (ev_var rfl) (by decide)) (mulc (ev_op (ev_var rfl) ev_c rv_I0) (by decide)) rv_I0)) ev_c (rv_I (by decide))) fun H9 e9 => ?_
          refine Evl.q_asg (ev_op (intc (ev_op (mulc (ev_var rfl) (by decide)) (ev_var rfl) rv_I0)) ev_c (rv_I (by decide))) fun H10 e10 => ?_
          have E10 := e6.trans (e7.trans (e8.trans (e9.trans e10)))
          refine Evl.s_app (xs := xs.map V.int) (E10 _ _ hx5) (ev_var (v := V.ref f) rfl) (ev_op (intc (ev_op (mulc (ev_var rfl) (by decide)) (ev_var rfl) rv_I0)) (ev_op (z := .int sizes[i]) (ev_var rfl) (ev_var rfl) (rv_ixL (sq_of ((h1.trans E10) _ _ hl)) ?_)) (rv_I (by omega))) (by rw [List.length_map]; omega) fun H11 e11 => ?_
          · unfold atI
            rw [List.length_map, ixN_nat hi]
            show (sizes.map V.int)[i]? = _
            rw [List.getElem?_map, List.getElem?_eq_getElem hi]; rfl
          · refine ⟨(h1.trans (E10.trans e11)).mut hfn0, _, _, _, _, rfl, by rw [upd_same, List.map_append]; rfl, hd.snoc hi ?_ ?_⟩
            · rw [Int.fmod_eq_emod_of_nonneg _ (by omega)]; exact Int.emod_nonneg _ (by omega)
            · rw [Int.fmod_eq_emod_of_nonneg _ (by omega)]; exact Int.emod_lt_of_pos _ (by omega)
        · rintro σ' H5 ⟨h1, xs, o1, o2, o3, rfl, hx5, hd⟩
          rw [List.take_length] at hd
          exact ⟨_, rfl, q f xs H5 h1 hfn0 hx5 hd⟩
end
end K7

/-! K9Z: _law_any_name. -/
namespace K7
open PySem PySem.Spec PyProof.Rows L2 Evl RZ
theorem at_lets {i : Int} (h0 : 0 ≤ i % 26) (h1 : i % 26 < 26) : atI lets.cps.toList (i % 26) = some (lets.cps.toList.getD (i % 26).toNat 0) := by
  have hl : lets.cps.toList.length = 26 := by decide +kernel
  have h2 : (i % 26).toNat < lets.cps.toList.length := by omega
  unfold atI
  rw [← Int.toNat_of_nonneg h0, ixN_nat h2, Int.toNat_natCast]
  show lets.cps.toList[_]? = _
  rw [List.getElem?_eq_getElem h2, List.getD_eq_getElem?_getD, List.getElem?_eq_getElem h2]
  rfl
theorem at_signs {i : Int} (h0 : 0 ≤ i) (h1 : i < 95) : atI signs.cps.toList i = some (signs.cps.toList.getD i.toNat 0) := by
  have hl : 95 ≤ signs.cps.toList.length := by decide +kernel
  have h2 : i.toNat < signs.cps.toList.length := by omega
  unfold atI
  rw [← Int.toNat_of_nonneg h0, ixN_nat h2, Int.toNat_natCast]
  show signs.cps.toList[_]? = _
  rw [List.getElem?_eq_getElem h2, List.getD_eq_getElem?_getD, List.getElem?_eq_getElem h2]
  rfl
theorem ev_call0V {sp : Sp} {E : XK} {σ : L2.St} {H : Hp} {z : V} (hr : ∀ H1, Ex H H1 → ∀ Q : VK, RetV z H1 Q → sp [] H1 Q E) : Ev (fun σ H Q => sp [] H Q E) σ H z := fun H1 e1 Q k => hr H1 e1 Q k
theorem join1 : ∀ ys : List Str, (∀ y ∈ ys, y.length = 1) → (Str.join "" ys).length = ys.length
  | [], _ => rfl
  | [x], h => h x List.mem_cons_self
  | x :: y :: r, h => by
    have ih := join1 (y :: r) fun z hz => h z (List.mem_cons_of_mem _ hz)
    show (x ++ "" ++ Str.join "" (y :: r)).length = _
    rw [Str.length_append, Str.length_append, ih, h x List.mem_cons_self]
    show 1 + 0 + _ = _
    simp only [List.length_cons]
    omega
theorem sum1 : ∀ ys : List Str, (∀ y ∈ ys, y.length = 1) → (ys.map (·.length)).sum = ys.length
  | [], _ => rfl
  | y :: ys, h => by
    rw [List.map_cons, List.sum_cons, List.length_cons, sum1 ys fun z hz => h z (List.mem_cons_of_mem _ hz), h y List.mem_cons_self]
    omega
section
variable {K : PySem.W.Frag} {σ : L2.St} {H : Hp} {te ta tb ti : TE} {tl th : TO}
theorem ep_join {ys : List Str} (h : EvL te σ H (ys.map V.str)) (h1 : ∀ y ∈ ys, y.length = 1) (hl : ys.length ≤ 1000) : EvPr (tM1 (fun x xs H Q => ∃ a p, ∃ ys : List Str, x = .str a ∧ xs = [.ref p] ∧ (SqL K H p (ys.map V.str) ∨ SqT K H p (ys.map V.str)) ∧ (ys.map (·.length)).sum + ys.length * a.length ≤ 16777216 ∧ Q (.str (Txt.join a ys)) H) (tC (.str "")) te) σ H (fun v _ => ∃ x, v = .str x ∧ x.length = ys.length) := fun H1 e1 Q k => by
  refine ⟨⟨_, rfl⟩, h H1 e1 _ fun p H2 hn e2 hp => ⟨"", p, ys, rfl, rfl, .inl (sq_of hp), ?_, k _ H2 e2 ⟨_, rfl, ?_⟩⟩⟩
  · rw [sum1 ys h1]
    show _ + _ * 0 ≤ _
    omega
  · show (Builtin.Str.glued "" ys).length = _
    rw [StrLaws.glued_eq_join]
    exact join1 ys h1
theorem ev_pick2 {a b : Str} {i : Int} (ha : Ev ta σ H (.str a)) (hb : Ev tb σ H (.str b)) (hi : Ev ti σ H (.int i)) (h0 : 0 ≤ i) (h2 : i < 2) : EvPr (tOp (rIxL K) (tLst (tCons ta (tCons tb tNil))) ti) σ H (fun v _ => v = .str a ∨ v = .str b) := fun H1 e1 Q k =>
  (el_lst (ea_cons ha (ea_cons hb ea_nil)) (by simp)) H1 e1 _ fun p H2 hn e2 hp => hi H2 (e1.trans e2) _ fun H3 e3 => by
    have : i = 0 ∨ i = 1 := by omega
    rcases this with rfl | rfl
    · exact ⟨p, _, 0, .str a, rfl, rfl, sq_of (e3 _ _ hp), rfl, k _ _ (e2.trans e3) (.inl rfl)⟩
    · exact ⟨p, _, 1, .str b, rfl, rfl, sq_of (e3 _ _ hp), rfl, k _ _ (e2.trans e3) (.inr rfl)⟩
theorem ev_slS {x : Str} {lo hi : Option Int} (h : Ev te σ H (.str x)) (h1 : EvO tl σ H lo) (h2 : EvO th σ H hi) (hl : x.length ≤ 1000) : Ev (tSl rSlS te tl th) σ H (.str (cutS x lo hi)) := fun H1 e1 Q k =>
  h H1 e1 _ fun H2 e2 => h1 H2 (e1.trans e2) _ fun H3 e3 => h2 H3 ((e1.trans e2).trans e3) _ fun H4 e4 => ⟨x, rfl, sz_of (by omega), k _ ((e2.trans e3).trans e4)⟩
theorem rv_addS {x y : Str} (hl : x.length + y.length ≤ 1000) : RV (fun x y H Q => ∃ i j, x = .str i ∧ y = .str j ∧ i.length + j.length ≤ sizeLine ∧ Q (.str (i ++ j)) H) (.str x) (.str y) H (.str (x ++ y)) := rv_val fun H1 e1 Q k => ⟨x, y, rfl, rfl, sz_of (by omega), k⟩
theorem cutS_len {x : Str} {lo hi : Option Int} : (cutS x lo hi).length ≤ x.length := by
  unfold cutS
  show (List.toArray _).size ≤ x.cps.size
  rw [List.size_toArray, List.length_take, List.length_drop, Array.length_toList]
  omega
end
section
variable {P : Program} {w : World} {K : PySem.W.Frag} {mg : Str → Option Value} {base : Heap}
theorem sc__law_any_name : FnScope ["_law_rows", "_law_way", "_law_place_here", "_law_length", "_law_drawn", "_law_letters", "_law_signs_here", "_law_at", "_law_name", "_law_number"] ["_law_rows", "_law_way", "_law_place_here", "_law_length", "_law_drawn"] (defScope s__law_any_name) := ⟨rfl, rfl, rfl, by decide +kernel, rfl, by decide +kernel, by decide +kernel⟩
def spAny : Sp := fun vs H Q _ => ∃ (vr : V) (l : Addr) (rows : List Row) (way pl len : Int) (ds : List Int), vs = [vr, .int way, .int pl, .int len, .ref l] ∧ Dq H vr (rowsD rows) ∧ H l = some (.lst (ds.map V.int)) ∧ ds.length = 13 ∧ (∀ x ∈ ds, 0 ≤ x ∧ x < 95) ∧ rows.length ≤ 24 ∧ (∀ r ∈ rows, r.1.length ≤ 12) ∧ 0 ≤ way ∧ way < 14 ∧ 0 ≤ pl ∧ 0 ≤ len ∧ len < 13 ∧ ∀ x H', Ex H H' → x.length ≤ 60 → Q (.str x) H'
theorem ok__law_any_name (T : TXG fileC fa fx fn P K mg) : FnB P w K mg base 3 (He.ga K "_law_any_name") ["_law_rows", "_law_way", "_law_place_here", "_law_length", "_law_drawn"] spAny := by
  refine fnb T.d__law_any_name rfl sc__law_any_name (fun vs H Q E h => ?_) (fun _ _ _ _ _ _ us hl => match us, hl with | [_, _, _, _, _], _ => rfl) (fun cdv A outer s H vs Q E hr h => ?_)
  · obtain ⟨_, _, _, _, _, _, _, rfl, _⟩ := h
    rfl
  · refine ⟨_, (pss_cons (ps_set (i := 5) sc__law_any_name.nd rfl (Or.inl rfl) (pe_join pe_str (pe_lc (own := [("_law_number", 9)]) rfl sc__law_any_name.nd (pi_list (pv 4)) (blkOk_by (own := [("_law_number", 9)]) (N := ["_law_rows", "_law_way", "_law_place_here", "_law_length", "_law_drawn", "_law_letters", "_law_signs_here", "_law_at", "_law_name", "_law_number"]) (sc := defScope s__law_any_name) (by decide +kernel)) (fun _ _ _ _ _ => (pg_name (i := 9) sc__law_any_name.nd rfl (Or.inl rfl))) (fun _ _ _ _ _ => pts_nil) (fun _ _ _ _ _ => (pe_ix ix_str pe_str (pe_op op_mod (pe_callTy call_int1 (by rfl) T.n_int (by decide +kernel) (pa_cons (pv 9) pa_nil)) pe_int) (fun _ _ => rfl))))))
      (pss_cons (ps_set (i := 6) sc__law_any_name.nd rfl (Or.inl rfl) (pe_join pe_str (pe_lc (own := [("_law_number", 9)]) rfl sc__law_any_name.nd (pi_list (pv 4)) (blkOk_by (own := [("_law_number", 9)]) (N := ["_law_rows", "_law_way", "_law_place_here", "_law_length", "_law_drawn", "_law_letters", "_law_signs_here", "_law_at", "_law_name", "_law_number"]) (sc := defScope s__law_any_name) (by decide +kernel)) (fun _ _ _ _ _ => (pg_name (i := 9) sc__law_any_name.nd rfl (Or.inl rfl))) (fun _ _ _ _ _ => pts_nil) (fun _ _ _ _ _ => (pe_ix ix_str (pe_callR0 (ok__law_signs T).r (hr.mono (by decide)) T.k__law_signs (by rfl) T.g__law_signs passL) (pv 9) (fun _ _ => rfl))))))
      (pss_cons (ps_set (i := 7) sc__law_any_name.nd rfl (Or.inl rfl) (pe_op op_modN (pe_callTy call_int1 (by rfl) T.n_int (by decide +kernel) (pa_cons (pv 2) pa_nil)) (pe_op op_add (pv 3) pe_int)))
      (pss_cons (ps_if (pt_cmpR op_gt (pv 1) pe_int (nomark _)) (pss_one (ps_ret (pe_ix ix_list (pe_lst (pa_cons pe_str (pa_cons pe_str pa_nil))) (pe_op op_sub (pv 1) pe_int) (fun _ _ => rfl)))) pss_nil)
      (pss_cons (ps_if (pt_cmpR op_gt (pv 1) pe_int (nomark _)) (pss_one (ps_ret (pe_ix ix_list (pe_lst (pa_cons pe_str (pa_cons (pe_slice sl_str (pv 6) po_none (po_some (pv 3))) pa_nil))) (pe_op op_sub (pv 1) pe_int) (fun _ _ => rfl)))) pss_nil)
      (pss_cons (ps_if (pt_cmpR op_gt (pv 1) pe_int (nomark _)) (pss_one (ps_ret (pe_ix ix_list (pe_lst (pa_cons (pe_op op_add_str (pe_op op_add_str (pe_slice sl_str (pv 5) po_none (po_some (pv 7))) (pe_ix ix_str (pv 6) pe_int (fun _ _ => rfl))) (pe_slice sl_str (pv 5) (po_some (pv 7)) (po_some (pv 3)))) (pa_cons (pe_op op_add_str (pv 5) (pe_slice sl_str (pv 6) po_none (po_some (pv 3)))) pa_nil))) (pe_op op_sub (pv 1) pe_int) (fun _ _ => rfl)))) pss_nil)
      (pss_cons (ps_if (pt_cmpR op_gt (pv 1) pe_int (nomark _)) (pss_one (ps_ret (pe_ix ix_list (pe_lst (pa_cons pe_str (pa_cons pe_str pa_nil))) (pe_op op_sub (pv 1) pe_int) (fun _ _ => rfl)))) pss_nil)
      (pss_cons (ps_if (PW.pt (pw_or (pt_cmpR op_eq (pv 1) pe_int (nomark _)) (pw_or1 (pt_cmpR op_eq (pe_callB call_len_seq (by rfl) T.n_len PySem.boot_len (pa_cons (pv 0) pa_nil)) pe_int (nomark _))))) (pss_one (ps_ret (pe_slice sl_str (pv 5) po_none (po_some (pv 3))))) pss_nil)
      (pss_cons (ps_set (i := 8) sc__law_any_name.nd rfl (Or.inl rfl) (pe_ix ix_tup (pe_ix ix_list (pv 0) (pe_op op_modN (pe_callTy call_int1 (by rfl) T.n_int (by decide +kernel) (pa_cons (pv 2) pa_nil)) (pe_callB call_len_seq (by rfl) T.n_len PySem.boot_len (pa_cons (pv 0) pa_nil))) (fun _ _ => rfl)) pe_int (fun _ _ => rfl)))
      (pss_cons (ps_if (pt_cmpR op_lt (pv 1) pe_int (nomark _)) (pss_one (ps_ret (pv 8))) pss_nil)
      (pss_cons (ps_if (pt_cmpR op_eq (pe_op op_mod (pe_callTy call_int1 (by rfl) T.n_int (by decide +kernel) (pa_cons (pv 3) pa_nil)) pe_int) pe_int (nomark _)) (pss_one (ps_ret (pe_slice sl_str (pv 8) po_none (po_some (pe_un un_neg pe_int))))) pss_nil)
      (pss_cons (ps_if (pt_cmpR op_eq (pe_op op_mod (pe_callTy call_int1 (by rfl) T.n_int (by decide +kernel) (pa_cons (pv 3) pa_nil)) pe_int) pe_int (nomark _)) (pss_one (ps_ret (pe_op op_add_str (pv 8) (pe_ix ix_str (pv 5) pe_int (fun _ _ => rfl))))) pss_nil)
      (pss_one (ps_ret (pe_op op_add_str (pe_slice sl_str (pv 8) po_none (po_some (pe_un un_neg pe_int))) (pe_ix ix_str (pv 6) pe_int (fun _ _ => rfl))))))))))))))))), ?_⟩
    obtain ⟨vr, l, rows, way, pl, len, ds, rfl, hr, hl, hdl, hds, hrl, hrn, hw0, hw1, hp0, hn0, hn1, q⟩ := h
    have intc : ∀ {σ : L2.St} {H : Hp} {te : TE} {v : Int}, Ev te σ H (.int v) → Ev (tCB (fun xs H Q => (∃ i, xs = [V.int i] ∧ Q (V.int i) H) ∨ ∃ k, xs = [V.bl k] ∧ Q (V.int (if k = true then 1 else 0)) H) (tCons te tNil)) σ H (.int v) := fun h => ev_cb (ea_cons h ea_nil) fun H7 e7 Q k => .inl ⟨_, rfl, k H7 (Ex.refl _)⟩
    have hJ : ∀ {σ : L2.St} {H1 : Hp} {te : TE} (g : Nat → Nat), Ex H H1 → wipe σ [9] = σ → (∀ x, wipe (σ.set 9 x) [9] = σ) → σ[4]? = some (some (.ref l)) → (∀ i (hi : i < 13) H2, Ev te (σ.set 9 (some (.int (ds.getD i 0)))) H2 (.str ⟨#[g i]⟩)) → EvPr (tM1 (fun x xs H Q => ∃ a p, ∃ ys : List Str, x = .str a ∧ xs = [.ref p] ∧ (SqL K H p (ys.map V.str) ∨ SqT K H p (ys.map V.str)) ∧ (ys.map (·.length)).sum + ys.length * a.length ≤ 16777216 ∧ Q (.str (Txt.join a ys)) H) (tC (.str "")) (tLc (iList K (tVar 4)) (gName 9) tYes te [9])) σ H1 (fun v _ => ∃ x, v = .str x ∧ x.length = 13) := by
      intro σ H1 te g e1 hw1 hw2 h4 hel
      have hI := ei_list (K := K) (te := tVar 4) (σ := σ) (ev_var (v := V.ref l) h4) (e1 _ _ hl)
      rw [List.length_map, hdl] at hI
      have hC := (ep_lc (g := gName 9) (tt := tYes) (te := te) (vs := [9]) (R := IsV) stay_V stayL_V 13 (fun _ => true) (fun i => V.str ⟨#[g i]⟩) hI (by omega) (fun i x H2 e2 hi hx Q k => by
        rw [List.getElem?_map, List.getElem?_eq_getElem (by omega)] at hx
        cases hx
        have hg : ds.getD i 0 = ds[i] := by rw [List.getD_eq_getElem?_getD, List.getElem?_eq_getElem (by omega)]; rfl
        have := hel i hi
        rw [hg] at this
        refine k _ H2 (Ex.refl _) ?_ (fun H3 e3 Q k => k H3 (Ex.refl _)) fun H3 e3 _ => Ev.toV ?_
        · rw [hw1]; exact hw2 _
        · rw [hw1]; exact this H3)).toL
      have e0 : givenA 13 (fun _ => true) (fun i => V.str ⟨#[g i]⟩) = ((List.range 13).map fun i => (⟨#[g i]⟩ : Str)).map V.str := by
        rw [givenA_all, List.map_map]
        rfl
      rw [e0] at hC
      have h := ep_join (K := K) hC (fun y hy => by obtain ⟨i, _, rfl⟩ := List.mem_map.mp hy; rfl) (by simp)
      intro H2 e2 Q k
      exact h H2 e2 Q fun v H3 e3 ⟨x, hx, hxl⟩ => k v H3 e3 ⟨x, hx, by rw [hxl]; simp⟩
    have hdsg : ∀ i, i < 13 → 0 ≤ ds.getD i 0 ∧ ds.getD i 0 < 95 := fun i hi => by
      rw [List.getD_eq_getElem?_getD, List.getElem?_eq_getElem (show i < ds.length by omega)]
      exact hds _ (List.getElem_mem _)
    refine q_asgP (hJ (fun i => lets.cps.toList.getD ((ds.getD i 0) % 26).toNat 0) (Ex.refl _) rfl (fun _ => rfl) rfl (fun i hi H2 => ?_)) fun v H1 e1 hv => ?_
    · have := hdsg i hi
      refine ev_op (ev_c (v := .str lets)) (ev_op (intc (ev_var rfl)) ev_c (rv_I (by decide))) (rv_ixS (by decide) (at_lets (by omega) (by omega)))
    obtain ⟨xl, rfl, hxl⟩ := hv
    refine q_asgP (hJ (fun i => signs.cps.toList.getD (ds.getD i 0).toNat 0) e1 rfl (fun _ => rfl) rfl (fun i hi H2 => ?_)) fun v H2 e2 hv => ?_
    · have := hdsg i hi
      exact ev_op (ev_call0V fun H3 e3 Q k => ⟨rfl, k⟩) (ev_var rfl) (rv_ixS (by decide +kernel) (at_signs (by omega) (by omega)))
    obtain ⟨xs, rfl, hxs⟩ := hv
    have E2 := e1.trans e2
    refine Evl.q_asg (v := .int (pl.fmod (len + 1))) (ev_op (intc (ev_var rfl)) (ev_op (ev_var rfl) ev_c rv_I0) (rv_I (by omega))) fun H3 e3 => ?_
    have E3 := E2.trans e3
    have cl : ∀ {lo hi : Option Int}, (cutS xl lo hi).length ≤ 13 := fun {lo hi} => by have := cutS_len (x := xl) (lo := lo) (hi := hi); omega
    have cs : ∀ {lo hi : Option Int}, (cutS xs lo hi).length ≤ 13 := fun {lo hi} => by have := cutS_len (x := xs) (lo := lo) (hi := hi); omega
    obtain ⟨c0, hc0⟩ : ∃ c, atI xs.cps.toList 0 = some c := by
      have hz : xs.cps.toList.length = 13 := by rw [Array.length_toList]; exact hxs
      refine ⟨xs.cps.toList[0]'(by omega), ?_⟩
      unfold atI
      rw [show (0 : Int) = ((0 : Nat) : Int) from rfl, ixN_nat (by omega)]
      exact List.getElem?_eq_getElem (by omega)
    obtain ⟨d0, hd0⟩ : ∃ c, atI xl.cps.toList 0 = some c := by
      have hz : xl.cps.toList.length = 13 := by rw [Array.length_toList]; exact hxl
      refine ⟨xl.cps.toList[0]'(by omega), ?_⟩
      unfold atI
      rw [show (0 : Int) = ((0 : Nat) : Int) from rfl, ixN_nat (by omega)]
      exact List.getElem?_eq_getElem (by omega)
    have two : ∀ {σ : L2.St} {H4 : Hp} {ta tb ti : TE} {a b : Str} {i : Int} {D : Ends}, D.rt = Q → Ex H H4 → Ev ta σ H4 (.str a) → Ev tb σ H4 (.str b) → Ev ti σ H4 (.int i) → 0 ≤ i → i < 2 → a.length ≤ 60 → b.length ≤ 60 → tRet (tOp (rIxL K) (tLst (tCons ta (tCons tb tNil))) ti) D σ H4 := fun {σ H4 ta tb ti a b i D} hD e4 ha hb hi h0 h2 hla hlb => s_retP (ev_pick2 ha hb hi h0 h2) fun v H5 e5 hv => by
      rw [hD]
      rcases hv with rfl | rfl
      · exact q _ H5 (e4.trans e5) hla
      · exact q _ H5 (e4.trans e5) hlb
    refine Evl.q_when (b := decide (11 < way)) (et_B (ev_op (ev_var rfl) ev_c rv_I0)) (fun hb H4 e4 => ?_) fun hb H4 e4 => ?_
    · have hb := of_decide_eq_true hb
      exact two rfl (E3.trans e4) ev_c ev_c (ev_op (ev_var rfl) ev_c rv_I0) (by omega) (by omega) (by decide) (by decide)
    have hb1 := of_decide_eq_false hb
    have E4 := E3.trans e4
    refine Evl.q_when (b := decide (9 < way)) (et_B (ev_op (ev_var rfl) ev_c rv_I0)) (fun hb H5 e5 => ?_) fun hb H5 e5 => ?_
    · have hb := of_decide_eq_true hb
      exact two rfl (E4.trans e5) ev_c (ev_slS (ev_var rfl) eo_none (eo_some (ev_var rfl)) (by omega)) (ev_op (ev_var rfl) ev_c rv_I0) (by omega) (by omega) (by decide) (by have := cs (lo := none) (hi := some len); omega)
    have hb2 := of_decide_eq_false hb
    have E5 := E4.trans e5
    refine Evl.q_when (b := decide (7 < way)) (et_B (ev_op (ev_var rfl) ev_c rv_I0)) (fun hb H6 e6 => ?_) fun hb H6 e6 => ?_
    · have hb := of_decide_eq_true hb
      have k1 := cl (lo := none) (hi := some (pl.fmod (len + 1)))
      have k2 := cl (lo := some (pl.fmod (len + 1))) (hi := some len)
      have k3 := cs (lo := none) (hi := some len)
      have k4 : (⟨#[c0]⟩ : Str).length = 1 := rfl
      exact two rfl (E5.trans e6) (ev_op (ev_op (ev_slS (ev_var rfl) eo_none (eo_some (ev_var rfl)) (by omega)) (ev_op (ev_var rfl) ev_c (rv_ixS (by omega) hc0)) (rv_addS (by omega))) (ev_slS (ev_var rfl) (eo_some (ev_var rfl)) (eo_some (ev_var rfl)) (by omega)) (rv_addS (by rw [Str.length_append]; omega))) (ev_op (ev_var rfl) (ev_slS (ev_var rfl) eo_none (eo_some (ev_var rfl)) (by omega)) (rv_addS (by omega))) (ev_op (ev_var rfl) ev_c rv_I0) (by omega) (by omega) (by rw [Str.length_append, Str.length_append]; omega) (by rw [Str.length_append]; omega)
    have hb3 := of_decide_eq_false hb
    have E6 := E5.trans e6
    refine Evl.q_when (b := decide (5 < way)) (et_B (ev_op (ev_var rfl) ev_c rv_I0)) (fun hb H7 e7 => ?_) fun hb H7 e7 => ?_
    · have hb := of_decide_eq_true hb
      exact two rfl (E6.trans e7) ev_c ev_c (ev_op (ev_var rfl) ev_c rv_I0) (by omega) (by omega) (by decide) (by decide)
    have E7 := E6.trans e7
    obtain ⟨ra, rxs, rfl, hra, hrx⟩ := (hr.ex E7).lst_inv
    have hrxl : rxs.length = rows.length := by rw [hrx.len, List.length_map]
    have lenr : ∀ {σ : L2.St} {H8 : Hp}, Ex H7 H8 → σ[0]? = some (some (.ref ra)) → Ev (tCB (fun xs H Q => ∃ p ys, xs = [V.ref p] ∧ (SqL K H p ys ∨ SqT K H p ys) ∧ Q (V.int ys.length) H) (tCons (tVar 0) tNil)) σ H8 (.int rows.length) := fun e8 h0 => ev_cb (ea_cons (ev_var h0) ea_nil) fun H9 e9 Q k => ⟨ra, _, rfl, .inl (sq_of ((e8.trans e9) _ _ hra)), by rw [hrxl]; exact k H9 (Ex.refl _)⟩
    refine Evl.q_when (b := decide (V.int way = V.int 4) || decide (V.int rows.length = V.int 0)) (et_or (et_B (ev_op (ev_var rfl) ev_c (rv_eq rfl))) fun _ => et_B (ev_op (lenr (Ex.refl _) rfl) ev_c (rv_eq rfl))) (fun hb H8 e8 => ?_) fun hb H8 e8 => ?_
    · exact Evl.s_ret (ev_slS (ev_var rfl) eo_none (eo_some (ev_var rfl)) (by omega)) fun H9 e9 => q _ H9 ((E7.trans e8).trans e9) (by have := cl (lo := none) (hi := some len); omega)
    have hrows : rows.length ≠ 0 := by
      have := (Bool.or_eq_false_iff.mp hb).2
      have := of_decide_eq_false this
      intro h
      exact this (by rw [h]; rfl)
    have E8 := E7.trans e8
    have hm0 : 0 ≤ pl.fmod (rows.length : Int) := by rw [Int.fmod_eq_emod_of_nonneg _ (by omega)]; exact Int.emod_nonneg _ (by omega)
    have hm1 : pl.fmod (rows.length : Int) < (rows.length : Int) := by rw [Int.fmod_eq_emod_of_nonneg _ (by omega)]; exact Int.emod_lt_of_pos _ (by omega)
    obtain ⟨j, hj⟩ : ∃ j : Nat, pl.fmod (rows.length : Int) = (j : Int) := ⟨(pl.fmod (rows.length : Int)).toNat, (Int.toNat_of_nonneg hm0).symm⟩
    have hjl : j < rows.length := by omega
    obtain ⟨rv, hrv1, hrv2⟩ := hrx.get (i := j) (d := rowD rows[j]) (by rw [List.getElem?_map, List.getElem?_eq_getElem hjl]; rfl)
    obtain ⟨ta, txs, rfl, hta, htx⟩ := hrv2.tup_inv
    have hnl := hrn _ (List.getElem_mem hjl)
    match txs, htx with
    | [z1, z2, z3], .cons hz1 _ =>
    have hz1 := hz1.str_inv
    subst hz1
    refine Evl.q_asg (v := .str rows[j].1) (ev_op (ev_op (z := .ref ta) (ev_var (v := .ref ra) rfl) (ev_op (z := .int (j : Int)) (intc (ev_var rfl)) (lenr (e8) rfl) (by rw [← hj]; exact rv_I (by omega))) (rv_ixL (sq_of (e8 _ _ hra)) ?_)) ev_c (rv_ixT (st_of (e8 _ _ hta)) rfl)) fun H9 e9 => ?_
    · unfold atI
      rw [hrxl, ixN_nat hjl]
      exact hrv1
    have E9 := E8.trans e9
    refine Evl.q_when (b := decide (way < 4)) (et_B (ev_op (ev_var rfl) ev_c rv_I0)) (fun hb H10 e10 => ?_) fun hb H10 e10 => ?_
    · exact Evl.s_ret (ev_var rfl) fun H11 e11 => q _ H11 ((E9.trans e10).trans e11) (by omega)
    have E10 := E9.trans e10
    have kn : (cutS rows[j].1 none (some (-1))).length ≤ 12 := Nat.le_trans cutS_len hnl
    have k4 : (⟨#[c0]⟩ : Str).length = 1 := rfl
    have k5 : (⟨#[d0]⟩ : Str).length = 1 := rfl
    refine Evl.q_when (b := decide (V.int (len % 3) = V.int 1)) (et_B (ev_op (ev_op (intc (ev_var rfl)) ev_c (rv_I (by decide))) ev_c (rv_eq rfl))) (fun hb H11 e11 => ?_) fun hb H11 e11 => ?_
    · exact Evl.s_ret (ev_slS (ev_var rfl) eo_none (eo_some (ev_un ev_c ru_neg)) (by omega)) fun H12 e12 => q _ H12 ((E10.trans e11).trans e12) (Nat.le_trans kn (by omega))
    have E11 := E10.trans e11
    refine Evl.q_when (b := decide (V.int (len % 3) = V.int 2)) (et_B (ev_op (ev_op (intc (ev_var rfl)) ev_c (rv_I (by decide))) ev_c (rv_eq rfl))) (fun hb H12 e12 => ?_) fun hb H12 e12 => ?_
    · exact Evl.s_ret (ev_op (ev_var rfl) (ev_op (ev_var rfl) ev_c (rv_ixS (by omega) hd0)) (rv_addS (by omega))) fun H13 e13 => q _ H13 ((E11.trans e12).trans e13) (by rw [Str.length_append]; omega)
    exact Evl.s_ret (ev_op (ev_slS (ev_var rfl) eo_none (eo_some (ev_un ev_c ru_neg)) (by omega)) (ev_op (ev_var rfl) ev_c (rv_ixS (by omega) hc0)) (rv_addS (by have : (cutS rows[j].1 none (some (-1))).length ≤ 12 := kn; omega))) fun H13 e13 => q _ H13 ((E11.trans e12).trans e13) (by rw [Str.length_append]; omega)
end
end K7

/-! KAA: _law_move. -/
namespace K7
open PySem PySem.Spec PyProof.Rows L2 Evl RZ
/-- a move -/
structure Mv where
  deed : Int
  name : Str
  price : Int
  weight : Int
  limit : Option Int
  k5 : Int
  other : Int
def mvD (m : Mv) : PyData := .tuple [.int m.deed, .str m.name, .int m.price, .int m.weight, capD m.limit, .int m.k5, .int m.other]
def szs : List Int := [16, 14, 24, 13, 7, 4, 4, 4, 1000000000000000000, 1000000000000000000, 1000000000000000000] ++ List.replicate 13 95
structure MvOk (m : Mv) : Prop where
  d0 : 0 ≤ m.deed
  d1 : m.deed ≤ 10
  nm : m.name.length ≤ 60
  p1 : m.price < 2 ^ 60
  w1 : m.weight < 2 ^ 60
  l1 : ∀ i, m.limit = some i → i < 2 ^ 60
  k0 : 0 ≤ m.k5
  k1 : m.k5 < 7
  o1 : m.other < 2 ^ 60
section
variable {K : PySem.W.Frag} {σ : L2.St} {H : Hp} {ta tb : TE}
theorem el_cat {xs ys : List V} (ha : EvL ta σ H xs) (hb : EvL tb σ H ys) (hl : xs.length + ys.length ≤ 1000) : EvL (tOp rCat ta tb) σ H (xs ++ ys) := fun H1 e1 Q k =>
  ha H1 e1 _ fun p H2 hn e2 hp => hb H2 (e1.trans e2) _ fun r H3 hn3 e3 hr => ⟨p, r, xs, ys, rfl, rfl, e3 _ _ hp, hr, sz_of (by omega), fun z hz => k z _ (fresh_back (e2.trans e3) hz) ((e2.trans e3).trans (Ex.new hz)) upd_same⟩
theorem ev_1e9 : Ev (tOp (rI CPow fun i j => .int (i ^ j.toNat)) (tC (.int 10)) (tC (.int 9))) σ H (.int 1000000000) := ev_is (ev_op ev_c ev_c (rv_I ⟨by decide, by decide, by decide⟩)) (congrArg V.int (by decide))
theorem ev_1e18m : Ev (tOp (rI0 fun i j => .int (i - j)) (tOp (rI CPow fun i j => .int (i ^ j.toNat)) (tC (.int 10)) (tC (.int 18))) (tC (.int 1))) σ H (.int 999999999999999999) := ev_is (ev_op ev_pow18 ev_c rv_I0) (congrArg V.int (by decide))
abbrev szA : List Int := [16, 14, 24, 13, 7, 4, 4, 4, 1000000000000000000, 1000000000000000000, 1000000000000000000]
theorem szs_map : szA.map V.int ++ (List.replicate 13 (95 : Int)).map V.int = szs.map V.int := by
  unfold szs
  rw [List.map_append]
abbrev tP18 : TE := tOp (rI CPow fun i j => .int (i ^ j.toNat)) (tC (.int 10)) (tC (.int 18))
theorem szs_head : EvL (tLst (tCons (tC (.int 16)) (tCons (tC (.int 14)) (tCons (tC (.int 24)) (tCons (tC (.int 13)) (tCons (tC (.int 7)) (tCons (tC (.int 4)) (tCons (tC (.int 4)) (tCons (tC (.int 4)) (tCons tP18 (tCons tP18 (tCons tP18 tNil)))))))))))) σ H (szA.map V.int) := el_lst (ea_cons ev_c (ea_cons ev_c (ea_cons ev_c (ea_cons ev_c (ea_cons ev_c (ea_cons ev_c (ea_cons ev_c (ea_cons ev_c (ea_cons ev_pow18 (ea_cons ev_pow18 (ea_cons ev_pow18 ea_nil))))))))))) (by simp)
def bnds : List V := [V.int 4, V.int 30, V.int 1000000000, V.int 999999999999999999]
theorem bnd_at {i : Int} (h0 : 0 ≤ i) (h1 : i < 4) : ∃ bd : Int, atI bnds i = some (V.int bd) ∧ 1 ≤ bd ∧ bd < 2 ^ 60 := by
  have : i = 0 ∨ i = 1 ∨ i = 2 ∨ i = 3 := by omega
  rcases this with h | h | h | h <;> subst h
  · exact ⟨4, rfl, by omega, by omega⟩
  · exact ⟨30, rfl, by omega, by omega⟩
  · exact ⟨1000000000, rfl, by omega, by omega⟩
  · exact ⟨999999999999999999, rfl, by omega, by omega⟩
theorem el_bnds : EvL (tLst (tCons (tC (.int 4)) (tCons (tC (.int 30)) (tCons (tOp (rI CPow fun i j => .int (i ^ j.toNat)) (tC (.int 10)) (tC (.int 9))) (tCons (tOp (rI0 fun i j => .int (i - j)) (tOp (rI CPow fun i j => .int (i ^ j.toNat)) (tC (.int 10)) (tC (.int 18))) (tC (.int 1))) tNil))))) σ H bnds := el_lst (ea_cons ev_c (ea_cons ev_c (ea_cons ev_1e9 (ea_cons ev_1e18m ea_nil)))) (by decide)
theorem ep_draws {t1 tl : TE} {c : Int} {sizes : List Int} {E : XK} (h1 : Ev t1 σ H (.int c)) (h : EvL tl σ H (sizes.map V.int)) (hs : ∀ x ∈ sizes, 1 ≤ x ∧ x < 2 ^ 64) (hz : sizes.length ≤ 100) : EvPr (fun σ H Q => tCons t1 (tCons tl tNil) σ H fun vs H1 => spDraws vs H1 Q E) σ H (fun v H' => ∃ p xs, v = .ref p ∧ H' p = some (.lst (List.map V.int xs)) ∧ Drawn xs sizes) := fun H1 e1 Q k =>
  h1 H1 e1 _ fun H2 e2 => h H2 (e1.trans e2) _ fun l H3 hn e3 hl => ⟨c, l, sizes, rfl, hl, hs, hz, fun p xs H4 e4 hpn hp hd => k _ H4 ((e2.trans e3).trans e4) ⟨p, xs, rfl, hp, hd⟩⟩
theorem ev_drawn {te : TE} {p : Addr} {xs sizes : List Int} {i : Nat} (hp : H p = some (.lst (xs.map V.int))) (h : Ev te σ H (.ref p)) (hi : i < xs.length) : Ev (tOp (rIxL K) te (tC (.int (i : Int)))) σ H (.int (xs.getD i 0)) := ev_op h ev_c (rv_ixL (sq_of hp) (by
  unfold atI
  rw [List.length_map, ixN_nat hi]
  show (xs.map V.int)[i]? = _
  rw [List.getElem?_map, List.getElem?_eq_getElem hi, List.getD_eq_getElem?_getD, List.getElem?_eq_getElem hi]; rfl))
theorem Drawn.get {xs sizes : List Int} (h : Drawn xs sizes) {i : Nat} (hi : i < sizes.length) : 0 ≤ xs.getD i 0 ∧ xs.getD i 0 < sizes[i] := by
  have hx : i < xs.length := by rw [h.len]; exact hi
  rw [List.getD_eq_getElem?_getD, List.getElem?_eq_getElem hx]
  exact ⟨h.lo i hx, h.hi i hx hi⟩
theorem fmod_lt {a b : Int} (hb : 0 < b) : 0 ≤ a.fmod b ∧ a.fmod b < b := by
  rw [Int.fmod_eq_emod_of_nonneg _ (by omega)]
  exact ⟨Int.emod_nonneg _ (by omega), Int.emod_lt_of_pos _ hb⟩
theorem ep_any {t0 t1 t2 t3 tl : TE} {vr : V} {rows : List Row} {xs : List Int} {E : XK} (hr : Dq H vr (rowsD rows)) (h0 : Ev t0 σ H vr) (h1 : Ev t1 σ H (.int (xs.getD 1 0))) (h2 : Ev t2 σ H (.int (xs.getD 2 0))) (h3 : Ev t3 σ H (.int (xs.getD 3 0))) (hl : EvL tl σ H (cutV (xs.map V.int) (some 11) none)) (hd : Drawn xs szs) (hrl : rows.length ≤ 24) (hrn : ∀ r ∈ rows, r.1.length ≤ 12) :
    EvPr (fun σ H Q => tCons t0 (tCons t1 (tCons t2 (tCons t3 (tCons tl tNil)))) σ H fun vs H1 => spAny vs H1 Q E) σ H (fun v _ => ∃ x, v = .str x ∧ x.length ≤ 60) := fun H1 e1 Q k => by
  have hxl : xs.length = 24 := by rw [hd.len]; decide
  have hcut : cutV (xs.map V.int) (some 11) none = (xs.drop 11).map V.int := by
    unfold cutV
    rw [List.length_map, hxl]
    show List.take 13 (List.drop 11 _) = _
    rw [← List.map_drop, List.take_of_length_le (by rw [List.length_map, List.length_drop]; omega)]
  rw [hcut] at hl
  have g1 := hd.get (i := 1) (by decide)
  have g2 := hd.get (i := 2) (by decide)
  have g3 := hd.get (i := 3) (by decide)
  rw [show szs[1] = 14 from rfl] at g1
  rw [show szs[3] = 13 from rfl] at g3
  refine h0 H1 e1 _ fun H2 e2 => h1 H2 (e1.trans e2) _ fun H3 e3 => h2 H3 ((e1.trans e2).trans e3) _ fun H4 e4 => h3 H4 (((e1.trans e2).trans e3).trans e4) _ fun H5 e5 => hl H5 ((((e1.trans e2).trans e3).trans e4).trans e5) _ fun l H6 hn e6 hl6 => ?_
  have E6 := ((e2.trans e3).trans e4).trans (e5.trans e6)
  refine ⟨vr, l, rows, _, _, _, xs.drop 11, rfl, hr.ex (e1.trans E6), hl6, by rw [List.length_drop]; omega, fun x hx => ?_, hrl, hrn, g1.1, g1.2, g2.1, g3.1, g3.2, fun x H7 e7 hx => k _ H7 (E6.trans e7) ⟨x, rfl, hx⟩⟩
  obtain ⟨i, hi, ei⟩ := List.mem_iff_getElem.mp hx
  rw [List.length_drop] at hi
  rw [List.getElem_drop] at ei
  have hs : ∀ i (h : i < 24), 11 ≤ i → szs[i]'(by rw [show szs.length = 24 from rfl]; exact h) = 95 := by decide
  have g := hd.lo (11 + i) (by omega)
  have g' := hd.hi (11 + i) (by omega) (by rw [show szs.length = 24 by decide]; omega)
  rw [hs (11 + i) (by omega) (by omega)] at g'
  rw [← ei]
  exact ⟨g, g'⟩
end
theorem at_slots {t : TS} {D : Ends} {σ : L2.St} {H : Hp} (σ' : L2.St) (h : σ = σ') (k : t D σ' H) : t D σ H := by
  rw [h]
  exact k
section
variable {P : Program} {w : World} {K : PySem.W.Frag} {mg : Str → Option Value} {base : Heap}
theorem sc__law_move : FnScope ["_law_cell_here", "_law_rows", "_law_drawn", "_law_bound", "_law_price", "_law_weight", "_law_other", "_law_name", "_law_deed", "_law_limit", "_law_k"] ["_law_cell_here", "_law_rows"] (defScope s__law_move) := ⟨rfl, rfl, rfl, by decide +kernel, rfl, by decide +kernel, by decide +kernel⟩
def spMove (K : PySem.W.Frag) : Sp := fun vs H Q _ => ∃ (c : Int) (vr : V) (rows : List Row), vs = [.int c, vr] ∧ Dq H vr (rowsD rows) ∧ rows.length ≤ 24 ∧ (∀ r ∈ rows, r.1.length ≤ 12) ∧ ∀ v m H', Ex H H' → Dq H' v (mvD m) → MvOk m → Q v H'
theorem ok__law_move (T : TXG fileC fa fx fn P K mg) : FnB P w K mg base 5 (He.ga K "_law_move") ["_law_cell_here", "_law_rows"] (spMove K) := by
  refine fnb T.d__law_move rfl sc__law_move (fun vs H Q E h => ?_) (fun _ _ _ _ _ _ us hl => match us, hl with | [_, _], _ => rfl) (fun cdv A outer s H vs Q E hr h => ?_)
  · obtain ⟨_, _, _, rfl, _⟩ := h
    rfl
  · refine ⟨_, (pss_cons (ps_set (i := 2) sc__law_move.nd rfl (Or.inl rfl) (pe_callR (ok__law_draws T).r (hr.mono (by decide)) T.k__law_draws (by rfl) T.g__law_draws passL (pa_cons (pv 0) (pa_cons (pe_op op_cat (pe_lst (pa_cons pe_int (pa_cons pe_int (pa_cons pe_int (pa_cons pe_int (pa_cons pe_int (pa_cons pe_int (pa_cons pe_int (pa_cons pe_int (pa_cons (pe_op op_pow pe_int pe_int) (pa_cons (pe_op op_pow pe_int pe_int) (pa_cons (pe_op op_pow pe_int pe_int) pa_nil)))))))))))) (pe_lc (own := [("_law_k", 10)]) rfl sc__law_move.nd (pi_range1 (by rfl) T.n_range (pa_cons pe_int pa_nil)) (blkOk_by (own := [("_law_k", 10)]) (N := ["_law_cell_here", "_law_rows", "_law_drawn", "_law_bound", "_law_price", "_law_weight", "_law_other", "_law_name", "_law_deed", "_law_limit", "_law_k"]) (sc := defScope s__law_move) (by decide +kernel)) (fun _ _ _ _ _ => (pg_name (i := 10) sc__law_move.nd rfl (Or.inl rfl))) (fun _ _ _ _ _ => pts_nil) (fun _ _ _ _ _ => pe_int))) pa_nil))))
      (pss_cons (ps_set (i := 3) sc__law_move.nd rfl (Or.inl rfl) (pe_ix ix_list (pe_lst (pa_cons pe_int (pa_cons pe_int (pa_cons (pe_op op_pow pe_int pe_int) (pa_cons (pe_op op_sub (pe_op op_pow pe_int pe_int) pe_int) pa_nil))))) (pe_ix ix_list (pv 2) pe_int (fun _ _ => rfl)) (fun _ _ => rfl)))
      (pss_cons (ps_set (i := 4) sc__law_move.nd rfl (Or.inl rfl) (pe_op op_modN (pe_callTy call_int1 (by rfl) T.n_int (by decide +kernel) (pa_cons (pe_ix ix_list (pv 2) pe_int (fun _ _ => rfl)) pa_nil)) (pv 3)))
      (pss_cons (ps_set (i := 5) sc__law_move.nd rfl (Or.inl rfl) (pe_op op_add pe_int (pe_op op_modN (pe_callTy call_int1 (by rfl) T.n_int (by decide +kernel) (pa_cons (pe_ix ix_list (pv 2) pe_int (fun _ _ => rfl)) pa_nil)) (pv 3))))
      (pss_cons (ps_set (i := 6) sc__law_move.nd rfl (Or.inl rfl) (pe_op op_modN (pe_callTy call_int1 (by rfl) T.n_int (by decide +kernel) (pa_cons (pe_ix ix_list (pv 2) pe_int (fun _ _ => rfl)) pa_nil)) (pv 3)))
      (pss_cons (ps_if (pt_cmpR op_eq (pe_ix ix_list (pv 2) pe_int (fun _ _ => rfl)) pe_int (nomark _)) (pss_one (ps_set (i := 4) sc__law_move.nd rfl (Or.inl rfl) (pe_op op_sub (pe_un un_neg pe_int) (pv 4)))) pss_nil)
      (pss_cons (ps_if (pt_cmpR op_eq (pe_ix ix_list (pv 2) pe_int (fun _ _ => rfl)) pe_int (nomark _)) (pss_one (ps_set (i := 5) sc__law_move.nd rfl (Or.inl rfl) (pe_op op_sub pe_int (pv 5)))) pss_nil)
      (pss_cons (ps_if (pt_cmpR op_eq (pe_ix ix_list (pv 2) pe_int (fun _ _ => rfl)) pe_int (nomark _)) (pss_one (ps_set (i := 6) sc__law_move.nd rfl (Or.inl rfl) (pe_op op_sub (pe_un un_neg pe_int) (pv 6)))) pss_nil)
      (pss_cons (ps_set (i := 7) sc__law_move.nd rfl (Or.inl rfl) (pe_callR (ok__law_any_name T).r (hr.mono (by decide)) T.k__law_any_name (by rfl) T.g__law_any_name passL (pa_cons (pv 1) (pa_cons (pe_ix ix_list (pv 2) pe_int (fun _ _ => rfl)) (pa_cons (pe_ix ix_list (pv 2) pe_int (fun _ _ => rfl)) (pa_cons (pe_ix ix_list (pv 2) pe_int (fun _ _ => rfl)) (pa_cons (pe_slice sl_list (pv 2) (po_some pe_int) po_none) pa_nil)))))))
      (pss_cons (ps_set (i := 8) sc__law_move.nd rfl (Or.inl rfl) (pe_ix ix_list (pv 2) pe_int (fun _ _ => rfl)))
      (pss_cons (ps_if (pt_cmpR op_gt (pv 8) pe_int (nomark _)) (pss_one (ps_set (i := 8) sc__law_move.nd rfl (Or.inl rfl) pe_int)) pss_nil)
      (pss_cons (ps_set (i := 9) sc__law_move.nd rfl (Or.inl rfl) (pv 4))
      (pss_cons (ps_if (pt_cmpR op_eq (pe_ix ix_list (pv 2) pe_int (fun _ _ => rfl)) pe_int (nomark _)) (pss_one (ps_set (i := 9) sc__law_move.nd rfl (Or.inl rfl) pe_non)) pss_nil)
      (pss_one (ps_ret (pe_tup (pa_cons (pv 8) (pa_cons (pv 7) (pa_cons (pv 4) (pa_cons (pv 5) (pa_cons (pv 9) (pa_cons (pe_ix ix_list (pv 2) pe_int (fun _ _ => rfl)) (pa_cons (pv 6) pa_nil))))))))))))))))))))))), ?_⟩
    obtain ⟨c, vr, rows, rfl, hr, hrl, hrn, q⟩ := h
    have hI := ei_rng (n := 13) (ta := tCons (tC (.int 13)) tNil) (σ := [some (V.int c), some vr, none, none, none, none, none, none, none, none, none]) (H := H) (ea_cons ev_c ea_nil) (by omega)
    have hC := (ep_lc (g := gName 10) (tt := tYes) (te := tC (.int 95)) (vs := [10]) (R := IsV) stay_V stayL_V 13 (fun _ => true) (fun _ => V.int 95) hI (by omega) (fun i x H2 e2 hi hx Q k => k _ H2 (Ex.refl _) rfl (fun H3 e3 Q k => k H3 (Ex.refl _)) fun H3 e3 _ => Ev.toV ev_c)).toL
    have e13 : givenA 13 (fun _ => true) (fun _ => V.int 95) = (List.replicate 13 (95 : Int)).map V.int := by rw [givenA_all]; rfl
    rw [e13] at hC
    have hszs : ∀ x ∈ szs, 1 ≤ x ∧ x < 2 ^ 64 := by decide
    have hsl : szs.length = 24 := by decide
    have hcat := el_cat szs_head hC (by simp)
    rw [szs_map] at hcat
    refine q_asgP (ep_draws (sizes := szs) (ev_var rfl) hcat hszs (by rw [hsl]; omega)) fun v H1 e1 hv => ?_
    obtain ⟨p, xs, rfl, hp, hd⟩ := hv
    have hxl : xs.length = 24 := by rw [hd.len, hsl]
    have intc : ∀ {σ : L2.St} {H : Hp} {te : TE} {v : Int}, Ev te σ H (.int v) → Ev (tCB (fun xs H Q => (∃ i, xs = [V.int i] ∧ Q (V.int i) H) ∨ ∃ k, xs = [V.bl k] ∧ Q (V.int (if k = true then 1 else 0)) H) (tCons te tNil)) σ H (.int v) := fun h => ev_cb (ea_cons h ea_nil) fun H7 e7 Q k => .inl ⟨_, rfl, k H7 (Ex.refl _)⟩
    have dr : ∀ {σ : L2.St} {H' : Hp} (i : Nat), i < 24 → Ex H1 H' → σ[2]? = some (some (.ref p)) → Ev (tOp (rIxL K) (tVar 2) (tC (.int (i : Int)))) σ H' (.int (xs.getD i 0)) := fun i hi e hs => ev_drawn (sizes := szs) (e _ _ hp) (ev_var hs) (by omega)
    have h0 := hd.get (i := 0) (by decide)
    have h1 := hd.get (i := 1) (by decide)
    have h2 := hd.get (i := 2) (by decide)
    have h3 := hd.get (i := 3) (by decide)
    have h4 := hd.get (i := 4) (by decide)
    have h5 := hd.get (i := 5) (by decide)
    rw [show szs[0] = 16 from rfl] at h0
    rw [show szs[1] = 14 from rfl] at h1
    rw [show szs[2] = 24 from rfl] at h2
    rw [show szs[3] = 13 from rfl] at h3
    rw [show szs[4] = 7 from rfl] at h4
    rw [show szs[5] = 4 from rfl] at h5
    obtain ⟨bd, hbd, hb1, hb2⟩ := bnd_at h5.1 h5.2
    refine Evl.q_asg (v := .int bd) (ev_opL1 el_bnds (fun H2 e2 => dr 5 (by omega) e2 rfl) fun l H2 hl e2 => rv_ixL (sq_of hl) hbd) fun H2 e2 => ?_
    have b0 := fmod_lt (a := xs.getD 8 0) (b := bd) (by omega)
    have b1 := fmod_lt (a := xs.getD 9 0) (b := bd) (by omega)
    have b2 := fmod_lt (a := xs.getD 10 0) (b := bd) (by omega)
    refine Evl.q_asg (ev_op (intc (dr 8 (by omega) e2 rfl)) (ev_var rfl) (rv_I (by omega))) fun H3 e3 => ?_
    have e3 := e2.trans e3
    refine Evl.q_asg (ev_op ev_c (ev_op (intc (dr 9 (by omega) e3 rfl)) (ev_var rfl) (rv_I (by omega))) rv_I0) fun H4 e4 => ?_
    have e4 := e3.trans e4
    refine Evl.q_asg (ev_op (intc (dr 10 (by omega) e4 rfl)) (ev_var rfl) (rv_I (by omega))) fun H5 e5 => ?_
    have e5 := e4.trans e5
    refine at_slots [some (.int c), some vr, some (.ref p), some (.int bd), some (.int ((xs.getD 8 0).fmod bd)), some (.int (1 + (xs.getD 9 0).fmod bd)), some (.int ((xs.getD 10 0).fmod bd)), none, none, none, none] rfl ?_
    refine Evl.q_ifAsg (v := .int (if xs.getD 6 0 = 0 then -1 - (xs.getD 8 0).fmod bd else (xs.getD 8 0).fmod bd)) (b := decide (V.int (xs.getD 6 0) = V.int 0)) (et_B (ev_op (dr 6 (by omega) e5 rfl) ev_c (rv_eq rfl))) (fun hb => ?_) (fun hb => ?_) fun H6 e6 => ?_
    · have hb : xs.getD 6 0 = 0 := by have := of_decide_eq_true hb; injection this
      rw [if_pos hb]
      exact ev_op (ev_un ev_c ru_neg) (ev_var rfl) rv_I0
    · have hb : ¬ xs.getD 6 0 = 0 := fun h => of_decide_eq_false hb (by rw [h])
      rw [if_neg hb]; rfl
    have e6 := e5.trans e6
    refine Evl.q_ifAsg (v := .int (if xs.getD 7 0 = 0 then 1 - (1 + (xs.getD 9 0).fmod bd) else (1 + (xs.getD 9 0).fmod bd))) (b := decide (V.int (xs.getD 7 0) = V.int 0)) (et_B (ev_op (dr 7 (by omega) e6 rfl) ev_c (rv_eq rfl))) (fun hb => ?_) (fun hb => ?_) fun H7 e7 => ?_
    · have hb : xs.getD 7 0 = 0 := by have := of_decide_eq_true hb; injection this
      rw [if_pos hb]
      exact ev_op ev_c (ev_var rfl) rv_I0
    · have hb : ¬ xs.getD 7 0 = 0 := fun h => of_decide_eq_false hb (by rw [h])
      rw [if_neg hb]; rfl
    have e7 := e6.trans e7
    refine Evl.q_ifAsg (v := .int (if xs.getD 7 0 = 1 then -1 - (xs.getD 10 0).fmod bd else (xs.getD 10 0).fmod bd)) (b := decide (V.int (xs.getD 7 0) = V.int 1)) (et_B (ev_op (dr 7 (by omega) e7 rfl) ev_c (rv_eq rfl))) (fun hb => ?_) (fun hb => ?_) fun H8 e8 => ?_
    · have hb : xs.getD 7 0 = 1 := by have := of_decide_eq_true hb; injection this
      rw [if_pos hb]
      exact ev_op (ev_un ev_c ru_neg) (ev_var rfl) rv_I0
    · have hb : ¬ xs.getD 7 0 = 1 := fun h => of_decide_eq_false hb (by rw [h])
      rw [if_neg hb]; rfl
    have e8 := e7.trans e8
    generalize hpv : (if xs.getD 6 0 = 0 then -1 - (xs.getD 8 0).fmod bd else (xs.getD 8 0).fmod bd) = pv
    generalize hwv : (if xs.getD 7 0 = 0 then 1 - (1 + (xs.getD 9 0).fmod bd) else (1 + (xs.getD 9 0).fmod bd)) = wv
    generalize hov : (if xs.getD 7 0 = 1 then -1 - (xs.getD 10 0).fmod bd else (xs.getD 10 0).fmod bd) = ov
    have hp1 : pv < 2 ^ 60 := by rw [← hpv]; split <;> omega
    have hw1 : wv < 2 ^ 60 := by rw [← hwv]; split <;> omega
    have ho1 : ov < 2 ^ 60 := by rw [← hov]; split <;> omega
    refine at_slots [some (.int c), some vr, some (.ref p), some (.int bd), some (.int pv), some (.int wv), some (.int ov), none, none, none, none] rfl ?_
    refine q_asgP (P := fun v H' => ∃ x, v = .str x ∧ x.length ≤ 60) (ep_any (hr.ex (e1.trans e8)) (ev_var rfl) (dr 1 (by omega) e8 rfl) (dr 2 (by omega) e8 rfl) (dr 3 (by omega) e8 rfl) (Evl.el_sl (ev_var (v := .ref p) rfl) (eo_some ev_c) eo_none (sq_of (e8 _ _ hp))) hd hrl hrn) fun v H9 e9 hv => ?_
    obtain ⟨x, rfl, hxl60⟩ := hv
    have e9 := e8.trans e9
    refine Evl.q_asg (dr 0 (by omega) e9 rfl) fun H10 e10 => ?_
    have e10 := e9.trans e10
    refine Evl.q_ifAsg (v := .int (if 10 < xs.getD 0 0 then 8 else xs.getD 0 0)) (b := decide (10 < xs.getD 0 0)) (et_B (ev_op (ev_var rfl) ev_c rv_I0)) (fun hb => ?_) (fun hb => ?_) fun H11 e11 => ?_
    · rw [if_pos (of_decide_eq_true hb)]; exact ev_c
    · rw [if_neg (of_decide_eq_false hb)]; rfl
    have e11 := e10.trans e11
    refine at_slots [some (.int c), some vr, some (.ref p), some (.int bd), some (.int pv), some (.int wv), some (.int ov), some (.str x), some (.int (if 10 < xs.getD 0 0 then 8 else xs.getD 0 0)), none, none] rfl ?_
    refine Evl.q_asg (ev_var rfl) fun H12 e12 => ?_
    have e12 := e11.trans e12
    refine Evl.q_ifAsg (v := capV (if xs.getD 4 0 = 0 then none else some pv)) (b := decide (V.int (xs.getD 4 0) = V.int 0)) (et_B (ev_op (dr 4 (by omega) e12 rfl) ev_c (rv_eq rfl))) (fun hb => ?_) (fun hb => ?_) fun H13 e13 => ?_
    · have hb : xs.getD 4 0 = 0 := by have := of_decide_eq_true hb; injection this
      rw [if_pos hb]; exact ev_c
    · have hb : ¬ xs.getD 4 0 = 0 := fun h => of_decide_eq_false hb (by rw [h])
      rw [if_neg hb]; rfl
    have e13 := e12.trans e13
    refine at_slots [some (.int c), some vr, some (.ref p), some (.int bd), some (.int pv), some (.int wv), some (.int ov), some (.str x), some (.int (if 10 < xs.getD 0 0 then 8 else xs.getD 0 0)), some (capV (if xs.getD 4 0 = 0 then none else some pv)), none] rfl ?_
    refine Evl.s_retU (eu_tup (ea_cons (ev_var rfl) (ea_cons (ev_var rfl) (ea_cons (ev_var rfl) (ea_cons (ev_var rfl) (ea_cons (ev_var rfl) (ea_cons (dr 4 (by omega) e13 rfl) (ea_cons (ev_var rfl) ea_nil))))))) (by simp)) fun t H14 htn e14 ht => ?_
    refine q _ ⟨if 10 < xs.getD 0 0 then 8 else xs.getD 0 0, x, pv, wv, if xs.getD 4 0 = 0 then none else some pv, xs.getD 4 0, ov⟩ H14 (e1.trans (e13.trans e14)) (.tup ht (.cons (.int _) (.cons (.str _) (.cons (.int _) (.cons (.int _) (.cons ?_ (.cons (.int _) (.cons (.int _) .nil)))))))) ⟨?_, ?_, hxl60, hp1, hw1, fun i hi => ?_, h4.1, h4.2, ho1⟩
    · split
      · exact .non
      · exact .int _
    · dsimp only; split <;> omega
    · dsimp only; split <;> omega
    · dsimp only at hi
      split at hi
      · cases hi
      · cases hi; exact hp1
end
end K7

/-! KAB: _law_place. -/
namespace K7
open PySem PySem.Spec PyProof.Rows L2 Evl RZ
def placeI : List Row → Str → Int
  | [], _ => -1
  | r :: rows, x => if r.1 = x then 0 else (if placeI rows x = -1 then -1 else placeI rows x + 1)
section
variable {P : Program} {w : World} {K : PySem.W.Frag} {mg : Str → Option Value} {base : Heap}
theorem sc__law_place : FnScope ["_law_rows", "_law_name", "_law_k"] ["_law_rows", "_law_name"] (defScope s__law_place) := ⟨rfl, rfl, rfl, by decide +kernel, rfl, by decide +kernel, by decide +kernel⟩
def spPlace : Sp := fun vs H Q _ => ∃ (vr : V) (rows : List Row) (x : Str), vs = [vr, .str x] ∧ Dq H vr (rowsD rows) ∧ rows.length ≤ 24 ∧ RetV (.int (placeI rows x)) H Q
theorem place_at {x : Str} : ∀ {rows : List Row} {i : Nat} {r : Row}, rows[i]? = some r → r.1 = x → (∀ j r', j < i → rows[j]? = some r' → r'.1 ≠ x) → placeI rows x = i
  | [], _, _, e, _, _ => by simp at e
  | r0 :: rows, 0, r, e, h, _ => by
    simp at e
    subst e
    unfold placeI
    rw [if_pos h]
    rfl
  | r0 :: rows, i + 1, r, e, h, hn => by
    have e2 : rows[i]? = some r := by simpa using e
    have h0 : r0.1 ≠ x := hn 0 r0 (by omega) rfl
    have ih := place_at e2 h fun j r' hj hr => hn (j + 1) r' (by omega) (by simpa using hr)
    unfold placeI
    rw [if_neg h0, ih, if_neg (by omega)]
    omega
theorem place_none {x : Str} : ∀ {rows : List Row}, (∀ r ∈ rows, r.1 ≠ x) → placeI rows x = -1
  | [], _ => rfl
  | r0 :: rows, h => by
    unfold placeI
    rw [if_neg (h r0 List.mem_cons_self), place_none fun r hr => h r (List.mem_cons_of_mem _ hr), if_pos rfl]
theorem ok__law_place (T : TXG fileC fa fx fn P K mg) : FnB P w K mg base 1 (He.ga K "_law_place") ["_law_rows", "_law_name"] spPlace := by
  refine fnb T.d__law_place rfl sc__law_place (fun vs H Q E h => ?_) (fun _ _ _ _ _ _ us hl => match us, hl with | [_, _], _ => rfl) (fun cdv A outer s H vs Q E hr h => ?_)
  · obtain ⟨_, _, _, rfl, _⟩ := h
    rfl
  · refine ⟨_, (pss_cons (ps_for (passes_of rfl) rfl (pi_range1 (by rfl) T.n_range (pa_cons (pe_callB call_len_seq (by rfl) T.n_len PySem.boot_len (pa_cons (pv 0) pa_nil)) pa_nil)) (pg_name (i := 2) sc__law_place.nd rfl (Or.inl rfl))
      (pss_one (ps_if (pt_cmpR op_eq (pe_ix ix_tup (pe_ix ix_list (pv 0) (pv 2) (fun _ _ => rfl)) pe_int (fun _ _ => rfl)) (pv 1) (nomark _)) (pss_one (ps_ret (pv 2))) pss_nil)))
      (pss_one (ps_ret (pe_un un_neg pe_int)))), ?_⟩
    obtain ⟨vr, rows, x, rfl, hr, hl, q⟩ := h
    refine qd_forR (n := rows.length) (eds_cons (by have := ed_lenL (K := K) (σ := [some vr, some (V.str x), none]) (H := H) (ta := tVar 0) (ed_var rfl hr); rw [List.length_map] at this; exact this) eds_nil) (by omega) fun H1 e1 => ?_
    refine ⟨fun i σ' H' => Ex H H' ∧ (∃ o : Option V, σ' = [some vr, some (.str x), o]) ∧ ∀ j r', j < i → rows[j]? = some r' → r'.1 ≠ x, ⟨e1, ⟨none, rfl⟩, fun j r' h => by omega⟩, ?_, ?_⟩
    · rintro i σ' H' hi ⟨hE, ⟨o, rfl⟩, hn⟩
      have hg : rows[i]? = some rows[i] := List.getElem?_eq_getElem hi
      have hr' := hr.ex hE
      have hx : atI (rows.map rowD) (i : Int) = some (rowD rows[i]) := by
        unfold atI
        rw [List.length_map, ixN_nat hi]
        show (rows.map rowD)[i]? = _
        rw [List.getElem?_map, hg]; rfl
      refine sd_when (b := decide (rows[i].1 = x)) (et_is (b := decide (rows[i].1 = x)) (et_DB (ed_eq (d1 := .str rows[i].1) (d2 := .str x) (ed_ixU (ed_ixL (ed_var rfl hr') (ed_var rfl (.int _)) hx) ed_i rfl) (ed_var rfl (.str x)) rfl)) rfl) (fun hb H2 e2 => ?_) fun hb H2 e2 => ?_
      · have hb := of_decide_eq_true hb
        refine ⟨_, rfl, ?_⟩
        have := q H2 (hE.trans e2)
        rw [place_at hg hb hn] at this
        exact this
      · have hb := of_decide_eq_false hb
        refine ⟨hE.trans e2, ⟨_, rfl⟩, fun j r' hj hr => ?_⟩
        by_cases hq : j = i
        · subst hq; rw [hg] at hr; cases hr; exact hb
        · exact hn j r' (by omega) hr
    · rintro σ' H' ⟨hE, ⟨o, rfl⟩, hn⟩
      refine Evl.s_ret (ev_un ev_c ru_neg) fun H2 e2 => ?_
      have := q H2 (hE.trans e2)
      rw [place_none fun r hr => ?_] at this
      · exact this
      · obtain ⟨j, hj, ej⟩ := List.mem_iff_getElem.mp hr
        exact hn j r hj (by rw [List.getElem?_eq_getElem hj, ej])
theorem cutD_take {α : Type} {xs : List α} {j : Nat} (h : j ≤ xs.length) : cutD xs none (some (j : Int)) = xs.take j := by
  unfold cutD
  have s0 : HT.sIx xs.length 0 none = 0 := rfl
  have s1 : HT.sIx xs.length xs.length (some (j : Int)) = j := by
    unfold HT.sIx
    simp only
    split <;> omega
  rw [s0, s1, List.drop_zero, Nat.sub_zero]
theorem cutD_drop {α : Type} {xs : List α} {j : Nat} : cutD xs (some (j : Int)) none = xs.drop j := by
  unfold cutD
  have s1 : HT.sIx xs.length 0 (some (j : Int)) = min j xs.length := by
    unfold HT.sIx
    simp only
    split <;> omega
  have s2 : HT.sIx xs.length xs.length none = xs.length := rfl
  rw [s1, s2]
  by_cases h : j ≤ xs.length
  · rw [Nat.min_eq_left h, List.take_of_length_le (by rw [List.length_drop]; omega)]
  · rw [Nat.min_eq_right (by omega), List.drop_of_length_le (Nat.le_refl _), List.drop_of_length_le (by omega), List.take_nil]
end
end K7

/-! KAC: _law_pairs. -/
namespace K7
open PySem PySem.Spec PyProof.Rows L2 Evl RZ
def pairD (q : Str × Int) : PyData := .tuple [.str q.1, .int q.2]
def pairsAll (m : Mv) : List (List (Str × Int)) := [[], [("a", m.price)], [("b", m.other)], [("a", m.price), ("b", m.other)], [("b", m.other), ("a", m.price)], [("tea", m.other), ("a", m.price), ("jam", m.price)], [("jam", m.price), ("tea", m.other), ("a", m.price), ("b", m.other)]]
def pairsOf (m : Mv) : List (Str × Int) := (pairsAll m).getD m.k5.toNat []
section
variable {P : Program} {w : World} {K : PySem.W.Frag} {mg : Str → Option Value} {base : Heap}
theorem sc__law_pairs : FnScope ["_law_move_here", "_law_one", "_law_two", "_law_tea", "_law_jam"] ["_law_move_here"] (defScope s__law_pairs) := ⟨rfl, rfl, rfl, by decide +kernel, rfl, by decide +kernel, by decide +kernel⟩
def spPairs : Sp := fun vs H Q _ => ∃ (v : V) (m : Mv), vs = [v] ∧ Dq H v (mvD m) ∧ MvOk m ∧ RetD (.list ((pairsOf m).map pairD)) H Q
theorem ok__law_pairs (T : TXG fileC fa fx fn P K mg) : FnB P w K mg base 1 (He.ga K "_law_pairs") ["_law_move_here"] spPairs := by
  refine fnb T.d__law_pairs rfl sc__law_pairs (fun vs H Q E h => ?_) (fun _ _ _ _ _ _ us hl => match us, hl with | [_], _ => rfl) (fun cdv A outer s H vs Q E hr h => ?_)
  · obtain ⟨_, _, rfl, _⟩ := h
    rfl
  · refine ⟨_, (pss_cons (ps_set (i := 1) sc__law_pairs.nd rfl (Or.inl rfl) (pe_tup (pa_cons pe_str (pa_cons (pe_ix ix_tup (pv 0) pe_int (fun _ _ => rfl)) pa_nil))))
      (pss_cons (ps_set (i := 2) sc__law_pairs.nd rfl (Or.inl rfl) (pe_tup (pa_cons pe_str (pa_cons (pe_ix ix_tup (pv 0) pe_int (fun _ _ => rfl)) pa_nil))))
      (pss_cons (ps_set (i := 3) sc__law_pairs.nd rfl (Or.inl rfl) (pe_tup (pa_cons pe_str (pa_cons (pe_ix ix_tup (pv 0) pe_int (fun _ _ => rfl)) pa_nil))))
      (pss_cons (ps_set (i := 4) sc__law_pairs.nd rfl (Or.inl rfl) (pe_tup (pa_cons pe_str (pa_cons (pe_ix ix_tup (pv 0) pe_int (fun _ _ => rfl)) pa_nil))))
      (pss_one (ps_ret (pe_ix ix_list (pe_lst (pa_cons (pe_lst pa_nil) (pa_cons (pe_lst (pa_cons (pv 1) pa_nil)) (pa_cons (pe_lst (pa_cons (pv 2) pa_nil)) (pa_cons (pe_lst (pa_cons (pv 1) (pa_cons (pv 2) pa_nil))) (pa_cons (pe_lst (pa_cons (pv 2) (pa_cons (pv 1) pa_nil))) (pa_cons (pe_lst (pa_cons (pv 3) (pa_cons (pv 1) (pa_cons (pv 4) pa_nil)))) (pa_cons (pe_lst (pa_cons (pv 4) (pa_cons (pv 3) (pa_cons (pv 1) (pa_cons (pv 2) pa_nil))))) pa_nil)))))))) (pe_ix ix_tup (pv 0) pe_int (fun _ _ => rfl)) (fun _ _ => rfl)))))))), ?_⟩
    obtain ⟨v, m, rfl, hv, hm, q⟩ := h
    refine qd_asg (d := .tuple [.str "a", .int m.price]) (ed_tup (eds_cons ed_s (eds_cons (ed_ixU (ed_var rfl hv) ed_i rfl) eds_nil)) (by simp)) fun v1 H1 e1 h1 => ?_
    refine qd_asg (d := .tuple [.str "b", .int m.other]) (ed_tup (eds_cons ed_s (eds_cons (ed_ixU (ed_var rfl (hv.ex e1)) ed_i rfl) eds_nil)) (by simp)) fun v2 H2 e2 h2 => ?_
    have E2 := e1.trans e2
    refine qd_asg (d := .tuple [.str "tea", .int m.other]) (ed_tup (eds_cons ed_s (eds_cons (ed_ixU (ed_var rfl (hv.ex E2)) ed_i rfl) eds_nil)) (by simp)) fun v3 H3 e3 h3 => ?_
    have E3 := E2.trans e3
    refine qd_asg (d := .tuple [.str "jam", .int m.price]) (ed_tup (eds_cons ed_s (eds_cons (ed_ixU (ed_var rfl (hv.ex E3)) ed_i rfl) eds_nil)) (by simp)) fun v4 H4 e4 h4 => ?_
    have E4 := E3.trans e4
    have h1 := h1.ex (e2.trans (e3.trans e4))
    have h2 := h2.ex (e3.trans e4)
    have h3 := h3.ex e4
    have lst : ∀ {σ : L2.St} {H : Hp} {ta : TA} {ds : List PyData}, EvDs ta σ H ds → ds.length ≤ 10 → EvD (tLst ta) σ H (.list ds) := fun h hl => (ef_lst h (by omega)).toD
    have hk : m.k5 = ((m.k5.toNat : Nat) : Int) := (Int.toNat_of_nonneg hm.k0).symm
    have hi : m.k5.toNat < 7 := by have := hm.k1; omega
    refine sd_ret (ed_ixL (ds := (pairsAll m).map fun l => .list (l.map pairD)) (i := m.k5) (lst (eds_cons (lst eds_nil (by simp)) (eds_cons (lst (eds_cons (ed_var rfl h1) eds_nil) (by simp)) (eds_cons (lst (eds_cons (ed_var rfl h2) eds_nil) (by simp)) (eds_cons (lst (eds_cons (ed_var rfl h1) (eds_cons (ed_var rfl h2) eds_nil)) (by simp)) (eds_cons (lst (eds_cons (ed_var rfl h2) (eds_cons (ed_var rfl h1) eds_nil)) (by simp)) (eds_cons (lst (eds_cons (ed_var rfl h3) (eds_cons (ed_var rfl h1) (eds_cons (ed_var rfl h4) eds_nil))) (by simp)) (eds_cons (lst (eds_cons (ed_var rfl h4) (eds_cons (ed_var rfl h3) (eds_cons (ed_var rfl h1) (eds_cons (ed_var rfl h2) eds_nil)))) (by simp)) eds_nil))))))) (by simp [pairsAll])) (ed_ixU (ed_var rfl (hv.ex E4)) ed_i rfl) ?_) (q.mono E4) rfl
    unfold atI
    rw [hk, List.length_map, ixN_nat (by simpa [pairsAll] using hi)]
    show ((pairsAll m).map _)[_]? = _
    rw [List.getElem?_map, List.getElem?_eq_getElem (by simpa [pairsAll] using hi)]
    unfold pairsOf
    rw [List.getD_eq_getElem?_getD, List.getElem?_eq_getElem (by simpa [pairsAll] using hi)]
    rfl
end
end K7

/-! KAD: _law_same_lot. -/
namespace K7
open PySem PySem.Spec PyProof.Rows L2 Evl RZ
section
variable {P : Program} {w : World} {K : PySem.W.Frag} {mg : Str → Option Value} {base : Heap}
theorem sc__law_same_lot : FnScope ["_law_x", "_law_due_here", "_law_k"] ["_law_x", "_law_due_here"] (defScope s__law_same_lot) := ⟨rfl, rfl, rfl, by decide +kernel, rfl, by decide +kernel, by decide +kernel⟩
def spSame : Sp := fun vs H Q _ => ∃ (a b : Addr) (is : List Int), vs = [.ref a, .ref b] ∧ H a = some (.tup (is.map V.int)) ∧ H b = some (.tup (is.map V.int)) ∧ is.length ≤ 100 ∧ RetV (.bl true) H Q
theorem ok__law_same_lot (T : TXG fileC fa fx fn P K mg) : FnB P w K mg base 3 (He.ga K "_law_same_lot") ["_law_x", "_law_due_here"] spSame := by
  refine fnb T.d__law_same_lot rfl sc__law_same_lot (fun vs H Q E h => ?_) (fun _ _ _ _ _ _ us hl => match us, hl with | [_, _], _ => rfl) (fun cdv A outer s H vs Q E hr h => ?_)
  · obtain ⟨_, _, _, rfl, _⟩ := h
    rfl
  · refine ⟨_, (pss_cons (ps_if (PW.pt (pw_or (pt_not (pt_val (pe_callB call_isi (by rfl) T.n_isinstance (by decide +kernel) (pa_cons (pv 0) (pa_cons (pe_bltn (v := .ty "tuple") (by rfl) T.n_tuple PyProof.Rows.boot_tuple rfl) pa_nil))))) (pw_or1 (pt_cmpR op_ne (pe_callB call_len_seq (by rfl) T.n_len PySem.boot_len (pa_cons (pv 0) pa_nil)) (pe_callB call_len_seq (by rfl) T.n_len PySem.boot_len (pa_cons (pv 1) pa_nil)) (nomark _))))) (pss_one (ps_ret pe_bl)) pss_nil)
      (pss_cons (ps_for (passes_of rfl) rfl (pi_range1 (by rfl) T.n_range (pa_cons (pe_callB call_len_seq (by rfl) T.n_len PySem.boot_len (pa_cons (pv 1) pa_nil)) pa_nil)) (pg_name (i := 2) sc__law_same_lot.nd rfl (Or.inl rfl))
      (pss_one (ps_if (PW.pt (pw_or (pt_not (pt_val (pe_callR (ok__law_is_int T).r (hr.mono (by decide)) T.k__law_is_int (by rfl) T.g__law_is_int passL (pa_cons (pe_ix ix_tup (pv 0) (pv 2) (fun _ _ => rfl)) pa_nil)))) (pw_or1 (pt_cmpR op_ne (pe_ix ix_tup (pv 0) (pv 2) (fun _ _ => rfl)) (pe_ix ix_tup (pv 1) (pv 2) (fun _ _ => rfl)) (nomark _))))) (pss_one (ps_ret pe_bl)) pss_nil)))
      (pss_one (ps_ret pe_bl)))), ?_⟩
    obtain ⟨a, b, is, rfl, ha, hb, hl, q⟩ := h
    have len : ∀ {σ : L2.St} {H1 : Hp} {te : TE} {c : Addr}, H1 c = some (.tup (is.map V.int)) → Ev te σ H1 (.ref c) → Ev (tCB (fun xs H Q => ∃ p ys, xs = [V.ref p] ∧ (SqL K H p ys ∨ SqT K H p ys) ∧ Q (V.int ys.length) H) (tCons te tNil)) σ H1 (.int is.length) := fun {σ H1 te c} hc h => ev_cb (ea_cons h ea_nil) fun H2 e2 Q k => ⟨c, _, rfl, .inr (st_of (e2 _ _ hc)), by rw [List.length_map]; exact k H2 (Ex.refl _)⟩
    refine Evl.q_when (b := false) (et_is (et_or (et_not (et_B (ev_isi (t := .type "tuple") (ev_var (v := .ref a) rfl) (.ty _) (fun H1 e => .base (.tup (e _ _ ha))) T.kit_tuple_tuple))) fun _ => et_B (ev_op (len ha (ev_var rfl)) (len hb (ev_var rfl)) (rv_ne rfl))) (by simp)) (fun h => by cases h) fun _ H1 e1 => ?_
    refine eq_for (n := is.length) (ei_rng (ea_cons (len (e1 _ _ hb) (ev_var rfl)) ea_nil) (by omega)) (by omega) fun H2 e2 => ?_
    refine ⟨fun i σ' H' => Ex H2 H' ∧ ∃ o : Option V, σ' = [some (.ref a), some (.ref b), o], ⟨Ex.refl _, none, rfl⟩, fun _ _ _ h => h.1, ?_, ?_⟩
    · rintro i x σ' H' H'' hi ⟨h1, o, rfl⟩ h2 rfl
      have E := (e1.trans e2).trans (h1.trans h2)
      have at_ : ∀ {σ : L2.St} {H3 : Hp} {te ti : TE} {c : Addr}, H3 c = some (.tup (is.map V.int)) → Ev te σ H3 (.ref c) → Ev ti σ H3 (.int (i : Int)) → Ev (tOp (rIxT K) te ti) σ H3 (.int is[i]) := fun hc h h' => ev_op h h' (rv_ixT (st_of hc) (by
        unfold atI
        rw [List.length_map, ixN_nat hi]
        show (is.map V.int)[i]? = _
        rw [List.getElem?_map, List.getElem?_eq_getElem hi]; rfl))
      refine Evl.s_when (b := false) (et_is (et_or (et_not (et_B (ev_callE (ea_cons (at_ (E _ _ ha) (ev_var rfl) (ev_var rfl)) ea_nil) fun H3 e3 Q k => ⟨_, rfl, k⟩))) fun _ => et_B (ev_op (at_ (E _ _ ha) (ev_var rfl) (ev_var rfl)) (at_ (E _ _ hb) (ev_var rfl) (ev_var rfl)) (rv_ne rfl))) (by simp)) (fun h => by cases h) fun _ H3 e3 => ?_
      exact ⟨(h1.trans h2).trans e3, _, rfl⟩
    · rintro σ' H' ⟨h1, o, rfl⟩
      exact Evl.s_ret ev_c fun H3 e3 => q H3 ((e1.trans e2).trans (h1.trans e3))
end
end K7

/-! KAE: _law_refused. -/
namespace K7
open PySem PySem.Spec PyProof.Rows L2 Evl RZ
/-- a scalar as the law tells it -/
inductive Sc3 : V → Prop
  | non : Sc3 .non
  | int (i : Int) : Sc3 (.int i)
  | str (x : Str) : Sc3 (.str x)
section
variable {P : Program} {w : World} {K : PySem.W.Frag} {mg : Str → Option Value} {base : Heap}
theorem sc__law_refused : FnScope ["_law_answer", "_law_due_here", "_law_k"] ["_law_answer", "_law_due_here"] (defScope s__law_refused) := ⟨rfl, rfl, rfl, by decide +kernel, rfl, by decide +kernel, by decide +kernel⟩
def spRef : Sp := fun vs H Q _ => ∃ (a b : Addr) (xs : List V), vs = [.ref a, .ref b] ∧ H a = some (.tup xs) ∧ H b = some (.tup xs) ∧ xs.length ≤ 100 ∧ (∀ x ∈ xs, Sc3 x) ∧ RetV (.bl true) H Q
theorem ok__law_refused (T : TXG fileC fa fx fn P K mg) : FnB P w K mg base 3 (He.ga K "_law_refused") ["_law_answer", "_law_due_here"] spRef := by
  refine fnb T.d__law_refused rfl sc__law_refused (fun vs H Q E h => ?_) (fun _ _ _ _ _ _ us hl => match us, hl with | [_, _], _ => rfl) (fun cdv A outer s H vs Q E hr h => ?_)
  · obtain ⟨_, _, _, rfl, _⟩ := h
    rfl
  · refine ⟨_, (pss_cons (ps_if (pt_cmpR op_ne (pe_callB call_len_seq (by rfl) T.n_len PySem.boot_len (pa_cons (pv 0) pa_nil)) (pe_callB call_len_seq (by rfl) T.n_len PySem.boot_len (pa_cons (pv 1) pa_nil)) (nomark _)) (pss_one (ps_ret pe_bl)) pss_nil)
      (pss_cons (ps_for (passes_of rfl) rfl (pi_range1 (by rfl) T.n_range (pa_cons (pe_callB call_len_seq (by rfl) T.n_len PySem.boot_len (pa_cons (pv 1) pa_nil)) pa_nil)) (pg_name (i := 2) sc__law_refused.nd rfl (Or.inl rfl))
      (pss_one (ps_if (pt_cmpR op_isN (pe_ix ix_tup (pv 1) (pv 2) (fun _ _ => rfl)) pe_non (nomark _)) (pss_one (ps_if (pt_cmpR op_notN (pe_ix ix_tup (pv 0) (pv 2) (fun _ _ => rfl)) pe_non (nomark _)) (pss_one (ps_ret pe_bl)) pss_nil)) (pss_one (ps_if (pt_val (pe_callB call_isi (by rfl) T.n_isinstance (by decide +kernel) (pa_cons (pe_ix ix_tup (pv 1) (pv 2) (fun _ _ => rfl)) (pa_cons (pe_bltn (v := .ty "str") (by rfl) T.n_str PyProof.Rows.boot_str rfl) pa_nil)))) (pss_one (ps_if (PW.pt (pw_or (pt_not (pt_val (pe_callB call_isi (by rfl) T.n_isinstance (by decide +kernel) (pa_cons (pe_ix ix_tup (pv 0) (pv 2) (fun _ _ => rfl)) (pa_cons (pe_bltn (v := .ty "str") (by rfl) T.n_str PyProof.Rows.boot_str rfl) pa_nil))))) (pw_or1 (pt_cmpR op_ne (pe_ix ix_tup (pv 0) (pv 2) (fun _ _ => rfl)) (pe_ix ix_tup (pv 1) (pv 2) (fun _ _ => rfl)) (nomark _))))) (pss_one (ps_ret pe_bl)) pss_nil)) (pss_one (ps_if (PW.pt (pw_or (pt_not (pt_val (pe_callR (ok__law_is_int T).r (hr.mono (by decide)) T.k__law_is_int (by rfl) T.g__law_is_int passL (pa_cons (pe_ix ix_tup (pv 0) (pv 2) (fun _ _ => rfl)) pa_nil)))) (pw_or1 (pt_cmpR op_ne (pe_ix ix_tup (pv 0) (pv 2) (fun _ _ => rfl)) (pe_ix ix_tup (pv 1) (pv 2) (fun _ _ => rfl)) (nomark _))))) (pss_one (ps_ret pe_bl)) pss_nil)))))))
      (pss_one (ps_ret pe_bl)))), ?_⟩
    obtain ⟨a, b, xs, rfl, ha, hb, hl, hx, q⟩ := h
    have len : ∀ {σ : L2.St} {H1 : Hp} {te : TE} {c : Addr}, H1 c = some (.tup xs) → Ev te σ H1 (.ref c) → Ev (tCB (fun xs H Q => ∃ p ys, xs = [V.ref p] ∧ (SqL K H p ys ∨ SqT K H p ys) ∧ Q (V.int ys.length) H) (tCons te tNil)) σ H1 (.int xs.length) := fun {σ H1 te c} hc h => ev_cb (ea_cons h ea_nil) fun H2 e2 Q k => ⟨c, _, rfl, .inr (st_of (e2 _ _ hc)), k H2 (Ex.refl _)⟩
    refine Evl.q_when (b := false) (et_is (et_B (ev_op (len ha (ev_var rfl)) (len hb (ev_var rfl)) (rv_ne rfl))) (by simp)) (fun h => by cases h) fun _ H1 e1 => ?_
    refine eq_for (n := xs.length) (ei_rng (ea_cons (len (e1 _ _ hb) (ev_var rfl)) ea_nil) (by omega)) (by omega) fun H2 e2 => ?_
    refine ⟨fun i σ' H' => Ex H2 H' ∧ ∃ o : Option V, σ' = [some (.ref a), some (.ref b), o], ⟨Ex.refl _, none, rfl⟩, fun _ _ _ h => h.1, ?_, ?_⟩
    · rintro i x σ' H' H'' hi ⟨h1, o, rfl⟩ h2 rfl
      have E := (e1.trans e2).trans (h1.trans h2)
      have at_ : ∀ {σ : L2.St} {H3 : Hp} {te ti : TE} {c : Addr}, H3 c = some (.tup xs) → Ev te σ H3 (.ref c) → Ev ti σ H3 (.int (i : Int)) → Ev (tOp (rIxT K) te ti) σ H3 xs[i] := fun hc h h' => ev_op h h' (rv_ixT (st_of hc) (by
        unfold atI
        rw [ixN_nat hi]
        exact List.getElem?_eq_getElem hi))
      have hxi := hx _ (List.getElem_mem hi)
      generalize xs[i] = y at *
      have E0 := (h1.trans h2)
      cases hxi with
      | non =>
        refine Evl.s_if (b := true) (et_is (et_B (ev_op (at_ (E _ _ hb) (ev_var rfl) (ev_var rfl)) ev_c (rv_val fun H1 e1 Q k => ⟨rfl, k⟩))) rfl) (fun _ H3 e3 => ?_) fun h => by cases h
        refine Evl.s_when (b := false) (et_is (et_B (ev_op (at_ ((E.trans e3) _ _ ha) (ev_var rfl) (ev_var rfl)) ev_c (rv_val fun H1 e1 Q k => ⟨rfl, k⟩))) rfl) (fun h => by cases h) fun _ H4 e4 => ?_
        exact ⟨(E0.trans e3).trans e4, _, rfl⟩
      | str z =>
        refine Evl.s_if (b := false) (et_is (et_B (ev_op (at_ (E _ _ hb) (ev_var rfl) (ev_var rfl)) ev_c (rv_val fun H1 e1 Q k => ⟨rfl, k⟩))) rfl) (fun h => by cases h) fun _ H3 e3 => ?_
        have E3 := E.trans e3
        refine Evl.s_if (b := true) (et_B (ev_isi (t := .type "str") (at_ (E3 _ _ hb) (ev_var rfl) (ev_var rfl)) (.ty _) (fun H1 e => .base (.str z)) T.kit_str_str)) (fun _ H4 e4 => ?_) fun h => by cases h
        have E4 := E3.trans e4
        refine Evl.s_when (b := false) (et_is (et_or (et_not (et_B (ev_isi (t := .type "str") (at_ (E4 _ _ ha) (ev_var rfl) (ev_var rfl)) (.ty _) (fun H1 e => .base (.str z)) T.kit_str_str))) fun _ => et_B (ev_op (at_ (E4 _ _ ha) (ev_var rfl) (ev_var rfl)) (at_ (E4 _ _ hb) (ev_var rfl) (ev_var rfl)) (rv_ne rfl))) (by simp)) (fun h => by cases h) fun _ H5 e5 => ?_
        exact ⟨((E0.trans e3).trans e4).trans e5, _, rfl⟩
      | int z =>
        refine Evl.s_if (b := false) (et_is (et_B (ev_op (at_ (E _ _ hb) (ev_var rfl) (ev_var rfl)) ev_c (rv_val fun H1 e1 Q k => ⟨rfl, k⟩))) rfl) (fun h => by cases h) fun _ H3 e3 => ?_
        have E3 := E.trans e3
        refine Evl.s_if (b := false) (et_B (ev_isi (t := .type "int") (at_ (E3 _ _ hb) (ev_var rfl) (ev_var rfl)) (.ty _) (fun H1 e => .base (.int z)) T.kit_int_str)) (fun h => by cases h) fun _ H4 e4 => ?_
        have E4 := E3.trans e4
        refine Evl.s_when (b := false) (et_is (et_or (et_not (et_B (ev_callE (ea_cons (at_ (E4 _ _ ha) (ev_var rfl) (ev_var rfl)) ea_nil) fun H3 e3 Q k => ⟨_, rfl, k⟩))) fun _ => et_B (ev_op (at_ (E4 _ _ ha) (ev_var rfl) (ev_var rfl)) (at_ (E4 _ _ hb) (ev_var rfl) (ev_var rfl)) (rv_ne rfl))) (by simp)) (fun h => by cases h) fun _ H5 e5 => ?_
        exact ⟨((E0.trans e3).trans e4).trans e5, _, rfl⟩
    · rintro σ' H' ⟨h1, o, rfl⟩
      exact Evl.s_ret ev_c fun H3 e3 => q H3 ((e1.trans e2).trans (h1.trans e3))
end
end K7

/-! KAF: _law_due. -/
namespace K7
open PySem PySem.Spec PyProof.Rows L2 Evl RZ
def stD (st : SD) : PyData := .list [rowsD st.rows, .int st.s, capD st.cap]
def dueRe (rows : List Row) : List (Str × Int) → Option (List V)
  | [] => none
  | (x, p) :: r => if known rows x = false then some [.str "unknown", .str x] else if p < 0 then some [.str "number", .str "price", .non] else dueRe rows r
def limBad : Option Int → Bool
  | some i => decide (i < 0)
  | none => false
def dueB (rows : List Row) (n : Nat) (m : Mv) : List V :=
  if m.deed = 0 ∧ nmOk m.name = false then [.str "name", .str m.name] else
  if m.deed = 0 ∧ known rows m.name = true then [.str "known", .str m.name] else
  if m.deed ∈ [1, 2, 3, 4, 9, 10] ∧ known rows m.name = false then [.str "unknown", .str m.name] else
  if m.deed ∈ [0, 2, 4] ∧ m.price < 0 then [.str "number", .str "price", .non] else
  if m.deed ∈ [0, 3] ∧ m.weight < 1 then [.str "number", .str "weight", .non] else
  if m.deed = 0 ∧ 23 < rows.length then [.str "many", .int 25, .int 24] else
  if m.deed = 6 ∧ m.weight < 1 then [.str "number", .str "aside", .non] else
  if m.deed = 7 ∧ limBad m.limit = true then [.str "number", .str "limit", .non] else
  if m.deed = 8 ∧ n = 1 then [.str "nothing"] else [.str "done"]
def dueV (rows : List Row) (n : Nat) (m : Mv) : List V := if m.deed = 5 then (dueRe rows (pairsOf m)).getD (dueB rows n m) else dueB rows n m
theorem place_neg {rows : List Row} {x : Str} (h : known rows x = false) : placeI rows x = -1 :=
  place_none fun r hr e => of_decide_eq_false h (List.mem_map.mpr ⟨r, hr, e⟩)
theorem place_pos {x : Str} : ∀ {rows : List Row}, known rows x = true → ∃ j, ∃ h : j < rows.length, placeI rows x = (j : Int) ∧ rows[j].1 = x ∧ rowOf rows x = rows[j]
  | [], h => by simp [known] at h
  | r :: rows, h => by
    by_cases hx : r.1 = x
    · exact ⟨0, by simp, by unfold placeI; rw [if_pos hx]; rfl, hx, rowOf_pos hx⟩
    · obtain ⟨j, hj, h1, h2, h3⟩ := place_pos (rows := rows) (by rw [← known_neg hx]; exact h)
      refine ⟨j + 1, by simp; omega, ?_, h2, by rw [rowOf_neg hx, h3]; rfl⟩
      unfold placeI
      rw [if_neg hx, h1, if_neg (by omega)]
      omega
theorem place_lt {rows : List Row} {x : Str} : decide (placeI rows x < 0) = !known rows x := by
  cases h : known rows x with
  | false => rw [place_neg h]; rfl
  | true =>
    obtain ⟨j, _, h1, _⟩ := place_pos h
    rw [h1]
    exact decide_eq_false (by omega)
theorem place_ge {rows : List Row} {x : Str} : decide (0 ≤ placeI rows x) = known rows x := by
  cases h : known rows x with
  | false => rw [place_neg h]; rfl
  | true =>
    obtain ⟨j, _, h1, _⟩ := place_pos h
    rw [h1]
    exact decide_eq_true (by omega)
theorem vi_eq {a b : Int} : decide (V.int a = V.int b) = decide (a = b) := decide_eq_decide.mpr ⟨fun h => by injection h, fun h => by rw [h]⟩
theorem vs_eq {a b : Str} : decide (V.str a = V.str b) = decide (a = b) := decide_eq_decide.mpr ⟨fun h => by injection h, fun h => by rw [h]⟩
theorem inV_ints {d : Int} {is : List Int} : inV (.int d) (is.map V.int) = decide (d ∈ is) := by
  rw [Bool.eq_iff_iff, decide_eq_true_eq]
  unfold inV
  rw [List.any_map, List.any_eq_true]
  constructor
  · rintro ⟨i, hi, he⟩
    have : (i == d) = true := he
    rw [beq_iff_eq] at this
    exact this ▸ hi
  · intro h
    exact ⟨d, h, by show (d == d) = true; simp⟩
theorem atI_last {α : Type} {xs : List α} {x : α} : atI (xs ++ [x]) (-1) = some x := by
  unfold atI
  have h : ixN (xs ++ [x]).length (-1) = some xs.length := by
    unfold ixN
    simp only [List.length_append, List.length_cons, List.length_nil]
    split
    · rename_i h; omega
    · split
      · congr 1; omega
      · rename_i h1 h2; omega
  rw [h]
  show (xs ++ [x])[xs.length]? = some x
  simp
def mvV (m : Mv) : List V := [.int m.deed, .str m.name, .int m.price, .int m.weight, capV m.limit, .int m.k5, .int m.other]
theorem cap_inv {H : Hp} {c : Option Int} {u : V} (h : Dq H u (capD c)) : u = capV c := by
  cases c with
  | none => exact h.non_inv
  | some i => exact h.int_inv
theorem mv_inv {H : Hp} {v : V} {m : Mv} (h : Dq H v (mvD m)) : ∃ a, v = .ref a ∧ H a = some (.tup (mvV m)) := by
  obtain ⟨a, xs, rfl, ha, hx⟩ := h.tup_inv
  match xs, hx with
  | [x1, x2, x3, x4, x5, x6, x7], .cons h1 (.cons h2 (.cons h3 (.cons h4 (.cons h5 (.cons h6 (.cons h7 .nil)))))) =>
    rw [h1.int_inv, h2.str_inv, h3.int_inv, h4.int_inv, cap_inv h5, h6.int_inv, h7.int_inv] at ha
    exact ⟨a, rfl, ha⟩
theorem ev_mv {K : PySem.W.Frag} {σ : L2.St} {H : Hp} {te : TE} {a : Addr} {m : Mv} {i : Nat} {u : V} (h : Ev te σ H (.ref a)) (ha : H a = some (.tup (mvV m))) (hi : (mvV m)[i]? = some u) : Ev (tOp (rIxT K) te (tC (.int (i : Int)))) σ H u := ev_op h ev_c (rv_ixT (st_of ha) (by
  have hl : i < (mvV m).length := (List.getElem?_eq_some_iff.mp hi).1
  unfold atI
  rw [ixN_nat hl]
  exact hi))
/-- the answer: a new tuple -/
def DueR (vs : List V) (H : Hp) (Q : VK) : Prop := ∀ p H', H p = none → Ex H H' → H' p = some (.tup vs) → Q (.ref p) H'
theorem DueR.mono {vs : List V} {H H' : Hp} {Q : VK} (h : DueR vs H Q) (e : Ex H H') : DueR vs H' Q := fun p H2 hn e2 hp => h p H2 (fresh_back e hn) (e.trans e2) hp
theorem s_due {vs : List V} {σ : L2.St} {H : Hp} {ta : TA} {D : Ends} (ha : EvA ta σ H vs) (hl : vs.length ≤ 100) (q : DueR vs H D.rt) : tRet (tTup ta) D σ H :=
  Evl.s_retU (eu_tup ha (by omega)) fun p H2 hn e2 hp => q p H2 hn e2 hp
theorem q_due {c : Prop} [Decidable c] {b : Bool} {vs rest : List V} {σ : L2.St} {H : Hp} {t : TT} {ta : TA} {tz : TS} {D : Ends} (h : EvT t σ H b) (hb : b = decide c) (ha : ∀ H1, Ex H H1 → EvA ta σ H1 vs) (hl : vs.length ≤ 100) (q : DueR (if c then vs else rest) H D.rt) (k : ¬ c → ∀ H1, Ex H H1 → DueR rest H1 D.rt → tz D σ H1) : tSeq (tIfS t (tRet (tTup ta)) tNext) tz D σ H := by
  subst hb
  refine Evl.q_when h (fun hb H1 e1 => ?_) fun hb H1 e1 => ?_
  · rw [if_pos (of_decide_eq_true hb)] at q
    exact s_due (ha H1 e1) hl (q.mono e1)
  · have hb := of_decide_eq_false hb
    rw [if_neg hb] at q
    exact k hb H1 e1 (q.mono e1)
section
variable {P : Program} {w : World} {K : PySem.W.Frag} {mg : Str → Option Value} {base : Heap}
section
variable {σ : L2.St} {H : Hp} {te ty ti : TE} {E : XK}
/-- _law_place(rows, x) -/
theorem ev_place {v : V} {rows : List Row} {x : Str} (h : Ev te σ H v) (hd : Dq H v (rowsD rows)) (hl : rows.length ≤ 24) (hy : Ev ty σ H (.str x)) : Ev (fun σ H Q => tCons te (tCons ty tNil) σ H fun vs H1 => spPlace vs H1 Q E) σ H (.int (placeI rows x)) :=
  ev_callE (ea_cons h (ea_cons hy ea_nil)) fun H1 e1 Q k => ⟨v, rows, x, rfl, hd.ex e1, hl, k⟩
theorem ev_isName {x : Str} (hy : Ev ty σ H (.str x)) (hx : x.length ≤ 1000) : Ev (fun σ H Q => tCons ty tNil σ H fun vs H1 => spName vs H1 Q E) σ H (.bl (nmOk x)) :=
  ev_callE (ea_cons hy ea_nil) fun H1 e1 Q k => ⟨x, rfl, hx, k⟩
theorem ev_pairAt {a : Addr} {q : Str × Int} {i : Nat} {u : V} (h : Ev te σ H (.ref a)) (ha : H a = some (.tup [.str q.1, .int q.2])) (hi : [V.str q.1, .int q.2][i]? = some u) : Ev (tOp (rIxT K) te (tC (.int (i : Int)))) σ H u := ev_op h ev_c (rv_ixT (st_of ha) (by
  have hl := (List.getElem?_eq_some_iff.mp hi).1
  unfold atI
  rw [ixN_nat hl]
  exact hi))
theorem pair_inv {v : V} {q : Str × Int} (h : Dq H v (pairD q)) : ∃ a, v = .ref a ∧ H a = some (.tup [.str q.1, .int q.2]) := by
  obtain ⟨a, xs, rfl, ha, hx⟩ := h.tup_inv
  match xs, hx with
  | [x1, x2], .cons h1 (.cons h2 .nil) =>
    rw [h1.str_inv, h2.int_inv] at ha
    exact ⟨a, rfl, ha⟩
end
theorem ev_lenR {σ : L2.St} {H : Hp} {te : TE} {v : V} {rows : List Row} (h : Ev te σ H v) (hd : Dq H v (rowsD rows)) : Ev (tCB (fun xs H Q => ∃ p ys, xs = [V.ref p] ∧ (SqL K H p ys ∨ SqT K H p ys) ∧ Q (V.int ys.length) H) (tCons te tNil)) σ H (.int rows.length) := by
  obtain ⟨a, xs, rfl, hx, hl⟩ := hd.lst_inv
  have : xs.length = rows.length := by rw [hl.len, List.length_map]
  exact ev_cb (ea_cons h ea_nil) fun H2 e2 Q k => ⟨a, _, rfl, .inl (sq_of (e2 _ _ hx)), by rw [this]; exact k H2 (Ex.refl _)⟩
theorem v_lenS {σ : L2.St} {H : Hp} {te : TE} {v : V} {L0 : List SD} {st : SD} (h : Ev te σ H v) (hd : Dq H v (.list ((L0 ++ [st]).map stD))) : Ev (tCB (fun xs H Q => ∃ p ys, xs = [V.ref p] ∧ (SqL K H p ys ∨ SqT K H p ys) ∧ Q (V.int ys.length) H) (tCons te tNil)) σ H (.int ((L0.length + 1 : Nat) : Int)) := by
  obtain ⟨a, xs, rfl, hx, hl⟩ := hd.lst_inv
  have : xs.length = L0.length + 1 := by rw [hl.len, List.length_map, List.length_append]; rfl
  exact ev_cb (ea_cons h ea_nil) fun H2 e2 Q k => ⟨a, _, rfl, .inl (sq_of (e2 _ _ hx)), by rw [this]; exact k H2 (Ex.refl _)⟩
theorem q_whenK {t : TT} {tu tz : TS} {D : Ends} {b : Bool} {σ : L2.St} {H : Hp} {Mid : L2.St → Hp → Prop} (h : EvT t σ H b) (k : ∀ σ' H', Mid σ' H' → tz D σ' H') (h1 : b = true → (∀ σ' H', Mid σ' H' → tz D σ' H') → ∀ H1, Ex H H1 → tu { D with nx := tz D } σ H1) (h2 : b = false → ∀ H1, Ex H H1 → Mid σ H1) : tSeq (tIfS t tu tNext) tz D σ H :=
  Evl.q_when h (fun hb => h1 hb k) fun hb H1 e1 => k _ _ (h2 hb H1 e1)
theorem sc__law_due : FnScope ["_law_states", "_law_move_here", "_law_rows", "_law_place_here", "_law_pair"] ["_law_states", "_law_move_here"] (defScope s__law_due) := ⟨rfl, rfl, rfl, by decide +kernel, rfl, by decide +kernel, by decide +kernel⟩
def spDue : Sp := fun vs H Q _ => ∃ (v mv : V) (L0 : List SD) (st : SD) (m : Mv), vs = [v, mv] ∧ Dq H v (.list ((L0 ++ [st]).map stD)) ∧ Dq H mv (mvD m) ∧ MvOk m ∧ st.rows.length ≤ 24 ∧ DueR (dueV st.rows (L0.length + 1) m) H Q
theorem ok__law_due (T : TXG fileC fa fx fn P K mg) : FnB P w K mg base 5 (He.ga K "_law_due") ["_law_states", "_law_move_here"] spDue := by
  refine fnb T.d__law_due rfl sc__law_due (fun vs H Q E h => ?_) (fun _ _ _ _ _ _ us hl => match us, hl with | [_, _], _ => rfl) (fun cdv A outer s H vs Q E hr h => ?_)
  · obtain ⟨_, _, _, _, _, rfl, _⟩ := h
    rfl
  · refine ⟨_, (pss_cons (ps_set (i := 2) sc__law_due.nd rfl (Or.inl rfl) (pe_ix ix_list (pe_ix ix_list (pv 0) (pe_un un_neg pe_int) (fun _ _ => rfl)) pe_int (fun _ _ => rfl)))
      (pss_cons (ps_set (i := 3) sc__law_due.nd rfl (Or.inl rfl) (pe_callR (ok__law_place T).r (hr.mono (by decide)) T.k__law_place (by rfl) T.g__law_place passL (pa_cons (pv 2) (pa_cons (pe_ix ix_tup (pv 1) pe_int (fun _ _ => rfl)) pa_nil))))
      (pss_cons (ps_if (pt_cmpR op_eq (pe_ix ix_tup (pv 1) pe_int (fun _ _ => rfl)) pe_int (nomark _)) (pss_one (ps_for (passes_of rfl) rfl (pi_list (pe_callR (ok__law_pairs T).r (hr.mono (by decide)) T.k__law_pairs (by rfl) T.g__law_pairs passL (pa_cons (pv 1) pa_nil))) (pg_name (i := 4) sc__law_due.nd rfl (Or.inl rfl))
      (pss_cons (ps_if (pt_cmpR op_lt (pe_callR (ok__law_place T).r (hr.mono (by decide)) T.k__law_place (by rfl) T.g__law_place passL (pa_cons (pv 2) (pa_cons (pe_ix ix_tup (pv 4) pe_int (fun _ _ => rfl)) pa_nil))) pe_int (nomark _)) (pss_one (ps_ret (pe_tup (pa_cons pe_str (pa_cons (pe_ix ix_tup (pv 4) pe_int (fun _ _ => rfl)) pa_nil))))) pss_nil)
      (pss_one (ps_if (pt_cmpR op_lt (pe_ix ix_tup (pv 4) pe_int (fun _ _ => rfl)) pe_int (nomark _)) (pss_one (ps_ret (pe_tup (pa_cons pe_str (pa_cons pe_str (pa_cons pe_non pa_nil)))))) pss_nil))))) pss_nil)
      (pss_cons (ps_if (PW.pt (pw_and (pt_cmpR op_eq (pe_ix ix_tup (pv 1) pe_int (fun _ _ => rfl)) pe_int (nomark _)) (pw_and1 (pt_not (pt_val (pe_callR (ok__law_is_name T).r (hr.mono (by decide)) T.k__law_is_name (by rfl) T.g__law_is_name passL (pa_cons (pe_ix ix_tup (pv 1) pe_int (fun _ _ => rfl)) pa_nil))))))) (pss_one (ps_ret (pe_tup (pa_cons pe_str (pa_cons (pe_ix ix_tup (pv 1) pe_int (fun _ _ => rfl)) pa_nil))))) pss_nil)
      (pss_cons (ps_if (PW.pt (pw_and (pt_cmpR op_eq (pe_ix ix_tup (pv 1) pe_int (fun _ _ => rfl)) pe_int (nomark _)) (pw_and1 (pt_cmpR op_ge (pv 3) pe_int (nomark _))))) (pss_one (ps_ret (pe_tup (pa_cons pe_str (pa_cons (pe_ix ix_tup (pv 1) pe_int (fun _ _ => rfl)) pa_nil))))) pss_nil)
      (pss_cons (ps_if (PW.pt (pw_and (pt_cmpR op_in_seq (pe_ix ix_tup (pv 1) pe_int (fun _ _ => rfl)) (pe_lst (pa_cons pe_int (pa_cons pe_int (pa_cons pe_int (pa_cons pe_int (pa_cons pe_int (pa_cons pe_int pa_nil))))))) (by rfl)) (pw_and1 (pt_cmpR op_lt (pv 3) pe_int (nomark _))))) (pss_one (ps_ret (pe_tup (pa_cons pe_str (pa_cons (pe_ix ix_tup (pv 1) pe_int (fun _ _ => rfl)) pa_nil))))) pss_nil)
      (pss_cons (ps_if (PW.pt (pw_and (pt_cmpR op_in_seq (pe_ix ix_tup (pv 1) pe_int (fun _ _ => rfl)) (pe_lst (pa_cons pe_int (pa_cons pe_int (pa_cons pe_int pa_nil)))) (by rfl)) (pw_and1 (pt_cmpR op_lt (pe_ix ix_tup (pv 1) pe_int (fun _ _ => rfl)) pe_int (nomark _))))) (pss_one (ps_ret (pe_tup (pa_cons pe_str (pa_cons pe_str (pa_cons pe_non pa_nil)))))) pss_nil)
      (pss_cons (ps_if (PW.pt (pw_and (pt_cmpR op_in_seq (pe_ix ix_tup (pv 1) pe_int (fun _ _ => rfl)) (pe_lst (pa_cons pe_int (pa_cons pe_int pa_nil))) (by rfl)) (pw_and1 (pt_cmpR op_lt (pe_ix ix_tup (pv 1) pe_int (fun _ _ => rfl)) pe_int (nomark _))))) (pss_one (ps_ret (pe_tup (pa_cons pe_str (pa_cons pe_str (pa_cons pe_non pa_nil)))))) pss_nil)
      (pss_cons (ps_if (PW.pt (pw_and (pt_cmpR op_eq (pe_ix ix_tup (pv 1) pe_int (fun _ _ => rfl)) pe_int (nomark _)) (pw_and1 (pt_cmpR op_gt (pe_callB call_len_seq (by rfl) T.n_len PySem.boot_len (pa_cons (pv 2) pa_nil)) pe_int (nomark _))))) (pss_one (ps_ret (pe_tup (pa_cons pe_str (pa_cons pe_int (pa_cons pe_int pa_nil)))))) pss_nil)
      (pss_cons (ps_if (PW.pt (pw_and (pt_cmpR op_eq (pe_ix ix_tup (pv 1) pe_int (fun _ _ => rfl)) pe_int (nomark _)) (pw_and1 (pt_cmpR op_lt (pe_ix ix_tup (pv 1) pe_int (fun _ _ => rfl)) pe_int (nomark _))))) (pss_one (ps_ret (pe_tup (pa_cons pe_str (pa_cons pe_str (pa_cons pe_non pa_nil)))))) pss_nil)
      (pss_cons (ps_if (PW.pt (pw_and (pt_cmpR op_eq (pe_ix ix_tup (pv 1) pe_int (fun _ _ => rfl)) pe_int (nomark _)) (pw_and (pt_cmpR op_notN (pe_ix ix_tup (pv 1) pe_int (fun _ _ => rfl)) pe_non (nomark _)) (pw_and1 (pt_cmpR op_lt (pe_ix ix_tup (pv 1) pe_int (fun _ _ => rfl)) pe_int (nomark _)))))) (pss_one (ps_ret (pe_tup (pa_cons pe_str (pa_cons pe_str (pa_cons pe_non pa_nil)))))) pss_nil)
      (pss_cons (ps_if (PW.pt (pw_and (pt_cmpR op_eq (pe_ix ix_tup (pv 1) pe_int (fun _ _ => rfl)) pe_int (nomark _)) (pw_and1 (pt_cmpR op_eq (pe_callB call_len_seq (by rfl) T.n_len PySem.boot_len (pa_cons (pv 0) pa_nil)) pe_int (nomark _))))) (pss_one (ps_ret (pe_tup (pa_cons pe_str pa_nil)))) pss_nil)
      (pss_one (ps_ret (pe_tup (pa_cons pe_str pa_nil)))))))))))))))), ?_⟩
    obtain ⟨v, mv, L0, st, m, rfl, hv, hm, hmo, hl, q⟩ := h
    obtain ⟨ma, rfl, hma⟩ := mv_inv hm
    have hv0 := hv
    rw [List.map_append] at hv
    refine qd_asg (d := rowsD st.rows) (ed_ixL (ds := [rowsD st.rows, .int st.s, capD st.cap]) (ed_ixL (ed_var rfl hv) (ed_neg ed_i) atI_last) ed_i rfl) fun rv H1 e1 hrv => ?_
    have hma1 := e1 _ _ hma
    refine Evl.q_asg (ev_place (ev_var rfl) hrv hl (ev_mv (i := 1) (ev_var (v := .ref ma) rfl) hma1 rfl)) fun H2 e2 => ?_
    have E2 := e1.trans e2
    have q2 := q.mono E2
    have hm2 := e2 _ _ hma1
    have hr2 := hrv.ex e2
    refine q_whenK (Mid := fun σ' H' => Ex H2 H' ∧ (∃ o : Option V, σ' = [some v, some (.ref ma), some rv, some (.int (placeI st.rows m.name)), o]) ∧ DueR (dueB st.rows (L0.length + 1) m) H' Q) (b := decide (V.int m.deed = V.int 5)) (et_B (ev_op (ev_mv (i := 0) (ev_var (v := .ref ma) rfl) hm2 rfl) ev_c (rv_eq rfl))) (fun σ' H' hM => ?_) (fun hb hk H3 e3 => ?_) fun hb H3 e3 => ?_
    · obtain ⟨e, ⟨o, rfl⟩, q⟩ := hM
      have mv : ∀ {H3 : Hp} {i : Nat} {u : V}, Ex H' H3 → (mvV m)[i]? = some u → Ev (tOp (rIxT K) (tVar 1) (tC (.int (i : Int)))) [some v, some (.ref ma), some rv, some (.int (placeI st.rows m.name)), o] H3 u := fun e3 hi => ev_mv (ev_var rfl) ((e.trans e3) _ _ hm2) hi
      have hr' := hr2.ex e
      clear q2 hm2 hr2 hrv hv
      have hnm := hmo.nm
      refine q_due (c := m.deed = 0 ∧ nmOk m.name = false) (et_and (et_B (ev_op (mv (i := 0) (Ex.refl _) rfl) ev_c (rv_eq rfl))) fun _ => et_not (et_B (ev_isName (mv (i := 1) (Ex.refl _) rfl) (by omega)))) (by simp [vi_eq]) (fun H3 e3 => ea_cons ev_c (ea_cons (mv (i := 1) e3 rfl) ea_nil)) (by simp) q fun _ H3 e3 q => ?_
      refine q_due (c := m.deed = 0 ∧ known st.rows m.name = true) (et_and (et_B (ev_op (mv (i := 0) e3 rfl) ev_c (rv_eq rfl))) fun _ => et_B (ev_op (ev_var rfl) ev_c rv_I0)) (by rw [vi_eq, place_ge]; simp) (fun H4 e4 => ea_cons ev_c (ea_cons (mv (i := 1) (e3.trans e4) rfl) ea_nil)) (by simp) q fun _ H4 e4 q => ?_
      have e4 := e3.trans e4
      refine q_due (c := m.deed ∈ [1, 2, 3, 4, 9, 10] ∧ known st.rows m.name = false) (et_and (et_B (ev_opL (mv (i := 0) e4 rfl) (el_lst (vs := List.map V.int [1, 2, 3, 4, 9, 10]) (ea_cons ev_c (ea_cons ev_c (ea_cons ev_c (ea_cons ev_c (ea_cons ev_c (ea_cons ev_c ea_nil)))))) (by simp)) fun p H5 hp e5 => rv_isL (sq_of hp) rfl rfl)) fun _ => et_B (ev_op (ev_var rfl) ev_c rv_I0)) (by rw [inV_ints, place_lt]; simp) (fun H5 e5 => ea_cons ev_c (ea_cons (mv (i := 1) (e4.trans e5) rfl) ea_nil)) (by simp) q fun _ H5 e5 q => ?_
      have e5 := e4.trans e5
      refine q_due (c := m.deed ∈ [0, 2, 4] ∧ m.price < 0) (et_and (et_B (ev_opL (mv (i := 0) e5 rfl) (el_lst (vs := List.map V.int [0, 2, 4]) (ea_cons ev_c (ea_cons ev_c (ea_cons ev_c ea_nil))) (by simp)) fun p H5 hp e5 => rv_isL (sq_of hp) rfl rfl)) fun _ => et_B (ev_op (mv (i := 2) e5 rfl) ev_c rv_I0)) (by rw [inV_ints]; simp) (fun H6 e6 => ea_cons ev_c (ea_cons ev_c (ea_cons ev_c ea_nil))) (by simp) q fun _ H6 e6 q => ?_
      have e6 := e5.trans e6
      refine q_due (c := m.deed ∈ [0, 3] ∧ m.weight < 1) (et_and (et_B (ev_opL (mv (i := 0) e6 rfl) (el_lst (vs := List.map V.int [0, 3]) (ea_cons ev_c (ea_cons ev_c ea_nil)) (by simp)) fun p H5 hp e5 => rv_isL (sq_of hp) rfl rfl)) fun _ => et_B (ev_op (mv (i := 3) e6 rfl) ev_c rv_I0)) (by rw [inV_ints]; simp) (fun H7 e7 => ea_cons ev_c (ea_cons ev_c (ea_cons ev_c ea_nil))) (by simp) q fun _ H7 e7 q => ?_
      have e7 := e6.trans e7
      refine q_due (c := m.deed = 0 ∧ 23 < st.rows.length) (et_and (et_B (ev_op (mv (i := 0) e7 rfl) ev_c (rv_eq rfl))) fun _ => et_B (ev_op (ev_lenR (ev_var rfl) (hr'.ex e7)) ev_c rv_I0)) (by rw [vi_eq, Bool.decide_and]; congr 1; exact decide_eq_decide.mpr (by omega)) (fun H8 e8 => ea_cons ev_c (ea_cons ev_c (ea_cons ev_c ea_nil))) (by simp) q fun _ H8 e8 q => ?_
      have e8 := e7.trans e8
      refine q_due (c := m.deed = 6 ∧ m.weight < 1) (et_and (et_B (ev_op (mv (i := 0) e8 rfl) ev_c (rv_eq rfl))) fun _ => et_B (ev_op (mv (i := 3) e8 rfl) ev_c rv_I0)) (by simp [vi_eq]) (fun H9 e9 => ea_cons ev_c (ea_cons ev_c (ea_cons ev_c ea_nil))) (by simp) q fun _ H9 e9 q => ?_
      have e9 := e8.trans e9
      refine q_due (c := m.deed = 7 ∧ limBad m.limit = true) (b := decide (V.int m.deed = V.int 7) && limBad m.limit) (et_and (et_B (ev_op (mv (i := 0) e9 rfl) ev_c (rv_eq rfl))) fun _ => ?_) (by simp [vi_eq]) (fun H10 e10 => ea_cons ev_c (ea_cons ev_c (ea_cons ev_c ea_nil))) (by simp) q fun _ H10 e10 q => ?_
      · cases hlim : m.limit with
        | none => exact et_and (a := false) (b := false) (et_is (et_B (ev_op (mv (i := 4) e9 (by show some (capV m.limit) = _; rw [hlim])) ev_c (rv_val fun H1 e1 Q k => ⟨rfl, k⟩))) rfl) fun h => by cases h
        | some i => exact et_and (a := true) (et_is (et_B (ev_op (mv (i := 4) e9 (by show some (capV m.limit) = _; rw [hlim])) ev_c (rv_val fun H1 e1 Q k => ⟨rfl, k⟩))) rfl) fun _ => et_B (ev_op (mv (i := 4) e9 (by show some (capV m.limit) = _; rw [hlim]; rfl)) ev_c rv_I0)
      have e10 := e9.trans e10
      refine q_due (c := m.deed = 8 ∧ L0.length + 1 = 1) (et_and (et_B (ev_op (mv (i := 0) e10 rfl) ev_c (rv_eq rfl))) fun _ => et_B (ev_op (v_lenS (ev_var rfl) (hv0.ex (E2.trans (e.trans e10)))) ev_c (rv_eq rfl))) (by rw [vi_eq, vi_eq, Bool.decide_and]; congr 1; exact decide_eq_decide.mpr (by omega)) (fun H11 e11 => ea_cons ev_c ea_nil) (by simp) q fun _ H11 e11 q => ?_
      exact s_due (ea_cons ev_c ea_nil) (by simp) q
    · have hb : m.deed = 5 := by have := of_decide_eq_true hb; injection this
      unfold dueV at q2
      rw [if_pos hb] at q2
      refine sd_forL (ds := (pairsOf m).map pairD) (ed_call (eds_cons (ed_var rfl (hm.ex (E2.trans e3))) eds_nil) fun vs H4 e4 hvs Q k => ?_) fun H4 e4 => ?_
      · cases hvs with
        | cons hu ht =>
          cases ht
          exact ⟨_, m, rfl, hu, hmo, k⟩
      have E4 := e3.trans e4
      refine ⟨fun i σ' H' => Ex H4 H' ∧ (∃ o : Option V, σ' = [some v, some (.ref ma), some rv, some (.int (placeI st.rows m.name)), o]) ∧ dueRe st.rows ((pairsOf m).drop i) = dueRe st.rows (pairsOf m), ⟨Ex.refl _, ⟨none, rfl⟩, rfl⟩, fun i σ' H' h => h.1, ?_, ?_⟩
      · rintro i u d σ' H' hd hu ⟨h1, ⟨o, rfl⟩, h2⟩
        rw [List.getElem?_map] at hd
        cases hq : (pairsOf m)[i]? with
        | none => rw [hq] at hd; cases hd
        | some pr =>
          rw [hq] at hd
          cases hd
          have hlt := (List.getElem?_eq_some_iff.mp hq).1
          have hdr : (pairsOf m).drop i = pr :: (pairsOf m).drop (i + 1) := by
            rw [List.drop_eq_getElem_cons hlt]
            congr 1
            exact (List.getElem?_eq_some_iff.mp hq).2
          rw [hdr] at h2
          obtain ⟨x, pc⟩ := pr
          obtain ⟨pa, rfl, hpa⟩ := pair_inv hu
          have h2 : (if known st.rows x = false then some [V.str "unknown", V.str x] else if pc < 0 then some [V.str "number", V.str "price", V.non] else dueRe st.rows ((pairsOf m).drop (i + 1))) = dueRe st.rows (pairsOf m) := h2
          have E5 := E4.trans h1
          have hr5 := hr2.ex E5
          have q5 := q2.mono E5
          rw [← h2] at q5
          refine Evl.q_when (b := !known st.rows x) (et_is (et_B (ev_op (ev_place (ev_var rfl) hr5 hl (ev_pairAt (q := (x, pc)) (i := 0) (ev_var (v := .ref pa) rfl) hpa rfl)) ev_c rv_I0)) place_lt) (fun hk H6 e6 => ?_) fun hk H6 e6 => ?_
          · have hk : known st.rows x = false := by simpa using hk
            rw [if_pos hk] at q5
            exact s_due (ea_cons ev_c (ea_cons (ev_pairAt (q := (x, pc)) (i := 0) (ev_var (v := .ref pa) rfl) (e6 _ _ hpa) rfl) ea_nil)) (by simp) (q5.mono e6)
          · have hk : known st.rows x = true := by simpa using hk
            rw [if_neg (by rw [hk]; simp)] at q5 h2
            refine Evl.s_when (b := decide (pc < 0)) (et_B (ev_op (ev_pairAt (q := (x, pc)) (i := 1) (ev_var (v := .ref pa) rfl) (e6 _ _ hpa) rfl) ev_c rv_I0)) (fun h0 H7 e7 => ?_) fun h0 H7 e7 => ?_
            · rw [if_pos (of_decide_eq_true h0)] at q5
              exact s_due (ea_cons ev_c (ea_cons ev_c (ea_cons ev_c ea_nil))) (by simp) (q5.mono (e6.trans e7))
            · rw [if_neg (of_decide_eq_false h0)] at h2
              exact ⟨h1.trans (e6.trans e7), ⟨_, rfl⟩, h2⟩
      · rintro σ' H' ⟨h1, ho, h2⟩
        rw [List.length_map, List.drop_length] at h2
        rw [← h2] at q2
        exact hk _ _ ⟨E4.trans h1, ho, q2.mono (E4.trans h1)⟩
    · have hb : ¬ m.deed = 5 := fun h => of_decide_eq_false hb (by rw [h])
      unfold dueV at q2
      rw [if_neg hb] at q2
      exact ⟨e3, ⟨none, rfl⟩, q2.mono e3⟩
end
end K7

/-! KAG: data that leaves out what changes (EvZ ..); _law_changed. -/
namespace K7
open PySem PySem.Spec PyProof.Rows L2 Evl RZ
def Live (Ms : List Addr) (H : Hp) : Prop := ∀ m ∈ Ms, H m ≠ none
theorem Live.ex {Ms : List Addr} {H H' : Hp} (h : Live Ms H) (e : Ex H H') : Live Ms H' := fun m hm hn => h m hm (fresh_back e hn)
theorem Live.new {Ms : List Addr} {H : Hp} {p : Addr} (h : Live Ms H) (hp : H p = none) : p ∉ Ms := fun hm => h p hm hp
theorem MsOk.live {K : PySem.W.Frag} {Ms : List Addr} {H : Hp} (h : MsOk K Ms H) : Live Ms H := fun _ hm => h.some_ hm
theorem fz_up {Ms : List Addr} {H H' : Hp} (e : Ex H H') : Ex (fz Ms H) (fz Ms H') := fz_mono fun x o _ h => e x o h
def scD : PyData → Bool
  | .none => true | .int _ => true | .str _ => true | .bool _ => true | _ => false
theorem Dq.any {H H' : Hp} {v : V} {d : PyData} (h : Dq H v d) (hs : scD d = true) : Dq H' v d := by
  cases h with
  | non => exact .non
  | bl b => exact .bl b
  | int i => exact .int i
  | str x => exact .str x
  | lst _ _ => cases hs
  | tup _ _ => cases hs
def EvZ (Ms : List Addr) (te : TE) (σ : L2.St) (H : Hp) (d : PyData) : Prop := ∀ H1, Ex H H1 → ∀ Q : VK, (∀ v H2, Ex H1 H2 → Dq (fz Ms H2) v d → Q v H2) → te σ H1 Q
def EvZF (Ms : List Addr) (te : TE) (σ : L2.St) (H : Hp) (ds : List PyData) : Prop := ∀ H1, Ex H H1 → ∀ Q : VK, (∀ p xs H2, Ex H1 H2 → H1 p = none → H2 p = some (.lst xs) → DqAll (fz Ms H2) xs ds → Q (.ref p) H2) → te σ H1 Q
def EvZs (Ms : List Addr) (ta : TA) (σ : L2.St) (H : Hp) (ds : List PyData) : Prop := ∀ H1, Ex H H1 → ∀ Q : List V → Hp → Prop, (∀ vs H2, Ex H1 H2 → DqAll (fz Ms H2) vs ds → Q vs H2) → ta σ H1 Q
def RetZ (Ms : List Addr) (d : PyData) (H : Hp) (Q : VK) : Prop := ∀ v H2, Ex H H2 → Dq (fz Ms H2) v d → Q v H2
theorem RetZ.mono {Ms : List Addr} {d : PyData} {H H' : Hp} {Q : VK} (k : RetZ Ms d H Q) (e : Ex H H') : RetZ Ms d H' Q := fun v H2 e2 h => k v H2 (e.trans e2) h
section
variable {K : PySem.W.Frag} {Ms : List Addr} {σ : L2.St} {H H' : Hp} {ta tb te : TE} {d : PyData} {ds es : List PyData} {v : V} {i : Int} {D : Ends} {tz : TS}
theorem EvZ.toD (h : EvZ Ms te σ H d) : EvD te σ H d := fun H1 e Q q => h H1 e Q fun v H2 e2 hv => q v H2 e2 (hv.ex fz_ex)
theorem EvZF.toZ (hL : Live Ms H) (h : EvZF Ms te σ H ds) : EvZ Ms te σ H (.list ds) := fun H1 e Q q => h H1 e Q fun p xs H2 e2 hn hp hd => q _ H2 e2 (.lst (by rw [fz_out ((hL.ex e).new hn)]; exact hp) hd)
theorem ez_var {n : Nat} (h : σ[n]? = some (some v)) (hd : Dq (fz Ms H) v d) : EvZ Ms (tVar n) σ H d := fun H1 e _ q => ⟨v, h, q v H1 (Ex.refl H1) (hd.ex (fz_up e))⟩
theorem ez_sc (h : EvD te σ H d) (hs : scD d = true) : EvZ Ms te σ H d := fun H1 e Q q => h H1 e Q fun v H2 e2 hv => q v H2 e2 (hv.any hs)
theorem ez_ixL (ha : EvZ Ms ta σ H (.list ds)) (hb : EvD tb σ H (.int i)) (h : atI ds i = some d) : EvZ Ms (tOp (rIxL K) ta tb) σ H d := fun H1 e Q q =>
  ha H1 e _ fun v1 H2 e2 h1 => hb H2 (e.trans e2) _ fun v2 H3 e3 h2 => by
    obtain ⟨a, xs, rfl, hx, hl⟩ := h1.lst_inv
    have hx := fz_ex _ _ hx
    unfold atI at h
    cases hk : ixN ds.length i with
    | none => rw [hk] at h; cases h
    | some k =>
      rw [hk] at h
      obtain ⟨v, hv, hd⟩ := (hl.ex (fz_up e3)).get (show ds[k]? = some d from h)
      exact ⟨a, xs, i, v, rfl, h2.int_inv, sq_of (e3 _ _ hx), by unfold atI; rw [hl.len, hk]; exact hv, q v H3 (e2.trans e3) hd⟩
theorem ez_ixU (ha : EvZ Ms ta σ H (.tuple ds)) (hb : EvD tb σ H (.int i)) (h : atI ds i = some d) : EvZ Ms (tOp (rIxT K) ta tb) σ H d := fun H1 e Q q =>
  ha H1 e _ fun v1 H2 e2 h1 => hb H2 (e.trans e2) _ fun v2 H3 e3 h2 => by
    obtain ⟨a, xs, rfl, hx, hl⟩ := h1.tup_inv
    have hx := fz_ex _ _ hx
    unfold atI at h
    cases hk : ixN ds.length i with
    | none => rw [hk] at h; cases h
    | some k =>
      rw [hk] at h
      obtain ⟨v, hv, hd⟩ := (hl.ex (fz_up e3)).get (show ds[k]? = some d from h)
      exact ⟨a, xs, i, v, rfl, h2.int_inv, st_of (e3 _ _ hx), by unfold atI; rw [hl.len, hk]; exact hv, q v H3 (e2.trans e3) hd⟩
theorem ezs_nil : EvZs Ms tNil σ H [] := fun H1 _ _ q => q [] H1 (Ex.refl H1) .nil
theorem ezs_cons {tr : TA} (h : EvZ Ms ta σ H d) (hr : EvZs Ms tr σ H ds) : EvZs Ms (tCons ta tr) σ H (d :: ds) := fun H1 e _ q =>
  h H1 e _ fun v H2 e2 h2 => hr H2 (e.trans e2) _ fun vs H3 e3 h3 => q _ H3 (e2.trans e3) (.cons (h2.ex (fz_up e3)) h3)
theorem ez_tup {ta : TA} (hL : Live Ms H) (h : EvZs Ms ta σ H ds) (hl : ds.length ≤ 100000) : EvZ Ms (tTup ta) σ H (.tuple ds) := fun H1 e _ q =>
  h H1 e _ fun vs H2 e2 h2 => ⟨sz_of (by rw [h2.len]; exact hl), fun p hp => q _ _ (e2.trans (Ex.new hp)) (.tup (by rw [fz_out ((hL.ex (e.trans e2)).new hp)]; exact upd_same) (h2.ex (fz_up (Ex.new hp))))⟩
theorem ezf_lst {ta : TA} (h : EvZs Ms ta σ H ds) (hl : ds.length ≤ 100000) : EvZF Ms (tLst ta) σ H ds := fun H1 e _ q =>
  h H1 e _ fun vs H2 e2 h2 => ⟨sz_of (by rw [h2.len]; exact hl), fun p hp => q p _ _ (e2.trans (Ex.new hp)) (fresh_back e2 hp) upd_same (h2.ex (fz_up (Ex.new hp)))⟩
theorem ezf_cat (ha : EvZ Ms ta σ H (.list ds)) (hb : EvZ Ms tb σ H (.list es)) (hl : ds.length + es.length ≤ 100000) : EvZF Ms (tOp rCat ta tb) σ H (ds ++ es) := fun H1 e Q q =>
  ha H1 e _ fun v1 H2 e2 h1 => hb H2 (e.trans e2) _ fun v2 H3 e3 h2 => by
    obtain ⟨a, xs, rfl, hx, hl1⟩ := h1.lst_inv
    obtain ⟨b, ys, rfl, hy, hl2⟩ := h2.lst_inv
    exact ⟨a, b, xs, ys, rfl, rfl, e3 _ _ (fz_ex _ _ hx), fz_ex _ _ hy, sz_of (by rw [hl1.len, hl2.len]; exact hl), fun p hp =>
      q p _ _ ((e2.trans e3).trans (Ex.new hp)) (fresh_back (e2.trans e3) hp) upd_same (((hl1.ex (fz_up e3)).app hl2).ex (fz_up (Ex.new hp)))⟩
theorem ezf_sl {tl th : TO} {lo hi : Option Int} (h : EvZ Ms te σ H (.list ds)) (h1 : EvO' tl σ H lo) (h2 : EvO' th σ H hi) : EvZF Ms (tSl (rSlL K) te tl th) σ H (cutD ds lo hi) := fun H1 e _ q =>
  h H1 e _ fun v H2 e2 hv => h1 H2 (e.trans e2) _ fun H3 e3 => h2 H3 ((e.trans e2).trans e3) _ fun H4 e4 => by
    obtain ⟨a, xs, rfl, hx, hl⟩ := hv.lst_inv
    exact ⟨a, xs, rfl, sq_of ((e3.trans e4) _ _ (fz_ex _ _ hx)), fun p hp => q p _ _ (((e2.trans e3).trans e4).trans (Ex.new hp)) (fresh_back ((e2.trans e3).trans e4) hp) upd_same (cut_ok (hl.ex (fz_up ((e3.trans e4).trans (Ex.new hp)))))⟩
theorem ez_call {ta : TA} {sp : Sp} {E : XK} (h : EvZs Ms ta σ H ds) (hr : ∀ vs H1, Ex H H1 → DqAll (fz Ms H1) vs ds → ∀ Q : VK, RetZ Ms d H1 Q → sp vs H1 Q E) : EvZ Ms (fun σ H Q => ta σ H fun vs H1 => sp vs H1 Q E) σ H d := fun H1 e Q q =>
  h H1 e _ fun vs H2 e2 h2 => hr vs H2 (e.trans e2) h2 Q fun v H3 e3 h3 => q v H3 (e2.trans e3) h3
theorem qz_asg {n : Nat} (h : EvZ Ms te σ H d) (k : ∀ v H1, Ex H H1 → Dq (fz Ms H1) v d → tz D (σ.set n (some v)) H1) : tSeq (tAsg te (gName n)) tz D σ H := h H (Ex.refl H) _ fun v H1 e h1 => k v H1 e h1
theorem sz_asg {n : Nat} (h : EvZ Ms te σ H d) (k : ∀ v H1, Ex H H1 → Dq (fz Ms H1) v d → D.nx (σ.set n (some v)) H1) : tAsg te (gName n) D σ H := h H (Ex.refl H) _ fun v H1 e h1 => k v H1 e h1
theorem sz_ret (h : EvZ Ms te σ H d) (k : RetZ Ms d H D.rt) : tRet te D σ H := h H (Ex.refl H) _ fun v H1 e hv => k v H1 e hv
end
section
variable {P : Program} {w : World} {K : PySem.W.Frag} {mg : Str → Option Value} {base : Heap}
theorem sc__law_changed : FnScope ["_law_rows", "_law_place_here", "_law_price", "_law_weight"] ["_law_rows", "_law_place_here", "_law_price", "_law_weight"] (defScope s__law_changed) := ⟨rfl, rfl, rfl, by decide +kernel, rfl, by decide +kernel, by decide +kernel⟩
def spChanged : Sp := fun vs H Q _ => ∃ (Ms : List Addr) (vr : V) (rows : List Row) (j : Nat) (p wt : Int), vs = [vr, .int (j : Int), .int p, .int wt] ∧ Live Ms H ∧ Dq (fz Ms H) vr (rowsD rows) ∧ ∃ hj : j < rows.length, rows.length ≤ 24 ∧ RetZ Ms (rowsD (rows.take j ++ [(rows[j].1, p, wt)] ++ rows.drop (j + 1))) H Q
theorem at_row {rows : List Row} {j : Nat} (hj : j < rows.length) : atI (rows.map rowD) (j : Int) = some (rowD rows[j]) := by
  unfold atI
  rw [List.length_map, ixN_nat hj]
  show (rows.map rowD)[j]? = _
  rw [List.getElem?_map, List.getElem?_eq_getElem hj]; rfl
theorem ok__law_changed (T : TXG fileC fa fx fn P K mg) : FnB P w K mg base 1 (He.ga K "_law_changed") ["_law_rows", "_law_place_here", "_law_price", "_law_weight"] spChanged := by
  refine fnb T.d__law_changed rfl sc__law_changed (fun vs H Q E h => ?_) (fun _ _ _ _ _ _ us hl => match us, hl with | [_, _, _, _], _ => rfl) (fun cdv A outer s H vs Q E hr h => ?_)
  · obtain ⟨_, _, _, _, _, _, rfl, _⟩ := h
    rfl
  · refine ⟨_, (pss_one (ps_ret (pe_op op_cat (pe_op op_cat (pe_slice sl_list (pv 0) po_none (po_some (pv 1))) (pe_lst (pa_cons (pe_tup (pa_cons (pe_ix ix_tup (pe_ix ix_list (pv 0) (pv 1) (fun _ _ => rfl)) pe_int (fun _ _ => rfl)) (pa_cons (pv 2) (pa_cons (pv 3) pa_nil)))) pa_nil))) (pe_slice sl_list (pv 0) (po_some (pe_op op_add (pv 1) pe_int)) po_none)))), ?_⟩
    obtain ⟨Ms, vr, rows, j, p, wt, rfl, hL, hr, hj, hl, q⟩ := h
    have hx := at_row hj
    have e : PyData.list (cutD (rows.map rowD) none (some (j : Int)) ++ [PyData.tuple [.str rows[j].1, .int p, .int wt]] ++ cutD (rows.map rowD) (some ((j : Int) + 1)) none) = rowsD (rows.take j ++ [(rows[j].1, p, wt)] ++ rows.drop (j + 1)) := by
      rw [cutD_take (by rw [List.length_map]; omega), show ((j : Int) + 1) = ((j + 1 : Nat) : Int) by omega, cutD_drop]
      unfold rowsD
      rw [List.map_append, List.map_append, List.map_take, List.map_drop]
      rfl
    rw [← e] at q
    have c1 : (cutD (rows.map rowD) none (some (j : Int))).length ≤ 24 := by rw [cutD_take (by rw [List.length_map]; omega), List.length_take, List.length_map]; omega
    have c2 : (cutD (rows.map rowD) (some ((j : Int) + 1)) none).length ≤ 24 := by rw [show ((j : Int) + 1) = ((j + 1 : Nat) : Int) by omega, cutD_drop, List.length_drop, List.length_map]; omega
    exact sz_ret (EvZF.toZ hL (ezf_cat (EvZF.toZ hL (ezf_cat (EvZF.toZ hL (ezf_sl (ez_var rfl hr) edo_none (edo_some (ed_var rfl (.int _))))) (EvZF.toZ hL (ezf_lst (ezs_cons (ez_tup hL (ezs_cons (ez_sc (ed_ixU (ed_ixL (ed_var rfl (hr.ex fz_ex)) (ed_var rfl (.int _)) hx) ed_i rfl) rfl) (ezs_cons (ez_sc (ed_var rfl (.int p)) rfl) (ezs_cons (ez_sc (ed_var rfl (.int wt)) rfl) ezs_nil))) (by simp)) ezs_nil) (by simp))) (by simp only [List.length_cons, List.length_nil]; omega))) (EvZF.toZ hL (ezf_sl (ez_var rfl hr) (edo_some (ed_add (ed_var rfl (.int _)) ed_i)) edo_none)) (by simp only [List.length_append, List.length_cons, List.length_nil]; omega))) q
end
end K7

/-! KAH: a move's act; what is due is what the act refuses; _law_after. -/
namespace K7
open PySem PySem.Spec PyProof.Rows L2 Evl RZ
def actOf (L0 : List SD) (st : SD) (m : Mv) : Act :=
  if m.deed = 0 then actPut st m.name m.price m.weight else if m.deed = 1 then actDrop st m.name else if m.deed = 2 then actSetP st m.name m.price else if m.deed = 3 then actSetW st m.name m.weight else
  if m.deed = 6 then actAside st m.weight else if m.deed = 7 then actLimit st m.limit else if m.deed = 8 then actUndo L0 else if m.deed = 9 then actGet st m.name (fun r => r.2.1) else if m.deed = 10 then actGet st m.name (fun r => r.2.2) else
  if m.deed = 5 then actRe st st.rows (pairsOf m) else actSetP st m.name m.price
def tagOf (c : Str) : Str := if c = "BadName" then "name" else if c = "KnownName" then "known" else if c = "UnknownName" then "unknown" else if c = "BadNumber" then "number" else "many"
def badV (c : Str) (fs : List (Str × V)) : List V := .str (tagOf c) :: (fs.map (·.2)).reverse
/-- what a refused act tells -/
def duA : Act → List V
  | .bad c fs => badV c fs
  | .nothing => [.str "nothing"]
  | _ => [.str "done"]
theorem deed_cases {m : Mv} (h : MvOk m) : m.deed = 0 ∨ m.deed = 1 ∨ m.deed = 2 ∨ m.deed = 3 ∨ m.deed = 4 ∨ m.deed = 5 ∨ m.deed = 6 ∨ m.deed = 7 ∨ m.deed = 8 ∨ m.deed = 9 ∨ m.deed = 10 := by
  have := h.d0
  have := h.d1
  omega
theorem due_re {st : SD} : ∀ {ps : List (Str × Int)} {rows : List Row}, (∀ x, known rows x = known st.rows x) → duA (actRe st rows ps) = (dueRe st.rows ps).getD [.str "done"]
  | [], rows, _ => rfl
  | (x, p) :: r, rows, hk => by
    unfold actRe dueRe
    by_cases h1 : known st.rows x = false
    · rw [if_pos h1, if_pos h1]; rfl
    · rw [if_neg h1, if_neg h1]
      by_cases h2 : p < 0
      · rw [if_pos h2, if_pos h2]; rfl
      · rw [if_neg h2, if_neg h2]
        exact due_re fun y => by rw [known_set, hk]
theorem tag1 : tagOf "BadName" = "name" := by decide +kernel
theorem tag2 : tagOf "KnownName" = "known" := by decide +kernel
theorem tag3 : tagOf "UnknownName" = "unknown" := by decide +kernel
theorem tag4 : tagOf "BadNumber" = "number" := by decide +kernel
theorem tag5 : tagOf "TooMany" = "many" := by decide +kernel
theorem bad1 {x : Str} : duA (.bad "BadName" (nameBad x)) = [.str "name", .str x] := by show V.str (tagOf _) :: _ = _; rw [tag1]; rfl
theorem bad2 {x : Str} : duA (.bad "KnownName" (nameBad x)) = [.str "known", .str x] := by show V.str (tagOf _) :: _ = _; rw [tag2]; rfl
theorem bad3 {x : Str} : duA (.bad "UnknownName" (nameBad x)) = [.str "unknown", .str x] := by show V.str (tagOf _) :: _ = _; rw [tag3]; rfl
theorem bad4 {x : Str} : duA (.bad "BadNumber" (numBad x)) = [.str "number", .str x, .non] := by show V.str (tagOf _) :: _ = _; rw [tag4]; rfl
theorem bad5 {x y : V} : duA (.bad "TooMany" (fs2 "many" "most" [x, y])) = [.str "many", x, y] := by show V.str (tagOf _) :: _ = _; rw [tag5]; rfl
theorem duN {rows : List Row} {s : Int} {cap : Option Int} : duA (.new rows s cap) = [.str "done"] := rfl
theorem duI {i : Int} : duA (.val i) = [.str "done"] := rfl
theorem duB : duA .back = [.str "done"] := rfl
theorem due_act {L0 : List SD} {st : SD} {m : Mv} (hm : MvOk m) (hr : st.rows.length ≤ 24) : dueV st.rows (L0.length + 1) m = duA (actOf L0 st m) := by
  rcases deed_cases hm with h | h | h | h | h | h | h | h | h | h | h <;> unfold dueV actOf <;> simp only [h] <;> simp
  · unfold dueB actPut
    simp only [h]
    by_cases h1 : nmOk m.name = false
    · simp [h1, bad1]
    · by_cases h2 : known st.rows m.name = true
      · simp [h1, h2, bad2]
      · by_cases h3 : m.price < 0
        · simp [h1, h2, h3, bad4]
        · by_cases h4 : m.weight < 1
          · simp [h1, h2, h3, h4, bad4]
          · by_cases h5 : 23 < st.rows.length
            · have h6 : st.rows.length = 24 := by omega
              simp [h1, h2, h3, h4, h6, bad5]
            · have h6 : ¬ 24 ≤ st.rows.length := by omega
              simp [h1, h2, h3, h4, h5, h6, duN]
  · unfold dueB actDrop
    simp only [h]
    by_cases h2 : known st.rows m.name = true
    · simp [h2, duN]
    · simp [h2, bad3]
  · unfold dueB actSetP
    simp only [h]
    by_cases h2 : known st.rows m.name = true
    · by_cases h3 : m.price < 0
      · simp [h2, h3, bad4]
      · simp [h2, h3, duN]
    · simp [h2, bad3]
  · unfold dueB actSetW
    simp only [h]
    by_cases h2 : known st.rows m.name = true
    · by_cases h3 : m.weight < 1
      · simp [h2, h3, bad4]
      · simp [h2, h3, duN]
    · simp [h2, bad3]
  · unfold dueB actSetP
    simp only [h]
    by_cases h2 : known st.rows m.name = true
    · by_cases h3 : m.price < 0
      · simp [h2, h3, bad4]
      · simp [h2, h3, duN]
    · simp [h2, bad3]
  · rw [due_re fun _ => rfl]
    congr 1
    unfold dueB
    simp [h]
  · unfold dueB actAside
    simp only [h]
    by_cases h3 : m.weight < 1
    · simp [h3, bad4]
    · simp [h3, duN]
  · unfold dueB actLimit
    simp only [h]
    cases hl : m.limit with
    | none => simp [limBad, duN]
    | some i =>
      by_cases h3 : i < 0
      · simp [limBad, h3, bad4]
      · simp [limBad, h3, duN]
  · unfold dueB actUndo
    simp only [h]
    cases L0 with
    | nil => simp [duA]
    | cons a b => simp [duB]
  · unfold dueB actGet
    simp only [h]
    by_cases h2 : known st.rows m.name = true
    · simp [h2, duI]
    · simp [h2, bad3]
  · unfold dueB actGet
    simp only [h]
    by_cases h2 : known st.rows m.name = true
    · simp [h2, duI]
    · simp [h2, bad3]
/-! rows -/
theorem dropRow_none {rows : List Row} {x : Str} (h : x ∉ rows.map (·.1)) : dropRow rows x = rows := by
  unfold dropRow
  rw [List.filter_eq_self]
  exact fun r hr => decide_eq_true fun e => h (List.mem_map.mpr ⟨r, hr, e⟩)
theorem setRow_none {rows : List Row} {x : Str} {p w : Int} (h : x ∉ rows.map (·.1)) : setRow rows x p w = rows := by
  unfold setRow
  conv => rhs; rw [← List.map_id rows]
  refine List.map_congr_left fun r hr => ?_
  rw [if_neg fun e => h (List.mem_map.mpr ⟨r, hr, e⟩)]
  rfl
theorem drop_eq {x : Str} : ∀ {rows : List Row} {j : Nat} (hj : j < rows.length), (rows.map (·.1)).Nodup → rows[j].1 = x → rows.take j ++ rows.drop (j + 1) = dropRow rows x
  | r :: rows, 0, _, hn, hx => by
    have hn := List.nodup_cons.mp hn
    have hx : r.1 = x := hx
    subst hx
    unfold dropRow
    rw [List.filter_cons_of_neg (by simp)]
    exact (dropRow_none hn.1).symm
  | r :: rows, j + 1, hj, hn, hx => by
    have hn := List.nodup_cons.mp hn
    have hj' : j < rows.length := by simpa using hj
    have hx : rows[j].1 = x := hx
    have hne : r.1 ≠ x := fun e => hn.1 (List.mem_map.mpr ⟨rows[j], List.getElem_mem hj', by rw [hx]; exact e.symm⟩)
    unfold dropRow
    rw [List.filter_cons_of_pos (by simpa using hne)]
    show r :: (rows.take j ++ rows.drop (j + 1)) = _
    rw [drop_eq hj' hn.2 hx]
    rfl
theorem set_eq {x : Str} {p w : Int} : ∀ {rows : List Row} {j : Nat} (hj : j < rows.length), (rows.map (·.1)).Nodup → rows[j].1 = x → rows.take j ++ [(rows[j].1, p, w)] ++ rows.drop (j + 1) = setRow rows x p w
  | r :: rows, 0, _, hn, hx => by
    have hn := List.nodup_cons.mp hn
    have hx : r.1 = x := hx
    subst hx
    show (r.1, p, w) :: rows = (if r.1 = r.1 then (r.1, p, w) else r) :: setRow rows r.1 p w
    rw [if_pos rfl, setRow_none hn.1]
  | r :: rows, j + 1, hj, hn, hx => by
    have hn := List.nodup_cons.mp hn
    have hj' : j < rows.length := by simpa using hj
    have hx : rows[j].1 = x := hx
    have hne : r.1 ≠ x := fun e => hn.1 (List.mem_map.mpr ⟨rows[j], List.getElem_mem hj', by rw [hx]; exact e.symm⟩)
    show r :: (rows.take j ++ [(rows[j].1, p, w)] ++ rows.drop (j + 1)) = (if r.1 = x then (r.1, p, w) else r) :: setRow rows x p w
    rw [if_neg hne, set_eq hj' hn.2 hx]
end K7

/-! KAI: _law_after. -/
namespace K7
open PySem PySem.Spec PyProof.Rows L2 Evl RZ
def AfterQ (Ms : List Addr) (L0 : List SD) (st : SD) (H : Hp) (Q : VK) : Act → Prop
  | .new rows s cap => RetZ Ms (.list ((L0 ++ [st]).map stD ++ [.list [rowsD rows, .int s, capD cap]])) H Q
  | .val _ => RetZ Ms (.list ((L0 ++ [st]).map stD)) H Q
  | .back => RetZ Ms (.list (L0.map stD)) H Q
  | _ => False
theorem AfterQ.mono {Ms : List Addr} {L0 : List SD} {st : SD} {H H' : Hp} {Q : VK} {x : Act} (h : AfterQ Ms L0 st H Q x) (e : Ex H H') : AfterQ Ms L0 st H' Q x := by
  cases x with
  | new rows s cap => exact RetZ.mono h e
  | val i => exact RetZ.mono h e
  | back => exact RetZ.mono h e
  | bad c fs => exact h
  | nothing => exact h
theorem cutD_init {α : Type} {xs : List α} {x : α} : cutD (xs ++ [x]) none (some (-1)) = xs := by
  unfold cutD
  have s0 : HT.sIx (xs ++ [x]).length 0 none = 0 := rfl
  have s1 : HT.sIx (xs ++ [x]).length (xs ++ [x]).length (some (-1)) = xs.length := by
    unfold HT.sIx
    simp only [List.length_append, List.length_cons, List.length_nil]
    split <;> omega
  rw [s0, s1, List.drop_zero, Nat.sub_zero, List.take_left']
  rfl
section
variable {K : PySem.W.Frag} {Ms : List Addr} {σ : L2.St} {H : Hp} {te tp t1 t2 : TE} {rows : List Row} {st : SD} {L0 : List SD} {D : Ends} {E : XK} {Ls : List PyData} {v sv rv : V}
theorem ez_changed {j : Nat} {p w : Int} {x : Str} (h : EvZ Ms te σ H (rowsD rows)) (hp : EvD tp σ H (.int (j : Int))) (h1 : EvD t1 σ H (.int p)) (h2 : EvD t2 σ H (.int w)) (hL : Live Ms H) (hj : j < rows.length) (hl : rows.length ≤ 24) (hn : (rows.map (·.1)).Nodup) (hx : rows[j].1 = x) :
    EvZ Ms (fun σ H Q => tCons te (tCons tp (tCons t1 (tCons t2 tNil))) σ H fun vs H1 => spChanged vs H1 Q E) σ H (rowsD (setRow rows x p w)) := by
  refine ez_call (ezs_cons h (ezs_cons (ez_sc hp rfl) (ezs_cons (ez_sc h1 rfl) (ezs_cons (ez_sc h2 rfl) ezs_nil)))) fun vs H1 e1 hvs Q k => ?_
  cases hvs with
  | cons a1 hvs => cases hvs with
    | cons a2 hvs => cases hvs with
      | cons a3 hvs => cases hvs with
        | cons a4 hvs =>
          cases hvs
          rw [a2.int_inv, a3.int_inv, a4.int_inv]
          refine ⟨Ms, _, rows, j, p, w, rfl, hL.ex e1, a1, hj, hl, ?_⟩
          rw [set_eq hj hn hx]
          exact k
theorem after_fin (h0 : σ[0]? = some (some v)) (h2 : σ[2]? = some (some sv)) (h3 : σ[3]? = some (some rv)) (hL : Live Ms H) (hv : Dq (fz Ms H) v (.list Ls)) (hs : Dq (fz Ms H) sv (stD st)) (hr : Dq (fz Ms H) rv (rowsD rows)) (hl : Ls.length ≤ 1000) (q : RetZ Ms (.list (Ls ++ [.list [rowsD rows, .int st.s, capD st.cap]])) H D.rt) :
    tRet (tOp rCat (tVar 0) (tLst (tCons (tLst (tCons (tVar 3) (tCons (tOp (rIxL K) (tVar 2) (tC (.int 1))) (tCons (tOp (rIxL K) (tVar 2) (tC (.int 2))) tNil)))) tNil))) D σ H :=
  sz_ret (EvZF.toZ hL (ezf_cat (ez_var h0 hv) (EvZF.toZ hL (ezf_lst (ezs_cons (EvZF.toZ hL (ezf_lst (ezs_cons (ez_var h3 hr) (ezs_cons (ez_ixL (ds := [rowsD st.rows, .int st.s, capD st.cap]) (ez_var h2 hs) ed_i rfl) (ezs_cons (ez_ixL (ds := [rowsD st.rows, .int st.s, capD st.cap]) (ez_var h2 hs) ed_i rfl) ezs_nil))) (by simp))) ezs_nil) (by simp))) (by simp; omega))) q
end
section
variable {P : Program} {w : World} {K : PySem.W.Frag} {mg : Str → Option Value} {base : Heap}
theorem sc__law_after : FnScope ["_law_states", "_law_move_here", "_law_state", "_law_rows", "_law_place_here", "_law_pair", "_law_at"] ["_law_states", "_law_move_here"] (defScope s__law_after) := ⟨rfl, rfl, rfl, by decide +kernel, rfl, by decide +kernel, by decide +kernel⟩
def spAfter : Sp := fun vs H Q _ => ∃ (Ms : List Addr) (v mv : V) (L0 : List SD) (st : SD) (m : Mv), vs = [v, mv] ∧ Live Ms H ∧ Dq (fz Ms H) v (.list ((L0 ++ [st]).map stD)) ∧ Dq H mv (mvD m) ∧ MvOk m ∧ RowsOk st.rows ∧ L0.length ≤ 900 ∧ AfterQ Ms L0 st H Q (actOf L0 st m)
theorem ok__law_after (T : TXG fileC fa fx fn P K mg) : FnB P w K mg base 3 (He.ga K "_law_after") ["_law_states", "_law_move_here"] spAfter := by
  refine fnb T.d__law_after rfl sc__law_after (fun vs H Q E h => ?_) (fun _ _ _ _ _ _ us hl => match us, hl with | [_, _], _ => rfl) (fun cdv A outer s H vs Q E hr h => ?_)
  · obtain ⟨_, _, _, _, _, _, rfl, _⟩ := h
    rfl
  · refine ⟨_, (pss_cons (ps_set (i := 2) sc__law_after.nd rfl (Or.inl rfl) (pe_ix ix_list (pv 0) (pe_un un_neg pe_int) (fun _ _ => rfl)))
      (pss_cons (ps_set (i := 3) sc__law_after.nd rfl (Or.inl rfl) (pe_ix ix_list (pv 2) pe_int (fun _ _ => rfl)))
      (pss_cons (ps_set (i := 4) sc__law_after.nd rfl (Or.inl rfl) (pe_callR (ok__law_place T).r (hr.mono (by decide)) T.k__law_place (by rfl) T.g__law_place passL (pa_cons (pv 3) (pa_cons (pe_ix ix_tup (pv 1) pe_int (fun _ _ => rfl)) pa_nil))))
      (pss_cons (ps_if (pt_cmpR op_eq (pe_ix ix_tup (pv 1) pe_int (fun _ _ => rfl)) pe_int (nomark _)) (pss_one (ps_ret (pe_slice sl_list (pv 0) po_none (po_some (pe_un un_neg pe_int))))) pss_nil)
      (pss_cons (ps_if (pt_cmpR op_gt (pe_ix ix_tup (pv 1) pe_int (fun _ _ => rfl)) pe_int (nomark _)) (pss_one (ps_ret (pv 0))) pss_nil)
      (pss_cons (ps_if (pt_cmpR op_eq (pe_ix ix_tup (pv 1) pe_int (fun _ _ => rfl)) pe_int (nomark _)) (pss_one (ps_set (i := 3) sc__law_after.nd rfl (Or.inl rfl) (pe_op op_cat (pv 3) (pe_lst (pa_cons (pe_tup (pa_cons (pe_ix ix_tup (pv 1) pe_int (fun _ _ => rfl)) (pa_cons (pe_ix ix_tup (pv 1) pe_int (fun _ _ => rfl)) (pa_cons (pe_ix ix_tup (pv 1) pe_int (fun _ _ => rfl)) pa_nil)))) pa_nil))))) (pss_one (ps_if (pt_cmpR op_eq (pe_ix ix_tup (pv 1) pe_int (fun _ _ => rfl)) pe_int (nomark _)) (pss_one (ps_set (i := 3) sc__law_after.nd rfl (Or.inl rfl) (pe_op op_cat (pe_slice sl_list (pv 3) po_none (po_some (pv 4))) (pe_slice sl_list (pv 3) (po_some (pe_op op_add (pv 4) pe_int)) po_none)))) (pss_one (ps_if (PW.pt (pw_or (pt_cmpR op_eq (pe_ix ix_tup (pv 1) pe_int (fun _ _ => rfl)) pe_int (nomark _)) (pw_or1 (pt_cmpR op_eq (pe_ix ix_tup (pv 1) pe_int (fun _ _ => rfl)) pe_int (nomark _))))) (pss_one (ps_set (i := 3) sc__law_after.nd rfl (Or.inl rfl) (pe_callR (ok__law_changed T).r (hr.mono (by decide)) T.k__law_changed (by rfl) T.g__law_changed passL (pa_cons (pv 3) (pa_cons (pv 4) (pa_cons (pe_ix ix_tup (pv 1) pe_int (fun _ _ => rfl)) (pa_cons (pe_ix ix_tup (pe_ix ix_list (pv 3) (pv 4) (fun _ _ => rfl)) pe_int (fun _ _ => rfl)) pa_nil))))))) (pss_one (ps_if (pt_cmpR op_eq (pe_ix ix_tup (pv 1) pe_int (fun _ _ => rfl)) pe_int (nomark _)) (pss_one (ps_set (i := 3) sc__law_after.nd rfl (Or.inl rfl) (pe_callR (ok__law_changed T).r (hr.mono (by decide)) T.k__law_changed (by rfl) T.g__law_changed passL (pa_cons (pv 3) (pa_cons (pv 4) (pa_cons (pe_ix ix_tup (pe_ix ix_list (pv 3) (pv 4) (fun _ _ => rfl)) pe_int (fun _ _ => rfl)) (pa_cons (pe_ix ix_tup (pv 1) pe_int (fun _ _ => rfl)) pa_nil))))))) (pss_one (ps_if (pt_cmpR op_eq (pe_ix ix_tup (pv 1) pe_int (fun _ _ => rfl)) pe_int (nomark _)) (pss_one (ps_for (passes_of rfl) rfl (pi_list (pe_callR (ok__law_pairs T).r (hr.mono (by decide)) T.k__law_pairs (by rfl) T.g__law_pairs passL (pa_cons (pv 1) pa_nil))) (pg_name (i := 5) sc__law_after.nd rfl (Or.inl rfl))
      (pss_cons (ps_set (i := 6) sc__law_after.nd rfl (Or.inl rfl) (pe_callR (ok__law_place T).r (hr.mono (by decide)) T.k__law_place (by rfl) T.g__law_place passL (pa_cons (pv 3) (pa_cons (pe_ix ix_tup (pv 5) pe_int (fun _ _ => rfl)) pa_nil))))
      (pss_one (ps_set (i := 3) sc__law_after.nd rfl (Or.inl rfl) (pe_callR (ok__law_changed T).r (hr.mono (by decide)) T.k__law_changed (by rfl) T.g__law_changed passL (pa_cons (pv 3) (pa_cons (pv 6) (pa_cons (pe_ix ix_tup (pv 5) pe_int (fun _ _ => rfl)) (pa_cons (pe_ix ix_tup (pe_ix ix_list (pv 3) (pv 6) (fun _ _ => rfl)) pe_int (fun _ _ => rfl)) pa_nil)))))))))) (pss_one (ps_if (pt_cmpR op_eq (pe_ix ix_tup (pv 1) pe_int (fun _ _ => rfl)) pe_int (nomark _)) (pss_one (ps_ret (pe_op op_cat (pv 0) (pe_lst (pa_cons (pe_lst (pa_cons (pv 3) (pa_cons (pe_ix ix_tup (pv 1) pe_int (fun _ _ => rfl)) (pa_cons (pe_ix ix_list (pv 2) pe_int (fun _ _ => rfl)) pa_nil)))) pa_nil))))) (pss_one (ps_if (pt_cmpR op_eq (pe_ix ix_tup (pv 1) pe_int (fun _ _ => rfl)) pe_int (nomark _)) (pss_one (ps_ret (pe_op op_cat (pv 0) (pe_lst (pa_cons (pe_lst (pa_cons (pv 3) (pa_cons (pe_ix ix_list (pv 2) pe_int (fun _ _ => rfl)) (pa_cons (pe_ix ix_tup (pv 1) pe_int (fun _ _ => rfl)) pa_nil)))) pa_nil))))) pss_nil)))))))))))))
      (pss_one (ps_ret (pe_op op_cat (pv 0) (pe_lst (pa_cons (pe_lst (pa_cons (pv 3) (pa_cons (pe_ix ix_list (pv 2) pe_int (fun _ _ => rfl)) (pa_cons (pe_ix ix_list (pv 2) pe_int (fun _ _ => rfl)) pa_nil)))) pa_nil))))))))))), ?_⟩
    obtain ⟨Ms, v, mv, L0, st, m, rfl, hL, hv, hm, hmo, hro, hL0, q⟩ := h
    obtain ⟨ma, rfl, hma⟩ := mv_inv hm
    have hl := hro.len
    have hv0 := hv
    rw [List.map_append] at hv
    refine qz_asg (d := stD st) (ez_ixL (ez_var rfl hv) (ed_neg ed_i) atI_last) fun sv H1 e1 hsv => ?_
    refine qz_asg (d := rowsD st.rows) (ez_ixL (ds := [rowsD st.rows, .int st.s, capD st.cap]) (ez_var rfl hsv) ed_i rfl) fun rv H2 e2 hrv => ?_
    have E2 := e1.trans e2
    refine Evl.q_asg (ev_place (ev_var rfl) (hrv.ex fz_ex) hl (ev_mv (i := 1) (ev_var (v := .ref ma) rfl) (E2 _ _ hma) rfl)) fun H3 e3 => ?_
    have E3 := E2.trans e3
    have hma3 := E3 _ _ hma
    have hv3 := hv0.ex (fz_up E3)
    have hsv3 := hsv.ex (fz_up (e2.trans e3))
    have hrv3 := hrv.ex (fz_up e3)
    have hL3 := hL.ex E3
    have q := q.mono E3
    have hm3 := hm.ex E3
    clear hv hv0 hsv hrv hma hm hL
    have mv : ∀ {H4 : Hp} {σ : L2.St} {i : Nat} {u : V}, Ex H3 H4 → σ[1]? = some (some (.ref ma)) → (mvV m)[i]? = some u → Ev (tOp (rIxT K) (tVar 1) (tC (.int (i : Int)))) σ H4 u := fun e hs hi => ev_mv (ev_var hs) (e _ _ hma3) hi
    have dq : ∀ {H4 : Hp} {σ : L2.St} (j : Nat), Ex H3 H4 → σ[1]? = some (some (.ref ma)) → Evl.EvT (tTest (tOp rEq (tOp (rIxT K) (tVar 1) (tC (.int ((0 : Nat) : Int)))) (tC (.int (j : Int))))) σ H4 (decide (m.deed = j)) := fun j e hs => et_is (et_B (ev_op (mv (i := 0) e hs rfl) ev_c (rv_eq rfl))) vi_eq
    refine Evl.q_when (b := decide (m.deed = (8 : Nat))) (dq 8 (Ex.refl _) rfl) (fun hb H4 e4 => ?_) fun hb8 H4 e4 => ?_
    · have hb : m.deed = 8 := of_decide_eq_true hb
      have q := q.mono e4
      unfold actOf actUndo at q
      simp only [hb] at q
      by_cases h0 : L0 = []
      · simp [h0] at q
        exact q.elim
      · simp [h0] at q
        refine sz_ret (EvZF.toZ (hL3.ex e4) (ezf_sl (ez_var rfl (hv3.ex (fz_up e4))) edo_none (edo_some (ed_neg ed_i)))) ?_
        rw [List.map_append, show List.map stD [st] = [stD st] from rfl, cutD_init]
        exact q
    have hb8 : ¬ m.deed = 8 := of_decide_eq_false hb8
    refine Evl.q_when (b := decide (8 < m.deed)) (et_B (ev_op (mv (i := 0) e4 rfl rfl) ev_c rv_I0)) (fun hb H5 e5 => ?_) fun hb H5 e5 => ?_
    · have hb : 8 < m.deed := of_decide_eq_true hb
      have e5 := e4.trans e5
      have q := q.mono e5
      refine sz_ret (ez_var rfl (hv3.ex (fz_up e5))) ?_
      have h910 : m.deed = 9 ∨ m.deed = 10 := by have := hmo.d1; omega
      unfold actOf actGet at q
      rcases h910 with h | h <;> simp only [h] at q <;> simp at q <;> split at q
      all_goals first | exact q.elim | exact q
    have hb9 : ¬ 8 < m.deed := of_decide_eq_false hb
    have e5 := e4.trans e5
    have lst : ∀ {Hx : Hp} {rv' : V} {rows : List Row} {σ' : L2.St} {D : Ends}, Ex H3 Hx → σ'[0]? = some (some v) → σ'[2]? = some (some sv) → σ'[3]? = some (some rv') → Dq (fz Ms Hx) rv' (rowsD rows) → D.rt = Q → AfterQ Ms L0 st Hx Q (.new rows st.s st.cap) →
        tRet (tOp rCat (tVar 0) (tLst (tCons (tLst (tCons (tVar 3) (tCons (tOp (rIxL K) (tVar 2) (tC (.int 1))) (tCons (tOp (rIxL K) (tVar 2) (tC (.int 2))) tNil)))) tNil))) D σ' Hx := fun e h0 h2 h3 hr hD q => after_fin h0 h2 h3 (hL3.ex e) (hv3.ex (fz_up e)) (hsv3.ex (fz_up e)) hr (by simp; omega) (by rw [hD]; exact q)
    have mD : ∀ {H4 : Hp} {σ : L2.St} {i : Nat} {d : PyData} {u : V}, Ex H3 H4 → σ[1]? = some (some (.ref ma)) → (mvV m)[i]? = some u → (∀ H, Dq H u d) → EvD (tOp (rIxT K) (tVar 1) (tC (.int (i : Int)))) σ H4 d := fun e hs hi hd => EvD.of (mv e hs hi) fun H1 _ => hd H1
    refine Evl.q_if (b := decide (m.deed = (0 : Nat))) (dq 0 e5 rfl) (fun hb H6 e6 => ?_) fun hb0 H6 e6 => ?_
    · have hb : m.deed = 0 := of_decide_eq_true hb
      have e6 := e5.trans e6
      have L6 := hL3.ex e6
      have q := q.mono e6
      unfold actOf actPut at q
      rw [if_pos hb] at q
      refine sz_asg (EvZF.toZ L6 (ezf_cat (ez_var rfl (hrv3.ex (fz_up e6))) (EvZF.toZ L6 (ezf_lst (ezs_cons (ez_tup L6 (ezs_cons (ez_sc (mD (i := 1) e6 rfl rfl fun _ => .str m.name) rfl) (ezs_cons (ez_sc (mD (i := 2) e6 rfl rfl fun _ => .int m.price) rfl) (ezs_cons (ez_sc (mD (i := 3) e6 rfl rfl fun _ => .int m.weight) rfl) ezs_nil))) (by simp)) ezs_nil) (by simp))) (by simp; omega))) fun v7 H7 e7 hv7 => ?_
      have hv7 : Dq (fz Ms H7) v7 (rowsD (st.rows ++ [(m.name, m.price, m.weight)])) := by
        unfold rowsD
        rw [List.map_append]
        exact hv7
      refine lst (e6.trans e7) rfl rfl rfl hv7 rfl ?_
      have q := AfterQ.mono q e7
      split at q
      · exact q.elim
      split at q
      · exact q.elim
      split at q
      · exact q.elim
      split at q
      · exact q.elim
      split at q
      · exact q.elim
      exact q
    have hb0 : ¬ m.deed = 0 := of_decide_eq_false hb0
    have e6 := e5.trans e6
    refine Evl.s_if (b := decide (m.deed = (1 : Nat))) (dq 1 e6 rfl) (fun hb H7 e7 => ?_) fun hb1 H7 e7 => ?_
    · have hb : m.deed = 1 := of_decide_eq_true hb
      have e7 := e6.trans e7
      have L7 := hL3.ex e7
      have q := q.mono e7
      unfold actOf actDrop at q
      simp only [hb] at q
      simp at q
      split at q
      · exact q.elim
      rename_i hk
      have hk : known st.rows m.name = true := by simpa using hk
      obtain ⟨j, hj, hpl, hx, hro'⟩ := place_pos hk
      have pv : ∀ {σ : L2.St} {H : Hp}, σ[4]? = some (some (.int (placeI st.rows m.name))) → EvD (tVar 4) σ H (.int (j : Int)) := fun h => by rw [hpl] at h; exact ed_var h (.int _)
      have hr7 := hrv3.ex (fz_up e7)
      have c1 : (cutD (st.rows.map rowD) none (some (j : Int))).length ≤ 24 := by rw [cutD_take (by rw [List.length_map]; omega), List.length_take, List.length_map]; omega
      have c2 : (cutD (st.rows.map rowD) (some ((j : Int) + 1)) none).length ≤ 24 := by rw [show ((j : Int) + 1) = ((j + 1 : Nat) : Int) by omega, cutD_drop, List.length_drop, List.length_map]; omega
      refine sz_asg (EvZF.toZ L7 (ezf_cat (EvZF.toZ L7 (ezf_sl (ez_var rfl hr7) edo_none (edo_some (pv rfl)))) (EvZF.toZ L7 (ezf_sl (ez_var rfl hr7) (edo_some (ed_add (pv rfl) ed_i)) edo_none)) (by omega))) fun v8 H8 e8 hv8 => ?_
      have hv8 : Dq (fz Ms H8) v8 (rowsD (dropRow st.rows m.name)) := by
        rw [cutD_take (by rw [List.length_map]; omega), show ((j : Int) + 1) = ((j + 1 : Nat) : Int) by omega, cutD_drop, ← List.map_take, ← List.map_drop, ← List.map_append, drop_eq hj hro.nd hx] at hv8
        exact hv8
      exact lst (e7.trans e8) rfl rfl rfl hv8 rfl (AfterQ.mono q e8)
    have hb1 : ¬ m.deed = 1 := of_decide_eq_false hb1
    have e7 := e6.trans e7
    refine Evl.s_if (b := decide (m.deed = (2 : Nat)) || decide (m.deed = (4 : Nat))) (et_or (dq 2 e7 rfl) fun _ => dq 4 e7 rfl) (fun hb H8 e8 => ?_) fun hb2 H8 e8 => ?_
    · have hb : m.deed = 2 ∨ m.deed = 4 := by simpa using hb
      have e8 := e7.trans e8
      have L8 := hL3.ex e8
      have q := q.mono e8
      have q : AfterQ Ms L0 st H8 Q (actSetP st m.name m.price) := by
        unfold actOf at q
        rcases hb with h | h <;> simp only [h] at q <;> simpa using q
      unfold actSetP at q
      split at q
      · exact q.elim
      split at q
      · exact q.elim
      rename_i hk _
      have hk : known st.rows m.name = true := by simpa using hk
      obtain ⟨j, hj, hpl, hx, hro'⟩ := place_pos hk
      have pv : ∀ {σ : L2.St} {H : Hp}, σ[4]? = some (some (.int (placeI st.rows m.name))) → EvD (tVar 4) σ H (.int (j : Int)) := fun h => by rw [hpl] at h; exact ed_var h (.int _)
      have hr8 := hrv3.ex (fz_up e8)
      refine sz_asg (ez_changed (p := m.price) (w := st.rows[j].2.2) (ez_var rfl hr8) (pv rfl) (mD (i := 2) e8 rfl rfl fun _ => .int m.price) (ed_ixU (ed_ixL (ed_var rfl (hr8.ex fz_ex)) (pv rfl) (at_row hj)) ed_i rfl) L8 hj hl hro.nd hx) fun v9 H9 e9 hv9 => ?_
      rw [hro'] at q
      exact lst (e8.trans e9) rfl rfl rfl hv9 rfl (AfterQ.mono q e9)
    have hb2 : ¬ m.deed = 2 ∧ ¬ m.deed = 4 := by simpa using hb2
    have e8 := e7.trans e8
    refine Evl.s_if (b := decide (m.deed = (3 : Nat))) (dq 3 e8 rfl) (fun hb H9 e9 => ?_) fun hb3 H9 e9 => ?_
    · have hb : m.deed = 3 := of_decide_eq_true hb
      have e9 := e8.trans e9
      have L9 := hL3.ex e9
      have q := q.mono e9
      unfold actOf actSetW at q
      simp only [hb] at q
      simp at q
      split at q
      · exact q.elim
      split at q
      · exact q.elim
      rename_i hk _
      have hk : known st.rows m.name = true := by simpa using hk
      obtain ⟨j, hj, hpl, hx, hro'⟩ := place_pos hk
      have pv : ∀ {σ : L2.St} {H : Hp}, σ[4]? = some (some (.int (placeI st.rows m.name))) → EvD (tVar 4) σ H (.int (j : Int)) := fun h => by rw [hpl] at h; exact ed_var h (.int _)
      have hr9 := hrv3.ex (fz_up e9)
      refine sz_asg (ez_changed (p := st.rows[j].2.1) (w := m.weight) (ez_var rfl hr9) (pv rfl) (ed_ixU (ed_ixL (ed_var rfl (hr9.ex fz_ex)) (pv rfl) (at_row hj)) ed_i rfl) (mD (i := 3) e9 rfl rfl fun _ => .int m.weight) L9 hj hl hro.nd hx) fun v10 H10 e10 hv10 => ?_
      rw [hro'] at q
      exact lst (e9.trans e10) rfl rfl rfl hv10 rfl (AfterQ.mono q e10)
    have hb3 : ¬ m.deed = 3 := of_decide_eq_false hb3
    have e9 := e8.trans e9
    refine Evl.s_if (b := decide (m.deed = (5 : Nat))) (dq 5 e9 rfl) (fun hb H10 e10 => ?_) fun hb5 H10 e10 => ?_
    · have hb : m.deed = 5 := of_decide_eq_true hb
      have e10 := e9.trans e10
      have q := q.mono e10
      unfold actOf at q
      simp only [hb] at q
      simp at q
      refine sd_forL (ds := (pairsOf m).map pairD) (ed_call (eds_cons (ed_var (d := mvD m) rfl ?_) eds_nil) fun vs H11 e11 hvs Q k => ?_) fun H11 e11 => ?_
      · exact hm3.ex e10
      · cases hvs with
        | cons hu ht =>
          cases ht
          exact ⟨_, m, rfl, hu, hmo, k⟩
      have E11 := e10.trans e11
      refine ⟨fun i σ' H' => Ex H11 H' ∧ ∃ (rv' : V) (o5 o6 : Option V) (rows' : List Row), σ' = [some v, some (.ref ma), some sv, some rv', some (.int (placeI st.rows m.name)), o5, o6] ∧ Dq (fz Ms H') rv' (rowsD rows') ∧ rows'.length = st.rows.length ∧ rows'.map (·.1) = st.rows.map (·.1) ∧ AfterQ Ms L0 st H' Q (actRe st rows' ((pairsOf m).drop i)),
        ⟨Ex.refl _, rv, none, none, st.rows, rfl, hrv3.ex (fz_up E11), rfl, rfl, AfterQ.mono q e11⟩, fun i σ' H' h => h.1, ?_, ?_⟩
      · rintro i u d σ' H' hd hu ⟨h1, rv', o5, o6, rows', rfl, hr', hl', hn', q⟩
        rw [List.getElem?_map] at hd
        cases hq : (pairsOf m)[i]? with
        | none => rw [hq] at hd; cases hd
        | some pr =>
          rw [hq] at hd
          cases hd
          have hlt := (List.getElem?_eq_some_iff.mp hq).1
          have hdr : (pairsOf m).drop i = pr :: (pairsOf m).drop (i + 1) := by
            rw [List.drop_eq_getElem_cons hlt]
            congr 1
            exact (List.getElem?_eq_some_iff.mp hq).2
          rw [hdr] at q
          obtain ⟨x, pc⟩ := pr
          obtain ⟨pa, rfl, hpa⟩ := pair_inv hu
          have q : AfterQ Ms L0 st H' Q (if known st.rows x = false then .bad "UnknownName" (nameBad x) else if pc < 0 then .bad "BadNumber" (numBad "price") else actRe st (setRow rows' x pc (rowOf rows' x).2.2) ((pairsOf m).drop (i + 1))) := q
          split at q
          · exact q.elim
          split at q
          · exact q.elim
          rename_i hk _
          have hk : known rows' x = true := by
            have : known rows' x = known st.rows x := by unfold known; rw [hn']
            rw [this]
            simpa using hk
          obtain ⟨j, hj, hpl, hx, hro'⟩ := place_pos hk
          refine Evl.q_asg (v := .int (j : Int)) (ev_is (ev_place (ev_var rfl) (hr'.ex fz_ex) (by omega) (ev_pairAt (q := (x, pc)) (i := 0) (ev_var (v := .ref pa) rfl) hpa rfl)) (by rw [hpl])) fun H12 e12 => ?_
          have E12 := E11.trans (h1.trans e12)
          have L12 := hL3.ex E12
          have hr12 := hr'.ex (fz_up e12)
          refine sz_asg (ez_changed (p := pc) (w := rows'[j].2.2) (ez_var rfl hr12) (ed_var rfl (.int _)) (EvD.of (ev_pairAt (q := (x, pc)) (i := 1) (ev_var (v := .ref pa) rfl) (e12 _ _ hpa) rfl) fun _ _ => .int pc) (ed_ixU (ed_ixL (ed_var rfl (hr12.ex fz_ex)) (ed_var rfl (.int _)) (at_row hj)) ed_i rfl) L12 hj (by omega) (by rw [hn']; exact hro.nd) hx) fun v13 H13 e13 hv13 => ?_
          rw [hro'] at q
          exact ⟨h1.trans (e12.trans e13), v13, _, _, _, rfl, hv13, by unfold setRow; rw [List.length_map]; exact hl', by rw [setRow_names]; exact hn', AfterQ.mono q (e12.trans e13)⟩
      · rintro σ' H' ⟨h1, rv', o5, o6, rows', rfl, hr', hl', hn', q⟩
        rw [List.length_map, List.drop_length] at q
        exact lst (E11.trans h1) rfl rfl rfl hr' rfl q
    have hb5 : ¬ m.deed = 5 := of_decide_eq_false hb5
    have e10 := e9.trans e10
    have st2 : ∀ {Hx : Hp} {σ' : L2.St}, Ex H3 Hx → σ'[2]? = some (some sv) → EvZ Ms (tVar 2) σ' Hx (stD st) := fun e h => ez_var h (hsv3.ex (fz_up e))
    refine Evl.s_if (b := decide (m.deed = (6 : Nat))) (dq 6 e10 rfl) (fun hb H11 e11 => ?_) fun hb6 H11 e11 => ?_
    · have hb : m.deed = 6 := of_decide_eq_true hb
      have e11 := e10.trans e11
      have L11 := hL3.ex e11
      have q := q.mono e11
      unfold actOf actAside at q
      simp only [hb] at q
      simp at q
      split at q
      · exact q.elim
      exact sz_ret (EvZF.toZ L11 (ezf_cat (ez_var rfl (hv3.ex (fz_up e11))) (EvZF.toZ L11 (ezf_lst (ezs_cons (EvZF.toZ L11 (ezf_lst (ezs_cons (ez_var rfl (hrv3.ex (fz_up e11))) (ezs_cons (ez_sc (mD (i := 3) e11 rfl rfl fun _ => .int m.weight) rfl) (ezs_cons (ez_ixL (ds := [rowsD st.rows, .int st.s, capD st.cap]) (st2 e11 rfl) ed_i rfl) ezs_nil))) (by simp))) ezs_nil) (by simp))) (by simp; omega))) q
    have hb6 : ¬ m.deed = 6 := of_decide_eq_false hb6
    have e11 := e10.trans e11
    refine Evl.s_when (b := decide (m.deed = (7 : Nat))) (dq 7 e11 rfl) (fun hb H12 e12 => ?_) fun hb7 H12 e12 => ?_
    · have hb : m.deed = 7 := of_decide_eq_true hb
      have e12 := e11.trans e12
      have L12 := hL3.ex e12
      have q := q.mono e12
      unfold actOf actLimit at q
      simp only [hb] at q
      simp at q
      have q : RetZ Ms (.list ((L0 ++ [st]).map stD ++ [.list [rowsD st.rows, .int st.s, capD m.limit]])) H12 Q := by
        split at q
        · split at q
          · exact q.elim
          · exact q
        · exact q
      exact sz_ret (EvZF.toZ L12 (ezf_cat (ez_var rfl (hv3.ex (fz_up e12))) (EvZF.toZ L12 (ezf_lst (ezs_cons (EvZF.toZ L12 (ezf_lst (ezs_cons (ez_var rfl (hrv3.ex (fz_up e12))) (ezs_cons (ez_ixL (ds := [rowsD st.rows, .int st.s, capD st.cap]) (st2 e12 rfl) ed_i rfl) (ezs_cons (ez_sc (mD (i := 4) (d := capD m.limit) e12 rfl rfl fun _ => by cases m.limit with | none => exact .non | some i => exact .int i) (by cases m.limit <;> rfl)) ezs_nil))) (by simp))) ezs_nil) (by simp))) (by simp; omega))) q
    have hb7 : ¬ m.deed = 7 := of_decide_eq_false hb7
    have := deed_cases hmo
    omega
end
end K7

/-! KAJ: _law_told_right, _law_do. -/
namespace K7
open PySem PySem.Spec PyProof.Rows L2 Evl RZ
theorem TXG.fi_Desk___getitem__ {P : Program} {K : PySem.W.Frag} {mg : Str → Option Value} (T : TXG fileC fa fx fn P K mg) : PySem.W.findIn K (.ref (He.ga K "Desk")) "__getitem__" = some (some (.ref (He.ma K (He.ga K "Desk") "__getitem__"))) := T.spc_Desk___getitem__.1
theorem TXG.if_Desk___getitem__ {P : Program} {K : PySem.W.Frag} {mg : Str → Option Value} (T : TXG fileC fa fx fn P K mg) : PySem.W.isFn K (.ref (He.ma K (He.ga K "Desk") "__getitem__")) = true := T.spc_Desk___getitem__.2.1
theorem TXG.fn_Desk___getitem__ {P : Program} {K : PySem.W.Frag} {mg : Str → Option Value} (T : TXG fileC fa fx fn P K mg) : PySem.W.fnIn K (He.ma K (He.ga K "Desk") "__getitem__") = true := T.spc_Desk___getitem__.2.2.2
theorem TXG.fi_Desk___setitem__ {P : Program} {K : PySem.W.Frag} {mg : Str → Option Value} (T : TXG fileC fa fx fn P K mg) : PySem.W.findIn K (.ref (He.ga K "Desk")) "__setitem__" = some (some (.ref (He.ma K (He.ga K "Desk") "__setitem__"))) := T.spc_Desk___setitem__.1
theorem TXG.if_Desk___setitem__ {P : Program} {K : PySem.W.Frag} {mg : Str → Option Value} (T : TXG fileC fa fx fn P K mg) : PySem.W.isFn K (.ref (He.ma K (He.ga K "Desk") "__setitem__")) = true := T.spc_Desk___setitem__.2.1
theorem TXG.fn_Desk___setitem__ {P : Program} {K : PySem.W.Frag} {mg : Str → Option Value} (T : TXG fileC fa fx fn P K mg) : PySem.W.fnIn K (He.ma K (He.ga K "Desk") "__setitem__") = true := T.spc_Desk___setitem__.2.2.2
theorem TXG.fi_Desk___contains__ {P : Program} {K : PySem.W.Frag} {mg : Str → Option Value} (T : TXG fileC fa fx fn P K mg) : PySem.W.findIn K (.ref (He.ga K "Desk")) "__contains__" = some (some (.ref (He.ma K (He.ga K "Desk") "__contains__"))) := T.spc_Desk___contains__.1
theorem TXG.if_Desk___contains__ {P : Program} {K : PySem.W.Frag} {mg : Str → Option Value} (T : TXG fileC fa fx fn P K mg) : PySem.W.isFn K (.ref (He.ma K (He.ga K "Desk") "__contains__")) = true := T.spc_Desk___contains__.2.1
theorem TXG.fn_Desk___contains__ {P : Program} {K : PySem.W.Frag} {mg : Str → Option Value} (T : TXG fileC fa fx fn P K mg) : PySem.W.fnIn K (He.ma K (He.ga K "Desk") "__contains__") = true := T.spc_Desk___contains__.2.2.2
theorem TXG.fi_Desk___len__ {P : Program} {K : PySem.W.Frag} {mg : Str → Option Value} (T : TXG fileC fa fx fn P K mg) : PySem.W.findIn K (.ref (He.ga K "Desk")) "__len__" = some (some (.ref (He.ma K (He.ga K "Desk") "__len__"))) := T.spc_Desk___len__.1
theorem TXG.if_Desk___len__ {P : Program} {K : PySem.W.Frag} {mg : Str → Option Value} (T : TXG fileC fa fx fn P K mg) : PySem.W.isFn K (.ref (He.ma K (He.ga K "Desk") "__len__")) = true := T.spc_Desk___len__.2.1
theorem TXG.fn_Desk___len__ {P : Program} {K : PySem.W.Frag} {mg : Str → Option Value} (T : TXG fileC fa fx fn P K mg) : PySem.W.fnIn K (He.ma K (He.ga K "Desk") "__len__") = true := T.spc_Desk___len__.2.2.2
theorem TXG.fi_Desk___iter__ {P : Program} {K : PySem.W.Frag} {mg : Str → Option Value} (T : TXG fileC fa fx fn P K mg) : PySem.W.findIn K (.ref (He.ga K "Desk")) "__iter__" = some (some (.ref (He.ma K (He.ga K "Desk") "__iter__"))) := T.spc_Desk___iter__.1
theorem TXG.if_Desk___iter__ {P : Program} {K : PySem.W.Frag} {mg : Str → Option Value} (T : TXG fileC fa fx fn P K mg) : PySem.W.isFn K (.ref (He.ma K (He.ga K "Desk") "__iter__")) = true := T.spc_Desk___iter__.2.1
theorem TXG.fn_Desk___iter__ {P : Program} {K : PySem.W.Frag} {mg : Str → Option Value} (T : TXG fileC fa fx fn P K mg) : PySem.W.fnIn K (He.ma K (He.ga K "Desk") "__iter__") = true := T.spc_Desk___iter__.2.2.2
section
variable {K : PySem.W.Frag} {σ : L2.St} {H : Hp} {te t1 t2 : TE} {ta : TA} {D : Ends} {E : XK}
theorem ev_same {is : List Int} (h1 : EvU t1 σ H (is.map V.int)) (h2 : EvU t2 σ H (is.map V.int)) (hl : is.length ≤ 100) : Ev (fun σ H Q => tCons t1 (tCons t2 tNil) σ H fun vs H1 => spSame vs H1 Q E) σ H (.bl true) := fun H1 e1 Q k =>
  h1 H1 e1 _ fun p H2 hp e2 hp2 => h2 H2 (e1.trans e2) _ fun r H3 hr e3 hr3 => ⟨p, r, is, rfl, e3 _ _ hp2, hr3, hl, fun H4 e4 => k H4 ((e2.trans e3).trans e4)⟩
theorem s_retM {a C dz : Addr} {m : Str} {sp : Sp} {vs : List V} {fs : List (Str × V)} (ho : Ev te σ H (.ref a)) (ha : H a = some (.ins C dz fs)) (hm : fs.lookup m = none) (h : EvA ta σ H vs) (k : ∀ H1, Ex H H1 → sp (.ref a :: vs) H1 D.rt E) : tRet (tMethR C m sp E te ta) D σ H :=
  ho H (Ex.refl _) _ fun H1 e1 => ⟨a, dz, fs, rfl, e1 _ _ ha, hm, h H1 e1 _ fun H2 e2 => k H2 (e1.trans e2)⟩
theorem s_retM0 {a C dz : Addr} {m : Str} {sp : Sp} {fs : List (Str × V)} (ho : Ev te σ H (.ref a)) (ha : H a = some (.ins C dz fs)) (hm : fs.lookup m = none) (k : ∀ H1, Ex H H1 → sp [.ref a] H1 D.rt E) : tRet (tMethR0 C m sp E te) D σ H :=
  ho H (Ex.refl _) _ fun H1 e1 => ⟨a, dz, fs, rfl, e1 _ _ ha, hm, k H1 e1⟩
theorem s_retG {a C dz : Addr} {sp : Sp} {v : V} {fs : List (Str × V)} (ho : Ev te σ H (.ref a)) (ha : H a = some (.ins C dz fs)) (h : Ev t1 σ H v) (k : ∀ H1, Ex H H1 → sp [.ref a, v] H1 D.rt E) : tRet (tOp (fun x y H Q => ∃ a dx fs, x = .ref a ∧ H a = some (.ins C dx fs) ∧ sp [x, y] H Q E) te t1) D σ H :=
  ho H (Ex.refl _) _ fun H1 e1 => h H1 e1 _ fun H2 e2 => ⟨a, dz, fs, rfl, (e1.trans e2) _ _ ha, k H2 (e1.trans e2)⟩
theorem q_setO {a C dz : Addr} {sp : Sp} {v i : V} {fs : List (Str × V)} {tz : TS} (hv : Ev t2 σ H v) (ho : Ev te σ H (.ref a)) (ha : H a = some (.ins C dz fs)) (h : Ev t1 σ H i) (k : ∀ H1, Ex H H1 → sp [.ref a, i, v] H1 (fun _ H' => tz D σ H') E) : tSeq (tAsg t2 (gSub te t1 (fun o i v H Q => ∃ a dx fs, o = .ref a ∧ H a = some (.ins C dx fs) ∧ sp [o, i, v] H (fun _ H' => Q H') E))) tz D σ H :=
  hv H (Ex.refl _) _ fun H1 e1 => ho H1 e1 _ fun H2 e2 => h H2 (e1.trans e2) _ fun H3 e3 => ⟨a, dz, fs, rfl, (e1.trans (e2.trans e3)) _ _ ha, k H3 (e1.trans (e2.trans e3))⟩
theorem s_retK {a C dz : Addr} {m : Str} {n : Nat} {sp : Sp} {vs : List V} {fs : List (Str × V)} (ho : Ev te σ H (.ref a)) (ha : H a = some (.ins C dz fs)) (hm : fs.lookup m = none) (h : EvA ta σ H vs) (hn : vs.length = n) (k : ∀ H1, Ex H H1 → sp (.ref a :: vs) H1 D.rt E) : tRet (tMethRK C m n sp E te ta) D σ H :=
  ho H (Ex.refl _) _ fun H1 e1 => ⟨a, dz, fs, rfl, e1 _ _ ha, hm, h H1 e1 _ fun H2 e2 => ⟨hn, k H2 (e1.trans e2)⟩⟩
end
section
variable {P : Program} {w : World} {K : PySem.W.Frag} {mg : Str → Option Value} {base : Heap}
theorem ed_place {σ : L2.St} {H : Hp} {te ty : TE} {E : XK} {rows : List Row} {x : Str} (h : EvD te σ H (rowsD rows)) (hl : rows.length ≤ 24) (hy : Ev ty σ H (.str x)) : EvD (fun σ H Q => tCons te (tCons ty tNil) σ H fun vs H1 => spPlace vs H1 Q E) σ H (.int (placeI rows x)) := fun H1 e Q q =>
  h H1 e _ fun v H2 e2 hd => hy H2 (e.trans e2) _ fun H3 e3 => ⟨v, rows, x, rfl, hd.ex e3, hl, fun H4 e4 => q _ H4 ((e2.trans e3).trans e4) (.int _)⟩
theorem sc__law_told_right : FnScope ["_law_told", "_law_state", "_law_move_here", "_law_row"] ["_law_told", "_law_state", "_law_move_here"] (defScope s__law_told_right) := ⟨rfl, rfl, rfl, by decide +kernel, rfl, by decide +kernel, by decide +kernel⟩
def spTold : Sp := fun vs H Q _ => ∃ (u sv mv : V) (L0 : List SD) (st : SD) (m : Mv), vs = [u, sv, mv] ∧ Dq H sv (stD st) ∧ Dq H mv (mvD m) ∧ MvOk m ∧ st.rows.length ≤ 24 ∧ ((m.deed < 9 ∧ u = .non) ∨ (9 ≤ m.deed ∧ ∃ i, actOf L0 st m = .val i ∧ u = .int i)) ∧ RetV (.bl true) H Q
theorem row_inv {H : Hp} {v : V} {r : Row} (h : Dq H v (rowD r)) : ∃ a, v = .ref a ∧ H a = some (.tup [.str r.1, .int r.2.1, .int r.2.2]) := by
  obtain ⟨a, xs, rfl, ha, hx⟩ := h.tup_inv
  match xs, hx with
  | [x1, x2, x3], .cons h1 (.cons h2 (.cons h3 .nil)) =>
    rw [h1.str_inv, h2.int_inv, h3.int_inv] at ha
    exact ⟨a, rfl, ha⟩
theorem ok__law_told_right (T : TXG fileC fa fx fn P K mg) : FnB P w K mg base 5 (He.ga K "_law_told_right") ["_law_told", "_law_state", "_law_move_here"] spTold := by
  refine fnb T.d__law_told_right rfl sc__law_told_right (fun vs H Q E h => ?_) (fun _ _ _ _ _ _ us hl => match us, hl with | [_, _, _], _ => rfl) (fun cdv A outer s H vs Q E hr h => ?_)
  · obtain ⟨_, _, _, _, _, _, rfl, _⟩ := h
    rfl
  · refine ⟨_, (pss_cons (ps_if (pt_cmpR op_lt (pe_ix ix_tup (pv 2) pe_int (fun _ _ => rfl)) pe_int (nomark _)) (pss_one (ps_ret (pe_cmpR op_isN (pv 0) pe_non (nomark _)))) pss_nil)
      (pss_cons (ps_set (i := 3) sc__law_told_right.nd rfl (Or.inl rfl) (pe_ix ix_list (pe_ix ix_list (pv 1) pe_int (fun _ _ => rfl)) (pe_callR (ok__law_place T).r (hr.mono (by decide)) T.k__law_place (by rfl) T.g__law_place passL (pa_cons (pe_ix ix_list (pv 1) pe_int (fun _ _ => rfl)) (pa_cons (pe_ix ix_tup (pv 2) pe_int (fun _ _ => rfl)) pa_nil))) (fun _ _ => rfl)))
      (pss_one (ps_ret (pe_callR (ok__law_same_lot T).r (hr.mono (by decide)) T.k__law_same_lot (by rfl) T.g__law_same_lot passL (pa_cons (pe_tup (pa_cons (pv 0) pa_nil)) (pa_cons (pe_tup (pa_cons (pe_ix ix_tup (pv 3) (pe_op op_sub (pe_ix ix_tup (pv 2) pe_int (fun _ _ => rfl)) pe_int) (fun _ _ => rfl)) pa_nil)) pa_nil))))))), ?_⟩
    obtain ⟨u, sv, mv, L0, st, m, rfl, hs, hm, hmo, hl, hu, q⟩ := h
    obtain ⟨ma, rfl, hma⟩ := mv_inv hm
    refine Evl.q_when (b := decide (m.deed < 9)) (et_B (ev_op (ev_mv (i := 0) (ev_var (v := .ref ma) rfl) hma rfl) ev_c rv_I0)) (fun hb H1 e1 => ?_) fun hb H1 e1 => ?_
    · have hb : m.deed < 9 := of_decide_eq_true hb
      rcases hu with ⟨_, rfl⟩ | ⟨h9, _⟩
      · exact Evl.s_ret (v := .bl true) (ev_op (ev_var rfl) ev_c (rv_val fun H1 e1 Q k => ⟨rfl, k⟩)) fun H2 e2 => q H2 (e1.trans e2)
      · omega
    · have hb : ¬ m.deed < 9 := of_decide_eq_false hb
      rcases hu with ⟨h9, _⟩ | ⟨h9, i, hact, rfl⟩
      · omega
      have hs1 := hs.ex e1
      have hma1 := e1 _ _ hma
      have h910 : m.deed = 9 ∨ m.deed = 10 := by have := hmo.d1; omega
      have hk : known st.rows m.name = true := by
        cases hq : known st.rows m.name with
        | true => rfl
        | false =>
          unfold actOf actGet at hact
          rcases h910 with h | h <;> simp [h, hq] at hact
      obtain ⟨j, hj, hpl, hx, hro⟩ := place_pos hk
      have rows : ∀ {σ : L2.St} {H2 : Hp}, Ex H1 H2 → σ[1]? = some (some sv) → EvD (tOp (rIxL K) (tVar 1) (tC (.int 0))) σ H2 (rowsD st.rows) := fun e h => ed_ixL (ds := [rowsD st.rows, .int st.s, capD st.cap]) (ed_var h (hs1.ex e)) ed_i rfl
      refine qd_asg (d := rowD st.rows[j]) (ed_ixL (i := (j : Int)) (rows (Ex.refl _) rfl) ?_ (at_row hj)) fun rv H2 e2 hrv => ?_
      · rw [← hpl]
        exact ed_place (rows (Ex.refl _) rfl) hl (ev_mv (i := 1) (ev_var (v := .ref ma) rfl) hma1 rfl)
      obtain ⟨ra, rfl, hra⟩ := row_inv hrv
      have hma2 := e2 _ _ hma1
      rw [← hro] at hra
      refine Evl.s_ret (ev_same (is := [i]) (eu_tup (ea_cons (ev_var rfl) ea_nil) (by simp)) (eu_tup (ea_cons (ev_op (z := .int i) (ev_var (v := .ref ra) rfl) (ev_op (z := .int (m.deed - 8)) (ev_mv (i := 0) (ev_var (v := .ref ma) rfl) hma2 rfl) ev_c rv_I0) (rv_ixT (st_of hra) ?_)) ea_nil) (by simp)) (by simp)) fun H3 e3 => q H3 (e1.trans (e2.trans e3))
      unfold actOf actGet at hact
      rcases h910 with h | h <;> simp [h, hk] at hact <;> rw [h, ← hact] <;> rfl
theorem sc__law_do : FnScope ["_law_desk", "_law_move_here"] ["_law_desk", "_law_move_here"] (defScope s__law_do) := ⟨rfl, rfl, rfl, by decide +kernel, rfl, by decide +kernel, by decide +kernel⟩
def spDo (K : PySem.W.Frag) : Sp := fun vs H Q E => ∃ (Ms : List Addr) (a pl : Addr) (mv : V) (L0 : List SD) (st : SD) (m : Mv), vs = [.ref a, mv] ∧ Dq H mv (mvD m) ∧ MvOk m ∧ MsOk K Ms H ∧ DeskF K Ms H a pl (L0 ++ [st]) ∧ L0.length ≤ 900 ∧ ActQ K Ms a pl L0 st H Q E (actOf L0 st m)
theorem ok__law_do (T : TXG fileC fa fx fn P K mg) : FnB P w K mg base 27 (He.ga K "_law_do") ["_law_desk", "_law_move_here"] (spDo K) := by
  refine fnb T.d__law_do rfl sc__law_do (fun vs H Q E h => ?_) (fun _ _ _ _ _ _ us hl => match us, hl with | [_, _], _ => rfl) (fun cdv A outer s H vs Q E hr h => ?_)
  · obtain ⟨_, _, _, _, _, _, _, rfl, _⟩ := h
    rfl
  · have hu := hu_of hr
    refine ⟨_, (pss_cons (ps_if (pt_cmpR op_eq (pe_ix ix_tup (pv 1) pe_int (fun _ _ => rfl)) pe_int (nomark _)) (pss_one (ps_ret (pe_methR (pv 0) T.c_Desk T.me_Desk_put (ok_Desk_put T).r (hr.mono (by decide)) (passes_call (takes_of rfl rfl rfl rfl) (fun _ _ _ _ z => z)) (pa_cons (pe_ix ix_tup (pv 1) pe_int (fun _ _ => rfl)) (pa_cons (pe_ix ix_tup (pv 1) pe_int (fun _ _ => rfl)) (pa_cons (pe_ix ix_tup (pv 1) pe_int (fun _ _ => rfl)) pa_nil)))))) pss_nil)
      (pss_cons (ps_if (pt_cmpR op_eq (pe_ix ix_tup (pv 1) pe_int (fun _ _ => rfl)) pe_int (nomark _)) (pss_one (ps_ret (pe_methR (pv 0) T.c_Desk T.me_Desk_drop (ok_Desk_drop T).r (hr.mono (by decide)) (passes_call (takes_of rfl rfl rfl rfl) (fun _ _ _ _ z => z)) (pa_cons (pe_ix ix_tup (pv 1) pe_int (fun _ _ => rfl)) pa_nil)))) pss_nil)
      (pss_cons (ps_if (pt_cmpR op_eq (pe_ix ix_tup (pv 1) pe_int (fun _ _ => rfl)) pe_int (nomark _)) (pss_one (ps_ret (pe_methR (pv 0) T.c_Desk T.me_Desk_set_price (ok_Desk_set_price T).r (hr.mono (by decide)) (passes_call (takes_of rfl rfl rfl rfl) (fun _ _ _ _ z => z)) (pa_cons (pe_ix ix_tup (pv 1) pe_int (fun _ _ => rfl)) (pa_cons (pe_ix ix_tup (pv 1) pe_int (fun _ _ => rfl)) pa_nil))))) pss_nil)
      (pss_cons (ps_if (pt_cmpR op_eq (pe_ix ix_tup (pv 1) pe_int (fun _ _ => rfl)) pe_int (nomark _)) (pss_one (ps_ret (pe_methR (pv 0) T.c_Desk T.me_Desk_set_weight (ok_Desk_set_weight T).r (hr.mono (by decide)) (passes_call (takes_of rfl rfl rfl rfl) (fun _ _ _ _ z => z)) (pa_cons (pe_ix ix_tup (pv 1) pe_int (fun _ _ => rfl)) (pa_cons (pe_ix ix_tup (pv 1) pe_int (fun _ _ => rfl)) pa_nil))))) pss_nil)
      (pss_cons (ps_if (pt_cmpR op_eq (pe_ix ix_tup (pv 1) pe_int (fun _ _ => rfl)) pe_int (nomark _)) (pss_one (ps_ret (pe_methR (pv 0) T.c_Desk T.me_Desk_set_aside (ok_Desk_set_aside T).r (hr.mono (by decide)) (passes_call (takes_of rfl rfl rfl rfl) (fun _ _ _ _ z => z)) (pa_cons (pe_ix ix_tup (pv 1) pe_int (fun _ _ => rfl)) pa_nil)))) pss_nil)
      (pss_cons (ps_if (pt_cmpR op_eq (pe_ix ix_tup (pv 1) pe_int (fun _ _ => rfl)) pe_int (nomark _)) (pss_one (ps_ret (pe_methR (pv 0) T.c_Desk T.me_Desk_set_limit (ok_Desk_set_limit T).r (hr.mono (by decide)) (passes_call (takes_of rfl rfl rfl rfl) (fun _ _ _ _ z => z)) (pa_cons (pe_ix ix_tup (pv 1) pe_int (fun _ _ => rfl)) pa_nil)))) pss_nil)
      (pss_cons (ps_if (pt_cmpR op_eq (pe_ix ix_tup (pv 1) pe_int (fun _ _ => rfl)) pe_int (nomark _)) (pss_one (ps_ret (pe_methR0 (pv 0) T.c_Desk T.me_Desk_undo (ok_Desk_undo T).r (hr.mono (by decide)) (passes_call (takes_of rfl rfl rfl rfl) (fun _ _ _ _ z => z))))) pss_nil)
      (pss_cons (ps_if (pt_cmpR op_eq (pe_ix ix_tup (pv 1) pe_int (fun _ _ => rfl)) pe_int (nomark _)) (pss_one (ps_ret (pe_ownIx T.fi_Desk___getitem__ T.fn_Desk___getitem__ T.if_Desk___getitem__ (ok_Desk___getitem__ T).r (hr.mono (by decide)) (passes_call (takes_of rfl rfl rfl rfl) (fun _ _ _ _ z => z)) (pv 0) (pe_ix ix_tup (pv 1) pe_int (fun _ _ => rfl))))) pss_nil)
      (pss_cons (ps_if (pt_cmpR op_eq (pe_ix ix_tup (pv 1) pe_int (fun _ _ => rfl)) pe_int (nomark _)) (pss_one (ps_ret (pe_methR (pv 0) T.c_Desk T.me_Desk_weight_of (ok_Desk_weight_of T).r (hr.mono (by decide)) (passes_call (takes_of rfl rfl rfl rfl) (fun _ _ _ _ z => z)) (pa_cons (pe_ix ix_tup (pv 1) pe_int (fun _ _ => rfl)) pa_nil)))) pss_nil)
      (pss_cons (ps_if (PW.pt (pw_and (pt_cmpR op_eq (pe_ix ix_tup (pv 1) pe_int (fun _ _ => rfl)) pe_int (nomark _)) (pw_and1 (pt_cmpR op_eq (pe_ix ix_tup (pv 1) pe_int (fun _ _ => rfl)) pe_int (nomark _))))) (pss_one (ps_ret (pe_methR0 (pv 0) T.c_Desk T.me_Desk_reprice (ok_Desk_reprice_none T).r (hr.mono (by decide)) (passes_call (takes_of rfl rfl rfl rfl) (fun _ _ _ _ z => z))))) pss_nil)
      (pss_cons (ps_if (PW.pt (pw_and (pt_cmpR op_eq (pe_ix ix_tup (pv 1) pe_int (fun _ _ => rfl)) pe_int (nomark _)) (pw_and1 (pt_cmpR op_eq (pe_ix ix_tup (pv 1) pe_int (fun _ _ => rfl)) pe_int (nomark _))))) (pss_one (ps_ret (pe_methRK (pv 0) T.c_Desk T.me_Desk_reprice (ok_Desk_reprice_a T) (hr.mono (by decide)) (passes_call (takes_of rfl rfl rfl rfl) (fun _ _ _ _ z => z)) (pk_cons (pe_ix ix_tup (pv 1) pe_int (fun _ _ => rfl)) pk_nil)))) pss_nil)
      (pss_cons (ps_if (PW.pt (pw_and (pt_cmpR op_eq (pe_ix ix_tup (pv 1) pe_int (fun _ _ => rfl)) pe_int (nomark _)) (pw_and1 (pt_cmpR op_eq (pe_ix ix_tup (pv 1) pe_int (fun _ _ => rfl)) pe_int (nomark _))))) (pss_one (ps_ret (pe_methRK (pv 0) T.c_Desk T.me_Desk_reprice (ok_Desk_reprice_b T) (hr.mono (by decide)) (passes_call (takes_of rfl rfl rfl rfl) (fun _ _ _ _ z => z)) (pk_cons (pe_ix ix_tup (pv 1) pe_int (fun _ _ => rfl)) pk_nil)))) pss_nil)
      (pss_cons (ps_if (PW.pt (pw_and (pt_cmpR op_eq (pe_ix ix_tup (pv 1) pe_int (fun _ _ => rfl)) pe_int (nomark _)) (pw_and1 (pt_cmpR op_eq (pe_ix ix_tup (pv 1) pe_int (fun _ _ => rfl)) pe_int (nomark _))))) (pss_one (ps_ret (pe_methRK (pv 0) T.c_Desk T.me_Desk_reprice (ok_Desk_reprice_tea_a_jam T) (hr.mono (by decide)) (passes_call (takes_of rfl rfl rfl rfl) (fun _ _ _ _ z => z)) (pk_cons (pe_ix ix_tup (pv 1) pe_int (fun _ _ => rfl)) (pk_cons (pe_ix ix_tup (pv 1) pe_int (fun _ _ => rfl)) (pk_cons (pe_ix ix_tup (pv 1) pe_int (fun _ _ => rfl)) pk_nil)))))) pss_nil)
      (pss_cons (ps_if (PW.pt (pw_and (pt_cmpR op_eq (pe_ix ix_tup (pv 1) pe_int (fun _ _ => rfl)) pe_int (nomark _)) (pw_and1 (pt_cmpR op_eq (pe_ix ix_tup (pv 1) pe_int (fun _ _ => rfl)) pe_int (nomark _))))) (pss_one (ps_ret (pe_methRK (pv 0) T.c_Desk T.me_Desk_reprice (ok_Desk_reprice_jam_tea_a_b T) (hr.mono (by decide)) (passes_call (takes_of rfl rfl rfl rfl) (fun _ _ _ _ z => z)) (pk_cons (pe_ix ix_tup (pv 1) pe_int (fun _ _ => rfl)) (pk_cons (pe_ix ix_tup (pv 1) pe_int (fun _ _ => rfl)) (pk_cons (pe_ix ix_tup (pv 1) pe_int (fun _ _ => rfl)) (pk_cons (pe_ix ix_tup (pv 1) pe_int (fun _ _ => rfl)) pk_nil))))))) pss_nil)
      (pss_cons (ps_if (PW.pt (pw_and (pt_cmpR op_eq (pe_ix ix_tup (pv 1) pe_int (fun _ _ => rfl)) pe_int (nomark _)) (pw_and1 (pt_cmpR op_eq (pe_ix ix_tup (pv 1) pe_int (fun _ _ => rfl)) pe_int (nomark _))))) (pss_one (ps_ret (pe_methRK (pv 0) T.c_Desk T.me_Desk_reprice (ok_Desk_reprice_a_b T) (hr.mono (by decide)) (passes_call (takes_of rfl rfl rfl rfl) (fun _ _ _ _ z => z)) (pk_cons (pe_ix ix_tup (pv 1) pe_int (fun _ _ => rfl)) (pk_cons (pe_ix ix_tup (pv 1) pe_int (fun _ _ => rfl)) pk_nil))))) pss_nil)
      (pss_cons (ps_if (pt_cmpR op_eq (pe_ix ix_tup (pv 1) pe_int (fun _ _ => rfl)) pe_int (nomark _)) (pss_one (ps_ret (pe_methRK (pv 0) T.c_Desk T.me_Desk_reprice (ok_Desk_reprice_b_a T) (hr.mono (by decide)) (passes_call (takes_of rfl rfl rfl rfl) (fun _ _ _ _ z => z)) (pk_cons (pe_ix ix_tup (pv 1) pe_int (fun _ _ => rfl)) (pk_cons (pe_ix ix_tup (pv 1) pe_int (fun _ _ => rfl)) pk_nil))))) pss_nil)
      (pss_cons (ps_asg (pe_ix ix_tup (pv 1) pe_int (fun _ _ => rfl)) (pg_sub (pv 0) (pe_ix ix_tup (pv 1) pe_int (fun _ _ => rfl)) (set_own T.ns_Desk T.fi_Desk___setitem__ T.if_Desk___setitem__ (ok_Desk___setitem__ T).r (hr.mono (by decide)) (passes_call (takes_of rfl rfl rfl rfl) (fun _ _ _ _ z => z)))))
      (pss_one (ps_ret pe_non))))))))))))))))))), ?_⟩
    obtain ⟨Ms, a, pl, mv, L0, st, m, rfl, hm, hmo, hms, hdk, hz, q⟩ := h
    obtain ⟨ma, rfl, hma⟩ := mv_inv hm
    obtain ⟨dx, b, dy, ln, d, kvs, qv, sts, c, _⟩ := hdk.cur
    have dk := c.dk
    have hnm := hmo.nm
    have hp1 := hmo.p1
    have hw1 := hmo.w1
    have ho1 := hmo.o1
    clear hm c
    have mv : ∀ {H4 : Hp} {σ : L2.St} {i : Nat} {u : V}, Ex H H4 → σ[1]? = some (some (.ref ma)) → (mvV m)[i]? = some u → Ev (tOp (rIxT K) (tVar 1) (tC (.int (i : Int)))) σ H4 u := fun e hs hi => ev_mv (ev_var hs) (e _ _ hma) hi
    have dq : ∀ {H4 : Hp} {σ : L2.St} (j : Nat), Ex H H4 → σ[1]? = some (some (.ref ma)) → Evl.EvT (tTest (tOp rEq (tOp (rIxT K) (tVar 1) (tC (.int ((0 : Nat) : Int)))) (tC (.int (j : Int))))) σ H4 (decide (m.deed = j)) := fun j e hs => et_is (et_B (ev_op (mv (i := 0) e hs rfl) ev_c (rv_eq rfl))) vi_eq
    have d5 : ∀ {H4 : Hp} {σ : L2.St} (j : Nat), Ex H H4 → σ[1]? = some (some (.ref ma)) → Evl.EvT (tTest (tOp rEq (tOp (rIxT K) (tVar 1) (tC (.int ((5 : Nat) : Int)))) (tC (.int (j : Int))))) σ H4 (decide (m.k5 = j)) := fun j e hs => et_is (et_B (ev_op (mv (i := 5) e hs rfl) ev_c (rv_eq rfl))) vi_eq
    refine Evl.q_when (b := decide (m.deed = (0 : Nat))) (dq 0 (Ex.refl _) rfl) (fun hb H1 e1 => ?_) fun hb0 H1 e1 => ?_
    · have hb : m.deed = 0 := of_decide_eq_true hb
      have q : ActQ K Ms a pl L0 st H Q E (actPut st m.name m.price m.weight) := by unfold actOf at q; rw [if_pos hb] at q; exact q
      exact s_retM (ev_var (v := .ref a) rfl) (e1 _ _ dk) rfl (ea_cons (mv (i := 1) e1 rfl rfl) (ea_cons (mv (i := 2) e1 rfl rfl) (ea_cons (mv (i := 3) e1 rfl rfl) ea_nil))) fun Hz ez => ⟨Ms, a, pl, L0, st, m.name, m.price, m.weight, rfl, hms.ex (e1.trans ez), hdk.ex (e1.trans ez), hz, by omega, hp1, hw1, q.ex (e1.trans ez)⟩
    have hb0 : ¬ m.deed = 0 := of_decide_eq_false hb0
    refine Evl.q_when (b := decide (m.deed = (1 : Nat))) (dq 1 e1 rfl) (fun hb H2 e2 => ?_) fun hb1 H2 e2 => ?_
    · have hb : m.deed = 1 := of_decide_eq_true hb
      have e2 := e1.trans e2
      have q : ActQ K Ms a pl L0 st H Q E (actDrop st m.name) := by unfold actOf at q; simp only [hb] at q; simpa using q
      exact s_retM (ev_var (v := .ref a) rfl) (e2 _ _ dk) rfl (ea_cons (mv (i := 1) e2 rfl rfl) ea_nil) fun Hz ez => ⟨Ms, a, pl, L0, st, m.name, rfl, hms.ex (e2.trans ez), hdk.ex (e2.trans ez), hz, q.ex (e2.trans ez)⟩
    have hb1 : ¬ m.deed = 1 := of_decide_eq_false hb1
    have e2 := e1.trans e2
    refine Evl.q_when (b := decide (m.deed = (2 : Nat))) (dq 2 e2 rfl) (fun hb H3 e3 => ?_) fun hb2 H3 e3 => ?_
    · have hb : m.deed = 2 := of_decide_eq_true hb
      have e3 := e2.trans e3
      have q : ActQ K Ms a pl L0 st H Q E (actSetP st m.name m.price) := by unfold actOf at q; simp only [hb] at q; simpa using q
      exact s_retM (ev_var (v := .ref a) rfl) (e3 _ _ dk) rfl (ea_cons (mv (i := 1) e3 rfl rfl) (ea_cons (mv (i := 2) e3 rfl rfl) ea_nil)) fun Hz ez => ⟨Ms, a, pl, L0, st, m.name, m.price, rfl, hms.ex (e3.trans ez), hdk.ex (e3.trans ez), hz, hp1, q.ex (e3.trans ez)⟩
    have hb2 : ¬ m.deed = 2 := of_decide_eq_false hb2
    have e3 := e2.trans e3
    refine Evl.q_when (b := decide (m.deed = (3 : Nat))) (dq 3 e3 rfl) (fun hb H4 e4 => ?_) fun hb3 H4 e4 => ?_
    · have hb : m.deed = 3 := of_decide_eq_true hb
      have e4 := e3.trans e4
      have q : ActQ K Ms a pl L0 st H Q E (actSetW st m.name m.weight) := by unfold actOf at q; simp only [hb] at q; simpa using q
      exact s_retM (ev_var (v := .ref a) rfl) (e4 _ _ dk) rfl (ea_cons (mv (i := 1) e4 rfl rfl) (ea_cons (mv (i := 3) e4 rfl rfl) ea_nil)) fun Hz ez => ⟨Ms, a, pl, L0, st, m.name, m.weight, rfl, hms.ex (e4.trans ez), hdk.ex (e4.trans ez), hz, hw1, q.ex (e4.trans ez)⟩
    have hb3 : ¬ m.deed = 3 := of_decide_eq_false hb3
    have e4 := e3.trans e4
    refine Evl.q_when (b := decide (m.deed = (6 : Nat))) (dq 6 e4 rfl) (fun hb H5 e5 => ?_) fun hb6 H5 e5 => ?_
    · have hb : m.deed = 6 := of_decide_eq_true hb
      have e5 := e4.trans e5
      have q : ActQ K Ms a pl L0 st H Q E (actAside st m.weight) := by unfold actOf at q; simp only [hb] at q; simpa using q
      exact s_retM (ev_var (v := .ref a) rfl) (e5 _ _ dk) rfl (ea_cons (mv (i := 3) e5 rfl rfl) ea_nil) fun Hz ez => ⟨Ms, a, pl, L0, st, m.weight, rfl, hms.ex (e5.trans ez), hdk.ex (e5.trans ez), hz, hw1, q.ex (e5.trans ez)⟩
    have hb6 : ¬ m.deed = 6 := of_decide_eq_false hb6
    have e5 := e4.trans e5
    refine Evl.q_when (b := decide (m.deed = (7 : Nat))) (dq 7 e5 rfl) (fun hb H6 e6 => ?_) fun hb7 H6 e6 => ?_
    · have hb : m.deed = 7 := of_decide_eq_true hb
      have e6 := e5.trans e6
      have q : ActQ K Ms a pl L0 st H Q E (actLimit st m.limit) := by unfold actOf at q; simp only [hb] at q; simpa using q
      exact s_retM (ev_var (v := .ref a) rfl) (e6 _ _ dk) rfl (ea_cons (mv (i := 4) e6 rfl rfl) ea_nil) fun Hz ez => ⟨Ms, a, pl, L0, st, m.limit, rfl, hms.ex (e6.trans ez), hdk.ex (e6.trans ez), hz, hmo.l1, q.ex (e6.trans ez)⟩
    have hb7 : ¬ m.deed = 7 := of_decide_eq_false hb7
    have e6 := e5.trans e6
    refine Evl.q_when (b := decide (m.deed = (8 : Nat))) (dq 8 e6 rfl) (fun hb H7 e7 => ?_) fun hb8 H7 e7 => ?_
    · have hb : m.deed = 8 := of_decide_eq_true hb
      have e7 := e6.trans e7
      have q : ActQ K Ms a pl L0 st H Q E (actUndo L0) := by unfold actOf at q; simp only [hb] at q; simpa using q
      exact s_retM0 (ev_var (v := .ref a) rfl) (e7 _ _ dk) rfl fun Hz ez => ⟨Ms, a, pl, L0, st, rfl, hms.ex (e7.trans ez), hdk.ex (e7.trans ez), q.ex (e7.trans ez)⟩
    have hb8 : ¬ m.deed = 8 := of_decide_eq_false hb8
    have e7 := e6.trans e7
    refine Evl.q_when (b := decide (m.deed = (9 : Nat))) (dq 9 e7 rfl) (fun hb H8 e8 => ?_) fun hb9 H8 e8 => ?_
    · have hb : m.deed = 9 := of_decide_eq_true hb
      have e8 := e7.trans e8
      have q : ActQ K Ms a pl L0 st H Q E (actGet st m.name (fun r => r.2.1)) := by unfold actOf at q; simp only [hb] at q; simpa using q
      exact s_retG (ev_var (v := .ref a) rfl) (e8 _ _ dk) (mv (i := 1) e8 rfl rfl) fun Hz ez => ⟨Ms, a, pl, L0, st, m.name, rfl, hdk.ex (e8.trans ez), q.ex (e8.trans ez)⟩
    have hb9 : ¬ m.deed = 9 := of_decide_eq_false hb9
    have e8 := e7.trans e8
    refine Evl.q_when (b := decide (m.deed = (10 : Nat))) (dq 10 e8 rfl) (fun hb H9 e9 => ?_) fun hb10 H9 e9 => ?_
    · have hb : m.deed = 10 := of_decide_eq_true hb
      have e9 := e8.trans e9
      have q : ActQ K Ms a pl L0 st H Q E (actGet st m.name (fun r => r.2.2)) := by unfold actOf at q; simp only [hb] at q; simpa using q
      exact s_retM (ev_var (v := .ref a) rfl) (e9 _ _ dk) rfl (ea_cons (mv (i := 1) e9 rfl rfl) ea_nil) fun Hz ez => ⟨Ms, a, pl, L0, st, m.name, rfl, hdk.ex (e9.trans ez), q.ex (e9.trans ez)⟩
    have hb10 : ¬ m.deed = 10 := of_decide_eq_false hb10
    have e9 := e8.trans e9
    have pb : ∀ ps : List (Str × Int), (∀ z ∈ ps, z.2 = m.price ∨ z.2 = m.other) → ∀ z ∈ ps, z.2 < 2 ^ 60 := fun ps h z hz => by rcases h z hz with h | h <;> rw [h] <;> assumption
    refine Evl.q_when (b := decide (m.deed = (5 : Nat)) && decide (m.k5 = (0 : Nat))) (et_and (dq 5 e9 rfl) fun _ => d5 0 e9 rfl) (fun hb H10 e10 => ?_) fun hk0 H10 e10 => ?_
    · have hb : m.deed = 5 ∧ m.k5 = 0 := by simpa using hb
      have e10 := e9.trans e10
      have q : ActQ K Ms a pl L0 st H Q E (actRe st st.rows ([] : List (Str × Int))) := by
        unfold actOf at q
        simp only [hb.1] at q
        have hp : pairsOf m = ([] : List (Str × Int)) := by unfold pairsOf; rw [hb.2]; rfl
        rw [hp] at q
        simpa using q
      exact s_retM0 (ev_var (v := .ref a) rfl) (e10 _ _ dk) rfl fun Hz ez => ⟨Ms, a, pl, L0, st, [], rfl, rfl, hms.ex (e10.trans ez), hdk.ex (e10.trans ez), hz, pb _ (by simp), q.ex (e10.trans ez)⟩
    have hk0 : m.deed = 5 → ¬ m.k5 = 0 := by simpa using hk0
    have e10 := e9.trans e10
    refine Evl.q_when (b := decide (m.deed = (5 : Nat)) && decide (m.k5 = (1 : Nat))) (et_and (dq 5 e10 rfl) fun _ => d5 1 e10 rfl) (fun hb H11 e11 => ?_) fun hk1 H11 e11 => ?_
    · have hb : m.deed = 5 ∧ m.k5 = 1 := by simpa using hb
      have e11 := e10.trans e11
      have q : ActQ K Ms a pl L0 st H Q E (actRe st st.rows ([("a", m.price)] : List (Str × Int))) := by
        unfold actOf at q
        simp only [hb.1] at q
        have hp : pairsOf m = ([("a", m.price)] : List (Str × Int)) := by unfold pairsOf; rw [hb.2]; rfl
        rw [hp] at q
        simpa using q
      exact s_retK (ev_var (v := .ref a) rfl) (e11 _ _ dk) rfl (ea_cons (mv (i := 2) e11 rfl rfl) ea_nil) rfl fun Hz ez => ⟨Ms, a, pl, L0, st, [("a", m.price)], rfl, rfl, hms.ex (e11.trans ez), hdk.ex (e11.trans ez), hz, pb _ (by simp), q.ex (e11.trans ez)⟩
    have hk1 : m.deed = 5 → ¬ m.k5 = 1 := by simpa using hk1
    have e11 := e10.trans e11
    refine Evl.q_when (b := decide (m.deed = (5 : Nat)) && decide (m.k5 = (2 : Nat))) (et_and (dq 5 e11 rfl) fun _ => d5 2 e11 rfl) (fun hb H12 e12 => ?_) fun hk2 H12 e12 => ?_
    · have hb : m.deed = 5 ∧ m.k5 = 2 := by simpa using hb
      have e12 := e11.trans e12
      have q : ActQ K Ms a pl L0 st H Q E (actRe st st.rows ([("b", m.other)] : List (Str × Int))) := by
        unfold actOf at q
        simp only [hb.1] at q
        have hp : pairsOf m = ([("b", m.other)] : List (Str × Int)) := by unfold pairsOf; rw [hb.2]; rfl
        rw [hp] at q
        simpa using q
      exact s_retK (ev_var (v := .ref a) rfl) (e12 _ _ dk) rfl (ea_cons (mv (i := 6) e12 rfl rfl) ea_nil) rfl fun Hz ez => ⟨Ms, a, pl, L0, st, [("b", m.other)], rfl, rfl, hms.ex (e12.trans ez), hdk.ex (e12.trans ez), hz, pb _ (by simp), q.ex (e12.trans ez)⟩
    have hk2 : m.deed = 5 → ¬ m.k5 = 2 := by simpa using hk2
    have e12 := e11.trans e12
    refine Evl.q_when (b := decide (m.deed = (5 : Nat)) && decide (m.k5 = (5 : Nat))) (et_and (dq 5 e12 rfl) fun _ => d5 5 e12 rfl) (fun hb H13 e13 => ?_) fun hk5 H13 e13 => ?_
    · have hb : m.deed = 5 ∧ m.k5 = 5 := by simpa using hb
      have e13 := e12.trans e13
      have q : ActQ K Ms a pl L0 st H Q E (actRe st st.rows ([("tea", m.other), ("a", m.price), ("jam", m.price)] : List (Str × Int))) := by
        unfold actOf at q
        simp only [hb.1] at q
        have hp : pairsOf m = ([("tea", m.other), ("a", m.price), ("jam", m.price)] : List (Str × Int)) := by unfold pairsOf; rw [hb.2]; rfl
        rw [hp] at q
        simpa using q
      exact s_retK (ev_var (v := .ref a) rfl) (e13 _ _ dk) rfl (ea_cons (mv (i := 6) e13 rfl rfl) (ea_cons (mv (i := 2) e13 rfl rfl) (ea_cons (mv (i := 2) e13 rfl rfl) ea_nil))) rfl fun Hz ez => ⟨Ms, a, pl, L0, st, [("tea", m.other), ("a", m.price), ("jam", m.price)], rfl, rfl, hms.ex (e13.trans ez), hdk.ex (e13.trans ez), hz, pb _ (by simp), q.ex (e13.trans ez)⟩
    have hk5 : m.deed = 5 → ¬ m.k5 = 5 := by simpa using hk5
    have e13 := e12.trans e13
    refine Evl.q_when (b := decide (m.deed = (5 : Nat)) && decide (m.k5 = (6 : Nat))) (et_and (dq 5 e13 rfl) fun _ => d5 6 e13 rfl) (fun hb H14 e14 => ?_) fun hk6 H14 e14 => ?_
    · have hb : m.deed = 5 ∧ m.k5 = 6 := by simpa using hb
      have e14 := e13.trans e14
      have q : ActQ K Ms a pl L0 st H Q E (actRe st st.rows ([("jam", m.price), ("tea", m.other), ("a", m.price), ("b", m.other)] : List (Str × Int))) := by
        unfold actOf at q
        simp only [hb.1] at q
        have hp : pairsOf m = ([("jam", m.price), ("tea", m.other), ("a", m.price), ("b", m.other)] : List (Str × Int)) := by unfold pairsOf; rw [hb.2]; rfl
        rw [hp] at q
        simpa using q
      exact s_retK (ev_var (v := .ref a) rfl) (e14 _ _ dk) rfl (ea_cons (mv (i := 2) e14 rfl rfl) (ea_cons (mv (i := 6) e14 rfl rfl) (ea_cons (mv (i := 2) e14 rfl rfl) (ea_cons (mv (i := 6) e14 rfl rfl) ea_nil)))) rfl fun Hz ez => ⟨Ms, a, pl, L0, st, [("jam", m.price), ("tea", m.other), ("a", m.price), ("b", m.other)], rfl, rfl, hms.ex (e14.trans ez), hdk.ex (e14.trans ez), hz, pb _ (by simp), q.ex (e14.trans ez)⟩
    have hk6 : m.deed = 5 → ¬ m.k5 = 6 := by simpa using hk6
    have e14 := e13.trans e14
    refine Evl.q_when (b := decide (m.deed = (5 : Nat)) && decide (m.k5 = (3 : Nat))) (et_and (dq 5 e14 rfl) fun _ => d5 3 e14 rfl) (fun hb H15 e15 => ?_) fun hk3 H15 e15 => ?_
    · have hb : m.deed = 5 ∧ m.k5 = 3 := by simpa using hb
      have e15 := e14.trans e15
      have q : ActQ K Ms a pl L0 st H Q E (actRe st st.rows ([("a", m.price), ("b", m.other)] : List (Str × Int))) := by
        unfold actOf at q
        simp only [hb.1] at q
        have hp : pairsOf m = ([("a", m.price), ("b", m.other)] : List (Str × Int)) := by unfold pairsOf; rw [hb.2]; rfl
        rw [hp] at q
        simpa using q
      exact s_retK (ev_var (v := .ref a) rfl) (e15 _ _ dk) rfl (ea_cons (mv (i := 2) e15 rfl rfl) (ea_cons (mv (i := 6) e15 rfl rfl) ea_nil)) rfl fun Hz ez => ⟨Ms, a, pl, L0, st, [("a", m.price), ("b", m.other)], rfl, rfl, hms.ex (e15.trans ez), hdk.ex (e15.trans ez), hz, pb _ (by simp), q.ex (e15.trans ez)⟩
    have hk3 : m.deed = 5 → ¬ m.k5 = 3 := by simpa using hk3
    have e15 := e14.trans e15
    refine Evl.q_when (b := decide (m.deed = (5 : Nat))) (dq 5 e15 rfl) (fun hb H16 e16 => ?_) fun hb5 H16 e16 => ?_
    · have hb : m.deed = 5 := of_decide_eq_true hb
      have e16 := e15.trans e16
      have hk : m.k5 = 4 := by
        have := hmo.k0
        have := hmo.k1
        have := hk0 hb
        have := hk1 hb
        have := hk2 hb
        have := hk3 hb
        have := hk5 hb
        have := hk6 hb
        omega
      have q : ActQ K Ms a pl L0 st H Q E (actRe st st.rows ([("b", m.other), ("a", m.price)] : List (Str × Int))) := by
        unfold actOf at q
        simp only [hb] at q
        have hp : pairsOf m = ([("b", m.other), ("a", m.price)] : List (Str × Int)) := by unfold pairsOf; rw [hk]; rfl
        rw [hp] at q
        simpa using q
      exact s_retK (ev_var (v := .ref a) rfl) (e16 _ _ dk) rfl (ea_cons (mv (i := 6) e16 rfl rfl) (ea_cons (mv (i := 2) e16 rfl rfl) ea_nil)) rfl fun Hz ez => ⟨Ms, a, pl, L0, st, [("b", m.other), ("a", m.price)], rfl, rfl, hms.ex (e16.trans ez), hdk.ex (e16.trans ez), hz, pb _ (by simp), q.ex (e16.trans ez)⟩
    have hb5 : ¬ m.deed = 5 := of_decide_eq_false hb5
    have e16 := e15.trans e16
    have q : ActQ K Ms a pl L0 st H Q E (actSetP st m.name m.price) := by
      unfold actOf at q
      simpa only [hb0, hb1, hb2, hb3, hb6, hb7, hb8, hb9, hb10, hb5, if_false] using q
    refine q_setO (mv (i := 2) e16 rfl rfl) (ev_var (v := .ref a) rfl) (e16 _ _ dk) (mv (i := 1) e16 rfl rfl) fun Hz ez => ⟨Ms, a, pl, L0, st, m.name, m.price, rfl, hms.ex (e16.trans ez), hdk.ex (e16.trans ez), hz, hp1, ?_⟩
    exact q.non (fun i => actSetP_val i) (e16.trans ez)
end
end K7

/-! KAK: _law_tried. -/
namespace K7
open PySem PySem.Spec PyProof.Rows L2 Evl RZ
def TryQ (K : PySem.W.Frag) (Ms : List Addr) (a pl : Addr) (L0 : List SD) (st : SD) (H : Hp) (Q : VK) : Act → Prop
  | .bad c fs => ∀ p H', Ex H H' → H' p = some (.tup (badV c fs)) → Q (.ref p) H'
  | .new rows s cap => ∀ p H' names top, ExD a pl H H' → DeskF K Ms H' a pl (L0 ++ [st] ++ [⟨rows, s, cap, names, top⟩]) → H' p = some (.tup [.str "done", .non]) → Q (.ref p) H'
  | .val i => ∀ p H', Ex H H' → H' p = some (.tup [.str "done", .int i]) → Q (.ref p) H'
  | .back => ∀ p L1 st1 H', L0 = L1 ++ [st1] → ExD a pl H H' → DeskF K Ms H' a pl L0 → H' p = some (.tup [.str "done", .non]) → Q (.ref p) H'
  | .nothing => ∀ p H', Ex H H' → H' p = some (.tup [.str "nothing"]) → Q (.ref p) H'
def OkBad : Act → Prop
  | .bad c fs => (∃ x, c = "BadName" ∧ fs = nameBad x) ∨ (∃ x, c = "KnownName" ∧ fs = nameBad x) ∨ (∃ x, c = "UnknownName" ∧ fs = nameBad x) ∨ (∃ x, c = "BadNumber" ∧ fs = numBad x) ∨ (∃ x y, c = "TooMany" ∧ fs = fs2 "many" "most" [.int x, .int y])
  | _ => True
theorem ok_ite {c : Prop} [Decidable c] {x y : Act} (h1 : OkBad x) (h2 : OkBad y) : OkBad (if c then x else y) := by
  split <;> assumption
theorem okKn {x : Str} : OkBad (.bad "UnknownName" (nameBad x)) := .inr (.inr (.inl ⟨x, rfl, rfl⟩))
theorem okNb {x : Str} : OkBad (.bad "BadNumber" (numBad x)) := .inr (.inr (.inr (.inl ⟨x, rfl, rfl⟩)))
theorem okRe {st : SD} : ∀ {ps : List (Str × Int)} {rows : List Row}, OkBad (actRe st rows ps)
  | [], _ => True.intro
  | _ :: _, _ => ok_ite okKn (ok_ite okNb okRe)
theorem okAct {L0 : List SD} {st : SD} {m : Mv} : OkBad (actOf L0 st m) := by
  unfold actOf
  refine ok_ite (ok_ite (.inl ⟨_, rfl, rfl⟩) (ok_ite (.inr (.inl ⟨_, rfl, rfl⟩)) (ok_ite okNb (ok_ite okNb (ok_ite (.inr (.inr (.inr (.inr ⟨_, _, rfl, rfl⟩)))) True.intro))))) ?_
  refine ok_ite (ok_ite okKn True.intro) ?_
  refine ok_ite (ok_ite okKn (ok_ite okNb True.intro)) ?_
  refine ok_ite (ok_ite okKn (ok_ite okNb True.intro)) ?_
  refine ok_ite (ok_ite okNb True.intro) ?_
  refine ok_ite ?_ ?_
  · unfold actLimit
    cases m.limit with
    | none => exact True.intro
    | some i => exact ok_ite okNb True.intro
  refine ok_ite (ok_ite True.intro True.intro) ?_
  refine ok_ite (ok_ite okKn True.intro) ?_
  refine ok_ite (ok_ite okKn True.intro) ?_
  exact ok_ite okRe (ok_ite okKn (ok_ite okNb True.intro))
theorem try_act {K : PySem.W.Frag} {Ms : List Addr} {a pl : Addr} {L0 : List SD} {st : SD} {H : Hp} {Q Q' : VK} {E' : XK} {x : Act} (q : TryQ K Ms a pl L0 st H Q x) (hQ : ∀ v H', (∀ p, H' p = none → Q (.ref p) (upd H' p (.tup [.str "done", v]))) → Q' v H')
    (hE : ∀ c fs, x = .bad c fs → XR K E' H c fs) (hN : x = .nothing → ∀ H', Ex H H' → E' (.ref (He.ga K "NothingToUndo")) none H') : ActQ K Ms a pl L0 st H Q' E' x := by
  cases x with
  | bad c fs => exact hE _ _ rfl
  | new rows s cap => exact fun H' names top e hd => hQ _ _ fun p hp => q p _ names top (e.trans (Ex.d (Ex.new hp))) (hd.ex (Ex.new hp)) upd_same
  | val i => exact fun H' e => hQ _ _ fun p hp => q p _ (e.trans (Ex.new hp)) upd_same
  | back => exact fun L1 st1 H' hl e hd => hQ _ _ fun p hp => q p L1 st1 _ hl (e.trans (Ex.d (Ex.new hp))) (hd.ex (Ex.new hp)) upd_same
  | nothing => exact hN rfl
theorem TryQ.ex {K : PySem.W.Frag} {Ms : List Addr} {a pl : Addr} {L0 : List SD} {st : SD} {H H' : Hp} {Q : VK} {x : Act} (h : TryQ K Ms a pl L0 st H Q x) (e : Ex H H') : TryQ K Ms a pl L0 st H' Q x := by
  cases x with
  | bad c fs => exact fun p H2 e2 => h p H2 (e.trans e2)
  | new rows s cap => exact fun p H2 names top e2 => h p H2 names top ((Ex.d e).trans e2)
  | val i => exact fun p H2 e2 => h p H2 (e.trans e2)
  | back => exact fun p L1 st1 H2 hl e2 => h p L1 st1 H2 hl ((Ex.d e).trans e2)
  | nothing => exact fun p H2 e2 => h p H2 (e.trans e2)
theorem ev_xf {σ : L2.St} {H : Hp} {te : TE} {a C dd : Addr} {f : Str} {fs : List (Str × V)} {v : V} (h : Ev te σ H (.ref a)) (hd : H dd = some (.xd fs)) (hf : fs.lookup f = some v) : Ev (tXf a (.ref C) (some dd) C f te) σ H v := fun H1 e1 Q k =>
  h H1 e1 _ fun H2 e2 => ⟨rfl, rfl, dd, fs, v, rfl, (e1.trans e2) _ _ hd, hf, k H2 e2⟩
theorem wm_as {K : PySem.W.Frag} {Wout : WX} {D : Ends} {c cls : Value} {i : Nat} {ts : Addr → Value → Option Addr → TS} {r : List Cl} {d : Option Addr} {σ : L2.St} {H : Hp} (he : PySem.W.exmOne K cls c = some true) (h : ∀ a, H a = none → ts a cls d (endsAs i D) (σ.set i (some (.ref a))) H) : wManyA K Wout D (⟨c, some i, ts⟩ :: r) cls d σ H :=
  ⟨true, he, fun _ a ha => h a ha, fun h => by cases h⟩
theorem wm_yes {K : PySem.W.Frag} {Wout : WX} {D : Ends} {c cls : Value} {ts : Addr → Value → Option Addr → TS} {r : List Cl} {d : Option Addr} {σ : L2.St} {H : Hp} (he : PySem.W.exmOne K cls c = some true) (h : ∀ a, H a = none → ts a cls d D σ H) : wManyA K Wout D (⟨c, none, ts⟩ :: r) cls d σ H :=
  ⟨true, he, fun _ a ha => h a ha, fun h => by cases h⟩
theorem wm_no {K : PySem.W.Frag} {Wout : WX} {D : Ends} {c cls : Value} {oi : Option Nat} {ts : Addr → Value → Option Addr → TS} {r : List Cl} {d : Option Addr} {σ : L2.St} {H : Hp} (he : PySem.W.exmOne K cls c = some false) (h : wManyA K Wout D r cls d σ H) : wManyA K Wout D (⟨c, oi, ts⟩ :: r) cls d σ H :=
  ⟨false, he, fun h => (by cases h), fun _ => h⟩
section
variable {P : Program} {w : World} {K : PySem.W.Frag} {mg : Str → Option Value} {base : Heap}
theorem sc__law_tried : FnScope ["_law_desk", "_law_move_here", "e"] ["_law_desk", "_law_move_here"] (defScope s__law_tried) := ⟨rfl, rfl, rfl, by decide +kernel, rfl, by decide +kernel, by decide +kernel⟩
def spTried (K : PySem.W.Frag) : Sp := fun vs H Q _ => ∃ (Ms : List Addr) (a pl : Addr) (mv : V) (L0 : List SD) (st : SD) (m : Mv), vs = [.ref a, mv] ∧ Dq H mv (mvD m) ∧ MvOk m ∧ MsOk K Ms H ∧ DeskF K Ms H a pl (L0 ++ [st]) ∧ L0.length ≤ 900 ∧ TryQ K Ms a pl L0 st H Q (actOf L0 st m)
theorem ok__law_tried (T : TXG fileC fa fx fn P K mg) : FnB P w K mg base 29 (He.ga K "_law_tried") ["_law_desk", "_law_move_here"] (spTried K) := by
  refine fnb T.d__law_tried rfl sc__law_tried (fun vs H Q E h => ?_) (fun _ _ _ _ _ _ us hl => match us, hl with | [_, _], _ => rfl) (fun cdv A outer s H vs Q E hr h => ?_)
  · obtain ⟨_, _, _, _, _, _, _, rfl, _⟩ := h
    rfl
  · refine ⟨_, pss_one (ps_try_manyA (Wout := fun cls d _ H => E cls d H) (l := [⟨.ref (He.ga K "BadName"), some 2, _⟩, ⟨.ref (He.ga K "KnownName"), some 2, _⟩, ⟨.ref (He.ga K "UnknownName"), some 2, _⟩, ⟨.ref (He.ga K "BadNumber"), some 2, _⟩, ⟨.ref (He.ga K "TooMany"), some 2, _⟩, ⟨.ref (He.ga K "NothingToUndo"), none, _⟩]) rfl rfl sc__law_tried.nd (takes_of rfl rfl rfl rfl)
      (fun W pn xe tk _ => pss_one (ps_ret (pe_tup (pa_cons pe_str (pa_cons (pe_callRS (ok__law_do T).r (hr.mono (by decide)) T.k__law_do (by rfl) T.g__law_do (fun σ => passAt tk σ) (pa_cons (pv 0) (pa_cons (pv 1) pa_nil))) pa_nil)))))
      (.as_ rfl rfl ⟨by rfl, by decide, .inl T.g_BadName⟩ (fun a oe cls d pn hz hf => pss_one (ps_ret (pe_tup (pa_cons pe_str (pa_cons (pe_xf T.xf_BadName T.no_BadName_name hz hf (pv 2)) pa_nil)))))
      (.as_ rfl rfl ⟨by rfl, by decide, .inl T.g_KnownName⟩ (fun a oe cls d pn hz hf => pss_one (ps_ret (pe_tup (pa_cons pe_str (pa_cons (pe_xf T.xf_KnownName T.no_KnownName_name hz hf (pv 2)) pa_nil)))))
      (.as_ rfl rfl ⟨by rfl, by decide, .inl T.g_UnknownName⟩ (fun a oe cls d pn hz hf => pss_one (ps_ret (pe_tup (pa_cons pe_str (pa_cons (pe_xf T.xf_UnknownName T.no_UnknownName_name hz hf (pv 2)) pa_nil)))))
      (.as_ rfl rfl ⟨by rfl, by decide, .inl T.g_BadNumber⟩ (fun a oe cls d pn hz hf => pss_one (ps_ret (pe_tup (pa_cons pe_str (pa_cons (pe_xf T.xf_BadNumber T.no_BadNumber_what hz hf (pv 2)) (pa_cons (pe_xf T.xf_BadNumber T.no_BadNumber_at hz hf (pv 2)) pa_nil))))))
      (.as_ rfl rfl ⟨by rfl, by decide, .inl T.g_TooMany⟩ (fun a oe cls d pn hz hf => pss_one (ps_ret (pe_tup (pa_cons pe_str (pa_cons (pe_xf T.xf_TooMany T.no_TooMany_many hz hf (pv 2)) (pa_cons (pe_xf T.xf_TooMany T.no_TooMany_most hz hf (pv 2)) pa_nil))))))
      (.cons ⟨by rfl, by decide, .inl T.g_NothingToUndo⟩ (fun a oe cls d pn hz hf => pss_one (ps_ret (pe_tup (pa_cons pe_str pa_nil)))) .nil))))))), ?_⟩
    obtain ⟨Ms, a, pl, mv, L0, st, m, rfl, hm, hmo, hms, hdk, hz, q⟩ := h
    refine ⟨_, rfl, _, rfl, Ms, a, pl, mv, L0, st, m, rfl, hm, hmo, hms, hdk, hz, try_act q (fun v H' k => ⟨sz_of (show 2 ≤ 100000 by omega), fun p hp => k p hp⟩) (fun c fs hx => ?_) fun hx H' e => ?_⟩
    · have ok := okAct (L0 := L0) (st := st) (m := m)
      rw [hx] at ok q
      rcases ok with ⟨x, rfl, rfl⟩ | ⟨x, rfl, rfl⟩ | ⟨x, rfl, rfl⟩ | ⟨x, rfl, rfl⟩ | ⟨x, y, rfl, rfl⟩
      · have q := fun p H' e h => q p H' e (show H' p = some (.tup (duA (.bad _ _))) from h)
        rw [bad1] at q
        exact fun d H' e hd => wm_as T.exm_BadName_BadName fun a0 ha => s_due (ea_cons ev_c (ea_cons (ev_xf (ev_var rfl) hd rfl) ea_nil)) (by simp) fun p H2 _ e2 hp => q p H2 (e.trans e2) hp
      · have q := fun p H' e h => q p H' e (show H' p = some (.tup (duA (.bad _ _))) from h)
        rw [bad2] at q
        exact fun d H' e hd => wm_no T.exm_KnownName_BadName (wm_as T.exm_KnownName_KnownName fun a0 ha => s_due (ea_cons ev_c (ea_cons (ev_xf (ev_var rfl) hd rfl) ea_nil)) (by simp) fun p H2 _ e2 hp => q p H2 (e.trans e2) hp)
      · have q := fun p H' e h => q p H' e (show H' p = some (.tup (duA (.bad _ _))) from h)
        rw [bad3] at q
        exact fun d H' e hd => wm_no T.exm_UnknownName_BadName (wm_no T.exm_UnknownName_KnownName (wm_as T.exm_UnknownName_UnknownName fun a0 ha => s_due (ea_cons ev_c (ea_cons (ev_xf (ev_var rfl) hd rfl) ea_nil)) (by simp) fun p H2 _ e2 hp => q p H2 (e.trans e2) hp))
      · have q := fun p H' e h => q p H' e (show H' p = some (.tup (duA (.bad _ _))) from h)
        rw [bad4] at q
        exact fun d H' e hd => wm_no T.exm_BadNumber_BadName (wm_no T.exm_BadNumber_KnownName (wm_no T.exm_BadNumber_UnknownName (wm_as T.exm_BadNumber_BadNumber fun a0 ha => s_due (ea_cons ev_c (ea_cons (ev_xf (ev_var rfl) hd rfl) (ea_cons (ev_xf (ev_var rfl) hd rfl) ea_nil))) (by simp) fun p H2 _ e2 hp => q p H2 (e.trans e2) hp)))
      · have q := fun p H' e h => q p H' e (show H' p = some (.tup (duA (.bad _ _))) from h)
        rw [bad5] at q
        exact fun d H' e hd => wm_no T.exm_TooMany_BadName (wm_no T.exm_TooMany_KnownName (wm_no T.exm_TooMany_UnknownName (wm_no T.exm_TooMany_BadNumber (wm_as T.exm_TooMany_TooMany fun a0 ha => s_due (ea_cons ev_c (ea_cons (ev_xf (ev_var rfl) hd rfl) (ea_cons (ev_xf (ev_var rfl) hd rfl) ea_nil))) (by simp) fun p H2 _ e2 hp => q p H2 (e.trans e2) hp))))
    · rw [hx] at q
      exact wm_no T.exm_NothingToUndo_BadName (wm_no T.exm_NothingToUndo_KnownName (wm_no T.exm_NothingToUndo_UnknownName (wm_no T.exm_NothingToUndo_BadNumber (wm_no T.exm_NothingToUndo_TooMany (wm_yes T.exm_NothingToUndo_NothingToUndo fun a0 ha => s_due (ea_cons ev_c ea_nil) (by simp) fun p H2 _ e2 hp => q p H2 (e.trans e2) hp)))))
end
end K7

/-! KAL: _law_look, _law_desk_right. -/
namespace K7
open PySem PySem.Spec PyProof.Rows L2 Evl RZ
def lookD (st : SD) : PyData := .tuple [.list (st.names.map .str), .int st.top.1, .int st.top.2]
section
variable {K : PySem.W.Frag} {Ms : List Addr} {σ : L2.St} {H : Hp} {te t1 : TE} {a pl : Addr} {L0 : List SD} {st : SD} {E : XK}
theorem ep_lot (h : Ev te σ H (.ref a)) (hd : DeskF K Ms H a pl (L0 ++ [st])) : EvL (tProp (He.ga K "Desk") (spLot2 K) [] E te) σ H (st.names.map V.str) := fun H1 e1 Q k =>
  h H1 e1 _ fun H2 e2 => by
    obtain ⟨dx, b, dy, ln, d, kvs, qv, sts, c, _⟩ := (hd.ex (e1.trans e2)).cur
    exact ⟨a, dx, _, rfl, c.dk, Ms, a, pl, L0, st, rfl, hd.ex (e1.trans e2), fun p H3 hn e3 hp => k p H3 (fresh_back e2 hn) (e2.trans e3) hp⟩
theorem ep_worth (h : Ev te σ H (.ref a)) (hd : DeskF K Ms H a pl (L0 ++ [st])) : EvPr (tProp (He.ga K "Desk") (spWo2 K) [] E te) σ H (fun v H' => RatAt K H' v st.top) := fun H1 e1 Q k =>
  h H1 e1 _ fun H2 e2 => by
    obtain ⟨dx, b, dy, ln, d, kvs, qv, sts, c, _⟩ := (hd.ex (e1.trans e2)).cur
    exact ⟨a, dx, _, rfl, c.dk, Ms, a, pl, L0, st, rfl, hd.ex (e1.trans e2), fun v H3 e3 hv => k v H3 (e2.trans e3) hv⟩
theorem ev_get {f : SD → V} (h : Ev te σ H (.ref a)) (hd : DeskF K Ms H a pl (L0 ++ [st])) : Ev (tProp (He.ga K "Desk") (spGet K f) [] E te) σ H (f st) := fun H1 e1 Q k =>
  h H1 e1 _ fun H2 e2 => by
    obtain ⟨dx, b, dy, ln, d, kvs, qv, sts, c, _⟩ := (hd.ex (e1.trans e2)).cur
    exact ⟨a, dx, _, rfl, c.dk, Ms, a, pl, L0, st, rfl, hd.ex (e1.trans e2), fun H3 e3 => k H3 (e2.trans e3)⟩
theorem ev_lenDk (h : Ev te σ H (.ref a)) (hd : DeskF K Ms H a pl (L0 ++ [st])) : Ev (tCB (fun xs H Q => ∃ a dx fs, xs = [V.ref a] ∧ H a = some (.ins (He.ga K "Desk") dx fs) ∧ spLen K [.ref a] H (fun z H' => ∃ n : Nat, z = .int n ∧ n ≤ sizeLine ∧ Q (.int n) H') E) (tCons te tNil)) σ H (.int st.rows.length) := fun H1 e1 Q k =>
  h H1 e1 _ fun H2 e2 => by
    obtain ⟨dx, b, dy, ln, d, kvs, qv, sts, c, _⟩ := (hd.ex (e1.trans e2)).cur
    have hl := c.rw_.len
    have hl2 := c.ok.r.len
    exact ⟨a, dx, _, rfl, c.dk, a, dx, b, dy, d, _, _, kvs, rfl, c.dk, c.st_, .inl c.dc, kvs.length, rfl, sz_of (by omega), by rw [hl]; exact k H2 e2⟩
theorem ev_hasDk {x : Str} (hx : Ev t1 σ H (.str x)) (h : Ev te σ H (.ref a)) (hd : DeskF K Ms H a pl (L0 ++ [st])) : Ev (tOp (rOwnIn (He.ga K "Desk") (spHas K) E) t1 te) σ H (.bl (known st.rows x)) := fun H1 e1 Q k =>
  hx H1 e1 _ fun H2 e2 => h H2 (e1.trans e2) _ fun H3 e3 => by
    have E3 := e1.trans (e2.trans e3)
    obtain ⟨dx, b, dy, ln, d, kvs, qv, sts, c, _⟩ := (hd.ex E3).cur
    exact ⟨a, dx, _, rfl, c.dk, Ms, a, pl, L0, st, x, rfl, hd.ex E3, fun H4 e4 => ⟨_, rfl, k H4 ((e2.trans e3).trans e4)⟩⟩
theorem ev_nhasDk {x : Str} (hx : Ev t1 σ H (.str x)) (h : Ev te σ H (.ref a)) (hd : DeskF K Ms H a pl (L0 ++ [st])) : Ev (tOp (rOwnNotIn (He.ga K "Desk") (spHas K) E) t1 te) σ H (.bl (!known st.rows x)) := fun H1 e1 Q k =>
  hx H1 e1 _ fun H2 e2 => h H2 (e1.trans e2) _ fun H3 e3 => by
    have E3 := e1.trans (e2.trans e3)
    obtain ⟨dx, b, dy, ln, d, kvs, qv, sts, c, _⟩ := (hd.ex E3).cur
    exact ⟨a, dx, _, rfl, c.dk, Ms, a, pl, L0, st, x, rfl, hd.ex E3, fun H4 e4 => ⟨_, rfl, k H4 ((e2.trans e3).trans e4)⟩⟩
theorem ev_ixDk {x : Str} {f : Row → Int} (h : Ev te σ H (.ref a)) (hx : Ev t1 σ H (.str x)) (hd : DeskF K Ms H a pl (L0 ++ [st])) (hk : known st.rows x = true) : Ev (tOp (fun x y H Q => ∃ a dx fs, x = .ref a ∧ H a = some (.ins (He.ga K "Desk") dx fs) ∧ spWo K f [x, y] H Q E) te t1) σ H (.int (f (rowOf st.rows x))) := fun H1 e1 Q k =>
  h H1 e1 _ fun H2 e2 => hx H2 (e1.trans e2) _ fun H3 e3 => by
    have E3 := e1.trans (e2.trans e3)
    obtain ⟨dx, b, dy, ln, d, kvs, qv, sts, c, _⟩ := (hd.ex E3).cur
    refine ⟨a, dx, _, rfl, c.dk, Ms, a, pl, L0, st, x, rfl, hd.ex E3, ?_⟩
    unfold actGet
    rw [if_neg (by rw [hk]; simp)]
    exact fun H4 e4 => k H4 ((e2.trans e3).trans e4)
theorem ev_woDk {x : Str} {f : Row → Int} (h : Ev te σ H (.ref a)) (hx : Ev t1 σ H (.str x)) (hd : DeskF K Ms H a pl (L0 ++ [st])) (hk : known st.rows x = true) : Ev (tMethR (He.ga K "Desk") "weight_of" (spWo K f) E te (tCons t1 tNil)) σ H (.int (f (rowOf st.rows x))) := fun H1 e1 Q k =>
  h H1 e1 _ fun H2 e2 => by
    obtain ⟨dx, b, dy, ln, d, kvs, qv, sts, c, _⟩ := (hd.ex (e1.trans e2)).cur
    refine ⟨a, dx, _, rfl, c.dk, rfl, hx H2 (e1.trans e2) _ fun H3 e3 => ⟨Ms, a, pl, L0, st, x, rfl, hd.ex (e1.trans (e2.trans e3)), ?_⟩⟩
    unfold actGet
    rw [if_neg (by rw [hk]; simp)]
    exact fun H4 e4 => k H4 ((e2.trans e3).trans e4)
theorem ezf_listOf {p : Addr} {xs : List Str} (h : Ev te σ H (.ref p)) (hp : H p = some (.lst (xs.map V.str))) : EvZF Ms (tCB (rListS K) (tCons te tNil)) σ H (xs.map .str) := fun H4 e Q q => el_list h (sq_of hp) H4 e Q fun p H5 hn e5 hp => q p _ H5 e5 hn hp (DqAll.of_strs xs)
theorem el_listDk (h : Ev te σ H (.ref a)) (hd : DeskF K Ms H a pl (L0 ++ [st])) : EvL (tCB (fun xs H Q => ∃ a dx fs d kvs, xs = [V.ref a] ∧ H a = some (.ins (He.ga K "Desk") dx fs) ∧ H d = some (.dK kvs) ∧ kvs.length ≤ 1000 ∧
      (∀ n H1 od, (∀ b o, H b = some o → b ≠ d → H1 b = some o) → H1 d = some (.frz od (.dK kvs)) →
        spIter K n [.ref a] H1 (fun v H' => ∃ it, v = .ref it ∧ H1 it = none ∧ n ≤ it ∧ H' = upd H1 it (KItO od d it)) E0K ∧ spLen K [.ref a] H1 (fun v H' => v = .int kvs.length ∧ H' = H1) E0K) ∧
      ∀ p, H p = none → Q (.ref p) (upd H p (.lst (kvs.map fun kv => kV kv.1)))) (tCons te tNil)) σ H (st.rows.map fun r => V.str r.1) := fun H1 e1 Q k =>
  h H1 e1 _ fun H2 e2 => by
    obtain ⟨dx, b, dy, ln, d, kvs, qv, sts, c, _⟩ := (hd.ex (e1.trans e2)).cur
    have hl := c.rw_.len
    have hl2 := c.ok.r.len
    have nda : a ≠ d := by rintro rfl; have h1 := c.dk; rw [c.dc] at h1; cases h1
    have ndb : b ≠ d := by rintro rfl; have := c.dc; rw [c.st_] at this; cases this
    refine ⟨a, dx, _, d, kvs, rfl, c.dk, c.dc, by omega, fun n H3 od hk hfr => ⟨?_, ?_⟩, fun p hp => k p _ (fresh_back e2 hp) (e2.trans (Ex.new hp)) (by rw [← c.rw_.keys]; exact upd_same)⟩
    · exact ⟨a, dx, b, dy, d, _, _, kvs, od, rfl, hk _ _ c.dk nda, hk _ _ c.st_ ndb, hfr, fun it h1 h2 => ⟨it, rfl, h1, h2, rfl⟩⟩
    · exact ⟨a, dx, b, dy, d, _, _, kvs, rfl, hk _ _ c.dk nda, hk _ _ c.st_ ndb, .inr ⟨od, hfr⟩, rfl, rfl⟩
end
section
variable {P : Program} {w : World} {K : PySem.W.Frag} {mg : Str → Option Value} {base : Heap}
theorem sc__law_look : FnScope ["_law_desk", "_law_lot", "_law_worth"] ["_law_desk"] (defScope s__law_look) := ⟨rfl, rfl, rfl, by decide +kernel, rfl, by decide +kernel, by decide +kernel⟩
def spLook (K : PySem.W.Frag) : Sp := fun vs H Q _ => ∃ (Ms : List Addr) (a pl : Addr) (L0 : List SD) (st : SD), vs = [.ref a] ∧ Live Ms H ∧ DeskF K Ms H a pl (L0 ++ [st]) ∧ RetZ Ms (lookD st) H Q
theorem ok__law_look (T : TXG fileC fa fx fn P K mg) : FnB P w K mg base 5 (He.ga K "_law_look") ["_law_desk"] (spLook K) := by
  refine fnb T.d__law_look rfl sc__law_look (fun vs H Q E h => ?_) (fun _ _ _ _ _ _ us hl => match us, hl with | [_], _ => rfl) (fun cdv A outer s H vs Q E hr h => ?_)
  · obtain ⟨_, _, _, _, _, rfl, _⟩ := h
    rfl
  · refine ⟨_, (pss_cons (ps_set (i := 1) sc__law_look.nd rfl (Or.inl rfl) (pe_propB (pv 0) T.c_Desk T.pr_Desk_best_lot (ok_Desk_best_lot T) (hr.mono (by decide)) rfl))
      (pss_cons (ps_set (i := 2) sc__law_look.nd rfl (Or.inl rfl) (pe_propB (pv 0) T.c_Desk T.pr_Desk_best_worth (ok_Desk_best_worth T) (hr.mono (by decide)) rfl))
      (pss_cons (ps_if (PW.pt (pw_or (pt_not (pt_val (pe_callB call_isi (by rfl) T.n_isinstance (by decide +kernel) (pa_cons (pv 1) (pa_cons (pe_bltn (v := .ty "list") (by rfl) T.n_list PyProof.Rows.boot_list rfl) pa_nil))))) (pw_or1 (pt_not (pt_val (pe_callR (ok__law_is_ratio T).r (hr.mono (by decide)) T.k__law_is_ratio (by rfl) T.g__law_is_ratio passL (pa_cons (pv 2) pa_nil))))))) (pss_one (ps_ret pe_non)) pss_nil)
      (pss_one (ps_ret (pe_tup (pa_cons (pe_callTy call_list_of (by rfl) T.n_list (by decide +kernel) (pa_cons (pv 1) pa_nil)) (pa_cons (pe_fld (pv 2) rfl) (pa_cons (pe_fld (pv 2) rfl) pa_nil))))))))), ?_⟩
    obtain ⟨Ms, a, pl, L0, st, rfl, hL, hdk, q⟩ := h
    have ht : 1 ≤ st.top.2 := by
      obtain ⟨_, _, _, _, _, _, _, _, c, _⟩ := hdk.cur
      exact c.tb
    refine Evl.q_asgL (ep_lot (ev_var (v := .ref a) rfl) hdk) fun p H1 hp e1 hp1 => ?_
    refine q_asgP (ep_worth (ev_var (v := .ref a) rfl) (hdk.ex e1)) fun v H2 e2 hv => ?_
    refine Evl.q_when (b := false) (et_is (et_or (et_not (et_B (ev_isi (t := .type "list") (ev_var (v := .ref p) rfl) (.ty _) (fun H3 e => .base (.lst (e _ _ (e2 _ _ hp1)))) T.kit_list_list))) fun _ => et_not (et_B (ev_callE (ea_cons (ev_var rfl) ea_nil) fun H3 e3 Q k => ⟨v, st.top, rfl, stay_Rat _ _ _ _ e3 hv, ht, k⟩))) rfl) (fun h => by cases h) fun _ H3 e3 => ?_
    have hv3 := stay_Rat _ _ _ _ e3 hv
    have E3 := e1.trans (e2.trans e3)
    exact sz_ret (ez_tup (hL.ex E3) (ezs_cons (EvZF.toZ (hL.ex E3) (ezf_listOf (ev_var (v := .ref p) rfl) ((e2.trans e3) _ _ hp1))) (ezs_cons (ez_sc (EvD.of (ev_top T (ev_var rfl) hv3) fun _ _ => .int _) rfl) (ezs_cons (ez_sc (EvD.of (ev_bot T (ev_var rfl) hv3) fun _ _ => .int _) rfl) ezs_nil))) (by simp)) (q.mono E3)
theorem rowOf_at : ∀ {rows : List Row} {i : Nat} (hi : i < rows.length), (rows.map (·.1)).Nodup → rowOf rows rows[i].1 = rows[i]
  | r :: rows, 0, _, _ => rowOf_pos rfl
  | r :: rows, i + 1, hi, hn => by
    have hi' : i < rows.length := by simpa using hi
    have hn := List.nodup_cons.mp hn
    have hne : r.1 ≠ rows[i].1 := fun e => hn.1 (List.mem_map.mpr ⟨rows[i], List.getElem_mem hi', e.symm⟩)
    exact (rowOf_neg hne).trans (rowOf_at hi' hn.2)
theorem eu_row {σ : L2.St} {H : Hp} {te : TE} {r : Row} (h : EvD te σ H (rowD r)) : EvU (tSl (rSlT K) te (tPart (tC (.int 1))) tNoPart) σ H [.int r.2.1, .int r.2.2] := fun H1 e1 Q k =>
  h H1 e1 _ fun v H2 e2 hv => by
    obtain ⟨ra, rfl, hra⟩ := row_inv hv
    exact ⟨1, rfl, ra, _, rfl, st_of hra, by simp [HT.sIx], fun p hp => k p _ (fresh_back e2 hp) (e2.trans (Ex.new hp)) upd_same⟩
theorem ev_rowName {σ : L2.St} {H : Hp} {te : TE} {r : Row} (h : EvD te σ H (rowD r)) : Ev (tOp (rIxT K) te (tC (.int 0))) σ H (.str r.1) := EvD.vS (ed_ixU h ed_i rfl)
theorem sc__law_desk_right : FnScope ["_law_desk", "_law_state", "_law_names", "_law_rows", "_law_told", "_law_k", "_law_name"] ["_law_desk", "_law_state", "_law_names"] (defScope s__law_desk_right) := ⟨rfl, rfl, rfl, by decide +kernel, rfl, by decide +kernel, by decide +kernel⟩
def spRight (K : PySem.W.Frag) : Sp := fun vs H Q _ => ∃ (Ms : List Addr) (a pl : Addr) (sv nv : V) (L0 : List SD) (st : SD) (ns : List Str), vs = [.ref a, sv, nv] ∧ DeskF K Ms H a pl (L0 ++ [st]) ∧ Dq H sv (stD st) ∧ Dq H nv (.list (ns.map .str)) ∧ RetV (.bl true) H Q
theorem ok__law_desk_right (T : TXG fileC fa fx fn P K mg) : FnB P w K mg base 9 (He.ga K "_law_desk_right") ["_law_desk", "_law_state", "_law_names"] (spRight K) := by
  refine fnb T.d__law_desk_right rfl sc__law_desk_right (fun vs H Q E h => ?_) (fun _ _ _ _ _ _ us hl => match us, hl with | [_, _, _], _ => rfl) (fun cdv A outer s H vs Q E hr h => ?_)
  · obtain ⟨_, _, _, _, _, _, _, _, rfl, _⟩ := h
    rfl
  · refine ⟨_, (pss_cons (ps_set (i := 3) sc__law_desk_right.nd rfl (Or.inl rfl) (pe_ix ix_list (pv 1) pe_int (fun _ _ => rfl)))
      (pss_cons (ps_set (i := 4) sc__law_desk_right.nd rfl (Or.inl rfl) (pe_callTy (call_listOwnD T.fi_Desk___iter__ T.if_Desk___iter__ T.fi_Desk___len__ T.if_Desk___len__ (ok_Desk___iter__ T) ((ok_Desk___len__ T).r.mono (by decide)) (hr.mono (by decide))) (by rfl) T.n_list (by decide +kernel) (pa_cons (pv 0) pa_nil)))
      (pss_cons (ps_if (PW.pt (pw_or (pt_cmpR op_ne (pe_callB call_len_seq (by rfl) T.n_len PySem.boot_len (pa_cons (pv 4) pa_nil)) (pe_callB call_len_seq (by rfl) T.n_len PySem.boot_len (pa_cons (pv 3) pa_nil)) (nomark _)) (pw_or1 (pt_cmpR op_ne (pe_callB (call_ownLen T.fi_Desk___len__ T.if_Desk___len__ (ok_Desk___len__ T).r (hr.mono (by decide)) passL) (by rfl) T.n_len PySem.boot_len (pa_cons (pv 0) pa_nil)) (pe_callB call_len_seq (by rfl) T.n_len PySem.boot_len (pa_cons (pv 3) pa_nil)) (nomark _))))) (pss_one (ps_ret pe_bl)) pss_nil)
      (pss_cons (ps_for (passes_of rfl) rfl (pi_range1 (by rfl) T.n_range (pa_cons (pe_callB call_len_seq (by rfl) T.n_len PySem.boot_len (pa_cons (pv 3) pa_nil)) pa_nil)) (pg_name (i := 5) sc__law_desk_right.nd rfl (Or.inl rfl))
      (pss_cons (ps_set (i := 6) sc__law_desk_right.nd rfl (Or.inl rfl) (pe_ix ix_tup (pe_ix ix_list (pv 3) (pv 5) (fun _ _ => rfl)) pe_int (fun _ _ => rfl)))
      (pss_cons (ps_if (PW.pt (pw_or (pt_not (pt_val (pe_callB call_isi (by rfl) T.n_isinstance (by decide +kernel) (pa_cons (pe_ix ix_list (pv 4) (pv 5) (fun _ _ => rfl)) (pa_cons (pe_bltn (v := .ty "str") (by rfl) T.n_str PyProof.Rows.boot_str rfl) pa_nil))))) (pw_or (pt_cmpR op_ne (pe_ix ix_list (pv 4) (pv 5) (fun _ _ => rfl)) (pv 6) (nomark _)) (pw_or1 (pt_cmpR (op_ownNotIn T.fi_Desk___contains__ T.if_Desk___contains__ (ok_Desk___contains__ T).r (hr.mono (by decide)) passL) (pv 6) (pv 0) (by rfl)))))) (pss_one (ps_ret pe_bl)) pss_nil)
      (pss_one (ps_if (pt_not (pt_val (pe_callR (ok__law_same_lot T).r (hr.mono (by decide)) T.k__law_same_lot (by rfl) T.g__law_same_lot passL (pa_cons (pe_tup (pa_cons (pe_ownIx T.fi_Desk___getitem__ T.fn_Desk___getitem__ T.if_Desk___getitem__ (ok_Desk___getitem__ T).r (hr.mono (by decide)) (passes_call (takes_of rfl rfl rfl rfl) (fun _ _ _ _ z => z)) (pv 0) (pv 6)) (pa_cons (pe_methR (pv 0) T.c_Desk T.me_Desk_weight_of (ok_Desk_weight_of T).r (hr.mono (by decide)) (passes_call (takes_of rfl rfl rfl rfl) (fun _ _ _ _ z => z)) (pa_cons (pv 6) pa_nil)) pa_nil))) (pa_cons (pe_slice sl_tup (pe_ix ix_list (pv 3) (pv 5) (fun _ _ => rfl)) (po_some pe_int) po_none) pa_nil))))) (pss_one (ps_ret pe_bl)) pss_nil)))))
      (pss_cons (ps_for (passes_of rfl) rfl (pi_list (pv 2)) (pg_name (i := 6) sc__law_desk_right.nd rfl (Or.inl rfl))
      (pss_one (ps_if (pt_cmpR op_ne (pe_cmpR (op_ownIn T.fi_Desk___contains__ T.if_Desk___contains__ (ok_Desk___contains__ T).r (hr.mono (by decide)) passL) (pv 6) (pv 0) (by rfl)) (pe_cmpR op_ge (pe_callR (ok__law_place T).r (hr.mono (by decide)) T.k__law_place (by rfl) T.g__law_place passL (pa_cons (pv 3) (pa_cons (pv 6) pa_nil))) pe_int (nomark _)) (nomark _)) (pss_one (ps_ret pe_bl)) pss_nil)))
      (pss_cons (ps_if (PW.pt (pw_and (pt_cmpR op_isN (pe_ix ix_list (pv 1) pe_int (fun _ _ => rfl)) pe_non (nomark _)) (pw_and1 (pt_cmpR op_notN (pe_propB (pv 0) T.c_Desk T.pr_Desk_limit (ok_Desk_limit T) (hr.mono (by decide)) rfl) pe_non (nomark _))))) (pss_one (ps_ret pe_bl)) pss_nil)
      (pss_cons (ps_if (PW.pt (pw_and (pt_cmpR op_notN (pe_ix ix_list (pv 1) pe_int (fun _ _ => rfl)) pe_non (nomark _)) (pw_and1 (pt_not (pt_val (pe_callR (ok__law_same_lot T).r (hr.mono (by decide)) T.k__law_same_lot (by rfl) T.g__law_same_lot passL (pa_cons (pe_tup (pa_cons (pe_propB (pv 0) T.c_Desk T.pr_Desk_limit (ok_Desk_limit T) (hr.mono (by decide)) rfl) pa_nil)) (pa_cons (pe_tup (pa_cons (pe_ix ix_list (pv 1) pe_int (fun _ _ => rfl)) pa_nil)) pa_nil)))))))) (pss_one (ps_ret pe_bl)) pss_nil)
      (pss_one (ps_ret (pe_callR (ok__law_same_lot T).r (hr.mono (by decide)) T.k__law_same_lot (by rfl) T.g__law_same_lot passL (pa_cons (pe_tup (pa_cons (pe_propB (pv 0) T.c_Desk T.pr_Desk_aside_weight (ok_Desk_aside_weight T) (hr.mono (by decide)) rfl) pa_nil)) (pa_cons (pe_tup (pa_cons (pe_ix ix_list (pv 1) pe_int (fun _ _ => rfl)) pa_nil)) pa_nil)))))))))))), ?_⟩
    obtain ⟨Ms, a, pl, sv, nv, L0, st, ns, rfl, hdk, hs, hn, q⟩ := h
    obtain ⟨_, _, _, _, _, _, _, _, c, _⟩ := hdk.cur
    have hrl := c.ok.r.len
    have hnd := c.ok.r.nd
    clear c
    refine qd_asg (d := rowsD st.rows) (ed_ixL (ds := [rowsD st.rows, .int st.s, capD st.cap]) (ed_var rfl hs) ed_i rfl) fun rv H1 e1 hrv => ?_
    refine Evl.q_asgL (el_listDk (ev_var (v := .ref a) rfl) (hdk.ex e1)) fun tl H2 htl e2 htl2 => ?_
    have E2 := e1.trans e2
    have len : ∀ {σ : L2.St} {H3 : Hp}, Ex H2 H3 → σ[4]? = some (some (.ref tl)) → Ev (tCB (fun xs H Q => ∃ p ys, xs = [V.ref p] ∧ (SqL K H p ys ∨ SqT K H p ys) ∧ Q (V.int ys.length) H) (tCons (tVar 4) tNil)) σ H3 (.int st.rows.length) := fun {σ H3} e hs => ev_cb (ea_cons (ev_var hs) ea_nil) fun H4 e4 Q k => ⟨tl, _, rfl, .inl (sq_of ((e.trans e4) _ _ htl2)), by rw [List.length_map]; exact k H4 (Ex.refl _)⟩
    have rows : ∀ {σ : L2.St} {H3 : Hp}, Ex H2 H3 → σ[3]? = some (some rv) → EvD (tVar 3) σ H3 (rowsD st.rows) := fun e hs => ed_var hs (hrv.ex (e2.trans e))
    refine Evl.q_when (b := false) (et_is (et_or (et_B (ev_op (len (Ex.refl _) rfl) (ev_lenR (ev_var (v := rv) rfl) (hrv.ex e2)) (rv_ne rfl))) fun _ => et_B (ev_op (ev_lenDk (ev_var (v := .ref a) rfl) (hdk.ex E2)) (ev_lenR (ev_var (v := rv) rfl) (hrv.ex e2)) (rv_ne rfl))) (by simp)) (fun h => by cases h) fun _ H3 e3 => ?_
    refine eq_for (n := st.rows.length) (ei_rng (ea_cons (ev_lenR (ev_var (v := rv) rfl) (hrv.ex (e2.trans e3))) ea_nil) (by omega)) (by omega) fun H4 e4 => ?_
    have E4 := e3.trans e4
    refine ⟨fun i σ' H' => Ex H4 H' ∧ ∃ o5 o6 : Option V, σ' = [some (.ref a), some sv, some nv, some rv, some (.ref tl), o5, o6], ⟨Ex.refl _, none, none, rfl⟩, fun _ _ _ h => h.1, ?_, ?_⟩
    · rintro i x σ' H' H'' hi ⟨h1, o5, o6, rfl⟩ h2 rfl
      have E5 := E4.trans (h1.trans h2)
      have row : ∀ {σ : L2.St} {H6 : Hp}, Ex H'' H6 → σ[3]? = some (some rv) → σ[5]? = some (some (.int (i : Int))) → EvD (tOp (rIxL K) (tVar 3) (tVar 5)) σ H6 (rowD st.rows[i]) := fun e h3 h5 => ed_ixL (rows (E5.trans e) h3) (ed_var h5 (.int _)) (at_row hi)
      refine Evl.q_asg (ev_rowName (row (Ex.refl _) rfl rfl)) fun H6 e6 => ?_
      have hkn : known st.rows st.rows[i].1 = true := decide_eq_true (List.mem_map.mpr ⟨_, List.getElem_mem hi, rfl⟩)
      have E6 := E5.trans e6
      have hdk6 := hdk.ex (E2.trans E6)
      have told : ∀ {σ : L2.St} {H7 : Hp}, Ex H'' H7 → σ[4]? = some (some (.ref tl)) → σ[5]? = some (some (.int (i : Int))) → Ev (tOp (rIxL K) (tVar 4) (tVar 5)) σ H7 (.str st.rows[i].1) := fun e h4 h5 => ev_op (ev_var h4) (ev_var h5) (rv_ixL (sq_of ((E5.trans e) _ _ htl2)) (by
        unfold atI
        rw [List.length_map, ixN_nat hi]
        show (st.rows.map _)[i]? = _
        rw [List.getElem?_map, List.getElem?_eq_getElem hi]; rfl))
      refine Evl.q_when (b := false) (et_is (et_or (et_not (et_B (ev_isi (t := .type "str") (told e6 rfl rfl) (.ty _) (fun H1 e => .base (.str _)) T.kit_str_str))) fun _ => et_or (et_B (ev_op (told e6 rfl rfl) (ev_var rfl) (rv_ne rfl))) fun _ => et_B (ev_nhasDk (ev_var rfl) (ev_var (v := .ref a) rfl) hdk6)) (by simp [hkn])) (fun h => by cases h) fun _ H7 e7 => ?_
      have hdk7 := hdk6.ex e7
      have hro := rowOf_at hi hnd
      refine Evl.s_when (b := false) (et_is (et_not (et_B (ev_same (is := [st.rows[i].2.1, st.rows[i].2.2]) (eu_tup (ea_cons (ev_is (ev_ixDk (f := fun r => r.2.1) (ev_var (v := .ref a) rfl) (ev_var rfl) hdk7 hkn) (by rw [hro])) (ea_cons (ev_is (ev_woDk (f := fun r => r.2.2) (ev_var (v := .ref a) rfl) (ev_var rfl) hdk7 hkn) (by rw [hro])) ea_nil)) (by simp)) (eu_row (row (e6.trans e7) rfl rfl)) (by simp)))) rfl) (fun h => by cases h) fun _ H8 e8 => ?_
      exact ⟨h1.trans (h2.trans (e6.trans (e7.trans e8))), _, _, rfl⟩
    · rintro σ' H' ⟨h1, o5, o6, rfl⟩
      have E5 := E2.trans (E4.trans h1)
      refine qd_forL (ds := ns.map .str) (ed_var rfl (hn.ex E5)) fun H5 e5 => ?_
      have E5 := E5.trans e5
      refine ⟨fun i σ' H' => Ex H5 H' ∧ ∃ o6 : Option V, σ' = [some (.ref a), some sv, some nv, some rv, some (.ref tl), o5, o6], ⟨Ex.refl _, o6, rfl⟩, fun _ _ _ h => h.1, ?_, ?_⟩
      · rintro i u d σ' H' hd hu ⟨h1', o6', rfl⟩
        rw [List.getElem?_map] at hd
        cases hq : ns[i]? with
        | none => rw [hq] at hd; cases hd
        | some x =>
          rw [hq] at hd
          cases hd
          obtain rfl := hu.str_inv
          have E6 := E5.trans h1'
          refine Evl.s_when (b := false) (et_is (et_B (ev_op (ev_hasDk (ev_var rfl) (ev_var (v := .ref a) rfl) (hdk.ex E6)) (ev_op (ev_place (ev_var rfl) (hrv.ex (e2.trans (E4.trans (h1.trans (e5.trans h1'))))) hrl (ev_var rfl)) ev_c rv_I0) (rv_ne rfl))) (by rw [place_ge]; simp)) (fun h => by cases h) fun _ H6 e6 => ?_
          exact ⟨h1'.trans e6, _, rfl⟩
      · rintro σ' H' ⟨h1', o6', rfl⟩
        have E6 := E5.trans h1'
        have cap : ∀ {σ : L2.St} {H6 : Hp}, Ex H' H6 → σ[1]? = some (some sv) → Ev (tOp (rIxL K) (tVar 1) (tC (.int 2))) σ H6 (capV st.cap) := fun e h => fun H7 e7 Q k => (ed_ixL (ds := [rowsD st.rows, .int st.s, capD st.cap]) (ed_var h (hs.ex (E6.trans e))) ed_i rfl) H7 e7 Q fun v H8 e8 hv => by rw [cap_inv hv]; exact k H8 e8
        have dk : ∀ {H6 : Hp}, Ex H' H6 → DeskF K Ms H6 a pl (L0 ++ [st]) := fun e => hdk.ex (E6.trans e)
        have isn : ∀ {σ : L2.St} {H6 : Hp} {te : TE} {v : V}, Ev te σ H6 v → Ev (tOp (fun x y H Q => y = V.non ∧ Q (V.bl (decide (x = V.non))) H) te (tC .non)) σ H6 (.bl (decide (v = .non))) := fun h => ev_op h ev_c (rv_val fun H1 e1 Q k => ⟨rfl, k⟩)
        have nn : ∀ {σ : L2.St} {H6 : Hp} {te : TE} {v : V}, Ev te σ H6 v → Ev (tOp (fun x y H Q => y = V.non ∧ Q (V.bl (!decide (x = V.non))) H) te (tC .non)) σ H6 (.bl (!decide (v = .non))) := fun h => ev_op h ev_c (rv_val fun H1 e1 Q k => ⟨rfl, k⟩)
        refine Evl.q_when (b := false) (et_is (et_and (et_B (isn (cap (Ex.refl _) rfl))) fun _ => et_B (nn (ev_get (f := fun st => capV st.cap) (ev_var (v := .ref a) rfl) (dk (Ex.refl _))))) (by simp)) (fun h => by cases h) fun _ H7 e7 => ?_
        refine Evl.q_when (b := false) ?_ (fun h => by cases h) fun _ H8 e8 => ?_
        · cases hc : st.cap with
          | none =>
            refine et_is (et_and (b := false) (et_B (nn (cap e7 rfl))) fun h => ?_) (by rw [hc]; rfl)
            rw [hc] at h
            cases h
          | some i =>
            refine et_is (et_and (et_B (nn (cap e7 rfl))) fun h => et_not (et_B (ev_same (is := [i]) (eu_tup (ea_cons (ev_is (ev_get (f := fun st => capV st.cap) (ev_var (v := .ref a) rfl) (dk e7)) (by rw [hc]; rfl)) ea_nil) (by simp)) (eu_tup (ea_cons (ev_is (cap e7 rfl) (by rw [hc]; rfl)) ea_nil) (by simp)) (by simp)))) (by simp)
        have E8 := e7.trans e8
        exact Evl.s_ret (ev_same (is := [st.s]) (eu_tup (ea_cons (ev_get (f := fun st => .int st.s) (ev_var (v := .ref a) rfl) (dk E8)) ea_nil) (by simp)) (eu_tup (ea_cons (EvD.vI (ed_ixL (ds := [rowsD st.rows, .int st.s, capD st.cap]) (ed_var rfl (hs.ex (E6.trans E8))) ed_i rfl)) ea_nil) (by simp)) (by simp)) fun H9 e9 => q H9 (E6.trans (E8.trans e9))
end
end K7

/-! KAM: _law_stands, _law_steps. -/
namespace K7
open PySem PySem.Spec PyProof.Rows L2 Evl RZ
theorem lets_lt : ∀ c ∈ lets.cps.toList, c < 0x110000 := by decide +kernel
theorem str_lay {x : Str} (h : nmOk x = true) : (PyData.str x).canLay0 = true := by
  unfold nmOk at h
  have h2 := (Bool.and_eq_true_iff.mp h).2
  rw [PyData.canLay0]
  unfold PyData.strOk
  rw [Array.all_eq_true_iff_forall_mem]
  intro c hc
  have := of_decide_eq_true (List.all_eq_true.mp h2 c (by simpa using hc))
  exact decide_eq_true (lets_lt c this)
theorem lay_strs : ∀ xs : List Str, (∀ x ∈ xs, nmOk x = true) → PyData.canLayAll0 (xs.map .str) = true
  | [], _ => rfl
  | x :: xs, h => by
    rw [List.map_cons, PyData.canLayAll0, lay_strs xs fun y hy => h y (List.mem_cons_of_mem _ hy), str_lay (h x List.mem_cons_self)]
    rfl
theorem dep_strs : ∀ xs : List Str, PyData.depthAll (xs.map .str) = 0
  | [] => rfl
  | x :: xs => by
    rw [List.map_cons, PyData.depthAll, dep_strs xs]
    rfl
theorem lay_look {st : SD} (h : NsOk st.names) : (lookD st).canLay0 = true := by
  unfold lookD
  rw [PyData.canLay0, PyData.canLayAll0, PyData.canLay0, lay_strs _ h.2]
  rfl
theorem shp_look {st : SD} (h : NsOk st.names) : SeqAt.shaped (lookD st) = true := by
  unfold SeqAt.shaped
  rw [lay_look h]
  have : (lookD st).depth = 2 := by
    unfold lookD
    rw [PyData.depth, PyData.depthAll, PyData.depth, dep_strs]
    rfl
  rw [this]
  rfl
section
variable {P : Program} {w : World} {K : PySem.W.Frag} {mg : Str → Option Value} {base : Heap}
theorem sc__law_stands : FnScope ["_law_desk", "_law_states", "_law_looks", "_law_names"] ["_law_desk", "_law_states", "_law_looks", "_law_names"] (defScope s__law_stands) := ⟨rfl, rfl, rfl, by decide +kernel, rfl, by decide +kernel, by decide +kernel⟩
def spStands (K : PySem.W.Frag) : Sp := fun vs H Q _ => ∃ (Ms : List Addr) (a pl : Addr) (v lv nv : V) (L0 : List SD) (st : SD) (ns : List Str), vs = [.ref a, v, lv, nv] ∧ Live Ms H ∧ DeskF K Ms H a pl (L0 ++ [st]) ∧ Dq H v (.list ((L0 ++ [st]).map stD)) ∧ Dq H lv (.list ((L0 ++ [st]).map lookD)) ∧ Dq H nv (.list (ns.map .str)) ∧ RetV (.bl true) H Q
theorem ok__law_stands (T : TXG fileC fa fx fn P K mg) : FnB P w K mg base 11 (He.ga K "_law_stands") ["_law_desk", "_law_states", "_law_looks", "_law_names"] (spStands K) := by
  refine fnb T.d__law_stands rfl sc__law_stands (fun vs H Q E h => ?_) (fun _ _ _ _ _ _ us hl => match us, hl with | [_, _, _, _], _ => rfl) (fun cdv A outer s H vs Q E hr h => ?_)
  · obtain ⟨_, _, _, _, _, _, _, _, _, rfl, _⟩ := h
    rfl
  · have hu64 := hr.units
    refine ⟨_, (pss_cons (ps_if (PW.pt (pw_or (pt_cmpR op_isN (pe_ix ix_list (pv 2) (pe_un un_neg pe_int) (fun _ _ => rfl)) pe_non (nomark _)) (pw_or1 (pt_cmpR (op_neD hu64) (pe_callR (ok__law_look T).r (hr.mono (by decide)) T.k__law_look (by rfl) T.g__law_look passL (pa_cons (pv 0) pa_nil)) (pe_ix ix_list (pv 2) (pe_un un_neg pe_int) (fun _ _ => rfl)) (nomark _))))) (pss_one (ps_ret pe_bl)) pss_nil)
      (pss_one (ps_ret (pe_callR (ok__law_desk_right T).r (hr.mono (by decide)) T.k__law_desk_right (by rfl) T.g__law_desk_right passL (pa_cons (pv 0) (pa_cons (pe_ix ix_list (pv 1) (pe_un un_neg pe_int) (fun _ _ => rfl)) (pa_cons (pv 3) pa_nil))))))), ?_⟩
    obtain ⟨Ms, a, pl, v, lv, nv, L0, st, ns, rfl, hL, hdk, hv, hlv, hnv, q⟩ := h
    obtain ⟨_, _, _, _, _, _, _, _, c, _⟩ := hdk.cur
    have hnl := c.nl
    have htb := c.tb
    clear c
    rw [List.map_append] at hv hlv
    have last : ∀ {σ : L2.St} {H1 : Hp}, Ex H H1 → σ[2]? = some (some lv) → EvD (tOp (rIxL K) (tVar 2) (tUn (rU fun i => .int (-i)) (tC (.int 1)))) σ H1 (lookD st) := fun e h2 => ed_ixL (ed_var h2 (hlv.ex e)) (ed_neg ed_i) atI_last
    have look : EvD (fun σ H Q => tCons (tVar 0) tNil σ H fun vs H1 => spLook K vs H1 Q E0) [some (.ref a), some v, some lv, some nv] H (lookD st) := fun H1 e1 Q k => ⟨_, rfl, Ms, a, pl, L0, st, rfl, hL.ex e1, hdk.ex e1, fun v H2 e2 hv => k v H2 e2 (hv.ex fz_ex)⟩
    refine Evl.q_when (b := false) (et_is (et_or (b := false) (et_DB (ed_isN (last (Ex.refl _) rfl))) fun _ => et_DB fun H1 e1 Q k => look H1 e1 _ fun u H2 e2 hu => last (e1.trans e2) rfl H2 (Ex.refl _) _ fun z H3 e3 hz => ?_) rfl) (fun h => by cases h) fun _ H1 e1 => ?_
    · refine ⟨lookD st, lookD st, (hu.ex e3).dp, hz.dp, shp_look hnl, shp_look hnl, ?_⟩
      rw [SeqAt.eqv_refl _ (lay_look hnl)]
      exact k _ H3 (e2.trans e3) (.bl _)
    · exact ⟨_, rfl, (ed_ixL (ed_var rfl (hv.ex e1)) (ed_neg ed_i) atI_last) H1 (Ex.refl _) _ fun u H2 e2 hu => ⟨_, rfl, Ms, a, pl, u, nv, L0, st, ns, rfl, hdk.ex (e1.trans e2), hu, hnv.ex (e1.trans e2), fun H3 e3 => q H3 ((e1.trans e2).trans e3)⟩⟩
end
end K7

/-! KAN: _law_steps. -/
namespace K7
open PySem PySem.Spec PyProof.Rows L2 Evl RZ
def statesD (L : List SD) : PyData := .list (L.map stD)
def looksD (L : List SD) : PyData := .list (L.map lookD)
structure BadVs (vs : List V) : Prop where
  hd : ∃ t r, vs = .str t :: r ∧ t ≠ ("done" : Str)
  sc : ∀ x ∈ vs, Sc3 x
  len : vs.length ≤ 3
theorem ndone {t : Str} (h : decide (t = ("done" : Str)) = false) : t ≠ ("done" : Str) := of_decide_eq_false h
theorem okBad_vs {x : Act} (h : OkBad x) (hx : duA x ≠ [.str "done"]) : BadVs (duA x) := by
  cases x with
  | new _ _ _ => exact absurd rfl hx
  | val _ => exact absurd rfl hx
  | back => exact absurd rfl hx
  | nothing => exact ⟨⟨_, _, rfl, ndone (by decide +kernel)⟩, fun x hx => (by cases hx with | head => exact .str _ | tail _ h => cases h), by simp [duA]⟩
  | bad c fs =>
    rcases h with ⟨x, rfl, rfl⟩ | ⟨x, rfl, rfl⟩ | ⟨x, rfl, rfl⟩ | ⟨x, rfl, rfl⟩ | ⟨x, y, rfl, rfl⟩
    · rw [bad1]
      exact ⟨⟨_, _, rfl, ndone (by decide +kernel)⟩, fun z hz => by simp at hz; rcases hz with rfl | rfl <;> exact .str _, by simp⟩
    · rw [bad2]
      exact ⟨⟨_, _, rfl, ndone (by decide +kernel)⟩, fun z hz => by simp at hz; rcases hz with rfl | rfl <;> exact .str _, by simp⟩
    · rw [bad3]
      exact ⟨⟨_, _, rfl, ndone (by decide +kernel)⟩, fun z hz => by simp at hz; rcases hz with rfl | rfl <;> exact .str _, by simp⟩
    · rw [bad4]
      exact ⟨⟨_, _, rfl, ndone (by decide +kernel)⟩, fun z hz => by simp at hz; rcases hz with rfl | rfl | rfl <;> first | exact .str _ | exact .non, by simp⟩
    · rw [bad5]
      exact ⟨⟨_, _, rfl, ndone (by decide +kernel)⟩, fun z hz => by simp at hz; rcases hz with rfl | rfl | rfl <;> first | exact .str _ | exact .int _, by simp⟩
def StepTo (L0 : List SD) (st : SD) (u : V) (L' : List SD) : Act → Prop
  | .new rows s cap => u = .non ∧ ∃ names top, L' = L0 ++ [st] ++ [⟨rows, s, cap, names, top⟩]
  | .val i => u = .int i ∧ L' = L0 ++ [st]
  | .back => u = .non ∧ L' = L0 ∧ L0 ≠ []
  | _ => False
theorem try_split {K : PySem.W.Frag} {Ms : List Addr} {a pl : Addr} {L0 : List SD} {st : SD} {H : Hp} {Q : VK} {x : Act} (hok : OkBad x) (hd : DeskF K Ms H a pl (L0 ++ [st]))
    (h1 : BadVs (duA x) → ∀ r H', Ex H H' → H' r = some (.tup (duA x)) → Q (.ref r) H')
    (h2 : duA x = [.str "done"] → ∀ u r L' H', StepTo L0 st u L' x → ExD a pl H H' → DeskF K Ms H' a pl L' → H' r = some (.tup [.str "done", u]) → Q (.ref r) H') : TryQ K Ms a pl L0 st H Q x := by
  cases x with
  | bad c fs =>
    refine fun p H' e hp => h1 (okBad_vs hok ?_) p H' e hp
    intro h
    have := congrArg List.length h
    rcases hok with ⟨x, rfl, rfl⟩ | ⟨x, rfl, rfl⟩ | ⟨x, rfl, rfl⟩ | ⟨x, rfl, rfl⟩ | ⟨x, y, rfl, rfl⟩ <;> simp [duA, badV, nameBad, numBad, fs1, fs2] at this
  | new rows s cap => exact fun p H' names top e hd hp => h2 rfl _ p _ H' ⟨rfl, names, top, rfl⟩ e hd hp
  | val i => exact fun p H' e hp => h2 rfl _ p _ H' ⟨rfl, rfl⟩ (Ex.d e) (hd.ex e) hp
  | back => exact fun p L1 st1 H' hl e hd hp => h2 rfl _ p _ H' ⟨rfl, rfl, by rw [hl]; simp⟩ e hd hp
  | nothing =>
    refine fun p H' e hp => h1 (okBad_vs hok ?_) p H' e hp
    intro h
    have h : (V.str "nothing") = V.str "done" := (List.cons.inj h).1
    have h : ("nothing" : Str) = "done" := by injection h
    exact absurd h (of_decide_eq_false (by decide +kernel))
theorem after_of {Ms : List Addr} {L0 L' : List SD} {st : SD} {u : V} {H : Hp} {Q : VK} {x : Act} (h : StepTo L0 st u L' x) (q : RetZ Ms (statesD L') H Q) : AfterQ Ms L0 st H Q x := by
  cases x with
  | bad c fs => exact h
  | new rows s cap =>
    obtain ⟨_, names, top, rfl⟩ := h
    unfold statesD at q
    rw [List.map_append] at q
    exact q
  | val i =>
    obtain ⟨_, rfl⟩ := h
    exact q
  | back =>
    obtain ⟨_, rfl, _⟩ := h
    exact q
  | nothing => exact h
theorem ite_k {c : Prop} [Decidable c] {x y : Act} {P : Act → Prop} (h1 : P x) (h2 : P y) : P (if c then x else y) := by
  split <;> assumption
theorem atI_zero {α : Type} {x : α} {r : List α} : atI (x :: r) 0 = some x := by
  unfold atI
  rw [show ((0 : Int)) = ((0 : Nat) : Int) from rfl, ixN_nat (by simp)]
  rfl
/-- what the number of the deed says -/
def Kind (d : Int) : Act → Prop
  | .new _ _ _ => d < 8
  | .val _ => 8 < d
  | .back => d = 8
  | _ => True
theorem kindRe {st : SD} {d : Int} (hd : d < 8) : ∀ {ps : List (Str × Int)} {rows : List Row}, Kind d (actRe st rows ps)
  | [], _ => hd
  | _ :: _, _ => ite_k True.intro (ite_k True.intro (kindRe hd))
theorem kindAct {L0 : List SD} {st : SD} {m : Mv} (hm : MvOk m) : Kind m.deed (actOf L0 st m) := by
  rcases deed_cases hm with h | h | h | h | h | h | h | h | h | h | h <;> unfold actOf <;> simp only [h] <;> simp
  · exact ite_k True.intro (ite_k True.intro (ite_k True.intro (ite_k True.intro (ite_k True.intro (show (0 : Int) < 8 by omega)))))
  · exact ite_k True.intro (show (1 : Int) < 8 by omega)
  · exact ite_k True.intro (ite_k True.intro (show (2 : Int) < 8 by omega))
  · exact ite_k True.intro (ite_k True.intro (show (3 : Int) < 8 by omega))
  · exact ite_k True.intro (ite_k True.intro (show (4 : Int) < 8 by omega))
  · exact kindRe (by omega)
  · exact ite_k True.intro (show (6 : Int) < 8 by omega)
  · unfold actLimit
    cases m.limit with
    | none => exact (show (7 : Int) < 8 by omega)
    | some i => exact ite_k True.intro (show (7 : Int) < 8 by omega)
  · exact ite_k True.intro (show (8 : Int) = 8 by omega)
  · exact ite_k True.intro (show (8 : Int) < 9 by omega)
  · exact ite_k True.intro (show (8 : Int) < 10 by omega)
section
variable {K : PySem.W.Frag} {Ms : List Addr} {σ : L2.St} {H : Hp} {t1 t2 : TE} {d1 d2 : PyData} {D : Ends}
theorem s_retZ2 (h1 : EvZ Ms t1 σ H d1) (h2 : EvZ Ms t2 σ H d2) (k : ∀ v w t H2, Ex H H2 → Dq (fz Ms H2) v d1 → Dq (fz Ms H2) w d2 → H2 t = some (.tup [v, w]) → D.rt (.ref t) H2) : tRet (tTup (tCons t1 (tCons t2 tNil))) D σ H :=
  h1 H (Ex.refl _) _ fun v H1 e1 hv => h2 H1 e1 _ fun w H2 e2 hw => ⟨sz_of (by simp), fun p hp => k v w p _ ((e1.trans e2).trans (Ex.new hp)) (hv.ex (fz_up (e2.trans (Ex.new hp)))) (hw.ex (fz_up (Ex.new hp))) upd_same⟩
theorem tup_d {a pl p : Addr} {H' : Hp} {xs : List V} {L : List SD} (hd : DeskF K Ms H a pl L) (e : ExD a pl H H') (hp : H p = some (.tup xs)) : H' p = some (.tup xs) := by
  obtain ⟨_, _, dx, sv, sts, h3, h4, _⟩ := hd
  exact e _ _ (by rintro rfl; rw [hp] at h3; cases h3) (by rintro rfl; rw [hp] at h4; cases h4) hp
theorem MsOk.desk {a pl : Addr} {H' : Hp} {L : List SD} (h : MsOk K Ms H) (e : ExD a pl H H') (hd : DeskF K Ms H' a pl L) : MsOk K Ms H' := by
  obtain ⟨_, _, dx, sv, sts, h3, h4, _⟩ := hd
  exact h.exD e ⟨dx, _, h3⟩ ⟨_, h4⟩
theorem mv_mk {ma : Addr} {m : Mv} (h : H ma = some (.tup (mvV m))) : Dq H (.ref ma) (mvD m) :=
  .tup h (.cons (.int _) (.cons (.str _) (.cons (.int _) (.cons (.int _) (.cons (by cases m.limit with | none => exact .non | some i => exact .int i) (.cons (.int _) (.cons (.int _) .nil)))))))
end
section
variable {P : Program} {w : World} {K : PySem.W.Frag} {mg : Str → Option Value} {base : Heap}
theorem sc__law_steps : FnScope ["_law_desk", "_law_states", "_law_looks", "_law_move_here", "_law_due_here", "_law_answer", "_law_after_here"] ["_law_desk", "_law_states", "_law_looks", "_law_move_here"] (defScope s__law_steps) := ⟨rfl, rfl, rfl, by decide +kernel, rfl, by decide +kernel, by decide +kernel⟩
def spSteps (K : PySem.W.Frag) : Sp := fun vs H Q _ => ∃ (Ms : List Addr) (a pl : Addr) (v lv mv : V) (L0 : List SD) (st : SD) (m : Mv), vs = [.ref a, v, lv, mv] ∧ MsOk K Ms H ∧ DeskF K Ms H a pl (L0 ++ [st]) ∧ Dq (fz Ms H) v (statesD (L0 ++ [st])) ∧ Dq (fz Ms H) lv (looksD (L0 ++ [st])) ∧ Dq H mv (mvD m) ∧ MvOk m ∧ L0.length ≤ 900 ∧
  ∀ H' t v' lv' L1 st1, ExD a pl H H' → MsOk K Ms H' → DeskF K Ms H' a pl (L1 ++ [st1]) → L1.length ≤ L0.length + 1 → Dq (fz Ms H') v' (statesD (L1 ++ [st1])) → Dq (fz Ms H') lv' (looksD (L1 ++ [st1])) → H' t = some (.tup [v', lv']) → Q (.ref t) H'
theorem ok__law_steps (T : TXG fileC fa fx fn P K mg) : FnB P w K mg base 31 (He.ga K "_law_steps") ["_law_desk", "_law_states", "_law_looks", "_law_move_here"] (spSteps K) := by
  refine fnb T.d__law_steps rfl sc__law_steps (fun vs H Q E h => ?_) (fun _ _ _ _ _ _ us hl => match us, hl with | [_, _, _, _], _ => rfl) (fun cdv A outer s H vs Q E hr h => ?_)
  · obtain ⟨_, _, _, _, _, _, _, _, _, rfl, _⟩ := h
    rfl
  · refine ⟨_, (pss_cons (ps_set (i := 4) sc__law_steps.nd rfl (Or.inl rfl) (pe_callR (ok__law_due T).r (hr.mono (by decide)) T.k__law_due (by rfl) T.g__law_due passL (pa_cons (pv 1) (pa_cons (pv 3) pa_nil))))
      (pss_cons (ps_set (i := 5) sc__law_steps.nd rfl (Or.inl rfl) (pe_callR (ok__law_tried T).r (hr.mono (by decide)) T.k__law_tried (by rfl) T.g__law_tried passL (pa_cons (pv 0) (pa_cons (pv 3) pa_nil))))
      (pss_cons (ps_if (pt_cmpR op_ne (pe_ix ix_tup (pv 4) pe_int (fun _ _ => rfl)) pe_str (nomark _)) (pss_cons (ps_if (pt_not (pt_val (pe_callR (ok__law_refused T).r (hr.mono (by decide)) T.k__law_refused (by rfl) T.g__law_refused passL (pa_cons (pv 5) (pa_cons (pv 4) pa_nil))))) (pss_one (ps_ret pe_non)) pss_nil)
      (pss_one (ps_ret (pe_tup (pa_cons (pv 1) (pa_cons (pv 2) pa_nil)))))) pss_nil)
      (pss_cons (ps_if (PW.pt (pw_or (pt_cmpR op_ne (pe_ix ix_tup (pv 5) pe_int (fun _ _ => rfl)) pe_str (nomark _)) (pw_or1 (pt_not (pt_val (pe_callR (ok__law_told_right T).r (hr.mono (by decide)) T.k__law_told_right (by rfl) T.g__law_told_right passL (pa_cons (pe_ix ix_tup (pv 5) pe_int (fun _ _ => rfl)) (pa_cons (pe_ix ix_list (pv 1) (pe_un un_neg pe_int) (fun _ _ => rfl)) (pa_cons (pv 3) pa_nil))))))))) (pss_one (ps_ret pe_non)) pss_nil)
      (pss_cons (ps_set (i := 6) sc__law_steps.nd rfl (Or.inl rfl) (pe_callR (ok__law_after T).r (hr.mono (by decide)) T.k__law_after (by rfl) T.g__law_after passL (pa_cons (pv 1) (pa_cons (pv 3) pa_nil))))
      (pss_cons (ps_if (pt_cmpR op_eq (pe_ix ix_tup (pv 3) pe_int (fun _ _ => rfl)) pe_int (nomark _)) (pss_one (ps_ret (pe_tup (pa_cons (pv 6) (pa_cons (pe_slice sl_list (pv 2) po_none (po_some (pe_un un_neg pe_int))) pa_nil))))) pss_nil)
      (pss_cons (ps_if (pt_cmpR op_gt (pe_ix ix_tup (pv 3) pe_int (fun _ _ => rfl)) pe_int (nomark _)) (pss_one (ps_ret (pe_tup (pa_cons (pv 6) (pa_cons (pv 2) pa_nil))))) pss_nil)
      (pss_one (ps_ret (pe_tup (pa_cons (pv 6) (pa_cons (pe_op op_cat (pv 2) (pe_lst (pa_cons (pe_callR (ok__law_look T).r (hr.mono (by decide)) T.k__law_look (by rfl) T.g__law_look passL (pa_cons (pv 0) pa_nil)) pa_nil))) pa_nil)))))))))))), ?_⟩
    obtain ⟨Ms, a, pl, v, lv, mv, L0, st, m, rfl, hms, hdk, hv, hlv, hm, hmo, hz, q⟩ := h
    obtain ⟨ma, rfl, hma⟩ := mv_inv hm
    have hro : RowsOk st.rows := by
      obtain ⟨_, _, _, _, _, _, _, _, c, _⟩ := hdk.cur
      exact c.ok.r
    refine q_asgP (P := fun v H' => ∃ p, v = .ref p ∧ H' p = some (.tup (dueV st.rows (L0.length + 1) m))) (fun H1 e1 Q k => ⟨_, rfl, _, rfl, v, .ref ma, L0, st, m, rfl, (hv.ex fz_ex).ex e1, hm.ex e1, hmo, hro.len, fun p H2 hn e2 hp => k _ H2 e2 ⟨p, rfl, hp⟩⟩) fun dv H1 e1 hdv => ?_
    obtain ⟨p, rfl, hp⟩ := hdv
    rw [due_act hmo hro.len] at hp
    have hdk1 := hdk.ex e1
    have hms1 := hms.ex e1
    refine ⟨_, rfl, _, rfl, Ms, a, pl, .ref ma, L0, st, m, rfl, hm.ex e1, hmo, hms1, hdk1, hz, try_split okAct hdk1 (fun hb r H2 e2 hr2 => ?_) fun hdn u r L' H2 hst e2 hdk2 hr2 => ?_⟩
    · have hp2 := e2 _ _ hp
      have E2 := e1.trans e2
      generalize duA (actOf L0 st m) = dvs at *
      obtain ⟨⟨t, rest, rfl, hne⟩, hsc, hlen⟩ := hb
      refine Evl.q_when (b := true) (et_is (et_B (ev_op (ev_op (z := .str t) (ev_var (v := .ref p) rfl) ev_c (rv_ixT (st_of hp2) atI_zero)) ev_c (rv_ne rfl))) (by rw [vs_eq]; simp [hne])) (fun _ H3 e3 => ?_) fun h => by cases h
      refine Evl.q_when (b := false) (et_is (et_not (et_B (ev_callE (ea_cons (ev_var (v := .ref r) rfl) (ea_cons (ev_var (v := .ref p) rfl) ea_nil)) fun H4 e4 Q k => ⟨r, p, _, rfl, (e3.trans e4) _ _ hr2, (e3.trans e4) _ _ hp2, by omega, hsc, k⟩))) rfl) (fun h => by cases h) fun _ H4 e4 => ?_
      have E4 := E2.trans (e3.trans e4)
      exact s_retZ2 (ez_var rfl (hv.ex (fz_up E4))) (ez_var rfl (hlv.ex (fz_up E4))) fun v' w' t' H5 e5 hv' hw' ht' => q H5 t' v' w' L0 st (Ex.d (E4.trans e5)) (hms.ex (E4.trans e5)) (hdk.ex (E4.trans e5)) (by omega) hv' hw' ht'
    · rw [hdn] at hp
      have hp2 := tup_d hdk1 e2 hp
      have hma2 := tup_d hdk1 e2 (e1 _ _ hma)
      have hD : ExD a pl H H2 := (Ex.d e1).trans e2
      have hms2 := hms1.desk e2 hdk2
      have hm1 : a ∈ Ms := hdk.1
      have hm2 : pl ∈ Ms := hdk.2.1
      have hv2 := hv.ex (hD.fz hm1 hm2)
      have hlv2 := hlv.ex (hD.fz hm1 hm2)
      have hk := kindAct (L0 := L0) (st := st) hmo
      have rd : ∀ {σ : L2.St} {H3 : Hp} {n i : Nat} {z : Addr} {xs : List V} {x : V}, H3 z = some (.tup xs) → σ[n]? = some (some (.ref z)) → atI xs (i : Int) = some x → Ev (tOp (rIxT K) (tVar n) (tC (.int (i : Int)))) σ H3 x := fun hz hs hi => ev_op (ev_var hs) ev_c (rv_ixT (st_of hz) hi)
      have hfact : (m.deed < 9 ∧ u = .non) ∨ (9 ≤ m.deed ∧ ∃ i, actOf L0 st m = .val i ∧ u = .int i) := by
        cases hx : actOf L0 st m with
        | bad c fs => rw [hx] at hst; exact hst.elim
        | nothing => rw [hx] at hst; exact hst.elim
        | new rows s cap =>
          rw [hx] at hst hk
          have hk : m.deed < 8 := hk
          exact .inl ⟨by omega, hst.1⟩
        | val i =>
          rw [hx] at hst hk
          have hk : 8 < m.deed := hk
          exact .inr ⟨by omega, i, rfl, hst.1⟩
        | back =>
          rw [hx] at hst hk
          have hk : m.deed = 8 := hk
          exact .inl ⟨by omega, hst.1⟩
      have hL' : ∃ L1 st1, L' = L1 ++ [st1] ∧ L1.length ≤ L0.length + 1 := by
        cases hx : actOf L0 st m with
        | bad c fs => rw [hx] at hst; exact hst.elim
        | nothing => rw [hx] at hst; exact hst.elim
        | new rows s cap =>
          rw [hx] at hst
          obtain ⟨_, names, top, h⟩ := hst
          exact ⟨_, _, h, by simp⟩
        | val i =>
          rw [hx] at hst
          exact ⟨_, _, hst.2, by omega⟩
        | back =>
          rw [hx] at hst
          obtain ⟨_, h1, h2⟩ := hst
          subst h1
          rcases List.eq_nil_or_concat L' with h | ⟨L1, st1, h⟩
          · exact absurd h h2
          · rw [List.concat_eq_append] at h
            exact ⟨L1, st1, h, by rw [h]; simp; omega⟩
      refine Evl.q_when (b := false) (et_is (et_B (ev_op (rd (i := 0) hp2 rfl rfl) ev_c (rv_ne rfl))) (by rw [vs_eq]; simp)) (fun h => by cases h) fun _ H3 e3 => ?_
      have last : ∀ {σ : L2.St} {H4 : Hp}, Ex H2 H4 → σ[1]? = some (some v) → EvD (tOp (rIxL K) (tVar 1) (tUn (rU fun i => .int (-i)) (tC (.int 1)))) σ H4 (stD st) := fun {σ H4} e hs => by
        have := hv2.ex (fz_up e)
        unfold statesD at this
        rw [List.map_append] at this
        exact ed_ixL (ed_var hs (this.ex fz_ex)) (ed_neg ed_i) atI_last
      refine Evl.q_when (b := false) (et_is (et_or (et_B (ev_op (rd (i := 0) (e3 _ _ hr2) rfl rfl) ev_c (rv_ne rfl))) fun _ => et_not (et_B (b := true) fun H4 e4 Q k => rd (i := 1) ((e3.trans e4) _ _ hr2) rfl rfl H4 (Ex.refl _) _ fun H5 e5 => last (e3.trans (e4.trans e5)) rfl H5 (Ex.refl _) _ fun sv H6 e6 hsv => ?_)) (by rw [vs_eq]; simp)) (fun h => by cases h) fun _ H4 e4 => ?_
      · exact ⟨_, rfl, u, sv, .ref ma, L0, st, m, rfl, hsv, mv_mk ((e3.trans (e4.trans (e5.trans e6))) _ _ hma2), hmo, hro.len, hfact, fun H7 e7 => k H7 (e5.trans (e6.trans e7))⟩
      have E4 := e3.trans e4
      refine qz_asg (d := statesD L') (Ms := Ms) (fun H5 e5 Q k => ⟨_, rfl, _, rfl, Ms, v, .ref ma, L0, st, m, rfl, (hms2.ex (E4.trans e5)).live, hv2.ex (fz_up (E4.trans e5)), mv_mk ((E4.trans e5) _ _ hma2), hmo, hro, hz, after_of hst k⟩) fun av H5 e5 hav => ?_
      have E5 := E4.trans e5
      have fin : ∀ {v' w' : V} {t' : Addr} {H8 : Hp}, Ex H2 H8 → Dq (fz Ms H8) v' (statesD L') → Dq (fz Ms H8) w' (looksD L') → H8 t' = some (.tup [v', w']) → Q (.ref t') H8 := fun {v' w' t' H8} e h1 h2 h3 => by
        obtain ⟨L1, st1, rfl, hl⟩ := hL'
        exact q H8 t' v' w' L1 st1 (hD.trans (Ex.d e)) (hms2.ex e) (hdk2.ex e) hl h1 h2 h3
      refine Evl.q_when (b := decide (m.deed = 8)) (et_is (et_B (ev_op (rd (i := 0) (E5 _ _ hma2) rfl rfl) ev_c (rv_eq rfl))) vi_eq) (fun hb H6 e6 => ?_) fun hb H6 e6 => ?_
      · have hb : m.deed = 8 := of_decide_eq_true hb
        have hL0 : L' = L0 := by
          cases hx : actOf L0 st m with
          | back => rw [hx] at hst; exact hst.2.1
          | new rows s cap => rw [hx] at hk; exact absurd hk (by unfold Kind; omega)
          | val i => rw [hx] at hk; exact absurd hk (by unfold Kind; omega)
          | bad c fs => rw [hx] at hst; exact hst.elim
          | nothing => rw [hx] at hst; exact hst.elim
        have E6 := E5.trans e6
        have hlv6 := hlv2.ex (fz_up E6)
        unfold looksD at hlv6
        rw [List.map_append] at hlv6
        refine s_retZ2 (ez_var rfl (hav.ex (fz_up e6))) (EvZF.toZ (hms2.ex E6).live (ezf_sl (ez_var rfl hlv6) edo_none (edo_some (ed_neg ed_i)))) fun v' w' t' H7 e7 hv' hw' ht' => fin (E6.trans e7) hv' ?_ ht'
        rw [show List.map lookD [st] = [lookD st] from rfl, cutD_init] at hw'
        rw [hL0]
        exact hw'
      have hb8 : ¬ m.deed = 8 := of_decide_eq_false hb
      have E6 := E5.trans e6
      refine Evl.q_when (b := decide (8 < m.deed)) (et_B (ev_op (rd (i := 0) (E6 _ _ hma2) rfl rfl) ev_c rv_I0)) (fun hb H7 e7 => ?_) fun hb H7 e7 => ?_
      · have hb : 8 < m.deed := of_decide_eq_true hb
        have hL0 : L' = L0 ++ [st] := by
          cases hx : actOf L0 st m with
          | back => rw [hx] at hk; exact absurd hk (by unfold Kind; omega)
          | new rows s cap => rw [hx] at hk; exact absurd hk (by unfold Kind; omega)
          | val i => rw [hx] at hst; exact hst.2
          | bad c fs => rw [hx] at hst; exact hst.elim
          | nothing => rw [hx] at hst; exact hst.elim
        refine s_retZ2 (ez_var rfl (hav.ex (fz_up (e6.trans e7)))) (ez_var rfl (hlv2.ex (fz_up (E6.trans e7)))) fun v' w' t' H8 e8 hv' hw' ht' => fin ((E6.trans e7).trans e8) hv' ?_ ht'
        rw [hL0]
        exact hw'
      have hb9 : ¬ 8 < m.deed := of_decide_eq_false hb
      have E7 := E6.trans e7
      have hN : ∃ rows s cap names top, L' = L0 ++ [st] ++ [⟨rows, s, cap, names, top⟩] := by
        cases hx : actOf L0 st m with
        | back => rw [hx] at hk; exact absurd hk (by unfold Kind; omega)
        | new rows s cap =>
          rw [hx] at hst
          obtain ⟨_, names, top, h⟩ := hst
          exact ⟨rows, s, cap, names, top, h⟩
        | val i => rw [hx] at hk; exact absurd hk (by unfold Kind; omega)
        | bad c fs => rw [hx] at hst; exact hst.elim
        | nothing => rw [hx] at hst; exact hst.elim
      obtain ⟨rows, s, cap, names, top, hLn⟩ := hN
      have hL7 := (hms2.ex E7).live
      have hdk7 := hdk2.ex E7
      rw [hLn] at hdk7
      have look : EvZ Ms (fun σ H Q => tCons (tVar 0) tNil σ H fun vs H1 => spLook K vs H1 Q E0) [some (.ref a), some v, some lv, some (.ref ma), some (.ref p), some (.ref r), some av] H7 (lookD ⟨rows, s, cap, names, top⟩) := fun H8 e8 Q k => ⟨_, rfl, Ms, a, pl, L0 ++ [st], _, rfl, hL7.ex e8, hdk7.ex e8, k⟩
      refine s_retZ2 (ez_var rfl (hav.ex (fz_up (e6.trans e7)))) (EvZF.toZ hL7 (ezf_cat (ez_var rfl (hlv2.ex (fz_up E7))) (EvZF.toZ hL7 (ezf_lst (ezs_cons look ezs_nil) (by simp))) (by simp; omega))) fun v' w' t' H8 e8 hv' hw' ht' => fin (E7.trans e8) hv' ?_ ht'
      rw [hLn]
      unfold looksD
      rw [List.map_append]
      exact hw'
end
end K7

/-! KAO: _law_back. -/
namespace K7
open PySem PySem.Spec PyProof.Rows L2 Evl RZ
def mv8 : Mv := ⟨8, "", 0, 1, none, 0, 0⟩
theorem mv8_ok : MvOk mv8 := ⟨by decide, by decide, by decide, by decide, by decide, fun i h => (by cases h), by decide, by decide, by decide⟩
theorem mv8_act {L0 : List SD} {st : SD} : actOf L0 st mv8 = actUndo L0 := by
  unfold actOf
  simp [mv8]
abbrev tMv8 : TE := tTup (tCons (tC (.int 8)) (tCons (tC (.str "")) (tCons (tC (.int 0)) (tCons (tC (.int 1)) (tCons (tC .non) (tCons (tC (.int 0)) (tCons (tC (.int 0)) tNil)))))))
theorem eu_mv8 {σ : L2.St} {H : Hp} : EvU tMv8 σ H (mvV mv8) := eu_tup (ea_cons ev_c (ea_cons ev_c (ea_cons ev_c (ea_cons ev_c (ea_cons ev_c (ea_cons ev_c (ea_cons ev_c ea_nil))))))) (by decide)
theorem tCons_one {t : TE} {σ : L2.St} {H : Hp} {Q : List V → Hp → Prop} (h : t σ H fun x H1 => Q [x] H1) : tCons t tNil σ H Q := h
theorem sl_take {K : PySem.W.Frag} {f : SD → PyData} {L : List SD} {n i : Nat} {ti : TE} {σ : L2.St} {H : Hp} {v : V} (hn : n < L.length) (hv : Dq H v (.list (L.map f))) (hs : σ[i]? = some (some v)) (hi : EvD ti σ H (.int ((n + 1 : Nat) : Int))) : EvD (tSl (rSlL K) (tVar i) tNoPart (tPart ti)) σ H (.list ((L.take n ++ [L[n]]).map f)) := by
  have h := (ef_sl (K := K) (ed_var hs hv) edo_none (edo_some hi)).toD
  rw [cutD_take (by rw [List.length_map]; omega), ← List.map_take, List.take_succ, List.getElem?_eq_getElem hn] at h
  exact h
section
variable {K : PySem.W.Frag} {Ms : List Addr} {σ : L2.St} {H : Hp} {t0 t1 t2 t3 : TE} {D : Ends} {tz : TS} {E : XK} {a pl : Addr} {L0 : List SD} {st : SD}
theorem ev_stands {ns : List Str} (hL : Live Ms H) (hdk : DeskF K Ms H a pl (L0 ++ [st])) (h0 : Ev t0 σ H (.ref a)) (h1 : EvD t1 σ H (statesD (L0 ++ [st]))) (h2 : EvD t2 σ H (looksD (L0 ++ [st]))) (h3 : EvD t3 σ H (.list (ns.map .str))) : Ev (fun σ H Q => tCons t0 (tCons t1 (tCons t2 (tCons t3 tNil))) σ H fun vs H1 => spStands K vs H1 Q E) σ H (.bl true) := fun H1 e1 Q k =>
  h0 H1 e1 _ fun H2 e2 => h1 H2 (e1.trans e2) _ fun v H3 e3 hv => h2 H3 ((e1.trans e2).trans e3) _ fun lv H4 e4 hlv => h3 H4 (((e1.trans e2).trans e3).trans e4) _ fun nv H5 e5 hnv =>
    ⟨Ms, a, pl, v, lv, nv, L0, st, ns, rfl, hL.ex ((e1.trans e2).trans (e3.trans (e4.trans e5))), hdk.ex ((e1.trans e2).trans (e3.trans (e4.trans e5))), hv.ex (e4.trans e5), hlv.ex e5, hnv, fun H6 e6 => k H6 ((e2.trans (e3.trans (e4.trans e5))).trans e6)⟩
theorem q_back {n : Nat} (h0 : Ev t0 σ H (.ref a)) (hms : MsOk K Ms H) (hdk : DeskF K Ms H a pl (L0 ++ [st])) (hz : L0.length ≤ 900) (hne : L0 ≠ []) (k : ∀ p H', ExD a pl H H' → DeskF K Ms H' a pl L0 → H' p = some (.tup [.str "done", .non]) → tz D (σ.set n (some (.ref p))) H') :
    tSeq (tAsg (fun σ H Q => tCons t0 (tCons tMv8 tNil) σ H fun vs H1 => spTried K vs H1 Q E) (gName n)) tz D σ H :=
  h0 H (Ex.refl _) _ fun H1 e1 => by
    refine tCons_one (eu_mv8 H1 (Ex.refl _) _ fun ma H2 hn e2 hma => ?_)
    refine ⟨Ms, a, pl, .ref ma, L0, st, mv8, rfl, mv_mk hma, mv8_ok, hms.ex (e1.trans e2), hdk.ex (e1.trans e2), hz, ?_⟩
    rw [mv8_act]
    unfold actUndo
    rw [if_neg hne]
    exact fun p L1 st1 H' hl e hd hp => k p H' ((Ex.d (e1.trans e2)).trans e) hd hp
theorem ev_noth (h0 : Ev t0 σ H (.ref a)) (hms : MsOk K Ms H) (hdk : DeskF K Ms H a pl ([] ++ [st])) : Ev (tOp (rIxT K) (fun σ H Q => tCons t0 (tCons tMv8 tNil) σ H fun vs H1 => spTried K vs H1 Q E) (tC (.int 0))) σ H (.str "nothing") := fun H1 e1 Q k =>
  h0 H1 e1 _ fun H2 e2 => by
    refine tCons_one (eu_mv8 H2 (Ex.refl _) _ fun ma H3 hn e3 hma => ?_)
    have E3 := e1.trans (e2.trans e3)
    refine ⟨Ms, a, pl, .ref ma, [], st, mv8, rfl, mv_mk hma, mv8_ok, hms.ex E3, hdk.ex E3, by simp, ?_⟩
    rw [mv8_act]
    unfold actUndo
    rw [if_pos rfl]
    exact fun p H' e hp => ⟨p, _, 0, _, rfl, rfl, st_of hp, rfl, k H' ((e2.trans e3).trans e)⟩
theorem take_snoc {α : Type} {L : List α} {n : Nat} (h : n < L.length) : L.take (n + 1) = L.take n ++ [L[n]] := by
  rw [List.take_succ, List.getElem?_eq_getElem h]; rfl
end
section
variable {P : Program} {w : World} {K : PySem.W.Frag} {mg : Str → Option Value} {base : Heap}
theorem sc__law_back : FnScope ["_law_desk", "_law_states", "_law_looks", "_law_k", "_law_answer", "_law_at"] ["_law_desk", "_law_states", "_law_looks"] (defScope s__law_back) := ⟨rfl, rfl, rfl, by decide +kernel, rfl, by decide +kernel, by decide +kernel⟩
def spBack (K : PySem.W.Frag) : Sp := fun vs H Q _ => ∃ (Ms : List Addr) (a pl : Addr) (v lv : V) (L0 : List SD) (st : SD), vs = [.ref a, v, lv] ∧ MsOk K Ms H ∧ DeskF K Ms H a pl (L0 ++ [st]) ∧ Dq (fz Ms H) v (statesD (L0 ++ [st])) ∧ Dq (fz Ms H) lv (looksD (L0 ++ [st])) ∧ L0.length ≤ 900 ∧ ∀ H', ExD a pl H H' → MsOk K Ms H' → Q (.bl true) H'
theorem ok__law_back (T : TXG fileC fa fx fn P K mg) : FnB P w K mg base 31 (He.ga K "_law_back") ["_law_desk", "_law_states", "_law_looks"] (spBack K) := by
  refine fnb T.d__law_back rfl sc__law_back (fun vs H Q E h => ?_) (fun _ _ _ _ _ _ us hl => match us, hl with | [_, _, _], _ => rfl) (fun cdv A outer s H vs Q E hr h => ?_)
  · obtain ⟨_, _, _, _, _, _, _, rfl, _⟩ := h
    rfl
  · refine ⟨_, (pss_cons (ps_for (passes_of rfl) rfl (pi_range1 (by rfl) T.n_range (pa_cons (pe_op op_sub (pe_callB call_len_seq (by rfl) T.n_len PySem.boot_len (pa_cons (pv 1) pa_nil)) pe_int) pa_nil)) (pg_name (i := 3) sc__law_back.nd rfl (Or.inl rfl))
      (pss_cons (ps_set (i := 4) sc__law_back.nd rfl (Or.inl rfl) (pe_callR (ok__law_tried T).r (hr.mono (by decide)) T.k__law_tried (by rfl) T.g__law_tried passL (pa_cons (pv 0) (pa_cons (pe_tup (pa_cons pe_int (pa_cons pe_str (pa_cons pe_int (pa_cons pe_int (pa_cons pe_non (pa_cons pe_int (pa_cons pe_int pa_nil)))))))) pa_nil))))
      (pss_cons (ps_if (PW.pt (pw_or (pt_cmpR op_ne (pe_ix ix_tup (pv 4) pe_int (fun _ _ => rfl)) pe_str (nomark _)) (pw_or1 (pt_cmpR op_notN (pe_ix ix_tup (pv 4) pe_int (fun _ _ => rfl)) pe_non (nomark _))))) (pss_one (ps_ret pe_bl)) pss_nil)
      (pss_cons (ps_set (i := 5) sc__law_back.nd rfl (Or.inl rfl) (pe_op op_sub (pe_op op_sub (pe_callB call_len_seq (by rfl) T.n_len PySem.boot_len (pa_cons (pv 1) pa_nil)) pe_int) (pv 3)))
      (pss_one (ps_if (pt_not (pt_val (pe_callR (ok__law_stands T).r (hr.mono (by decide)) T.k__law_stands (by rfl) T.g__law_stands passL (pa_cons (pv 0) (pa_cons (pe_slice sl_list (pv 1) po_none (po_some (pv 5))) (pa_cons (pe_slice sl_list (pv 2) po_none (po_some (pv 5))) (pa_cons (pe_lst (pa_cons pe_str (pa_cons pe_str pa_nil))) pa_nil))))))) (pss_one (ps_ret pe_bl)) pss_nil))))))
      (pss_cons (ps_if (pt_cmpR op_ne (pe_ix ix_tup (pe_callR (ok__law_tried T).r (hr.mono (by decide)) T.k__law_tried (by rfl) T.g__law_tried passL (pa_cons (pv 0) (pa_cons (pe_tup (pa_cons pe_int (pa_cons pe_str (pa_cons pe_int (pa_cons pe_int (pa_cons pe_non (pa_cons pe_int (pa_cons pe_int pa_nil)))))))) pa_nil))) pe_int (fun _ _ => rfl)) pe_str (nomark _)) (pss_one (ps_ret pe_bl)) pss_nil)
      (pss_one (ps_ret (pe_callR (ok__law_stands T).r (hr.mono (by decide)) T.k__law_stands (by rfl) T.g__law_stands passL (pa_cons (pv 0) (pa_cons (pe_slice sl_list (pv 1) po_none (po_some pe_int)) (pa_cons (pe_slice sl_list (pv 2) po_none (po_some pe_int)) (pa_cons (pe_lst (pa_cons pe_str (pa_cons pe_str pa_nil))) pa_nil))))))))), ?_⟩
    obtain ⟨Ms, a, pl, v, lv, L0, st, rfl, hms, hdk, hv, hlv, hz, q⟩ := h
    have hm1 : a ∈ Ms := hdk.1
    have hm2 : pl ∈ Ms := hdk.2.1
    generalize hLs : L0 ++ [st] = L at *
    have hLl : L.length = L0.length + 1 := by rw [← hLs]; simp
    have lenS : ∀ {σ : L2.St} {H1 : Hp}, ExD a pl H H1 → σ[1]? = some (some v) → EvD (tOp (rI0 fun i j => .int (i - j)) (tCB (fun xs H Q => ∃ p ys, xs = [V.ref p] ∧ (SqL K H p ys ∨ SqT K H p ys) ∧ Q (V.int ys.length) H) (tCons (tVar 1) tNil)) (tC (.int 1))) σ H1 (.int (L0.length : Int)) := fun {σ H1} e h => by
      have h1 := ed_sub (ed_lenL (K := K) (ed_var h ((hv.ex (e.fz hm1 hm2)).ex fz_ex))) (ed_i (i := 1))
      rw [List.length_map, hLl, show ((L0.length + 1 : Nat) : Int) - 1 = (L0.length : Int) by omega] at h1
      exact h1
    refine qd_forR (n := L0.length) (eds_cons (lenS (Ex.d (Ex.refl _)) rfl) eds_nil) (by omega) fun H1 e1 => ?_
    have at_ : ∀ {σ : L2.St} {H3 : Hp} {p i : Nat} {xs : List V} {x : V}, H3 p = some (.tup xs) → σ[4]? = some (some (.ref p)) → atI xs (i : Int) = some x → Ev (tOp (rIxT K) (tVar 4) (tC (.int (i : Int)))) σ H3 x := fun hz hs hi => ev_op (ev_var hs) ev_c (rv_ixT (st_of hz) hi)
    have ns2 : ∀ {σ : L2.St} {H3 : Hp}, EvD (tLst (tCons (tC (.str "a")) (tCons (tC (.str "b")) tNil))) σ H3 (.list ((["a", "b"] : List Str).map .str)) := (ef_lst (eds_cons ed_s (eds_cons ed_s eds_nil)) (by decide)).toD
    refine ⟨fun i σ' H' => ExD a pl H H' ∧ MsOk K Ms H' ∧ DeskF K Ms H' a pl (L.take (L0.length - i + 1)) ∧ ∃ o3 o4 o5 : Option V, σ' = [some (.ref a), some v, some lv, o3, o4, o5],
      ⟨Ex.d e1, hms.ex e1, by rw [List.take_of_length_le (by omega)]; exact hdk.ex e1, none, none, none, rfl⟩, ?_, ?_⟩
    · rintro i σ' H' hi ⟨hE, hms', hdk', o3, o4, o5, rfl⟩
      obtain ⟨n, hn⟩ : ∃ n, L0.length - i = n + 1 := ⟨L0.length - i - 1, by omega⟩
      rw [hn, take_snoc (show n + 1 < L.length by omega)] at hdk'
      refine q_back (ev_var (v := .ref a) rfl) hms' hdk' (by rw [List.length_take]; omega) (by intro h; have := congrArg List.length h; rw [List.length_take, List.length_nil] at this; omega) fun p H2 e2 hdk2 hp2 => ?_
      have E2 := hE.trans e2
      have hms2 := hms'.desk e2 hdk2
      refine Evl.q_when (b := false) (et_is (et_or (et_B (ev_op (at_ (i := 0) hp2 rfl rfl) ev_c (rv_ne rfl))) fun _ => et_B (ev_op (at_ (i := 1) hp2 rfl rfl) ev_c (rv_val fun H1 e1 Q k => ⟨rfl, k⟩))) (by rw [vs_eq]; simp)) (fun h => by cases h) fun _ H3 e3 => ?_
      have E3 := E2.trans (Ex.d e3)
      refine Evl.q_asg (v := .int ((n + 1 : Nat) : Int)) (ev_is (ev_op (EvD.vI (lenS E3 rfl)) (ev_var rfl) rv_I0) (by congr 1; omega)) fun H4 e4 => ?_
      have E4 := E3.trans (Ex.d e4)
      have hv4 := (hv.ex (E4.fz hm1 hm2)).ex fz_ex
      have hlv4 := (hlv.ex (E4.fz hm1 hm2)).ex fz_ex
      have hdk4 := (hdk2.ex e3).ex e4
      rw [take_snoc (show n < L.length by omega)] at hdk4
      refine Evl.s_when (b := false) (et_is (et_not (et_B (ev_stands ((hms2.ex e3).ex e4).live hdk4 (ev_var (v := .ref a) rfl) (sl_take (by omega) hv4 rfl (ed_var rfl (.int _))) (sl_take (by omega) hlv4 rfl (ed_var rfl (.int _))) ns2))) rfl) (fun h => by cases h) fun _ H5 e5 => ?_
      refine ⟨E4.trans (Ex.d e5), ((hms2.ex e3).ex e4).ex e5, ?_, _, _, _, rfl⟩
      rw [show L0.length - (i + 1) = n by omega, take_snoc (show n < L.length by omega)]
      exact hdk4.ex e5
    · rintro σ' H' ⟨hE, hms', hdk', o3, o4, o5, rfl⟩
      rw [Nat.sub_self, take_snoc (show 0 < L.length by omega)] at hdk'
      refine Evl.q_when (b := false) (et_is (et_B (ev_op (ev_noth (ev_var (v := .ref a) rfl) hms' hdk') ev_c (rv_ne rfl))) (by rw [vs_eq]; simp)) (fun h => by cases h) fun _ H2 e2 => ?_
      have E2 := hE.trans (Ex.d e2)
      have hv2 := (hv.ex (E2.fz hm1 hm2)).ex fz_ex
      have hlv2 := (hlv.ex (E2.fz hm1 hm2)).ex fz_ex
      exact Evl.s_ret (ev_stands (hms'.ex e2).live (hdk'.ex e2) (ev_var (v := .ref a) rfl) (sl_take (by omega) hv2 rfl ed_i) (sl_take (by omega) hlv2 rfl ed_i) ns2) fun H3 e3 => q H3 (E2.trans (Ex.d e3)) ((hms'.ex e2).ex e3)
end
end K7

/-! KAP: what the law holds between two turns. -/
namespace K7
open PySem PySem.Spec PyProof.Rows L2 Evl RZ
/-! ### two of a kind -/
def two {α : Type} (f : Nat → α) : List α := [f 0, f 1]
def up {α : Type} (f : Nat → α) (j : Nat) (x : α) : Nat → α := fun i => if i = j then x else f i
theorem up_at {α : Type} {f : Nat → α} {j : Nat} {x : α} : up f j x j = x := if_pos rfl
theorem up_ne {α : Type} {f : Nat → α} {i j : Nat} {x : α} (h : i ≠ j) : up f j x i = f i := if_neg h
theorem lt2 {j : Nat} (h : j < 2) : j = 0 ∨ j = 1 := by omega
theorem two_at {α : Type} {f : Nat → α} {j : Nat} (h : j < 2) : atI (two f) (j : Int) = some (f j) := by
  rcases lt2 h with rfl | rfl <;> rfl
theorem two_set {α : Type} {f : Nat → α} {j : Nat} {x : α} (h : j < 2) : (two f).set j x = two (up f j x) := by
  rcases lt2 h with rfl | rfl <;> rfl
abbrev LP : Type := List SD × SD
def cat (p : LP) : List SD := p.1 ++ [p.2]
/-! ### fz -/
theorem fz_lift {Ms Ns : List Addr} {H H' : Hp} (e : Ex H H') (hn : ∀ m ∈ Ns, m ∈ Ms ∨ H m = none) : Ex (fz Ms H) (fz Ns H') := fun x o h => by
  unfold fz at h ⊢
  by_cases hm : x ∈ Ms
  · rw [if_pos hm] at h; cases h
  · rw [if_neg hm] at h
    have hx : x ∉ Ns := fun hx => by
      rcases hn x hx with q | q
      · exact hm q
      · rw [h] at q; cases q
    rw [if_neg hx]
    exact e _ _ h
theorem fz_upd {Ms : List Addr} {H : Hp} {m : Addr} {o : HO} (h : m ∈ Ms) : fz Ms (upd H m o) = fz Ms H := funext fun x => by
  unfold fz
  by_cases hm : x ∈ Ms
  · rw [if_pos hm, if_pos hm]
  · rw [if_neg hm, if_neg hm, upd_ne (by rintro rfl; exact hm h)]
theorem fz_at {Ms : List Addr} {H H' : Hp} {c : Addr} {o : HO} (h : fz Ms H c = some o) (e : ∀ x o, x ∉ Ms → H x = some o → H' x = some o) : fz Ms H' c = some o := fz_mono e _ _ h
theorem DeskF.lift {K : PySem.W.Frag} {Ms Ns : List Addr} {H H' : Hp} {a pl : Addr} {L : List SD} (h : DeskF K Ms H a pl L) (e : Ex H H') (hn : ∀ m ∈ Ns, m ∈ Ms ∨ H m = none) (h1 : a ∈ Ns) (h2 : pl ∈ Ns) : DeskF K Ns H' a pl L := by
  obtain ⟨_, _, dx, sv, sts, h3, h4, h5⟩ := h
  exact ⟨h1, h2, dx, sv, sts, e _ _ h3, e _ _ h4, h5.imp fun _ _ h => h.ex (fz_lift e hn)⟩
theorem DeskF.updL {K : PySem.W.Frag} {Ms : List Addr} {H : Hp} {a pl m : Addr} {L : List SD} {o : HO} (h : DeskF K Ms H a pl L) (hm : m ∈ Ms) (n1 : a ≠ m) (n2 : pl ≠ m) : DeskF K Ms (upd H m o) a pl L := by
  obtain ⟨h1, h2, dx, sv, sts, h3, h4, h5⟩ := h
  exact ⟨h1, h2, dx, sv, sts, by rw [upd_ne n1]; exact h3, by rw [upd_ne n2]; exact h4, by rw [fz_upd hm]; exact h5⟩
theorem MsOk.updL {K : PySem.W.Frag} {Ms : List Addr} {H : Hp} {m : Addr} {xs : List V} (h : MsOk K Ms H) : MsOk K Ms (upd H m (.lst xs)) := fun x hx => by
  by_cases q : x = m
  · subst q; exact .inr ⟨xs, upd_same⟩
  · rw [upd_ne q]; exact h x hx
theorem MsOk.sub {K : PySem.W.Frag} {Ms Ns : List Addr} {H : Hp} (h : MsOk K Ms H) (hs : ∀ m ∈ Ns, m ∈ Ms) : MsOk K Ns H := fun x hx => h x (hs x hx)
theorem MsOk.consL {K : PySem.W.Frag} {Ms : List Addr} {H : Hp} {p : Addr} {xs : List V} (h : MsOk K Ms H) (hp : H p = some (.lst xs)) : MsOk K (p :: Ms) H := fun x hx => by
  rcases List.mem_cons.mp hx with q | q
  · subst q; exact .inr ⟨xs, hp⟩
  · exact h x q
theorem ExD.exM {a pl : Addr} {H0 H H' : Hp} (e : Ex H0 H) (e2 : ExD a pl H H') (h1 : H0 a = none) (h2 : H0 pl = none) : Ex H0 H' := fun x o h => e2 x o (by rintro rfl; rw [h1] at h; cases h) (by rintro rfl; rw [h2] at h; cases h) (e x o h)
/-! ### between two deeds -/
abbrev ms6 (S B : Addr) (ad pl : Nat → Addr) : List Addr := [B, S, pl 1, ad 1, pl 0, ad 0]
structure Main (K : PySem.W.Frag) (H : Hp) (Dk S B c : Addr) (cs : List V) (ad pl : Nat → Addr) (LD LS LB : Nat → LP) : Prop where
  ms : MsOk K (ms6 S B ad pl) H
  dk : ∀ i, i < 2 → DeskF K (ms6 S B ad pl) H (ad i) (pl i) (cat (LD i))
  dl : fz (ms6 S B ad pl) H Dk = some (.lst (two fun i => .ref (ad i)))
  cl : fz (ms6 S B ad pl) H c = some (.lst cs)
  ss : ∃ vs : Nat → V, H S = some (.lst (two vs)) ∧ ∀ i, i < 2 → Dq (fz (ms6 S B ad pl) H) (vs i) (statesD (cat (LS i)))
  bs : ∃ ws : Nat → V, H B = some (.lst (two ws)) ∧ ∀ i, i < 2 → Dq (fz (ms6 S B ad pl) H) (ws i) (looksD (cat (LB i)))
section
variable {K : PySem.W.Frag} {H H' : Hp} {Dk S B c : Addr} {cs : List V} {ad pl : Nat → Addr} {LD LS LB : Nat → LP} {j : Nat} {p : LP}
theorem Main.ex (M : Main K H Dk S B c cs ad pl LD LS LB) (e : Ex H H') : Main K H' Dk S B c cs ad pl LD LS LB := by
  obtain ⟨vs, h1, h2⟩ := M.ss
  obtain ⟨ws, h3, h4⟩ := M.bs
  exact ⟨M.ms.ex e, fun i hi => (M.dk i hi).ex e, fz_up e _ _ M.dl, fz_up e _ _ M.cl, ⟨vs, e _ _ h1, fun i hi => (h2 i hi).ex (fz_up e)⟩, ⟨ws, e _ _ h3, fun i hi => (h4 i hi).ex (fz_up e)⟩⟩
theorem nd6 {i k : Nat} (nd : (ms6 S B ad pl).Nodup) (hi : i < 2) (hk : k < 2) (h : i ≠ k) : ad i ≠ ad k ∧ ad i ≠ pl k ∧ pl i ≠ ad k ∧ pl i ≠ pl k := by
  simp only [ms6, List.nodup_cons, List.mem_cons, List.not_mem_nil, or_false, not_or] at nd
  rcases lt2 hi with rfl | rfl <;> rcases lt2 hk with rfl | rfl
  · exact absurd rfl h
  · exact ⟨Ne.symm nd.2.2.2.1.2, Ne.symm nd.2.2.1.2.2, Ne.symm nd.2.2.2.1.1, Ne.symm nd.2.2.1.2.1⟩
  · exact ⟨nd.2.2.2.1.2, nd.2.2.2.1.1, nd.2.2.1.2.2, nd.2.2.1.2.1⟩
  · exact absurd rfl h
theorem nd6s {i : Nat} (nd : (ms6 S B ad pl).Nodup) (hi : i < 2) : ad i ≠ S ∧ pl i ≠ S ∧ ad i ≠ B ∧ pl i ≠ B ∧ S ≠ B ∧ ad i ≠ pl i := by
  simp only [ms6, List.nodup_cons, List.mem_cons, List.not_mem_nil, or_false, not_or] at nd
  rcases lt2 hi with rfl | rfl
  · exact ⟨Ne.symm nd.2.1.2.2.2, Ne.symm nd.2.1.2.2.1, Ne.symm nd.1.2.2.2.2, Ne.symm nd.1.2.2.2.1, Ne.symm nd.1.1, Ne.symm nd.2.2.2.2.1⟩
  · exact ⟨Ne.symm nd.2.1.2.1, Ne.symm nd.2.1.1, Ne.symm nd.1.2.2.1, Ne.symm nd.1.2.1, Ne.symm nd.1.1, Ne.symm nd.2.2.1.1⟩
theorem mem6 {i : Nat} (hi : i < 2) : ad i ∈ ms6 S B ad pl ∧ pl i ∈ ms6 S B ad pl ∧ S ∈ ms6 S B ad pl ∧ B ∈ ms6 S B ad pl := by
  rcases lt2 hi with rfl | rfl <;> simp [ms6]
theorem Main.desk (nd : (ms6 S B ad pl).Nodup) (M : Main K H Dk S B c cs ad pl LD LS LB) (hj : j < 2) (e : ExD (ad j) (pl j) H H') (hms : MsOk K (ms6 S B ad pl) H') (hd : DeskF K (ms6 S B ad pl) H' (ad j) (pl j) (cat p)) : Main K H' Dk S B c cs ad pl (up LD j p) LS LB := by
  obtain ⟨vs, h1, h2⟩ := M.ss
  obtain ⟨ws, h3, h4⟩ := M.bs
  obtain ⟨m1, m2, m3, m4⟩ := mem6 (S := S) (B := B) (ad := ad) (pl := pl) hj
  obtain ⟨n1, n2, n3, n4, n5, _⟩ := nd6s nd hj
  have eF := e.fz m1 m2
  refine ⟨hms, fun i hi => ?_, eF _ _ M.dl, eF _ _ M.cl, ⟨vs, e _ _ (Ne.symm n1) (Ne.symm n2) h1, fun i hi => (h2 i hi).ex eF⟩, ⟨ws, e _ _ (Ne.symm n3) (Ne.symm n4) h3, fun i hi => (h4 i hi).ex eF⟩⟩
  by_cases q : i = j
  · subst q; rw [up_at]; exact hd
  · rw [up_ne q]
    obtain ⟨k1, k2, k3, k4⟩ := nd6 nd hi hj q
    exact (M.dk i hi).exD e m1 m2 k1 k2 k3 k4
theorem two_inj {vs us : Nat → V} (h : H c = some (.lst (two vs))) (h2 : H c = some (.lst (two us))) {i : Nat} (hi : i < 2) : vs i = us i := by
  rw [h] at h2
  have h3 : two vs = two us := by injection h2 with h2; injection h2
  unfold two at h3
  injection h3 with h4 h5
  injection h5 with h5
  rcases lt2 hi with rfl | rfl
  · exact h4
  · exact h5
theorem Main.setS (nd : (ms6 S B ad pl).Nodup) (M : Main K H Dk S B c cs ad pl LD LS LB) (hj : j < 2) {v : V} {us : Nat → V} (hu : H S = some (.lst (two us))) (hv : Dq (fz (ms6 S B ad pl) H) v (statesD (cat p))) : Main K (upd H S (.lst ((two us).set j v))) Dk S B c cs ad pl LD (up LS j p) LB := by
  obtain ⟨vs, h1, h2⟩ := M.ss
  obtain ⟨ws, h3, h4⟩ := M.bs
  obtain ⟨m1, m2, m3, m4⟩ := mem6 (S := S) (B := B) (ad := ad) (pl := pl) hj
  refine ⟨M.ms.updL, fun i hi => ?_, by rw [fz_upd m3]; exact M.dl, by rw [fz_upd m3]; exact M.cl, ⟨up us j v, by rw [upd_same, two_set hj], fun i hi => ?_⟩, ⟨ws, ?_, fun i hi => by rw [fz_upd m3]; exact h4 i hi⟩⟩
  · obtain ⟨n1, n2, n3, n4, n5, _⟩ := nd6s nd hi
    exact (M.dk i hi).updL m3 n1 n2
  · rw [fz_upd m3]
    by_cases q : i = j
    · subst q; rw [up_at, up_at]; exact hv
    · rw [up_ne q, up_ne q, two_inj hu h1 hi]; exact h2 i hi
  · rw [upd_ne (Ne.symm (nd6s nd hj).2.2.2.2.1)]
    exact h3
theorem Main.setB (nd : (ms6 S B ad pl).Nodup) (M : Main K H Dk S B c cs ad pl LD LS LB) (hj : j < 2) {v : V} {us : Nat → V} (hu : H B = some (.lst (two us))) (hv : Dq (fz (ms6 S B ad pl) H) v (looksD (cat p))) : Main K (upd H B (.lst ((two us).set j v))) Dk S B c cs ad pl LD LS (up LB j p) := by
  obtain ⟨vs, h1, h2⟩ := M.ss
  obtain ⟨ws, h3, h4⟩ := M.bs
  obtain ⟨m1, m2, m3, m4⟩ := mem6 (S := S) (B := B) (ad := ad) (pl := pl) hj
  refine ⟨M.ms.updL, fun i hi => ?_, by rw [fz_upd m4]; exact M.dl, by rw [fz_upd m4]; exact M.cl, ⟨vs, ?_, fun i hi => by rw [fz_upd m4]; exact h2 i hi⟩, ⟨up us j v, by rw [upd_same, two_set hj], fun i hi => ?_⟩⟩
  · obtain ⟨n1, n2, n3, n4, n5, _⟩ := nd6s nd hi
    exact (M.dk i hi).updL m4 n3 n4
  · rw [upd_ne (nd6s nd hj).2.2.2.2.1]
    exact h1
  · rw [fz_upd m4]
    by_cases q : i = j
    · subst q; rw [up_at, up_at]; exact hv
    · rw [up_ne q, up_ne q, two_inj hu h3 hi]; exact h4 i hi
/-! ### at the end: the desks from i on stand -/
structure Bk (K : PySem.W.Frag) (H : Hp) (Dk S B : Addr) (ad pl : Nat → Addr) (L : Nat → LP) (i : Nat) : Prop where
  ms : MsOk K (ms6 S B ad pl) H
  dk : ∀ k, i ≤ k → k < 2 → DeskF K (ms6 S B ad pl) H (ad k) (pl k) (cat (L k))
  dl : fz (ms6 S B ad pl) H Dk = some (.lst (two fun i => .ref (ad i)))
  ss : ∃ vs : Nat → V, H S = some (.lst (two vs)) ∧ ∀ i, i < 2 → Dq (fz (ms6 S B ad pl) H) (vs i) (statesD (cat (L i)))
  bs : ∃ ws : Nat → V, H B = some (.lst (two ws)) ∧ ∀ i, i < 2 → Dq (fz (ms6 S B ad pl) H) (ws i) (looksD (cat (L i)))
theorem Main.bk {L : Nat → LP} (M : Main K H Dk S B c cs ad pl L L L) : Bk K H Dk S B ad pl L 0 := ⟨M.ms, fun k _ hk => M.dk k hk, M.dl, M.ss, M.bs⟩
theorem Bk.ex {L : Nat → LP} {i : Nat} (M : Bk K H Dk S B ad pl L i) (e : Ex H H') : Bk K H' Dk S B ad pl L i := by
  obtain ⟨vs, h1, h2⟩ := M.ss
  obtain ⟨ws, h3, h4⟩ := M.bs
  exact ⟨M.ms.ex e, fun k h hk => (M.dk k h hk).ex e, fz_up e _ _ M.dl, ⟨vs, e _ _ h1, fun i hi => (h2 i hi).ex (fz_up e)⟩, ⟨ws, e _ _ h3, fun i hi => (h4 i hi).ex (fz_up e)⟩⟩
theorem Bk.next {L : Nat → LP} {i : Nat} (nd : (ms6 S B ad pl).Nodup) (M : Bk K H Dk S B ad pl L i) (hi : i < 2) (e : ExD (ad i) (pl i) H H') (hms : MsOk K (ms6 S B ad pl) H') : Bk K H' Dk S B ad pl L (i + 1) := by
  obtain ⟨vs, h1, h2⟩ := M.ss
  obtain ⟨ws, h3, h4⟩ := M.bs
  obtain ⟨m1, m2, m3, m4⟩ := mem6 (S := S) (B := B) (ad := ad) (pl := pl) hi
  obtain ⟨n1, n2, n3, n4, n5, _⟩ := nd6s nd hi
  have eF := e.fz m1 m2
  refine ⟨hms, fun k hk hk2 => ?_, eF _ _ M.dl, ⟨vs, e _ _ (Ne.symm n1) (Ne.symm n2) h1, fun i hi => (h2 i hi).ex eF⟩, ⟨ws, e _ _ (Ne.symm n3) (Ne.symm n4) h3, fun i hi => (h4 i hi).ex eF⟩⟩
  obtain ⟨k1, k2, k3, k4⟩ := nd6 nd hk2 hi (by omega)
  exact (M.dk k (by omega) hk2).exD e m1 m2 k1 k2 k3 k4
end
end K7

/-! KAQ: the law's beginning: desks, states, looks; what holds while things are put. -/
namespace K7
open PySem PySem.Spec PyProof.Rows L2 Evl RZ
section
variable {P : Program} {w : World} {K : PySem.W.Frag} {mg : Str → Option Value} {σ : L2.St} {H : Hp} {ta t0 t1 : TE} {E : XK} {D : Ends} {tz : TS}
theorem mk_Desk {ta : TA} {s : Int} (h : EvA ta σ H [.int s]) (h1 : 1 ≤ s) (h2 : s < 2 ^ 60) : EvPr (StX.tMakeR (He.ga K "Desk") (spDkI K) E ta) σ H (fun v H' => ∃ a, v = .ref a ∧ H a = none ∧ NewDk K H H' a s) := fun H1 e1 Q k =>
  h H1 e1 _ fun H2 e2 => fun x dx hx hdx hne => by
    have eU : Ex H2 (upd (upd H2 dx (.own x)) x (.ins (He.ga K "Desk") dx [])) := (ExB.refl x _).exU hx hdx
    have E2 := e1.trans e2
    refine ⟨x, dx, s, rfl, upd_same, h1, h2, fun H3 e3 hN => ⟨rfl, k _ H3 (e2.trans (e3.exU hx hdx)) ⟨x, rfl, fresh_back E2 hx, ?_⟩⟩⟩
    obtain ⟨dx', pl, b, dy, ln, names, top, q1, q2, q3, q4, q5, q6⟩ := hN
    exact ⟨dx', pl, b, dy, ln, names, top, q1, q2, fresh_back (E2.trans eU) q3, fresh_back (E2.trans eU) q4, q5, q6⟩
theorem desk_new (T : TXG fileC fa fx fn P K mg) {Ms : List Addr} {H' : Hp} {a : Addr} {s : Int} (hms : MsOk K Ms H) (e : Ex H H') (ha : H a = none) (hN : NewDk K H H' a s) : ∃ pl st, H pl = none ∧ a ≠ pl ∧ st.rows = [] ∧ st.s = s ∧ st.cap = none ∧ MsOk K (pl :: a :: Ms) H' ∧ DeskF K (pl :: a :: Ms) H' a pl (cat ([], st)) := by
  obtain ⟨dx, pl, b, dy, ln, names, top, h1, h2, h3, h4, h5, h6⟩ := hN
  have npa : a ≠ pl := by rintro rfl; rw [h1] at h2; cases h2
  have hm : MsOk K (pl :: a :: Ms) H' := fun x hx => by
    rcases List.mem_cons.mp hx with q | q
    · subst q; exact .inr ⟨_, h2⟩
    · rcases List.mem_cons.mp q with q | q
      · subst q; exact .inl ⟨dx, _, h1⟩
      · exact hms.ex e x q
  refine ⟨pl, ⟨[], s, none, names, top⟩, h3, npa, rfl, rfl, rfl, hm, by simp, by simp, dx, .ref b, [], h1, h2, .cons ⟨b, dy, ln, rfl, h6.fz T hm fun hl => ?_⟩ .nil⟩
  rcases List.mem_cons.mp hl with q | q
  · exact h5 q
  · rcases List.mem_cons.mp q with q | q
    · subst q
      obtain ⟨_, _, _, _, _, _, _, g, _⟩ := h6
      rw [h1] at g
      cases g
    · exact hms.some_ q h4
theorem q_lst2 {n : Nat} (h : t0 σ H fun v0 H1 => t1 σ H1 fun v1 H2 => [v0, v1].length ≤ sizeLine ∧ ∀ p, H2 p = none → tz D (σ.set n (some (.ref p))) (upd H2 p (.lst [v0, v1]))) : tSeq (tAsg (tLst (tCons t0 (tCons t1 tNil))) (gName n)) tz D σ H := h
abbrev ms4 (ad pl : Nat → Addr) : List Addr := [pl 1, ad 1, pl 0, ad 0]
theorem q_desks (T : TXG fileC fa fx fn P K mg) {ta0 ta1 : TA} {n : Nat} {s0 s1 : Int} (h0 : EvA ta0 σ H [.int s0]) (h1 : EvA ta1 σ H [.int s1]) (b0 : 1 ≤ s0 ∧ s0 < 2 ^ 60) (b1 : 1 ≤ s1 ∧ s1 < 2 ^ 60)
    (k : ∀ (ad pl : Nat → Addr) (st : Nat → SD) (Dk : Addr) (H' : Hp), Ex H H' → MsOk K (ms4 ad pl) H' → (ms4 ad pl).Nodup → (∀ m ∈ ms4 ad pl, H m = none) → (∀ i, i < 2 → DeskF K (ms4 ad pl) H' (ad i) (pl i) (cat ([], st i)) ∧ (st i).rows = [] ∧ (st i).cap = none) → (st 0).s = s0 → (st 1).s = s1 → fz (ms4 ad pl) H' Dk = some (.lst (two fun i => .ref (ad i))) → tz D (σ.set n (some (.ref Dk))) H') :
    tSeq (tAsg (tLst (tCons (StX.tMakeR (He.ga K "Desk") (spDkI K) E ta0) (tCons (StX.tMakeR (He.ga K "Desk") (spDkI K) E ta1) tNil))) (gName n)) tz D σ H := by
  refine q_lst2 (mk_Desk h0 b0.1 b0.2 H (Ex.refl _) _ fun v0 H1 e1 hv0 => ?_)
  obtain ⟨a0, rfl, ha0, hN0⟩ := hv0
  obtain ⟨p0, st0, hp0, n0, r0, r1, r2, m0, dk0⟩ := desk_new T (Ms := []) (fun _ h => by cases h) e1 ha0 hN0
  refine mk_Desk (EvA.mono e1 h1) b1.1 b1.2 H1 (Ex.refl _) _ fun v1 H2 e2 hv1 => ⟨sz_of (by simp), ?_⟩
  obtain ⟨a1, rfl, ha1, hN1⟩ := hv1
  obtain ⟨p1, st1, hp1, n1, s2, s3, s4, m1, dk1⟩ := desk_new T m0 e2 ha1 hN1
  have hna1 : a1 ∉ [p0, a0] := m0.live.new ha1
  have hnp1 : p1 ∉ [p0, a0] := m0.live.new hp1
  simp only [List.mem_cons, List.not_mem_nil, or_false, not_or] at hna1 hnp1
  intro Dk hDk
  have e3 : Ex H2 (upd H2 Dk (.lst [.ref a0, .ref a1])) := Ex.new hDk
  refine k (fun i => if i = 0 then a0 else a1) (fun i => if i = 0 then p0 else p1) (fun i => if i = 0 then st0 else st1) Dk _ ((e1.trans e2).trans e3) (m1.ex e3) ?_ ?_ ?_ r1 s3 ?_
  · simp [ms4, Ne.symm n1, hna1, hnp1, Ne.symm n0]
  · intro m hm
    simp [ms4] at hm
    rcases hm with rfl | rfl | rfl | rfl
    · exact fresh_back e1 hp1
    · exact fresh_back e1 ha1
    · exact hp0
    · exact ha0
  · intro i hi
    rcases lt2 hi with rfl | rfl
    · refine ⟨(dk0.lift (Ns := [p1, a1, p0, a0]) e2 (fun m hm => ?_) (by simp) (by simp)).ex e3, r0, r2⟩
      simp at hm
      rcases hm with rfl | rfl | rfl | rfl
      · exact .inr hp1
      · exact .inr ha1
      · exact .inl (by simp)
      · exact .inl (by simp)
    · exact ⟨dk1.ex e3, s2, s4⟩
  · show fz [p1, a1, p0, a0] _ Dk = _
    rw [fz_out (m1.live.new hDk)]
    exact upd_same
theorem q_disp {Ms : List Addr} {n : Nat} {d0 d1 : PyData} (hL : Live Ms H) (h0 : EvZ Ms t0 σ H d0) (h1 : ∀ p H1, Ex H H1 → H p = none → Live (p :: Ms) H1 → EvZ (p :: Ms) t1 σ H1 d1)
    (k : ∀ S S0 x0 v1 H', Ex H H' → H S0 = none → H S = none → S ≠ S0 → H' S0 = some (.lst [x0]) → H' S = some (.lst [.ref S0, v1]) → Dq (fz (S :: S0 :: Ms) H') x0 d0 → Dq (fz (S :: S0 :: Ms) H') v1 (.list [d1]) → tz D (σ.set n (some (.ref S))) H') :
    tSeq (tAsg (tLst (tCons (tLst (tCons t0 tNil)) (tCons (tLst (tCons t1 tNil)) tNil))) (gName n)) tz D σ H := by
  refine h0 H (Ex.refl _) _ fun x0 Ha ea hx0 => ⟨sz_of (by simp), fun S0 hS0 => ?_⟩
  have eb : Ex Ha (upd Ha S0 (.lst [x0])) := Ex.new hS0
  have hLb : Live (S0 :: Ms) (upd Ha S0 (.lst [x0])) := fun m hm => by
    rcases List.mem_cons.mp hm with q | q
    · subst q; rw [upd_same]; intro h; cases h
    · exact (hL.ex (ea.trans eb)) m q
  refine h1 S0 _ (ea.trans eb) (fresh_back ea hS0) hLb _ (Ex.refl _) _ fun x1 Hc ec hx1 => ⟨sz_of (by simp), fun S1 hS1 => ⟨sz_of (by simp), fun S hS => ?_⟩⟩
  have ed : Ex Hc (upd Hc S1 (.lst [x1])) := Ex.new hS1
  have ee : Ex (upd Hc S1 (.lst [x1])) (upd (upd Hc S1 (.lst [x1])) S (.lst [.ref S0, .ref S1])) := Ex.new hS
  have hS0d : upd Hc S1 (.lst [x1]) S0 = some (.lst [x0]) := (ec.trans ed) _ _ upd_same
  have nS : S ≠ S0 := by rintro rfl; rw [hS0d] at hS; cases hS
  have n1 : S1 ∉ S0 :: Ms := (hLb.ex ec).new hS1
  have hS1b := fresh_back ec hS1
  refine k S S0 x0 (.ref S1) _ ((ea.trans eb).trans (ec.trans (ed.trans ee))) (fresh_back ea hS0) (fresh_back ((ea.trans eb).trans (ec.trans ed)) hS) nS (ee _ _ hS0d) upd_same (hx0.ex (fz_lift (eb.trans (ec.trans (ed.trans ee))) fun m hm => ?_)) ?_
  · rcases List.mem_cons.mp hm with q | q
    · subst q; exact .inr (fresh_back (eb.trans (ec.trans ed)) hS)
    · rcases List.mem_cons.mp q with q | q
      · subst q; exact .inr hS0
      · exact .inl q
  · have hd : Dq (fz (S0 :: Ms) (upd Hc S1 (.lst [x1]))) (.ref S1) (.list [d1]) := .lst (by rw [fz_out n1]; exact upd_same) (.cons (hx1.ex (fz_up ed)) .nil)
    exact hd.ex (fz_lift ee fun m hm => by
      rcases List.mem_cons.mp hm with q | q
      · subst q; exact .inr hS
      · exact .inl q)
end
/-! ### while things are put -/
abbrev ms8 (S B S0 B0 : Addr) (ad pl : Nat → Addr) : List Addr := [B, B0, S, S0, pl 1, ad 1, pl 0, ad 0]
structure Init (K : PySem.W.Frag) (H : Hp) (Dk S B S0 B0 dr : Addr) (ds : List V) (ad pl : Nat → Addr) (LD LS LB : LP) (st1 : SD) : Prop where
  ms : MsOk K (ms8 S B S0 B0 ad pl) H
  d0 : DeskF K (ms8 S B S0 B0 ad pl) H (ad 0) (pl 0) (cat LD)
  d1 : DeskF K (ms8 S B S0 B0 ad pl) H (ad 1) (pl 1) (cat ([], st1))
  dl : fz (ms8 S B S0 B0 ad pl) H Dk = some (.lst (two fun i => .ref (ad i)))
  dr_ : fz (ms8 S B S0 B0 ad pl) H dr = some (.lst ds)
  ss : ∃ v1, H S = some (.lst [.ref S0, v1]) ∧ Dq (fz (ms8 S B S0 B0 ad pl) H) v1 (statesD (cat ([], st1)))
  s0 : ∃ xs, H S0 = some (.lst xs) ∧ DqAll (fz (ms8 S B S0 B0 ad pl) H) xs ((cat LS).map stD)
  bs : ∃ w1, H B = some (.lst [.ref B0, w1]) ∧ Dq (fz (ms8 S B S0 B0 ad pl) H) w1 (looksD (cat ([], st1)))
  b0 : ∃ ys, H B0 = some (.lst ys) ∧ DqAll (fz (ms8 S B S0 B0 ad pl) H) ys ((cat LB).map lookD)
section
variable {K : PySem.W.Frag} {H H' : Hp} {Dk S B S0 B0 dr c : Addr} {ds cs : List V} {ad pl : Nat → Addr} {LD LS LB p : LP} {st1 : SD}
theorem Init.ex (M : Init K H Dk S B S0 B0 dr ds ad pl LD LS LB st1) (e : Ex H H') : Init K H' Dk S B S0 B0 dr ds ad pl LD LS LB st1 := by
  obtain ⟨v1, h1, h2⟩ := M.ss
  obtain ⟨w1, h3, h4⟩ := M.bs
  obtain ⟨xs, h5, h6⟩ := M.s0
  obtain ⟨ys, h7, h8⟩ := M.b0
  exact ⟨M.ms.ex e, M.d0.ex e, M.d1.ex e, fz_up e _ _ M.dl, fz_up e _ _ M.dr_, ⟨v1, e _ _ h1, h2.ex (fz_up e)⟩, ⟨xs, e _ _ h5, h6.ex (fz_up e)⟩, ⟨w1, e _ _ h3, h4.ex (fz_up e)⟩, ⟨ys, e _ _ h7, h8.ex (fz_up e)⟩⟩
structure Nd8 (S B S0 B0 : Addr) (ad pl : Nat → Addr) : Prop where
  a : ad 0 ≠ S ∧ ad 0 ≠ B ∧ ad 0 ≠ S0 ∧ ad 0 ≠ B0 ∧ ad 0 ≠ ad 1 ∧ ad 0 ≠ pl 1 ∧ ad 0 ≠ pl 0
  p : pl 0 ≠ S ∧ pl 0 ≠ B ∧ pl 0 ≠ S0 ∧ pl 0 ≠ B0 ∧ pl 0 ≠ ad 1 ∧ pl 0 ≠ pl 1
  s : S0 ≠ S ∧ S0 ≠ B ∧ S0 ≠ B0 ∧ S0 ≠ ad 1 ∧ S0 ≠ pl 1
  b : B0 ≠ S ∧ B0 ≠ B ∧ B0 ≠ ad 1 ∧ B0 ≠ pl 1
theorem nd8 (nd : (ms8 S B S0 B0 ad pl).Nodup) : Nd8 S B S0 B0 ad pl := by
  simp only [ms8, List.nodup_cons, List.mem_cons, List.not_mem_nil, or_false, not_or] at nd
  obtain ⟨⟨a1, a2, a3, a4, a5, a6, a7⟩, ⟨b1, b2, b3, b4, b5, b6⟩, ⟨c1, c2, c3, c4, c5⟩, ⟨d1, d2, d3, d4⟩, ⟨e1, e2, e3⟩, ⟨f1, f2⟩, g1, _⟩ := nd
  exact ⟨⟨Ne.symm c5, Ne.symm a7, Ne.symm d4, Ne.symm b6, Ne.symm f2, Ne.symm e3, Ne.symm g1⟩, ⟨Ne.symm c4, Ne.symm a6, Ne.symm d3, Ne.symm b5, Ne.symm f1, Ne.symm e2⟩, ⟨Ne.symm c1, Ne.symm a3, Ne.symm b2, d2, d1⟩, ⟨b1, Ne.symm a1, b4, b3⟩⟩
theorem mem8 : (ad 0 ∈ ms8 S B S0 B0 ad pl ∧ pl 0 ∈ ms8 S B S0 B0 ad pl) ∧ S0 ∈ ms8 S B S0 B0 ad pl ∧ B0 ∈ ms8 S B S0 B0 ad pl := by simp [ms8]
theorem Init.desk (nd : (ms8 S B S0 B0 ad pl).Nodup) (M : Init K H Dk S B S0 B0 dr ds ad pl LD LS LB st1) (e : ExD (ad 0) (pl 0) H H') (hms : MsOk K (ms8 S B S0 B0 ad pl) H') (hd : DeskF K (ms8 S B S0 B0 ad pl) H' (ad 0) (pl 0) (cat p)) : Init K H' Dk S B S0 B0 dr ds ad pl p LS LB st1 := by
  obtain ⟨v1, h1, h2⟩ := M.ss
  obtain ⟨w1, h3, h4⟩ := M.bs
  obtain ⟨xs, h5, h6⟩ := M.s0
  obtain ⟨ys, h7, h8⟩ := M.b0
  have n := nd8 nd
  obtain ⟨⟨m1, m2⟩, m3, m4⟩ := mem8 (S := S) (B := B) (S0 := S0) (B0 := B0) (ad := ad) (pl := pl)
  have eF := e.fz m1 m2
  exact ⟨hms, hd, M.d1.exD e m1 m2 (Ne.symm n.a.2.2.2.2.1) (Ne.symm n.p.2.2.2.2.1) (Ne.symm n.a.2.2.2.2.2.1) (Ne.symm n.p.2.2.2.2.2), eF _ _ M.dl, eF _ _ M.dr_, ⟨v1, e _ _ (Ne.symm n.a.1) (Ne.symm n.p.1) h1, h2.ex eF⟩, ⟨xs, e _ _ (Ne.symm n.a.2.2.1) (Ne.symm n.p.2.2.1) h5, h6.ex eF⟩, ⟨w1, e _ _ (Ne.symm n.a.2.1) (Ne.symm n.p.2.1) h3, h4.ex eF⟩, ⟨ys, e _ _ (Ne.symm n.a.2.2.2.1) (Ne.symm n.p.2.2.2.1) h7, h8.ex eF⟩⟩
theorem Init.appS (nd : (ms8 S B S0 B0 ad pl).Nodup) (M : Init K H Dk S B S0 B0 dr ds ad pl LD LS LB st1) {xs : List V} (hx : H S0 = some (.lst xs)) {v : V} {st' : SD} (hv : Dq (fz (ms8 S B S0 B0 ad pl) H) v (stD st')) : Init K (upd H S0 (.lst (xs ++ [v]))) Dk S B S0 B0 dr ds ad pl LD (cat LS, st') LB st1 := by
  obtain ⟨v1, h1, h2⟩ := M.ss
  obtain ⟨w1, h3, h4⟩ := M.bs
  obtain ⟨xs', h5, h6⟩ := M.s0
  rw [hx] at h5
  cases h5
  obtain ⟨ys, h7, h8⟩ := M.b0
  have n := nd8 nd
  obtain ⟨⟨m1, m2⟩, m3, m4⟩ := mem8 (S := S) (B := B) (S0 := S0) (B0 := B0) (ad := ad) (pl := pl)
  refine ⟨M.ms.updL, M.d0.updL m3 n.a.2.2.1 n.p.2.2.1, M.d1.updL m3 (Ne.symm n.s.2.2.2.1) (Ne.symm n.s.2.2.2.2), by rw [fz_upd m3]; exact M.dl, by rw [fz_upd m3]; exact M.dr_, ⟨v1, by rw [upd_ne (Ne.symm n.s.1)]; exact h1, by rw [fz_upd m3]; exact h2⟩, ⟨_, upd_same, ?_⟩, ⟨w1, by rw [upd_ne (Ne.symm n.s.2.1)]; exact h3, by rw [fz_upd m3]; exact h4⟩, ⟨ys, by rw [upd_ne (Ne.symm n.s.2.2.1)]; exact h7, by rw [fz_upd m3]; exact h8⟩⟩
  rw [fz_upd m3]
  show DqAll _ _ ((cat LS ++ [st']).map stD)
  rw [List.map_append]
  exact h6.app (.cons hv .nil)
theorem Init.appB (nd : (ms8 S B S0 B0 ad pl).Nodup) (M : Init K H Dk S B S0 B0 dr ds ad pl LD LS LB st1) {xs : List V} (hx : H B0 = some (.lst xs)) {v : V} {st' : SD} (hv : Dq (fz (ms8 S B S0 B0 ad pl) H) v (lookD st')) : Init K (upd H B0 (.lst (xs ++ [v]))) Dk S B S0 B0 dr ds ad pl LD LS (cat LB, st') st1 := by
  obtain ⟨v1, h1, h2⟩ := M.ss
  obtain ⟨w1, h3, h4⟩ := M.bs
  obtain ⟨xs', h5, h6⟩ := M.s0
  obtain ⟨ys, h7, h8⟩ := M.b0
  rw [hx] at h7
  cases h7
  have n := nd8 nd
  obtain ⟨⟨m1, m2⟩, m3, m4⟩ := mem8 (S := S) (B := B) (S0 := S0) (B0 := B0) (ad := ad) (pl := pl)
  refine ⟨M.ms.updL, M.d0.updL m4 n.a.2.2.2.1 n.p.2.2.2.1, M.d1.updL m4 (Ne.symm n.b.2.2.1) (Ne.symm n.b.2.2.2), by rw [fz_upd m4]; exact M.dl, by rw [fz_upd m4]; exact M.dr_, ⟨v1, by rw [upd_ne (Ne.symm n.b.1)]; exact h1, by rw [fz_upd m4]; exact h2⟩, ⟨xs', by rw [upd_ne n.s.2.2.1]; exact h5, by rw [fz_upd m4]; exact h6⟩, ⟨w1, by rw [upd_ne (Ne.symm n.b.2.1)]; exact h3, by rw [fz_upd m4]; exact h4⟩, ⟨_, upd_same, ?_⟩⟩
  rw [fz_upd m4]
  show DqAll _ _ ((cat LB ++ [st']).map lookD)
  rw [List.map_append]
  exact h8.app (.cons hv .nil)
theorem Init.main (nd : (ms8 S B S0 B0 ad pl).Nodup) (M : Init K H Dk S B S0 B0 dr ds ad pl p p p st1) (e : Ex H H') (hc : H c = none) (hc' : H' c = some (.lst cs)) : (ms6 S B ad pl).Nodup ∧ Main K H' Dk S B c cs ad pl (fun i => if i = 0 then p else ([], st1)) (fun i => if i = 0 then p else ([], st1)) (fun i => if i = 0 then p else ([], st1)) := by
  have n := nd8 nd
  have hs : ∀ m ∈ ms6 S B ad pl, m ∈ ms8 S B S0 B0 ad pl := fun m hm => by
    simp only [ms6, ms8, List.mem_cons, List.not_mem_nil, or_false] at hm ⊢
    rcases hm with h | h | h | h | h | h <;> simp [h]
  have eF : Ex (fz (ms8 S B S0 B0 ad pl) H) (fz (ms6 S B ad pl) H') := fz_lift e fun m hm => .inl (hs m hm)
  have M' := M.ex e
  obtain ⟨v1, h1, h2⟩ := M.ss
  obtain ⟨w1, h3, h4⟩ := M.bs
  obtain ⟨xs', h5, h6⟩ := M.s0
  obtain ⟨ys, h7, h8⟩ := M.b0
  have out0 : S0 ∉ ms6 S B ad pl := by simp [ms6, n.s.1, n.s.2.1, n.s.2.2.2.1, n.s.2.2.2.2, Ne.symm n.a.2.2.1, Ne.symm n.p.2.2.1]
  have out1 : B0 ∉ ms6 S B ad pl := by simp [ms6, n.b.1, n.b.2.1, n.b.2.2.1, n.b.2.2.2, Ne.symm n.a.2.2.2.1, Ne.symm n.p.2.2.2.1]
  refine ⟨List.Nodup.sublist ?_ nd, M'.ms.sub hs, fun i hi => ?_, eF _ _ M.dl, ?_, ⟨fun i => if i = 0 then .ref S0 else v1, e _ _ h1, fun i hi => ?_⟩, ⟨fun i => if i = 0 then .ref B0 else w1, e _ _ h3, fun i hi => ?_⟩⟩
  · exact .cons_cons _ (.cons _ (.cons_cons _ (.cons _ (.refl _))))
  · obtain ⟨q1, q2, _⟩ := mem6 (S := S) (B := B) (ad := ad) (pl := pl) hi
    rcases lt2 hi with rfl | rfl
    · exact M.d0.lift e (fun m hm => .inl (hs m hm)) q1 q2
    · exact M.d1.lift e (fun m hm => .inl (hs m hm)) q1 q2
  · rw [fz_out fun hm => M.ms.live.new hc (hs _ hm)]
    exact hc'
  · rcases lt2 hi with rfl | rfl
    · exact .lst (by rw [fz_out out0]; exact e _ _ h5) (h6.ex eF)
    · exact h2.ex eF
  · rcases lt2 hi with rfl | rfl
    · exact .lst (by rw [fz_out out1]; exact e _ _ h7) (h8.ex eF)
    · exact h4.ex eF
end
end K7

/-! KAR: law. -/
namespace K7
open PySem PySem.Spec PyProof.Rows L2 Evl RZ
theorem stD_new {st : SD} {s : Int} (h1 : st.rows = []) (h2 : st.s = s) (h3 : st.cap = none) : stD st = .list [.list [], .int s, .none] := by
  unfold stD
  rw [h1, h2, h3]
  rfl
def nmK (i : Nat) : Str := ⟨(List.replicate (1 + (i : Int) % 12).toNat #[97 + i]).foldl (· ++ ·) #[]⟩
def rowK (i : Nat) : Row := (nmK i, (5 * (i : Int)) % 7, 1 + (i : Int) % 5)
def rowsK (n : Nat) : List Row := (List.range n).map rowK
def lets24 : Str := "abcdefghijklmnopqrstuvwx"
theorem lets24_at : ∀ i < 24, atI lets24.cps.toList ((i : Nat) : Int) = some (97 + i) := by decide +kernel
theorem nmK_ok : ∀ i < 24, nmOk (nmK i) = true := by decide +kernel
theorem nmK_len : ∀ i < 24, (nmK i).length ≤ 1000 := by decide +kernel
theorem nmK_nd : ((List.range 24).map nmK).Nodup := by decide +kernel
theorem nmK_new {i : Nat} (hi : i < 24) : known (rowsK i) (nmK i) = false := by
  refine decide_eq_false fun h => ?_
  obtain ⟨r, hr, e⟩ := List.mem_map.mp h
  obtain ⟨j, hj, rfl⟩ := List.mem_map.mp hr
  have hj := List.mem_range.mp hj
  have hp := List.pairwise_iff_getElem.mp nmK_nd j i (by simp; omega) (by simp; exact hi) hj
  rw [List.getElem_map, List.getElem_map, List.getElem_range, List.getElem_range] at hp
  exact hp e
section
variable {P : Program} {w : World} {K : PySem.W.Frag} {mg : Str → Option Value} {base : Heap}
section
variable {Ms : List Addr} {σ : L2.St} {H : Hp} {ta te tl : TE} {D : Ends} {tz : TS} {d : PyData} {ds : List PyData}
theorem rv_rep {z : Str} {n : Int} (h1 : 1 ≤ n) (h2 : n ≤ 1000) (h3 : z.length ≤ 1000) : RV (fun x y H Q => ∃ z n, x = .str z ∧ y = .int n ∧ 1 ≤ n ∧ n ≤ 1000 ∧ z.length ≤ 1000 ∧ (∀ z', z'.cps = (List.replicate n.toNat z.cps).foldl (· ++ ·) #[] → Q (.str z') H)) (.str z) (.int n) H (.str ⟨(List.replicate n.toNat z.cps).foldl (· ++ ·) #[]⟩) := rv_val fun H1 e1 Q k => ⟨z, n, rfl, rfl, h1, h2, h3, fun z' hz => by
  obtain ⟨c⟩ := z'
  have hz : c = _ := hz
  subst hz
  exact k⟩
theorem s_appZ {l : Addr} {xs : List V} (hl : H l = some (.lst xs)) (ha : Ev ta σ H (.ref l)) (h : EvZ Ms te σ H d) (hz : xs.length < 100000) (k : ∀ v H1, Ex H H1 → Dq (fz Ms H1) v d → D.nx σ (upd H1 l (.lst (xs ++ [v])))) :
    tDrop (tBM K "list" rAppend ta (tCons te tNil)) D σ H := ha H (Ex.refl _) _ fun H1 e1 => ⟨.inl ⟨rfl, xs, sq_of (e1 _ _ hl)⟩, h H1 e1 _ fun v H2 e2 hv => ⟨l, xs, v, rfl, rfl, (e1.trans e2) _ _ hl, sz_lt hz, k v H2 (e1.trans e2) hv⟩⟩
theorem q_appZ {l : Addr} {xs : List V} (hl : H l = some (.lst xs)) (ha : Ev ta σ H (.ref l)) (h : EvZ Ms te σ H d) (hz : xs.length < 100000) (k : ∀ v H1, Ex H H1 → Dq (fz Ms H1) v d → tz D σ (upd H1 l (.lst (xs ++ [v])))) :
    tSeq (tDrop (tBM K "list" rAppend ta (tCons te tNil))) tz D σ H := s_appZ (D := { D with nx := tz D }) hl ha h hz k
theorem ez_last {l : Addr} {xs : List V} (hl : H l = some (.lst xs)) (ha : Ev ta σ H (.ref l)) (hx : DqAll (fz Ms H) xs (ds ++ [d])) : EvZ Ms (tOp (rIxL K) ta (tUn (rU fun i => .int (-i)) (tC (.int 1)))) σ H d := fun H1 e1 Q k =>
  ha H1 e1 _ fun H2 e2 => ⟨1, rfl, by
    have E := e1.trans e2
    obtain ⟨v, hv, hd⟩ := (hx.ex (fz_up E)).get (i := ds.length) (d := d) (by simp)
    refine ⟨l, xs, -1, v, rfl, rfl, sq_of (E _ _ hl), ?_, k v H2 e2 hd⟩
    have hlen := hx.len
    simp only [List.length_append, List.length_cons, List.length_nil] at hlen
    have h : ixN xs.length (-1) = some ds.length := by
      unfold ixN
      rw [hlen]
      split
      · rename_i h; omega
      · split
        · congr 1; omega
        · rename_i h1 h2; omega
    unfold atI
    rw [h]
    exact hv⟩
end
section
variable {σ : L2.St} {H : Hp} {t0 t1 t2 t3 te : TE} {ta : TA} {D : Ends} {tz : TS} {E : XK}
theorem ei_rng2 {n : Nat} {lo hi : Int} (h : EvA ta σ H [.int lo, .int hi]) (h0 : -1000 ≤ lo ∧ lo ≤ 1000 ∧ -1000 ≤ hi ∧ hi ≤ 1000) (hn : (hi - lo).toNat = n) : EvI (iRng2 ta) σ H n (fun i x _ => x = .int (lo + (i : Int))) := fun H1 e R r => h H1 e _ fun H2 e2 => ⟨lo, hi, rfl, by omega, r _ _ e2 (by
  rw [hn]
  exact ⟨fun H e => Nat.le_refl n, fun i H hi e => hi, fun i H x H' hi e y => by
    obtain ⟨rfl, rfl⟩ := y
    exact ⟨Ex.refl _, rfl⟩⟩)⟩
def IsI (_ : Hp) (v : V) (_ : Unit) : Prop := ∃ c, v = .int c
theorem stay_I : Stay IsI := fun _ _ _ _ _ h => h
theorem stayL_I : StayL IsI := fun _ _ _ _ _ _ _ h => h
theorem all_I {H : Hp} : ∀ {xs : List V} {us : List Unit}, All2 (IsI H) xs us → ∀ x ∈ xs, ∃ c, x = V.int c
  | _, _, .nil, _, hx => by cases hx
  | _, _, .cons h t, x, hx => by
    cases hx with
    | head => exact h
    | tail _ hx => exact all_I t x hx
theorem ep_move {c : Int} {rows : List Row} (h1 : Ev t1 σ H (.int c)) (h2 : EvD t2 σ H (rowsD rows)) (hl : rows.length ≤ 24) (hn : ∀ r ∈ rows, r.1.length ≤ 12) : EvPr (fun σ H Q => tCons t1 (tCons t2 tNil) σ H fun vs H1 => spMove K vs H1 Q E) σ H (fun v H' => ∃ m, Dq H' v (mvD m) ∧ MvOk m) := fun H1 e1 Q k =>
  h1 H1 e1 _ fun H2 e2 => h2 H2 (e1.trans e2) _ fun v H3 e3 hv => ⟨c, v, rows, rfl, hv, hl, hn, fun v m H4 e4 hv hm => k v H4 ((e2.trans e3).trans e4) ⟨m, hv, hm⟩⟩
theorem q_call4 {n : Nat} {sp : Sp} {v0 v1 v2 v3 : V} (h0 : Ev t0 σ H v0) (h1 : Ev t1 σ H v1) (h2 : Ev t2 σ H v2) (h3 : Ev t3 σ H v3) (k : ∀ H1, Ex H H1 → sp [v0, v1, v2, v3] H1 (fun x H2 => tz D (σ.set n (some x)) H2) E) :
    tSeq (tAsg (fun σ H Q => tCons t0 (tCons t1 (tCons t2 (tCons t3 tNil))) σ H fun vs H1 => sp vs H1 Q E) (gName n)) tz D σ H := by
  show tCons t0 (tCons t1 (tCons t2 (tCons t3 tNil))) σ H fun vs H1 => sp vs H1 (fun x H2 => tz D (σ.set n (some x)) H2) E
  exact (ea_cons h0 (ea_cons h1 (ea_cons h2 (ea_cons h3 ea_nil)))) H (Ex.refl _) _ fun H1 e1 => k H1 e1
/-- if not f(..): .. where f gives True -/
theorem s_whenBk {tu : TS} {sp : Sp} {vs : List V} (h : EvA ta σ H vs) (k : ∀ H1, Ex H H1 → sp vs H1 (fun v H2 => ∃ c, v = .bl c ∧ (if (!c) = true then tu D σ H2 else D.nx σ H2)) E) : tIfS (tNot (tB (fun σ H Q => ta σ H fun vs H1 => sp vs H1 Q E))) tu tNext D σ H :=
  h H (Ex.refl _) _ fun H1 e1 => k H1 e1
theorem nmOk_len {x : Str} (h : nmOk x = true) : x.length ≤ 12 := by
  unfold nmOk at h
  have h1 := (Bool.and_eq_true_iff.mp h).1
  simp at h1
  omega
end
theorem sc_law : FnScope ["_law_script", "_law_drawn", "_law_desks", "_law_states", "_law_looks", "_law_k", "_law_row", "_law_cells", "_law_cell_here", "_law_which", "_law_move_here", "_law_pair"] ["_law_script"] (defScope s_law) := ⟨rfl, rfl, rfl, by decide +kernel, rfl, by decide +kernel, by decide +kernel⟩
def spLaw (K : PySem.W.Frag) : Sp := fun vs H Q _ => ∃ (a : Addr) (ns : List Int), vs = [.ref a] ∧ SqL K H a (ns.map V.int) ∧ ns.length ≤ 63 ∧ ∀ H', Q (.bl true) H'
abbrev szL : List Int := [999999999999999999, 999999999999999999, 4, 25]
theorem body_law (T : TXG fileC fa fx fn P K mg) {A : Around} {outer : List Env} {s : Shared} {H : Hp} {vs : List V} {Q : VK} {E : XK} {cdv : Value} (hr : Room 32 (A.deeper (envOfC d_law.qual (defScope d_law.st) s.heap.objs.size (d_law.ad K) cdv))) (h : spLaw K vs H Q E) :
    ∃ t, PSs (cxOf (L2.CX P w) P w K mg base ["_law_script", "_law_drawn", "_law_desks", "_law_states", "_law_looks", "_law_k", "_law_row", "_law_cells", "_law_cell_here", "_law_which", "_law_move_here", "_law_pair"] d_law.qual (defScope d_law.st) (d_law.ad K) cdv A outer s H E) (defBody d_law.st) t ∧ t { nx := fun _ H' => Q .non H', rt := Q } (start ["_law_script", "_law_drawn", "_law_desks", "_law_states", "_law_looks", "_law_k", "_law_row", "_law_cells", "_law_cell_here", "_law_which", "_law_move_here", "_law_pair"] vs) H := by
  · refine ⟨_, (pss_cons (ps_set (i := 1) sc_law.nd rfl (Or.inl rfl) (pe_callR (ok__law_draws T).r (hr.mono (by decide)) T.k__law_draws (by rfl) T.g__law_draws passL (pa_cons (pe_callR (ok__law_cell T).r (hr.mono (by decide)) T.k__law_cell (by rfl) T.g__law_cell passL (pa_cons (pv 0) (pa_cons pe_int pa_nil))) (pa_cons (pe_lst (pa_cons (pe_op op_sub (pe_op op_pow pe_int pe_int) pe_int) (pa_cons (pe_op op_sub (pe_op op_pow pe_int pe_int) pe_int) (pa_cons pe_int (pa_cons pe_int pa_nil))))) pa_nil))))
      (pss_cons (ps_set (i := 2) sc_law.nd rfl (Or.inl rfl) (pe_lst (pa_cons (StX.pe_makeR T.mk_Desk (ok_Desk___init__ T).r (hr.mono (by decide)) (by rfl) T.g_Desk passL (pa_cons (pe_op op_add pe_int (pe_ix ix_list (pv 1) pe_int (fun _ _ => rfl))) pa_nil)) (pa_cons (StX.pe_makeR T.mk_Desk (ok_Desk___init__ T).r (hr.mono (by decide)) (by rfl) T.g_Desk passL (pa_cons (pe_op op_add pe_int (pe_ix ix_list (pv 1) pe_int (fun _ _ => rfl))) pa_nil)) pa_nil))))
      (pss_cons (ps_set (i := 3) sc_law.nd rfl (Or.inl rfl) (pe_lst (pa_cons (pe_lst (pa_cons (pe_lst (pa_cons (pe_lst pa_nil) (pa_cons (pe_op op_add pe_int (pe_ix ix_list (pv 1) pe_int (fun _ _ => rfl))) (pa_cons pe_non pa_nil)))) pa_nil)) (pa_cons (pe_lst (pa_cons (pe_lst (pa_cons (pe_lst pa_nil) (pa_cons (pe_op op_add pe_int (pe_ix ix_list (pv 1) pe_int (fun _ _ => rfl))) (pa_cons pe_non pa_nil)))) pa_nil)) pa_nil))))
      (pss_cons (ps_set (i := 4) sc_law.nd rfl (Or.inl rfl) (pe_lst (pa_cons (pe_lst (pa_cons (pe_callR (ok__law_look T).r (hr.mono (by decide)) T.k__law_look (by rfl) T.g__law_look passL (pa_cons (pe_ix ix_list (pv 2) pe_int (fun _ _ => rfl)) pa_nil)) pa_nil)) (pa_cons (pe_lst (pa_cons (pe_callR (ok__law_look T).r (hr.mono (by decide)) T.k__law_look (by rfl) T.g__law_look passL (pa_cons (pe_ix ix_list (pv 2) pe_int (fun _ _ => rfl)) pa_nil)) pa_nil)) pa_nil))))
      (pss_cons (ps_if (pt_cmpR op_eq (pe_ix ix_list (pv 1) pe_int (fun _ _ => rfl)) pe_int (nomark _)) (pss_one (ps_for (passes_of rfl) rfl (pi_range1 (by rfl) T.n_range (pa_cons (pe_ix ix_list (pv 1) pe_int (fun _ _ => rfl)) pa_nil)) (pg_name (i := 5) sc_law.nd rfl (Or.inl rfl))
      (pss_cons (ps_set (i := 6) sc_law.nd rfl (Or.inl rfl) (pe_tup (pa_cons (pe_op op_repStr (pe_ix ix_str pe_str (pv 5) (fun _ _ => rfl)) (pe_op op_add pe_int (pe_op op_mod (pe_callTy call_int1 (by rfl) T.n_int (by decide +kernel) (pa_cons (pv 5) pa_nil)) pe_int))) (pa_cons (pe_op op_mod (pe_callTy call_int1 (by rfl) T.n_int (by decide +kernel) (pa_cons (pe_op op_mul pe_int (pv 5)) pa_nil)) pe_int) (pa_cons (pe_op op_add pe_int (pe_op op_mod (pe_callTy call_int1 (by rfl) T.n_int (by decide +kernel) (pa_cons (pv 5) pa_nil)) pe_int)) pa_nil)))))
      (pss_cons (ps_expr (pe_methR (pe_ix ix_list (pv 2) pe_int (fun _ _ => rfl)) T.c_Desk T.me_Desk_put (ok_Desk_put T).r (hr.mono (by decide)) (passes_call (takes_of rfl rfl rfl rfl) (fun _ _ _ _ z => z)) (pa_cons (pe_ix ix_tup (pv 6) pe_int (fun _ _ => rfl)) (pa_cons (pe_ix ix_tup (pv 6) pe_int (fun _ _ => rfl)) (pa_cons (pe_ix ix_tup (pv 6) pe_int (fun _ _ => rfl)) pa_nil)))))
      (pss_cons (ps_expr (pe_bm PySem.F.plainAttrs_list PySem.F.slot_list_append PySem.F.type_list_append mt_append (pe_ix ix_list (pv 3) pe_int (fun _ _ => rfl)) (pa_cons (pe_lst (pa_cons (pe_op op_cat (pe_ix ix_list (pe_ix ix_list (pe_ix ix_list (pv 3) pe_int (fun _ _ => rfl)) (pe_un un_neg pe_int) (fun _ _ => rfl)) pe_int (fun _ _ => rfl)) (pe_lst (pa_cons (pv 6) pa_nil))) (pa_cons (pe_op op_add pe_int (pe_ix ix_list (pv 1) pe_int (fun _ _ => rfl))) (pa_cons pe_non pa_nil)))) pa_nil)))
      (pss_one (ps_expr (pe_bm PySem.F.plainAttrs_list PySem.F.slot_list_append PySem.F.type_list_append mt_append (pe_ix ix_list (pv 4) pe_int (fun _ _ => rfl)) (pa_cons (pe_callR (ok__law_look T).r (hr.mono (by decide)) T.k__law_look (by rfl) T.g__law_look passL (pa_cons (pe_ix ix_list (pv 2) pe_int (fun _ _ => rfl)) pa_nil)) pa_nil))))))))) pss_nil)
      (pss_cons (ps_setLc (i := 7) (own := [("_law_k", 5)]) rfl sc_law.nd rfl rfl (sw_true rfl rfl rfl (by decide +kernel)) (pi_range2 (by rfl) T.n_range (pa_cons pe_int (pa_cons (pe_callB (call_min2 rfl) (by rfl) T.n_min (by decide +kernel) (pa_cons pe_int (pa_cons (pe_callB call_len_seq (by rfl) T.n_len PySem.boot_len (pa_cons (pv 0) pa_nil)) pa_nil))) pa_nil))) (blkOk_by (own := [("_law_k", 5)]) (N := ["_law_script", "_law_drawn", "_law_desks", "_law_states", "_law_looks", "_law_k", "_law_row", "_law_cells", "_law_cell_here", "_law_which", "_law_move_here", "_law_pair"]) (sc := defScope s_law) (by decide +kernel)) (fun _ _ _ _ _ => (pg_name (i := 5) sc_law.nd rfl (Or.inl rfl))) (fun _ _ _ _ _ => pts_nil) (fun _ _ _ _ _ => (pe_callR (ok__law_own_cell T).r (hr.mono (by decide)) T.k__law_own_cell (by rfl) T.g__law_own_cell passL (pa_cons (pe_callTy call_int1 (by rfl) T.n_int (by decide +kernel) (pa_cons (pe_ix (r := rIxL K) ix_list (pv 0) (pv 5) (fun _ _ => rfl)) pa_nil)) (pa_cons (pv 5) pa_nil)))))
      (pss_cons (ps_for (passes_of rfl) rfl (pi_list (pv 7)) (pg_name (i := 8) sc_law.nd rfl (Or.inl rfl))
      (pss_cons (ps_set (i := 9) sc_law.nd rfl (Or.inl rfl) (pe_op op_mod (pe_callTy call_int1 (by rfl) T.n_int (by decide +kernel) (pa_cons (pv 8) pa_nil)) pe_int))
      (pss_cons (ps_set (i := 10) sc_law.nd rfl (Or.inl rfl) (pe_callR (ok__law_move T).r (hr.mono (by decide)) T.k__law_move (by rfl) T.g__law_move passL (pa_cons (pe_op op_fdiv (pe_callTy call_int1 (by rfl) T.n_int (by decide +kernel) (pa_cons (pv 8) pa_nil)) pe_int) (pa_cons (pe_ix ix_list (pe_ix ix_list (pe_ix ix_list (pv 3) (pv 9) (fun _ _ => rfl)) (pe_un un_neg pe_int) (fun _ _ => rfl)) pe_int (fun _ _ => rfl)) pa_nil))))
      (pss_cons (ps_set (i := 11) sc_law.nd rfl (Or.inl rfl) (pe_callR (ok__law_steps T).r (hr.mono (by decide)) T.k__law_steps (by rfl) T.g__law_steps passL (pa_cons (pe_ix ix_list (pv 2) (pv 9) (fun _ _ => rfl)) (pa_cons (pe_ix ix_list (pv 3) (pv 9) (fun _ _ => rfl)) (pa_cons (pe_ix ix_list (pv 4) (pv 9) (fun _ _ => rfl)) (pa_cons (pv 10) pa_nil))))))
      (pss_cons (ps_if (pt_cmpR op_isN (pv 11) pe_non (nomark _)) (pss_one (ps_ret pe_bl)) pss_nil)
      (pss_cons (ps_asg (pe_ix ix_tup (pv 11) pe_int (fun _ _ => rfl)) (pg_sub (pv 3) (pv 9) set_list))
      (pss_cons (ps_asg (pe_ix ix_tup (pv 11) pe_int (fun _ _ => rfl)) (pg_sub (pv 4) (pv 9) set_list))
      (pss_one (ps_for (passes_of rfl) rfl (pi_range1 (by rfl) T.n_range (pa_cons pe_int pa_nil)) (pg_name (i := 5) sc_law.nd rfl (Or.inl rfl))
      (pss_one (ps_if (pt_not (pt_val (pe_callR (ok__law_stands T).r (hr.mono (by decide)) T.k__law_stands (by rfl) T.g__law_stands passL (pa_cons (pe_ix ix_list (pv 2) (pv 5) (fun _ _ => rfl)) (pa_cons (pe_ix ix_list (pv 3) (pv 5) (fun _ _ => rfl)) (pa_cons (pe_ix ix_list (pv 4) (pv 5) (fun _ _ => rfl)) (pa_cons (pe_lst (pa_cons (pe_ix ix_tup (pv 10) pe_int (fun _ _ => rfl)) (pa_cons pe_str (pa_cons pe_str pa_nil)))) pa_nil))))))) (pss_one (ps_ret pe_bl)) pss_nil)))))))))))
      (pss_cons (ps_for (passes_of rfl) rfl (pi_range1 (by rfl) T.n_range (pa_cons pe_int pa_nil)) (pg_name (i := 5) sc_law.nd rfl (Or.inl rfl))
      (pss_one (ps_if (pt_not (pt_val (pe_callR (ok__law_back T).r (hr.mono (by decide)) T.k__law_back (by rfl) T.g__law_back passL (pa_cons (pe_ix ix_list (pv 2) (pv 5) (fun _ _ => rfl)) (pa_cons (pe_ix ix_list (pv 3) (pv 5) (fun _ _ => rfl)) (pa_cons (pe_ix ix_list (pv 4) (pv 5) (fun _ _ => rfl)) pa_nil)))))) (pss_one (ps_ret pe_bl)) pss_nil)))
      (pss_one (ps_ret pe_bl)))))))))), ?_⟩
    obtain ⟨a, ns, rfl, hS, hns, q⟩ := h
    refine q_asgP (ep_draws (sizes := szL) (ev_callE (ea_cons (ev_var (v := .ref a) rfl) (ea_cons ev_c ea_nil)) fun H1 e1 Q k => ⟨a, ns, rfl, ex_l e1 hS, k⟩) (el_lst (ea_cons ev_1e18m (ea_cons ev_1e18m (ea_cons ev_c (ea_cons ev_c ea_nil)))) (by simp)) (by decide) (by decide)) fun v H1 e1 hv => ?_
    obtain ⟨dr, xs, rfl, hdr, hd⟩ := hv
    have hxl : xs.length = 4 := by rw [hd.len]; rfl
    have g0 := hd.get (i := 0) (by decide)
    have g1 := hd.get (i := 1) (by decide)
    have g3 := hd.get (i := 3) (by decide)
    rw [show szL[0] = 999999999999999999 from rfl] at g0
    rw [show szL[1] = 999999999999999999 from rfl] at g1
    rw [show szL[3] = 25 from rfl] at g3
    have dv : ∀ {σ : L2.St} {H' : Hp} (i : Nat), i < 4 → H' dr = some (.lst (xs.map V.int)) → σ[1]? = some (some (.ref dr)) → Ev (tOp (rIxL K) (tVar 1) (tC (.int (i : Int)))) σ H' (.int (xs.getD i 0)) := fun i hi e hs => ev_drawn (sizes := szL) e (ev_var hs) (by omega)
    generalize hx0 : xs.getD 0 0 = y0 at *
    generalize hx1 : xs.getD 1 0 = y1 at *
    generalize hx3 : xs.getD 3 0 = y3 at *
    refine q_desks T (s0 := 1 + y0) (s1 := 1 + y1) (ea_cons (ev_op ev_c (hx0 ▸ dv 0 (by omega) hdr rfl) rv_I0) ea_nil) (ea_cons (ev_op ev_c (hx1 ▸ dv 1 (by omega) hdr rfl) rv_I0) ea_nil) (by omega) (by omega) fun ad pl st Dk H2 e2 hms4 nd4 old4 hdk4 hs0 hs1 hDk => ?_
    have hL2 := hms4.live
    have old1 : ∀ m ∈ ms4 ad pl, fz [] H1 m = none := fun m hm => old4 m hm
    have hdr2 := e2 _ _ hdr
    obtain ⟨dk0, r0, c0⟩ := hdk4 0 (by omega)
    obtain ⟨dk1, r1, c1⟩ := hdk4 1 (by omega)
    have st0 := stD_new r0 hs0 c0
    have st1 := stD_new r1 hs1 c1
    refine q_disp (d0 := stD (st 0)) (d1 := stD (st 1)) hL2 ?_ ?_ fun S S0 x0 v1 H3 e3 hS0n hSn nSS0 hS0 hSl hx0' hv1 => ?_
    · rw [st0]
      exact EvZF.toZ hL2 (ezf_lst (ezs_cons (EvZF.toZ hL2 (ezf_lst ezs_nil (by simp))) (ezs_cons (ez_sc (EvD.of (ev_op ev_c (hx0 ▸ dv 0 (by omega) hdr2 rfl) rv_I0) fun _ _ => .int _) rfl) (ezs_cons (ez_sc ed_n rfl) ezs_nil))) (by simp))
    · intro p H3 e3 hp hL
      rw [st1]
      exact EvZF.toZ hL (ezf_lst (ezs_cons (EvZF.toZ hL (ezf_lst ezs_nil (by simp))) (ezs_cons (ez_sc (EvD.of (ev_op ev_c (hx1 ▸ dv 1 (by omega) (e3 _ _ hdr2) rfl) rv_I0) fun _ _ => .int _) rfl) (ezs_cons (ez_sc ed_n rfl) ezs_nil))) (by simp))
    have hms6 : MsOk K (S :: S0 :: ms4 ad pl) H3 := ((hms4.ex e3).consL hS0).consL hSl
    have lift3 : ∀ m ∈ S :: S0 :: ms4 ad pl, m ∈ ms4 ad pl ∨ H2 m = none := fun m hm => by
      rcases List.mem_cons.mp hm with h | h
      · subst h; exact .inr hSn
      · rcases List.mem_cons.mp h with h | h
        · subst h; exact .inr hS0n
        · exact .inl h
    have dk0' := dk0.lift (Ns := S :: S0 :: ms4 ad pl) e3 lift3 (by simp) (by simp)
    have dk1' := dk1.lift (Ns := S :: S0 :: ms4 ad pl) e3 lift3 (by simp) (by simp)
    have hDk3 := fz_lift e3 lift3 _ _ hDk
    have dsk : ∀ {σ : L2.St} {H' : Hp} (i : Nat), i < 2 → Ex H3 H' → σ[2]? = some (some (.ref Dk)) → Ev (tOp (rIxL K) (tVar 2) (tC (.int (i : Int)))) σ H' (.ref (ad i)) := fun {σ H'} i hi e hs => ev_op (ev_var hs) ev_c (rv_ixL (sq_of (e _ _ (fz_ex _ _ hDk3))) (two_at (f := fun i => V.ref (ad i)) hi))
    refine q_disp (Ms := S :: S0 :: ms4 ad pl) (d0 := lookD (st 0)) (d1 := lookD (st 1)) hms6.live ?_ ?_ fun B B0 y0' w1 H4 e4 hB0n hBn nBB0 hB0 hBl hy0' hw1 => ?_
    · intro H5 e5 Q k
      exact dsk 0 (by omega) e5 rfl H5 (Ex.refl _) _ fun H6 e6 => ⟨S :: S0 :: ms4 ad pl, ad 0, pl 0, [], st 0, rfl, (hms6.ex (e5.trans e6)).live, dk0'.ex (e5.trans e6), fun v H7 e7 hv => k v H7 (e6.trans e7) hv⟩
    · intro p H5 e5 hp hL H6 e6 Q k
      refine dsk 1 (by omega) (e5.trans e6) rfl H6 (Ex.refl _) _ fun H7 e7 => ⟨p :: S :: S0 :: ms4 ad pl, ad 1, pl 1, [], st 1, rfl, hL.ex (e6.trans e7), dk1'.lift ((e5.trans e6).trans e7) (fun m hm => ?_) (by simp) (by simp), fun v H8 e8 hv => k v H8 (e7.trans e8) hv⟩
      rcases List.mem_cons.mp hm with h | h
      · subst h; exact .inr hp
      · exact .inl h
    have lift4 : ∀ m ∈ ms8 S B S0 B0 ad pl, m ∈ S :: S0 :: ms4 ad pl ∨ H3 m = none := fun m hm => by
      rcases List.mem_cons.mp hm with h | h
      · subst h; exact .inr hBn
      · rcases List.mem_cons.mp h with h | h
        · subst h; exact .inr hB0n
        · exact .inl h
    have old8 : ∀ m ∈ ms8 S B S0 B0 ad pl, H1 m = none := fun m hm => by
      rcases lift4 m hm with h | h
      · rcases lift3 m h with h | h
        · exact old4 m h
        · exact fresh_back e2 h
      · exact fresh_back (e2.trans e3) h
    have nd8' : (ms8 S B S0 B0 ad pl).Nodup := by
      refine List.nodup_cons.mpr ⟨fun hm => ?_, List.nodup_cons.mpr ⟨fun hm => hms6.live.new hB0n hm, List.nodup_cons.mpr ⟨fun hm => ?_, List.nodup_cons.mpr ⟨fun hm => hL2.new hS0n hm, nd4⟩⟩⟩⟩
      · rcases List.mem_cons.mp hm with h | h
        · exact nBB0 h
        · exact hms6.live.new hBn h
      · rcases List.mem_cons.mp hm with h | h
        · exact nSS0 h
        · exact hL2.new hSn h
    have E4 : Ex H1 H4 := e2.trans (e3.trans e4)
    have I0 : Init K H4 Dk S B S0 B0 dr (xs.map V.int) ad pl ([], st 0) ([], st 0) ([], st 0) (st 1) := by
      refine ⟨((hms6.ex e4).consL hB0).consL hBl, dk0'.lift e4 lift4 (by simp) (by simp), dk1'.lift e4 lift4 (by simp) (by simp), fz_lift e4 lift4 _ _ hDk3, ?_, ⟨v1, e4 _ _ hSl, hv1.ex (fz_lift e4 lift4)⟩, ⟨[x0], e4 _ _ hS0, .cons (hx0'.ex (fz_lift e4 lift4)) .nil⟩, ⟨w1, hBl, hw1⟩, ⟨[y0'], hB0, .cons hy0' .nil⟩⟩
      rw [fz_out fun hm => by have := old8 _ hm; rw [hdr] at this; cases this]
      exact E4 _ _ hdr
    clear hv1 hx0' hw1 hy0' dk0' dk1' hDk3 dsk hdk4 dk0 dk1 hDk
    have hdr4 : ∀ {H' : Hp}, Ex H1 H' → H' dr = some (.lst (xs.map V.int)) := fun e => e _ _ hdr
    refine q_whenK (Mid := fun σ' H' => (∃ o5 o6 : Option V, σ' = [some (.ref a), some (.ref dr), some (.ref Dk), some (.ref S), some (.ref B), o5, o6, none, none, none, none, none]) ∧ Ex H1 H' ∧ ∃ p : LP, Init K H' Dk S B S0 B0 dr (xs.map V.int) ad pl p p p (st 1) ∧ p.1.length ≤ 24) (b := decide (V.int (xs.getD 2 0) = V.int 3)) (et_B (ev_op (dv 2 (by omega) (hdr4 E4) rfl) ev_c (rv_eq rfl))) (fun σ' H' hM => ?_) (fun hb hk H5 e5 => ?_) fun hb H5 e5 => ⟨⟨none, none, rfl⟩, E4.trans e5, ([], st 0), I0.ex e5, by simp⟩
    · obtain ⟨⟨o5, o6, rfl⟩, hE, p, I, hpl⟩ := hM
      have hS' := ex_l (e1.trans hE) hS
      obtain ⟨nn, hnn⟩ : ∃ nn : Nat, ((if (ns.length : Int) < 31 then (ns.length : Int) else 31) - 1).toNat = nn := ⟨_, rfl⟩
      have hI := ei_rng2 (ta := tCons (tC (.int 1)) (tCons (tCB (fun xs H Q => ∃ i j, xs = [V.int i, V.int j] ∧ Q (V.int (if j < i then j else i)) H) (tCons (tC (.int 31)) (tCons (tCB (fun xs H Q => ∃ p ys, xs = [V.ref p] ∧ (SqL K H p ys ∨ SqT K H p ys) ∧ Q (V.int ys.length) H) (tCons (tVar 0) tNil)) tNil))) tNil)) (σ := [some (.ref a), some (.ref dr), some (.ref Dk), some (.ref S), some (.ref B), o5, o6, none, none, none, none, none]) (H := H') (ea_cons ev_c (ea_cons (ev_cb (vs := [.int 31, .int ns.length]) (z := .int (if (ns.length : Int) < 31 then (ns.length : Int) else 31)) (ea_cons ev_c (ea_cons (ev_cb (ea_cons (ev_var (v := .ref a) rfl) ea_nil) fun H5 e5 Q k => ⟨a, _, rfl, .inl (ex_l e5 hS'), by rw [List.length_map]; exact k H5 (Ex.refl _)⟩) ea_nil)) fun H5 e5 Q k => ⟨31, _, rfl, k H5 (Ex.refl _)⟩) ea_nil)) (by split <;> omega) hnn
      have hnn30 : nn ≤ 30 := by rw [← hnn]; split <;> omega
      have hC := ep_lc (g := gName 5) (tt := tYes) (vs := [5]) stay_I stayL_I nn (fun _ => true) (fun _ => ()) (te := (fun σ H Q => tCons (tCB (fun xs H Q => (∃ i, xs = [V.int i] ∧ Q (V.int i) H) ∨ ∃ k, xs = [V.bl k] ∧ Q (V.int (if k = true then 1 else 0)) H) (tCons (tOp (rIxL K) (tVar 0) (tVar 5)) tNil)) (tCons (tVar 5) tNil) σ H fun vs H1 => spOwn vs H1 Q E0)) hI (by omega) (fun i x H5 e5 hi hx Q k => by
        obtain rfl := hx
        have hlt : 1 + i < ns.length := by
          rw [← hnn] at hi
          split at hi <;> omega
        refine k _ H5 (Ex.refl _) rfl (fun H6 e6 Q k => k H6 (Ex.refl _)) fun H6 e6 _ H7 e7 Q k => ?_
        refine (ea_cons (ev_cb (z := .int ns[1 + i]) (ea_cons (ev_op (z := .int ns[1 + i]) (ev_var (v := .ref a) rfl) (ev_var (v := .int (1 + (i : Int))) rfl) (rv_ixL (ex_l (e5.trans e6) hS') ?_)) ea_nil) fun H8 e8 Q k => .inl ⟨_, rfl, k H8 (Ex.refl _)⟩) (ea_cons (ev_var (v := .int (1 + (i : Int))) rfl) ea_nil)) H7 e7 _ fun H8 e8 => ⟨_, _, rfl, fun c' H9 e9 => k _ H9 (e8.trans e9) ⟨c', rfl⟩⟩
        unfold atI
        rw [List.length_map, show (1 + (i : Int)) = ((1 + i : Nat) : Int) by omega, ixN_nat hlt]
        show (ns.map V.int)[1 + i]? = _
        rw [List.getElem?_map, List.getElem?_eq_getElem hlt]
        rfl)
      refine q_asgQF hC fun c cs H5 e5 hcn hc hcs => ?_
      have hci := all_I hcs
      have hcl : cs.length ≤ 30 := by
        rw [hcs.len]
        exact Nat.le_trans (givenA_len _ _ _) hnn30
      obtain ⟨nd6', M0⟩ := I.main nd8' e5 hcn hc
      clear hC hI hcs hS' hE I I0 old8 nd8' lift4 lift3 hms6 hms4 nd4 old4 old1 hdr4 hdr2 dv
      have cll : ∀ {H' : Hp} {L : Nat → LP}, Main K H' Dk S B c cs ad pl L L L → SqL K H' c cs := fun M => sq_of (fz_ex _ _ M.cl)
      refine Evl.q_forLn (xs := cs) (ev_var (v := .ref c) rfl) (sq_of hc) (fun i σ' H' => (∃ o5 o8 o9 o10 o11 : Option V, σ' = [some (.ref a), some (.ref dr), some (.ref Dk), some (.ref S), some (.ref B), o5, o6, some (.ref c), o8, o9, o10, o11]) ∧ ∃ L : Nat → LP, Main K H' Dk S B c cs ad pl L L L ∧ ∀ k, k < 2 → (L k).1.length ≤ 24 + i)
        (fun H6 e6 => ⟨⟨_, _, _, _, _, rfl⟩, _, M0.ex e6, fun k hk => by rcases lt2 hk with rfl | rfl <;> simp; omega⟩) (fun i σ' H' _ h => ?_) ?_ ?_
      · obtain ⟨_, L, M, _⟩ := h
        exact cll M
      · rintro i x σ' H6 hix ⟨⟨o5', o8, o9, o10, o11, rfl⟩, L, M, hLl⟩
        obtain ⟨n, rfl⟩ := hci x (List.mem_of_getElem? hix)
        have hi30 : i < 30 := by have := (List.getElem?_eq_some_iff.mp hix).1; omega
        have intc : ∀ {σ : L2.St} {H : Hp} {te : TE} {v : Int}, Ev te σ H (.int v) → Ev (tCB (fun xs H Q => (∃ i, xs = [V.int i] ∧ Q (V.int i) H) ∨ ∃ k, xs = [V.bl k] ∧ Q (V.int (if k = true then 1 else 0)) H) (tCons te tNil)) σ H (.int v) := fun h => ev_cb (ea_cons h ea_nil) fun H7 e7 Q k => .inl ⟨_, rfl, k H7 (Ex.refl _)⟩
        refine Evl.q_asg (v := .int (n % 2)) (ev_op (intc (ev_var rfl)) ev_c (rv_I (by decide))) fun H7 e7 => ?_
        obtain ⟨j, hj, hj2⟩ : ∃ j : Nat, n % 2 = (j : Int) ∧ j < 2 := ⟨(n % 2).toNat, by have := Int.emod_nonneg n (show (2 : Int) ≠ 0 by omega); omega, by have := Int.emod_nonneg n (show (2 : Int) ≠ 0 by omega); have := Int.emod_lt_of_pos n (show (0 : Int) < 2 by omega); omega⟩
        rw [hj]
        have M7 := M.ex e7
        obtain ⟨vs, hvs, hvd⟩ := M7.ss
        obtain ⟨ws, hws, hwd⟩ := M7.bs
        have hro : RowsOk (L j).2.rows := by
          obtain ⟨_, _, _, _, _, _, _, _, cc, _⟩ := (M7.dk j hj2).cur
          exact cc.ok.r
        have stl : EvD (tOp (rIxL K) (tOp (rIxL K) (tOp (rIxL K) (tVar 3) (tVar 9)) (tUn (rU fun i => .int (-i)) (tC (.int 1)))) (tC (.int 0))) [some (.ref a), some (.ref dr), some (.ref Dk), some (.ref S), some (.ref B), o5', o6, some (.ref c), some (.int n), some (.int (j : Int)), o10, o11] H7 (rowsD (L j).2.rows) := by
          have hd := (hvd j hj2).ex fz_ex
          unfold statesD cat at hd
          rw [List.map_append] at hd
          exact ed_ixL (ds := [rowsD (L j).2.rows, .int (L j).2.s, capD (L j).2.cap]) (ed_ixL (EvD.of (ev_op (ev_var (v := .ref S) rfl) (ev_var (v := .int (j : Int)) rfl) (rv_ixL (sq_of hvs) (two_at hj2))) fun H8 e8 => hd.ex e8) (ed_neg ed_i) atI_last) ed_i rfl
        refine q_asgP (ep_move (c := n / 2) (ev_op (intc (ev_var rfl)) ev_c (rv_I ⟨by decide, by decide⟩)) stl hro.len fun r hr => nmOk_len (hro.nm r hr)) fun mv H8 e8 hmv => ?_
        obtain ⟨m, hmv, hmo⟩ := hmv
        obtain ⟨ma, rfl, hma⟩ := mv_inv hmv
        have M8 := M7.ex e8
        have ixL : ∀ {σ : L2.St} {H' : Hp} {z k : Nat} {l : Addr} {f : Nat → V} {q : Nat}, H' l = some (.lst (two f)) → σ[z]? = some (some (.ref l)) → σ[q]? = some (some (.int (k : Int))) → k < 2 → Ev (tOp (rIxL K) (tVar z) (tVar q)) σ H' (f k) := fun hl hz hq hk => ev_op (ev_var hz) (ev_var hq) (rv_ixL (sq_of hl) (two_at hk))
        refine q_call4 (ixL (fz_ex _ _ M8.dl) rfl rfl hj2) (ixL (e8 _ _ hvs) rfl rfl hj2) (ixL (e8 _ _ hws) rfl rfl hj2) (ev_var (v := .ref ma) rfl) fun H9 e9 => ?_
        have M9 := M8.ex e9
        have e79 := e8.trans e9
        refine ⟨ms6 S B ad pl, ad j, pl j, vs j, ws j, .ref ma, (L j).1, (L j).2, m, rfl, M9.ms, M9.dk j hj2, (hvd j hj2).ex (fz_up e79), (hwd j hj2).ex (fz_up e79), mv_mk (e9 _ _ hma), hmo, by have := hLl j hj2; omega, fun Ha t v' lv' L1 st1 eD hmsA hdkA hl1 hv' hlv' ht => ?_⟩
        have hmaA := tup_d (M9.dk j hj2) eD (e9 _ _ hma)
        have MA := M9.desk nd6' hj2 eD hmsA (p := (L1, st1)) hdkA
        refine Evl.q_when (b := false) (et_is (et_B (ev_op (ev_var (v := .ref t) rfl) ev_c (rv_val fun H1 e1 Q k => ⟨rfl, k⟩))) rfl) (fun h => by cases h) fun _ Hb eb => ?_
        have MB := MA.ex eb
        obtain ⟨vs2, hvs2, _⟩ := MB.ss
        refine Evl.q_setL hvs2 (ev_op (z := v') (ev_var (v := .ref t) rfl) ev_c (rv_ixT (st_of (eb _ _ ht)) atI_zero)) (ev_var (v := .ref S) rfl) (ev_var rfl) (show j < 2 from hj2) fun Hc ec => ?_
        have MC := (MB.ex ec).setS nd6' hj2 (ec _ _ hvs2) (p := (L1, st1)) (hv'.ex (fz_up (eb.trans ec)))
        have m6 := mem6 (S := S) (B := B) (ad := ad) (pl := pl) hj2
        have tS : t ≠ S := by
          rintro rfl
          have h1 := (eb.trans ec) _ _ ht
          rw [ec _ _ hvs2] at h1
          cases h1
        have htc : upd Hc S (.lst ((two vs2).set j v')) t = some (.tup [v', lv']) := by rw [upd_ne tS]; exact (eb.trans ec) _ _ ht
        have hlvc : Dq (fz (ms6 S B ad pl) (upd Hc S (.lst ((two vs2).set j v')))) lv' (looksD (L1 ++ [st1])) := by rw [fz_upd m6.2.2.1]; exact hlv'.ex (fz_up (eb.trans ec))
        have maS : ma ≠ S := by
          rintro rfl
          have h1 := (eb.trans ec) _ _ hmaA
          rw [ec _ _ hvs2] at h1
          cases h1
        have hmac : upd Hc S (.lst ((two vs2).set j v')) ma = some (.tup (mvV m)) := by rw [upd_ne maS]; exact (eb.trans ec) _ _ hmaA
        generalize upd Hc S (.lst ((two vs2).set j v')) = Hd at *
        obtain ⟨ws2, hws2, _⟩ := MC.bs
        refine Evl.q_setL hws2 (ev_op (z := lv') (ev_var (v := .ref t) rfl) ev_c (rv_ixT (st_of htc) rfl)) (ev_var (v := .ref B) rfl) (ev_var rfl) (show j < 2 from hj2) fun He ee => ?_
        have ME := (MC.ex ee).setB nd6' hj2 (ee _ _ hws2) (p := (L1, st1)) (hlvc.ex (fz_up ee))
        have maB : ma ≠ B := by
          rintro rfl
          have h1 := ee _ _ hmac
          rw [ee _ _ hws2] at h1
          cases h1
        have hmae : upd He B (.lst ((two ws2).set j lv')) ma = some (.tup (mvV m)) := by rw [upd_ne maB]; exact ee _ _ hmac
        generalize upd He B (.lst ((two ws2).set j lv')) = Hf at *
        have hL' : ∀ k, k < 2 → (up L j (L1, st1) k).1.length ≤ 24 + (i + 1) := fun k hk => by
          by_cases q : k = j
          · subst q
            rw [up_at]
            have := hLl k hj2
            show L1.length ≤ _
            omega
          · rw [up_ne q]
            have := hLl k hk
            omega
        generalize up L j (L1, st1) = L' at *
        refine Evl.s_forR1 (n := 2) (ea_cons ev_c ea_nil) (by omega) (fun k σ' H' => (∃ o5 : Option V, σ' = [some (.ref a), some (.ref dr), some (.ref Dk), some (.ref S), some (.ref B), o5, o6, some (.ref c), some (.int n), some (.int (j : Int)), some (.ref ma), some (.ref t)]) ∧ Ex Hf H') (fun Hg eg => ⟨⟨_, rfl⟩, eg⟩) ?_ ?_
        · rintro k σ' Hg hk ⟨⟨o5'', rfl⟩, eg⟩
          have hk2 : k < 2 := by omega
          have MG := ME.ex eg
          obtain ⟨vs3, hvs3, hvd3⟩ := MG.ss
          obtain ⟨ws3, hws3, hwd3⟩ := MG.bs
          have ns3 : EvD (tLst (tCons (tOp (rIxT K) (tVar 10) (tC (.int 1))) (tCons (tC (.str "a")) (tCons (tC (.str "b")) tNil)))) [some (.ref a), some (.ref dr), some (.ref Dk), some (.ref S), some (.ref B), some (.int (k : Int)), o6, some (.ref c), some (.int n), some (.int (j : Int)), some (.ref ma), some (.ref t)] Hg (.list ([m.name, "a", "b"].map .str)) := (ef_lst (eds_cons (EvD.of (ev_mv (i := 1) (ev_var (v := .ref ma) rfl) (eg _ _ hmae) rfl) fun _ _ => .str m.name) (eds_cons ed_s (eds_cons ed_s eds_nil))) (by simp)).toD
          refine Evl.s_when (b := false) (et_is (et_not (et_B (ev_stands MG.ms.live (MG.dk k hk2) (ixL (f := fun i => V.ref (ad i)) (fz_ex _ _ MG.dl) rfl rfl hk2) (EvD.of (ixL hvs3 rfl rfl hk2) fun Hx ex => ((hvd3 k hk2).ex fz_ex).ex ex) (EvD.of (ixL hws3 rfl rfl hk2) fun Hx ex => ((hwd3 k hk2).ex fz_ex).ex ex) ns3))) rfl) (fun h => by cases h) fun _ Hh eh => ?_
          exact ⟨⟨_, rfl⟩, eg.trans eh⟩
        · rintro σ' Hg ⟨⟨o5'', rfl⟩, eg⟩
          exact ⟨⟨_, _, _, _, _, rfl⟩, L', ME.ex eg, hL'⟩
      · rintro σ' H6 ⟨⟨o5', o8, o9, o10, o11, rfl⟩, L, M, hLl⟩
        refine Evl.q_forR1 (n := 2) (ea_cons ev_c ea_nil) (by omega) (fun k σ' H' => (∃ o5 : Option V, σ' = [some (.ref a), some (.ref dr), some (.ref Dk), some (.ref S), some (.ref B), o5, o6, some (.ref c), o8, o9, o10, o11]) ∧ Bk K H' Dk S B ad pl L k) (fun H7 e7 => ⟨⟨_, rfl⟩, (M.ex e7).bk⟩) ?_ ?_
        · rintro k σ' H7 hk ⟨⟨o5'', rfl⟩, b⟩
          have hk2 : k < 2 := by omega
          obtain ⟨vs, hvs, hvd⟩ := b.ss
          obtain ⟨ws, hws, hwd⟩ := b.bs
          have ixL : ∀ {σ : L2.St} {H' : Hp} {z k : Nat} {l : Addr} {f : Nat → V} {q : Nat}, H' l = some (.lst (two f)) → σ[z]? = some (some (.ref l)) → σ[q]? = some (some (.int (k : Int))) → k < 2 → Ev (tOp (rIxL K) (tVar z) (tVar q)) σ H' (f k) := fun hl hz hq hk => ev_op (ev_var hz) (ev_var hq) (rv_ixL (sq_of hl) (two_at hk))
          refine s_whenBk (ea_cons (ixL (f := fun i => V.ref (ad i)) (fz_ex _ _ b.dl) rfl rfl hk2) (ea_cons (ixL hvs rfl rfl hk2) (ea_cons (ixL hws rfl rfl hk2) ea_nil))) fun H8 e8 => ⟨ms6 S B ad pl, ad k, pl k, vs k, ws k, (L k).1, (L k).2, rfl, b.ms.ex e8, (b.dk k (Nat.le_refl _) hk2).ex e8, (hvd k hk2).ex (fz_up e8), (hwd k hk2).ex (fz_up e8), by have := hLl k hk2; omega, fun H9 e9 hms9 => ⟨true, rfl, ?_⟩⟩
          rw [if_neg (by simp)]
          exact ⟨⟨_, rfl⟩, (b.ex e8).next nd6' hk2 e9 hms9⟩
        · rintro σ' H7 ⟨⟨o5'', rfl⟩, b⟩
          exact Evl.s_ret ev_c fun H8 e8 => q H8
    · refine Evl.s_forR1 (n := y3) (ea_cons (hx3 ▸ dv 3 (by omega) (hdr4 (E4.trans e5)) rfl) ea_nil) (by omega) (fun i σ' H' => (∃ o5 o6 : Option V, σ' = [some (.ref a), some (.ref dr), some (.ref Dk), some (.ref S), some (.ref B), o5, o6, none, none, none, none, none]) ∧ Ex H1 H' ∧ ∃ p : LP, Init K H' Dk S B S0 B0 dr (xs.map V.int) ad pl p p p (st 1) ∧ p.1.length = i ∧ p.2.rows = rowsK i ∧ p.2.s = 1 + y0 ∧ p.2.cap = none)
        (fun H6 e6 => ⟨⟨none, none, rfl⟩, E4.trans (e5.trans e6), ([], st 0), I0.ex (e5.trans e6), rfl, r0, hs0, c0⟩) ?_ ?_
      · rintro i σ' H' hi ⟨⟨o5, o6, rfl⟩, hE, p, I, hpl, hpr, hps, hpc⟩
        have hi24 : i < 24 := by omega
        have intc : ∀ {σ : L2.St} {H : Hp} {te : TE} {v : Int}, Ev te σ H (.int v) → Ev (tCB (fun xs H Q => (∃ i, xs = [V.int i] ∧ Q (V.int i) H) ∨ ∃ k, xs = [V.bl k] ∧ Q (V.int (if k = true then 1 else 0)) H) (tCons te tNil)) σ H (.int v) := fun h => ev_cb (ea_cons h ea_nil) fun H7 e7 Q k => .inl ⟨_, rfl, k H7 (Ex.refl _)⟩
        have m12 : 0 ≤ (i : Int) % 12 ∧ (i : Int) % 12 < 12 := ⟨Int.emod_nonneg _ (by omega), Int.emod_lt_of_pos _ (by omega)⟩
        have m5 : 0 ≤ (i : Int) % 5 ∧ (i : Int) % 5 < 5 := ⟨Int.emod_nonneg _ (by omega), Int.emod_lt_of_pos _ (by omega)⟩
        have m7 : 0 ≤ (5 * (i : Int)) % 7 ∧ (5 * (i : Int)) % 7 < 7 := ⟨Int.emod_nonneg _ (by omega), Int.emod_lt_of_pos _ (by omega)⟩
        refine Evl.q_asgU (xs := [.str (nmK i), .int ((5 * (i : Int)) % 7), .int (1 + (i : Int) % 5)]) (eu_tup (ea_cons (ev_op (ev_op ev_c (ev_var rfl) (rv_ixS (w := lets24) (by decide +kernel) (lets24_at i hi24))) (ev_op ev_c (ev_op (intc (ev_var rfl)) ev_c (rv_I (by decide))) rv_I0) (rv_rep (by omega) (by omega) (by show 1 ≤ 1000; omega))) (ea_cons (ev_op (intc (ev_op ev_c (ev_var rfl) (rv_I (.inl ⟨by decide, by decide⟩)))) ev_c (rv_I (by decide))) (ea_cons (ev_op ev_c (ev_op (intc (ev_var rfl)) ev_c (rv_I (by decide))) rv_I0) ea_nil))) (by simp)) fun t H6 htn e6 ht => ?_
        have I6 := I.ex e6
        have hE6 := hE.trans e6
        have ht8 : t ∉ ms8 S B S0 B0 ad pl := I.ms.live.new htn
        have dsk : ∀ {σ : L2.St} {H' : Hp} {LD LS LB : LP}, Init K H' Dk S B S0 B0 dr (xs.map V.int) ad pl LD LS LB (st 1) → σ[2]? = some (some (.ref Dk)) → Ev (tOp (rIxL K) (tVar 2) (tC (.int 0))) σ H' (.ref (ad 0)) := fun I hs => ev_op (ev_var hs) ev_c (rv_ixL (sq_of (fz_ex _ _ I.dl)) (two_at (f := fun i => V.ref (ad i)) (j := 0) (by omega)))
        have rd : ∀ {σ : L2.St} {H' : Hp} {j : Nat} {u : V}, H' t = some (.tup [.str (nmK i), .int ((5 * (i : Int)) % 7), .int (1 + (i : Int) % 5)]) → σ[6]? = some (some (.ref t)) → atI [V.str (nmK i), .int ((5 * (i : Int)) % 7), .int (1 + (i : Int) % 5)] (j : Int) = some u → Ev (tOp (rIxT K) (tVar 6) (tC (.int (j : Int)))) σ H' u := fun hz hs hi => ev_op (ev_var hs) ev_c (rv_ixT (st_of hz) hi)
        obtain ⟨_, _, dx, sv, sts, hA, hP, _⟩ := id I6.d0
        refine q_dropM (dsk I6 rfl) hA rfl (ea_cons (rd (j := 0) ht rfl rfl) (ea_cons (rd (j := 1) ht rfl rfl) (ea_cons (rd (j := 2) ht rfl rfl) ea_nil))) fun H7 e7 => ?_
        have I7 := I6.ex e7
        have hlen : (rowsK i).length = i := by unfold rowsK; rw [List.length_map, List.length_range]
        refine ⟨ms8 S B S0 B0 ad pl, ad 0, pl 0, p.1, p.2, nmK i, (5 * (i : Int)) % 7, 1 + (i : Int) % 5, rfl, I7.ms, I7.d0, by omega, nmK_len i hi24, by omega, by omega, ?_⟩
        have hact : actPut p.2 (nmK i) ((5 * (i : Int)) % 7) (1 + (i : Int) % 5) = .new (p.2.rows ++ [rowK i]) p.2.s p.2.cap := by
          unfold actPut
          rw [if_neg (by rw [nmK_ok i hi24]; simp), if_neg (by rw [hpr, nmK_new hi24]; simp), if_neg (by omega), if_neg (by omega), if_neg (by rw [hpr, hlen]; omega)]
          rfl
        rw [hact]
        intro H8 names top e8 hd8
        have hE8 : Ex H1 H8 := ExD.exM (hE6.trans e7) e8 (old8 _ (by simp)) (old8 _ (by simp))
        have ht8' := tup_d I7.d0 e8 (e7 _ _ ht)
        have I8 : Init K H8 Dk S B S0 B0 dr (xs.map V.int) ad pl (cat p, ⟨p.2.rows ++ [rowK i], p.2.s, p.2.cap, names, top⟩) p p (st 1) := I7.desk nd8' e8 (I7.ms.desk e8 hd8) hd8
        generalize hst' : (⟨p.2.rows ++ [rowK i], p.2.s, p.2.cap, names, top⟩ : SD) = st' at *
        have e1' : st'.rows = p.2.rows ++ [rowK i] := by rw [← hst']
        have e2' : st'.s = 1 + y0 := by rw [← hst']; exact hps
        have e3' : st'.cap = none := by rw [← hst']; exact hpc
        have hstD : stD st' = .list [.list (p.2.rows.map rowD ++ [rowD (rowK i)]), .int (1 + y0), .none] := by
          unfold stD rowsD
          rw [e1', e2', e3', List.map_append]
          rfl
        have hL8 := I8.ms.live
        obtain ⟨xs0, hxs0, hxd⟩ := I8.s0
        obtain ⟨v1, hSl, _⟩ := I8.ss
        have hrowD : Dq (fz (ms8 S B S0 B0 ad pl) H8) (.ref t) (rowD (rowK i)) := .tup (by rw [fz_out ht8]; exact ht8') (.cons (.str _) (.cons (.int _) (.cons (.int _) .nil)))
        have hxl0 : xs0.length ≤ 30 := by
          rw [hxd.len]
          simp [cat, hpl]
          omega
        have hrl : p.2.rows.length ≤ 24 := by rw [hpr, hlen]; omega
        have hxd' : DqAll (fz (ms8 S B S0 B0 ad pl) H8) xs0 (p.1.map stD ++ [stD p.2]) := by
          have := hxd
          unfold cat at this
          rw [List.map_append] at this
          exact this
        have evS : ∀ {σ : L2.St} {H' : Hp} {u : V}, H' S = some (.lst [.ref S0, u]) → σ[3]? = some (some (.ref S)) → Ev (tOp (rIxL K) (tVar 3) (tC (.int 0))) σ H' (.ref S0) := fun h hs => ev_op (ev_var hs) ev_c (rv_ixL (sq_of h) atI_zero)
        refine q_appZ (Ms := ms8 S B S0 B0 ad pl) (d := stD st') hxs0 (evS hSl rfl) ?_ (by omega) fun v H9 e9 hv => ?_
        · rw [hstD]
          exact EvZF.toZ hL8 (ezf_lst (ezs_cons (EvZF.toZ hL8 (ezf_cat (ez_ixL (ds := [rowsD p.2.rows, .int p.2.s, capD p.2.cap]) (ez_last hxs0 (evS hSl rfl) hxd') ed_i rfl) (EvZF.toZ hL8 (ezf_lst (ezs_cons (ez_var rfl hrowD) ezs_nil) (by simp))) (by simp; omega))) (ezs_cons (ez_sc (EvD.of (ev_op ev_c (hx0 ▸ dv 0 (by omega) (hdr4 hE8) rfl) rv_I0) fun _ _ => .int _) rfl) (ezs_cons (ez_sc ed_n rfl) ezs_nil))) (by simp))
        have I9 := (I8.ex e9).appS nd8' (e9 _ _ hxs0) hv
        have hE9 : Ex H1 (upd H9 S0 (.lst (xs0 ++ [v]))) := (hE8.trans e9).mut (old8 _ (by simp))
        obtain ⟨ys0, hys0, hyd⟩ := I9.b0
        obtain ⟨w1, hBl, _⟩ := I9.bs
        have hyl0 : ys0.length ≤ 30 := by
          rw [hyd.len]
          simp [cat, hpl]
          omega
        refine s_appZ (Ms := ms8 S B S0 B0 ad pl) (d := lookD st') hys0 (ev_op (ev_var rfl) ev_c (rv_ixL (sq_of hBl) atI_zero)) (fun Ha ea Q k => ?_) (by omega) fun v' H10 e10 hv' => ?_
        · exact dsk (I9.ex ea) rfl Ha (Ex.refl _) _ fun Hb eb => ⟨ms8 S B S0 B0 ad pl, ad 0, pl 0, cat p, st', rfl, ((I9.ex ea).ex eb).ms.live, ((I9.ex ea).ex eb).d0, fun v Hc ec hv => k v Hc (eb.trans ec) hv⟩
        have I10 := (I9.ex e10).appB nd8' (e10 _ _ hys0) hv'
        refine ⟨⟨_, _, rfl⟩, (hE9.trans e10).mut (old8 _ (by simp)), (cat p, st'), I10, by simp [cat, hpl], ?_, e2', e3'⟩
        show st'.rows = _
        rw [e1', hpr]
        unfold rowsK
        rw [List.range_succ, List.map_append]
        rfl
      · rintro σ' H' ⟨ho, hE, p, I, hpl, _⟩
        exact hk _ _ ⟨ho, hE, p, I, by omega⟩
theorem ok_law (T : TXG fileC fa fx fn P K mg) : ∃ fd : FuncData, (∀ (s : Shared) (v : Value), BindsTo s fd ⟨[v], []⟩ [("_law_script", v)]) ∧ ∀ base : Heap, FnOk P w K mg base (L2.CX P w) 33 (He.ga K "law") fd ["_law_script"] (spLaw K) := by
  obtain ⟨fd, F⟩ := T.d_law
  have b := FunD.bindsA (ps := ["_law_script"]) F fun _ _ _ _ _ _ us hl => match us, hl with | [_], _ => rfl
  refine ⟨fd, fun s v => b s [v] rfl, fun base => F.ok sc_law (fun vs H Q E h => ?_) fun cdv A outer s H vs Q E hr h => body_law T hr h⟩
  obtain ⟨_, _, rfl, _⟩ := h
  rfl
end
end K7

/-! KAS: the head. -/
namespace K7
open PySem PySem.Spec PyProof.Rows L2
theorem walkW {r : PySem.W.OpenLaw} {most lv : Nat} {qv : Program} {ls : List Str} {XR : (Str → Option Value) → Heap → Prop} {YR : World → Heap → Prop} {dr : DefRec} {CW : World → CXT} {arg : Str} (h1 : r.most = some most) (h2 : most ≤ sizeLine) (h3 : dr.params.defaults = []) (h4 : Room lv callerA)
    (FF : ∀ (w : World) (mg : Str → Option Value) (fa : Addr) (hp : Heap), YR w hp → hp.Ns mainGlobals mg → mg dr.name = some (.ref fa) → ∃ (K : PySem.W.Frag) (fd : FuncData) (sp : Sp), K.In hp ∧ (∀ (s : Shared) (u : Value), BindsTo s fd ⟨[u], []⟩ [(arg, u)]) ∧
      (∀ (H : Hp) (a : Addr) (ns : List Int), ns.length ≤ most → Only H → SqL K H a (ns.map V.int) → sp [.ref a] H (fun v _ => v = .bl true) fun _ _ _ => False) ∧ ∀ base : Heap, K.In base → base.Ns mainGlobals mg → FnOk r.prog w K mg base (CW w) lv fa fd [arg] sp)
    (h5 : ∀ (w : World) (H : Hp) (s : Shared) (e : Value) (s' : Shared), CW w [] H s (fun _ _ _ => False) e s' → False) : PySem.W.WalkO qv ls XR YR r.row.toRowW dr [] (fun f vs => PySem.call f vs) := by
  refine Att.attach_call h1 h3 fun w sA sB mg mb fa o pm cd doc a vs ns G Y ho hd hcd hmg hobj hi hle hg => ?_
  obtain ⟨K, fd, sp, KX, hb, hsp, hF⟩ := FF w mg fa _ Y G.T.g hmg
  exact law_call KX G.T.g G.T.b G.T.builtins G.T.nolimit hg hobj hi (Nat.le_trans hle h2) h4 hF hb (fun H hO hS => hsp H a ns hle hO hS) fun H e s' => h5 w H sB e s'
theorem law_walks : PySem.W.WalkO qL looseL (PySem.W.XL qL []) hkL.says RWr.toRowW (HandSHeadRun.topDef RWr.prog 65) [] fun f vs => PySem.call f vs := by
  refine walkW (r := PySem.Challenge.rw_dearestshelf_k77_whole_desk_undo) (most := 63) (lv := 33) (arg := "_law_script") (CW := fun w => L2.CX PySem.Challenge.rw_dearestshelf_k77_whole_desk_undo.prog w) rfl (by decide) (by kernel_rfl) ⟨rfl, by decide, by decide⟩ ?F fun w H s e s' h => cx_none h
  intro w mg fa h Y G hmg0
  obtain ⟨K, KX, c⟩ := Y
  have hmg : mg ("law" : PySem.Str) = some (.ref fa) := by
    have e : (HandSHeadRun.topDef RWr.prog 65).name = ("law" : PySem.Str) := by kernel_rfl
    rw [← e]
    exact hmg0
  have T : TXG fileC K7.fa fx fn PySem.Challenge.rw_dearestshelf_k77_whole_desk_undo.prog K mg := ⟨⟨h, KX, G⟩, c, by kernel_rfl, by kernel_rfl⟩
  have e := hmg.symm.trans T.g_law
  cases e
  obtain ⟨fd, hb, hF⟩ := ok_law (P := PySem.Challenge.rw_dearestshelf_k77_whole_desk_undo.prog) (w := w) T
  exact ⟨K, fd, spLaw K, KX, hb, fun H a ns hl _ hS => ⟨a, ns, rfl, hS, hl, fun _ => rfl⟩, fun base _ _ => hF base⟩
end K7
theorem PySem.Challenge.cw_dearestshelf_k77_whole_desk_undo_holds : PySem.Challenge.rw_dearestshelf_k77_whole_desk_undo.Holds := by
  exact K7.whole_law K7.law_walks
