import PyProof.Rows.All
import Wide.All
import OpenK.AllK
import Wide.FinOn
import HandS.ForMost
import HandS.ForExc
import HandS.Wide
import HandS.Defaults
import HandS.CallSlots
import HandS.HeadHook1
import HandS.TupAny
import HandS.Style
import HandS.ExcOwn
import HandS.IsInst
import HandS.Text
import HandS.HeadHook2
import HandS.Head2
import HandS.EndBits
import HandS.OwnEq
import HandS.FStr
import HandS.Comp
import HandS.MakeKwOnly
import HandS.HeadHook3
import HandS.More
import HandS.TupLe
import HandS.Dict
import HandS.WordsDict
import PyProof.ReprNest
import PyProof.ReprRoads
import PyProof.ReprLen
import HandS.RaiseMore
import HandS.WideMore
import KE.KUnpackStar
import HandS.Conv
import KE.GoesEnumKw
import HandS.Zip
import HandS.SetFor
import HandS.SortKw
import HandS.SortRule
import KE.KCallOwn
import PyProof.LongRange
import PyProof.ListRange
import HandS.StrMore
import HandS.StrSplit
import HandS.Replace
import HandS.Codes
import HandS.ExcInit
import HandS.ExcInitHot
import HandS.SuiteRaise
import HandS.RaiseFrom
import PyProof.ExcBaseAll.Exception
import PyProof.ExcBaseAll.ArithmeticError
import PyProof.InstStoreFacts
import KE.KExcInit
import HandS.ExcField
import HandS.ExcIs
import PyProof.SliceStr2
import PyProof.Draws
import PyProof.EnumMake
import HandS.SetBool
import HandS.SetKeys
import HandS.DictComp
import HandS.Small
import HandS.ListItems
import KE.KMinBuiltin
import PyProof.Rows.ReprOcc
import PyProof.DictUpdate
import PyProof.EqKinds
import HandS.ExcBuiltin
import PyProof.AutoIntOps
import PySem.Challenge.RW_figuretexts_k02_numbers_reckoned
set_option Elab.async false
set_option linter.all false
set_option maxRecDepth 100000
set_option maxHeartbeats 4000000
section
set_option Elab.async false
set_option linter.all false
set_option maxRecDepth 100000
set_option maxHeartbeats 4000000
namespace DL
open PySem PySem.Spec PyProof.Rows L2
def cN (K : PySem.W.Frag) : Addr := He.ga K "Number"
end DL
namespace DL
open PySem PySem.Spec PyProof.Rows L2
section
open He
def obsX (ex : PySem.W.Frag → Bool) (fa : List Fa) (fn : List DefD) (K : PySem.W.Frag) : AlD := (ex K && (obsD fa fn K).1, (obsD fa fn K).2)
structure SaysX (ex : PySem.W.Frag → Bool) (fa : List Fa) (fn : List DefD) (K : PySem.W.Frag) : Prop where
  ex : ex K = true
  d : SaysD fa fn K
theorem says_x {ex : PySem.W.Frag → Bool} {fa : List Fa} {fn : List DefD} {K : PySem.W.Frag} (h : obsX ex fa fn K = valD fn) : SaysX ex fa fn K := by
  have h1 : (ex K && (obsD fa fn K).1) = true := congrArg (fun z : AlD => z.1) h
  have h2 : (obsD fa fn K).2 = fn.map DefD.val := congrArg (fun z : AlD => z.2) h
  obtain ⟨a, b⟩ := ba h1
  exact ⟨a, Prod.ext b h2⟩
variable {P : Program} {w : World} {K : PySem.W.Frag} {mg : Str → Option Value} {base : Heap} {x m qual : Str} {params : Arguments} {body : List Stmt} {scope : Scope} {fd : FuncData} {ps : List Str} {k : Nat} {sp : DSp} {f C : Addr} {dvs : List V} {kws : List (Str × V)}
end
end DL
namespace DL
open PySem PySem.Spec PyProof.Rows L2
def kinds : List String := ["NoneType", "bool", "int", "str", "list", "tuple"]
def isiB (K : PySem.W.Frag) (u : Value) (l : List String) (num : Bool) : Bool := (kinds.all fun n => PySem.W.kitOne K (.type n) u == some (l.contains n)) && PySem.W.kitOne K (.ref (cN K)) u == some num
def numB (K : PySem.W.Frag) : Bool := (He.Fa.cls "Number").ok K && (He.eqO (PySem.W.findIn K (.ref (cN K)) "__class__") (some (some (.builtin "object.__class__"))) && (He.eqO (PySem.W.specialIn K (.builtin "object.__class__") "__get__") (some (some (.builtin "getset_descriptor.__get__"))) &&
  (PySem.W.takesIn K (.builtin "object.__class__") == some true && PySem.W.mroIn K (cN K) (.type "object") == some true)))
end DL
namespace DL
open PySem PySem.Spec PyProof.Rows L2 He
def obsY (ex : PySem.W.Frag → Bool) (fa : List Fa) (fn : List DefD) (ts : List Tab) (K : PySem.W.Frag) : AlT := (obsX ex fa fn K, ts.map fun t => dicW (K) (t.1 K))
structure SaysY (ex : PySem.W.Frag → Bool) (fa : List Fa) (fn : List DefD) (ts : List Tab) (w : World) (K : PySem.W.Frag) : Prop where
  x : SaysX ex fa fn K
  t : ∀ t ∈ ts, ∃ es n, KDict K w (t.1 K) es n
theorem says_y {ex : PySem.W.Frag → Bool} {fa : List Fa} {fn : List DefD} {ts : List Tab} {w : World} {K : PySem.W.Frag} (h : obsY ex fa fn ts K = valT fn ts w) : SaysY ex fa fn ts w K := by
  have h1 : obsX ex fa fn K = valD fn := congrArg (fun z : AlT => z.1) h
  have h2 : ts.map (fun t => dicW K (t.1 K)) = ts.map fun t => some (keysIn w.params t.2) := congrArg (fun z : AlT => z.2) h
  refine ⟨says_x h1, fun t ht => ?_⟩
  exact dicW_ok (List.map_inj_left.mp h2 t ht)
end DL
namespace PySem
namespace EXG
open PySem.W PySem.Calls PyProof.Rows PySem.HandSPX Builtin Builtin.ObjectAttr
def own (tl : List Value) : List Value → Bool
  | .ref _ :: r => own tl r
  | l => l == tl
end EXG
end PySem
namespace DL
open PySem PySem.Spec PyProof.Rows L2
def clsB (o : Option Obj) (C : Addr) (newId : String) (tl : List Value) : Bool := match o with
  | some ⟨.type "type", _, .cls cd, sl⟩ => (match cd.mro, sl.toList with
    | .ref C' :: bm, [_, _, _, _, some (.builtin n), _] => C' == C && (n == newId && (!cd.hasDel && (cd.hasDict && EXG.own tl bm)))
    | _, _ => false)
  | _ => false
def valB (o : Option PySem.W.CFound) (i : String) : Bool := match o with
  | some (.val (.builtin j)) => j == i
  | _ => false
def xkB (K : PySem.W.Frag) (x : Str) (B newId initId : String) (tl : List Value) (fs : List Str) : Bool :=
  clsB (K.lookup (He.ga K x)) (He.ga K x) newId tl && (He.eqO (PySem.W.findIn K (.ref (He.ga K x)) "__setattr__") (some (some (.builtin "object.__setattr__"))) && (PySem.W.typeIn K (.ref (He.ga K x)) == some (.type "type") && (PySem.W.keepIn K (.ref (He.ga K x)) &&
  (He.eqO (PySem.W.findIn K (.ref (He.ga K x)) "__init__") (some (some (.ref (He.fAd K (x, some "__init__"))))) && (PySem.W.typeIn K (.ref (He.fAd K (x, some "__init__"))) == some (.type "function") && (fs.all (fun f => He.eqO (PySem.W.findIn K (.ref (He.ga K x)) f) (some none)) &&
  (valB (PySem.W.findCls K (.type B) (.type "type") "__init__") initId && (xfB K (He.ga K x) && (He.eqO (PySem.W.findIn K (.ref (He.ga K x)) "__class__") (some (some (.builtin "object.__class__"))) && (He.eqO (PySem.W.specialIn K (.builtin "object.__class__") "__get__") (some (some (.builtin "getset_descriptor.__get__"))) &&
  (PySem.W.takesIn K (.builtin "object.__class__") == some true && PySem.W.mroIn K (He.ga K x) (.type "object") == some true)))))))))))
end DL
namespace DL
open PySem PySem.Spec PyProof.Rows L2 TL
def insB (K : PySem.W.Frag) (c : Str) : Bool := (He.Fa.cls c).ok K && (He.eqO (PySem.W.findIn K (.ref (He.ga K c)) "__class__") (some (some (.builtin "object.__class__"))) && (He.eqO (PySem.W.specialIn K (.builtin "object.__class__") "__get__") (some (some (.builtin "getset_descriptor.__get__"))) &&
  (PySem.W.takesIn K (.builtin "object.__class__") == some true && PySem.W.mroIn K (He.ga K c) (.type "object") == some true)))
def isGB (K : PySem.W.Frag) (u : Value) (l : List String) (own : List (Str × Bool)) : Bool := (("dict" :: kinds).all fun n => PySem.W.kitOne K (.type n) u == some (l.contains n)) && own.all fun c => PySem.W.kitOne K (.ref (He.ga K c.1)) u == some c.2 && insB K c.1
end DL
namespace DL
open PySem PySem.Spec PyProof.Rows L2 He
def refsAt (g : Addr → Option Obj) (as : List Addr) : List Addr := (as.flatMap fun a => match g a with
  | some o => refsD o
  | none => []).eraseDups
def isCl (o : Obj) : Bool := match o.cls with
  | .type t => t == "type"
  | _ => false
def clsAt (g : Addr → Option Obj) (as : List Addr) : List Addr := as.filter fun a => match g a with
  | some o => isCl o
  | none => false
def asZ (g : Addr → Option Obj) : List Addr :=
  let a1 := asD g 1
  let a2 := growD g a1
  let c2 := refsAt g (clsAt g a1)
  let c3 := refsAt g c2
  let c4 := refsAt g c3
  (a2 ++ c3 ++ c4 ++ refsAt g c4).eraseDups
def obsZG (ex : PySem.W.Frag → Bool) (fa : List Fa) (fn : List DefD) (ts : List Tab) (g : Addr → Option Obj) : AlT := obsY ex fa fn ts (frG g (asZ g))
def hookZ (ex : PySem.W.Frag → Bool) (fa : List Fa) (fn : List DefD) (ts : List Tab) : PySem.W.Hook where
  α := AlT
  obs := fun s => obsZG ex fa fn ts s.heap.get?
  val := fun w => valT fn ts w
  says := fun w h => ∃ K : PySem.W.Frag, K.In h ∧ SaysY ex fa fn ts w K
  of := fun _ _ e => ⟨_, frG_in, says_y e⟩
  keeps := fun _ _ _ ⟨K, hK, c⟩ k => ⟨K, PySem.W.Frag.In.keeps hK k, c⟩
theorem obsZG_eq {ex : PySem.W.Frag → Bool} {fa : List Fa} {fn : List DefD} {ts : List Tab} {g : Addr → Option Obj} {s : Shared} (h : ∀ a, g a = s.heap.get? a) : obsZG ex fa fn ts g = (hookZ ex fa fn ts).obs s := by
  have e : g = s.heap.get? := funext h
  rw [e] <;> rfl
end DL
namespace LW
open PySem PySem.Spec PyProof.Rows L2 DL TL
abbrev PR : Program := PySem.Challenge.pw_figuretexts_k02_numbers_reckoned
def topS (i : Nat) : Stmt := PR.main.body.getD i (.Pass ⟨0, 0, 0, 0⟩)
abbrev st_X_NoText : Stmt := inClass (topS 1) 0
def d_X_NoText : He.DefD := ⟨("NoText", some "__init__"), "__init__", "NoText.__init__", defArgs st_X_NoText, defBody st_X_NoText, defScope st_X_NoText, [], []⟩
abbrev st_X_Unsorted : Stmt := inClass (topS 2) 0
def d_X_Unsorted : He.DefD := ⟨("Unsorted", some "__init__"), "__init__", "Unsorted.__init__", defArgs st_X_Unsorted, defBody st_X_Unsorted, defScope st_X_Unsorted, [], []⟩
abbrev st_X_NoBottom : Stmt := inClass (topS 3) 0
def d_X_NoBottom : He.DefD := ⟨("NoBottom", some "__init__"), "__init__", "NoBottom.__init__", defArgs st_X_NoBottom, defBody st_X_NoBottom, defScope st_X_NoBottom, [], []⟩
abbrev st_X_FigureError : Stmt := inClass (topS 4) 0
def d_X_FigureError : He.DefD := ⟨("FigureError", some "__init__"), "__init__", "FigureError.__init__", defArgs st_X_FigureError, defBody st_X_FigureError, defScope st_X_FigureError, [], []⟩
abbrev st_divisor_of : Stmt := topS 6
def d_divisor_of : He.DefD := ⟨("divisor_of", none), "divisor_of", "divisor_of", defArgs st_divisor_of, defBody st_divisor_of, defScope st_divisor_of, [], []⟩
abbrev st_N___init__ : Stmt := inClass (topS 7) 0
def d_N___init__ : He.DefD := ⟨("Number", some "__init__"), "__init__", "Number.__init__", defArgs st_N___init__, defBody st_N___init__, defScope st_N___init__, [.int 1], []⟩
abbrev st_N_more : Stmt := inClass (topS 7) 4
def d_N_more : He.DefD := ⟨("Number", some "more"), "more", "Number.more", defArgs st_N_more, defBody st_N_more, defScope st_N_more, [], []⟩
abbrev st_N_less : Stmt := inClass (topS 7) 5
def d_N_less : He.DefD := ⟨("Number", some "less"), "less", "Number.less", defArgs st_N_less, defBody st_N_less, defScope st_N_less, [], []⟩
abbrev st_N_times : Stmt := inClass (topS 7) 6
def d_N_times : He.DefD := ⟨("Number", some "times"), "times", "Number.times", defArgs st_N_times, defBody st_N_times, defScope st_N_times, [], []⟩
abbrev st_N_over : Stmt := inClass (topS 7) 7
def d_N_over : He.DefD := ⟨("Number", some "over"), "over", "Number.over", defArgs st_N_over, defBody st_N_over, defScope st_N_over, [], []⟩
abbrev st_N_below : Stmt := inClass (topS 7) 8
def d_N_below : He.DefD := ⟨("Number", some "below"), "below", "Number.below", defArgs st_N_below, defBody st_N_below, defScope st_N_below, [], []⟩
abbrev st_N_size : Stmt := inClass (topS 7) 9
def d_N_size : He.DefD := ⟨("Number", some "size"), "size", "Number.size", defArgs st_N_size, defBody st_N_size, defScope st_N_size, [], []⟩
abbrev st_N_floor : Stmt := inClass (topS 7) 10
def d_N_floor : He.DefD := ⟨("Number", some "floor"), "floor", "Number.floor", defArgs st_N_floor, defBody st_N_floor, defScope st_N_floor, [], []⟩
abbrev st__law_well : Stmt := topS 9
def d__law_well : He.DefD := ⟨("_law_well", none), "_law_well", "_law_well", defArgs st__law_well, defBody st__law_well, defScope st__law_well, [], []⟩
abbrev st__law_take : Stmt := topS 10
def d__law_take : He.DefD := ⟨("_law_take", none), "_law_take", "_law_take", defArgs st__law_take, defBody st__law_take, defScope st__law_take, [], []⟩
abbrev st__law_ten : Stmt := topS 11
def d__law_ten : He.DefD := ⟨("_law_ten", none), "_law_ten", "_law_ten", defArgs st__law_ten, defBody st__law_ten, defScope st__law_ten, [], []⟩
abbrev st__law_pair : Stmt := topS 12
def d__law_pair : He.DefD := ⟨("_law_pair", none), "_law_pair", "_law_pair", defArgs st__law_pair, defBody st__law_pair, defScope st__law_pair, [], []⟩
abbrev st__law_lowest : Stmt := topS 13
def d__law_lowest : He.DefD := ⟨("_law_lowest", none), "_law_lowest", "_law_lowest", defArgs st__law_lowest, defBody st__law_lowest, defScope st__law_lowest, [], []⟩
abbrev st__law_is : Stmt := topS 14
def d__law_is : He.DefD := ⟨("_law_is", none), "_law_is", "_law_is", defArgs st__law_is, defBody st__law_is, defScope st__law_is, [], []⟩
abbrev st__law_of_nought : Stmt := topS 15
def d__law_of_nought : He.DefD := ⟨("_law_of_nought", none), "_law_of_nought", "_law_of_nought", defArgs st__law_of_nought, defBody st__law_of_nought, defScope st__law_of_nought, [], []⟩
abbrev st__law_two_right : Stmt := topS 16
def d__law_two_right : He.DefD := ⟨("_law_two_right", none), "_law_two_right", "_law_two_right", defArgs st__law_two_right, defBody st__law_two_right, defScope st__law_two_right, [], []⟩
abbrev st_law : Stmt := topS 17
def d_law : He.DefD := ⟨("law", none), "law", "law", defArgs st_law, defBody st_law, defScope st_law, [], []⟩
end LW
namespace LW
open PySem PySem.Spec PyProof.Rows L2 DL TL
def fn : List He.DefD := [d_X_NoText, d_X_Unsorted, d_X_NoBottom, d_X_FigureError, d_divisor_of, d_N___init__, d_N_more, d_N_less, d_N_times, d_N_over, d_N_below, d_N_size, d_N_floor, d__law_well, d__law_take, d__law_ten, d__law_pair, d__law_lowest, d__law_is, d__law_of_nought, d__law_two_right, d_law]
def fa : List He.Fa := [.glo "FigureError", .glo "NoBottom", .glo "NoText", .glo "Number", .glo "Unsorted", .glo "_law_is", .glo "_law_lowest", .glo "_law_of_nought", .glo "_law_pair", .glo "_law_take", .glo "_law_ten", .glo "_law_two_right", .glo "_law_well", .glo "divisor_of", .glo "law", .free "ArithmeticError", .free "Exception", .free "ValueError", .free "ZeroDivisionError", .free "abs", .free "int", .free "isinstance", .free "len", .free "max", .free "min", .free "range", .free "repr", .cls "Number", .noat "Number" "top", .noat "Number" "bottom", .mkr "Number", .meth "Number" "more", .meth "Number" "less", .meth "Number" "times", .meth "Number" "over", .meth "Number" "below", .meth "Number" "size", .meth "Number" "floor"]
def ex (K : PySem.W.Frag) : Bool := true && (numB K) && (isiB K (.ref (cN K)) [] true) && (isiB K (.type "str") ["str"] false) && (xkB K "NoText" "ValueError" "ValueError.__new__" "ValueError.__init__" [.type "ValueError", .type "Exception", .type "BaseException", .type "object"] ["at"]) && (xkB K "Unsorted" "ValueError" "ValueError.__new__" "ValueError.__init__" [.type "ValueError", .type "Exception", .type "BaseException", .type "object"] ["low", "high"]) && (xkB K "NoBottom" "ArithmeticError" "ArithmeticError.__new__" "ArithmeticError.__init__" [.type "ArithmeticError", .type "Exception", .type "BaseException", .type "object"] ["top"]) && (xkB K "FigureError" "Exception" "Exception.__new__" "Exception.__init__" [.type "Exception", .type "BaseException", .type "object"] ["thing"]) && (isGB K (.ref (He.ga K "Number")) [] [("Number", true)]) && (PySem.W.exmOne K (.ref (He.ga K "NoBottom")) (.ref (He.ga K "NoBottom")) == some true) && (PySem.W.kitOne K (.ref (He.ga K "NoBottom")) (.type "ArithmeticError") == some true) && (PySem.W.kitAny K (.ref (He.ga K "NoBottom")) [.type "ValueError", .ref (He.ga K "FigureError"), .ref (He.ga K "NoText"), .ref (He.ga K "Unsorted")] == some false)
end LW
namespace LW
open PySem PySem.Spec PyProof.Rows L2 DL
def ts : List He.Tab := []
abbrev R : PySem.W.OpenRow := PySem.W.OpenLaw.row PySem.Challenge.rw_figuretexts_k02_numbers_reckoned
abbrev hk : PySem.W.Hook := hookZ ex fa fn ts
def ob (s : PySem.W.SharedT) : He.AlT := obsZG ex fa fn ts (HandSHeadRun.getT s)
theorem ob_eq (s : PySem.W.SharedT) : ob s = hk.obs s.abs := obsZG_eq (HandSHeadRun.getT_eq s)
def names : List Str := (["NoText", "Unsorted", "NoBottom", "FigureError", "divisor_of", "Number", "_law_well", "_law_take", "_law_ten", "_law_pair", "_law_lowest", "_law_is", "_law_of_nought", "_law_two_right"] : List Str)
theorem runA (w : World) : HandSHeadRun.RunEq R (PySem.W.view R.prog [17]) hk ob 20000 names (w.withFollow "special-get-raises" false) := fun os => by kernel_rfl
theorem runB (w : World) : HandSHeadRun.RunEq R (PySem.W.view R.prog [17]) hk ob 20000 names (w.withFollow "special-get-raises" true) := fun os => by kernel_rfl
theorem run (w : World) : HandSHeadRun.RunEq R (PySem.W.view R.prog [17]) hk ob 20000 names w :=
  PySem.W.byRow2 "special-get-raises" (P := fun w => HandSHeadRun.RunEq R (PySem.W.view R.prog [17]) hk ob 20000 names w) runA runB w
end LW
open PySem PySem.W PySem.Calls PyProof.Rows
end
set_option Elab.async false
set_option linter.all false
set_option maxRecDepth 100000
set_option maxHeartbeats 4000000
namespace DL
open PySem PySem.Spec PyProof.Rows L2
inductive Dt where
  | non | bl (b : Bool) | int (i : Int) | str (x : Str) | ty (n : String) | ptr (a : Addr)
  | tup (xs : List Dt) | lst (xs : List Dt) | rl (xs : List Dt) | num (q : Rat) | ins (C : Addr) (fs : List (Str × Dt)) | dct (kvs : List (Str × Dt))
inductive MO where
  | lst (xs : List Dt) | ins (C : Addr) (fs : List (Str × Dt)) | dct (kvs : List (Str × Dt)) | raw (φ : Heap → Prop) | dki (ks : List Key) (ds : List Dt) | dcz (o : Obj) (gs : List (Str × V)) (fs : List (Str × Dt))
abbrev Om := Addr → Option MO
abbrev Rho := List (Option Dt)
def put (w : Om) (a : Addr) (m : MO) : Om := fun b => if b = a then some m else w b
def cut (w : Om) (a : Addr) : Om := fun b => if b = a then none else w b
theorem put_same {w : Om} {a : Addr} {m : MO} : put w a m a = some m := if_pos rfl
theorem put_ne {w : Om} {a b : Addr} {m : MO} (h : b ≠ a) : put w a m b = w b := if_neg h
theorem put_put {w : Om} {a : Addr} {m n : MO} : put (put w a m) a n = put w a n := by
  funext b; unfold put; split <;> rfl
theorem cut_same {w : Om} {a : Addr} : cut w a a = none := if_pos rfl
theorem cut_ne {w : Om} {a b : Addr} (h : b ≠ a) : cut w a b = w b := if_neg h
theorem cut_put {w : Om} {a : Addr} {m : MO} (h : w a = none) : cut (put w a m) a = w := by
  funext b; unfold cut put; split
  · rename_i e; rw [e, h]
  · rfl
theorem om_ne {w : Om} {a b : Addr} {m : MO} (h : w a = some m) (g : w b = none) : a ≠ b := fun e => by
  rw [e, g] at h; cases h
def hm (H : Hp) (w : Om) : Hp := fun a => match w a with
  | some _ => none
  | none => H a
theorem hm_no {H : Hp} {w : Om} {a : Addr} (h : w a = none) : hm H w a = H a := by unfold hm; rw [h]
theorem hm_yes {H : Hp} {w : Om} {a : Addr} {m : MO} (h : w a = some m) : hm H w a = none := by unfold hm; rw [h]
theorem hm_some {H : Hp} {w : Om} {a : Addr} {o : HO} (h : hm H w a = some o) : w a = none ∧ H a = some o := by
  unfold hm at h
  cases e : w a with
  | some m => rw [e] at h; cases h
  | none => rw [e] at h; exact ⟨rfl, h⟩
def kyG (gs : List (Str × V)) : List (Key × V) := gs.map fun q => ((Sum.inr q.1 : Key), q.2)
section
variable (K : PySem.W.Frag) (H : Hp)
mutual
inductive Rp : Dt → V → Prop
  | non : Rp .non .non
  | bl {b : Bool} : Rp (.bl b) (.bl b)
  | int {i : Int} : Rp (.int i) (.int i)
  | str {x : Str} : Rp (.str x) (.str x)
  | ty {n : String} : Rp (.ty n) (.ty n)
  | ptr {a : Addr} : Rp (.ptr a) (.ref a)
  | tup {a : Addr} {vs : List V} {ds : List Dt} : SqT K H a vs → RpL ds vs → Rp (.tup ds) (.ref a)
  | lst {a : Addr} {vs : List V} {ds : List Dt} : H a = some (.lst vs) → RpL ds vs → Rp (.lst ds) (.ref a)
  | rl {a : Addr} {vs : List V} {ds : List Dt} : SqL K H a vs → RpL ds vs → Rp (.rl ds) (.ref a)
  | num {a dx : Addr} {q : Rat} : H a = some (.ins (cN K) dx [("bottom", .int q.den), ("top", .int q.num)]) → Rp (.num q) (.ref a)
  | ins {a C dx : Addr} {gs : List (Str × V)} {fs : List (Str × Dt)} : H a = some (.ins C dx gs) → RpF fs gs → Rp (.ins C fs) (.ref a)
  | dct {a : Addr} {gs : List (Str × V)} {fs : List (Str × Dt)} : H a = some (.dK (kyG gs)) → RpF fs gs → Rp (.dct fs) (.ref a)
inductive RpL : List Dt → List V → Prop
  | nil : RpL [] []
  | cons {d : Dt} {v : V} {ds : List Dt} {vs : List V} : Rp d v → RpL ds vs → RpL (d :: ds) (v :: vs)
inductive RpF : List (Str × Dt) → List (Str × V) → Prop
  | nil : RpF [] []
  | cons {f : Str} {d : Dt} {v : V} {fs : List (Str × Dt)} {gs : List (Str × V)} : Rp d v → RpF fs gs → RpF ((f, d) :: fs) ((f, v) :: gs)
end
end
theorem same_t {K : PySem.W.Frag} {H H' : Hp} {a : Addr} {xs : List V} (e : Same H H') (h : SqT K H a xs) : SqT K H' a xs := by
  rcases h with (h | ⟨o, h⟩) | h
  · exact .inl (.inl (e _ _ h))
  · exact .inl (.inr ⟨o, e _ _ h⟩)
  · exact .inr h
section
variable {K : PySem.W.Frag} {H H' : Hp}
mutual
theorem Rp.mono (e : Same H H') : ∀ {d : Dt} {v : V}, Rp K H d v → Rp K H' d v
  | _, _, .non => .non
  | _, _, .bl => .bl
  | _, _, .int => .int
  | _, _, .str => .str
  | _, _, .ty => .ty
  | _, _, .ptr => .ptr
  | _, _, .tup h r => .tup (same_t e h) (RpL.mono e r)
  | _, _, .lst h r => .lst (e _ _ h) (RpL.mono e r)
  | _, _, .rl h r => .rl (e.seq h) (RpL.mono e r)
  | _, _, .num h => .num (e _ _ h)
  | _, _, .ins h r => .ins (e _ _ h) (RpF.mono e r)
  | _, _, .dct h r => .dct (e _ _ h) (RpF.mono e r)
theorem RpL.mono (e : Same H H') : ∀ {ds : List Dt} {vs : List V}, RpL K H ds vs → RpL K H' ds vs
  | _, _, .nil => .nil
  | _, _, .cons r t => .cons (Rp.mono e r) (RpL.mono e t)
theorem RpF.mono (e : Same H H') : ∀ {fs : List (Str × Dt)} {gs : List (Str × V)}, RpF K H fs gs → RpF K H' fs gs
  | _, _, .nil => .nil
  | _, _, .cons r t => .cons (Rp.mono e r) (RpF.mono e t)
end
theorem RpL.length : ∀ {ds : List Dt} {vs : List V}, RpL K H ds vs → ds.length = vs.length
  | _, _, .nil => rfl
  | _, _, .cons _ t => congrArg Nat.succ (RpL.length t)
theorem RpL.get : ∀ {ds : List Dt} {vs : List V} {i : Nat} {d : Dt}, RpL K H ds vs → ds[i]? = some d → ∃ v, vs[i]? = some v ∧ Rp K H d v
  | _, _, _, _, .nil, e => by simp at e
  | _, _, 0, _, .cons r _, e => by simp at e; subst e; exact ⟨_, rfl, r⟩
  | _, _, i + 1, d, .cons _ t, e => by
    obtain ⟨v, h1, h2⟩ := RpL.get (i := i) (d := d) t (by simpa using e)
    exact ⟨v, by simpa using h1, h2⟩
theorem RpL.append : ∀ {ds es : List Dt} {vs us : List V}, RpL K H ds vs → RpL K H es us → RpL K H (ds ++ es) (vs ++ us)
  | _, _, _, _, .nil, s => s
  | _, _, _, _, .cons r t, s => .cons r (RpL.append t s)
theorem RpL.take : ∀ {ds : List Dt} {vs : List V} (n : Nat), RpL K H ds vs → RpL K H (ds.take n) (vs.take n)
  | _, _, 0, _ => .nil
  | _, _, _ + 1, .nil => .nil
  | _, _, n + 1, .cons r t => .cons r (RpL.take n t)
theorem RpL.drop : ∀ {ds : List Dt} {vs : List V} (n : Nat), RpL K H ds vs → RpL K H (ds.drop n) (vs.drop n)
  | _, _, 0, r => r
  | _, _, _ + 1, .nil => .nil
  | _, _, n + 1, .cons _ t => RpL.drop n t
theorem RpL.set {d : Dt} {v : V} (r : Rp K H d v) : ∀ {ds : List Dt} {vs : List V} (i : Nat), RpL K H ds vs → RpL K H (ds.set i d) (vs.set i v)
  | _, _, _, .nil => .nil
  | _, _, 0, .cons _ t => .cons r t
  | _, _, i + 1, .cons q t => .cons q (RpL.set r i t)
theorem RpL.ofInts : ∀ (ns : List Int), RpL K H (ns.map Dt.int) (ns.map V.int)
  | [] => .nil
  | n :: ns => .cons .int (RpL.ofInts ns)
theorem RpF.look {f : Str} : ∀ {fs : List (Str × Dt)} {gs : List (Str × V)}, RpF K H fs gs → (fs.lookup f = none ∧ gs.lookup f = none) ∨ ∃ d v, fs.lookup f = some d ∧ gs.lookup f = some v ∧ Rp K H d v
  | _, _, .nil => .inl ⟨rfl, rfl⟩
  | _, _, .cons (f := g) (d := d) (v := v) r t => by
    rw [List.lookup_cons, List.lookup_cons]
    cases e : f == g with
    | true => exact .inr ⟨d, v, rfl, rfl, r⟩
    | false => exact RpF.look t
theorem RpF.length : ∀ {fs : List (Str × Dt)} {gs : List (Str × V)}, RpF K H fs gs → fs.length = gs.length
  | _, _, .nil => rfl
  | _, _, .cons _ t => congrArg Nat.succ (RpF.length t)
end
def putD (f : Str) (d : Dt) : List (Str × Dt) → List (Str × Dt)
  | [] => [(f, d)]
  | (g, x) :: r => if g = f then (g, d) :: r else (g, x) :: putD f d r
inductive MoR (K : PySem.W.Frag) (H : Hp) : MO → HO → Prop
  | lst {ds : List Dt} {vs : List V} : RpL K H ds vs → MoR K H (.lst ds) (.lst vs)
  | ins {C dx : Addr} {fs : List (Str × Dt)} {gs : List (Str × V)} : RpF K H fs gs → MoR K H (.ins C fs) (.ins C dx gs)
  | dct {fs : List (Str × Dt)} {gs : List (Str × V)} : RpF K H fs gs → MoR K H (.dct fs) (.dK (kyG gs))
  | raw {φ : Heap → Prop} : MoR K H (.raw φ) (.ext φ)
  | dki {ks : List Key} {ds : List Dt} {vs : List V} : RpL K H ds vs → ks.length = ds.length → MoR K H (.dki ks ds) (.dK (ks.zip vs))
  | dcz {o : Obj} {gs : List (Str × V)} {fs : List (Str × Dt)} : RpF K H fs gs → MoR K H (.dcz o gs fs) (.frz o (.dK (kyG gs)))
theorem MoR.mono {K : PySem.W.Frag} {H H' : Hp} (e : Same H H') {m : MO} {o : HO} (h : MoR K H m o) : MoR K H' m o := by
  cases h with
  | lst r => exact .lst (r.mono e)
  | ins r => exact .ins (r.mono e)
  | dct r => exact .dct (r.mono e)
  | raw => exact .raw
  | dki r h => exact .dki (r.mono e) h
  | dcz r => exact .dcz (r.mono e)
def OmOk (K : PySem.W.Frag) (w : Om) (H : Hp) : Prop := ∀ a m, w a = some m → ∃ o, H a = some o ∧ MoR K (hm H w) m o
theorem OmOk.fresh {K : PySem.W.Frag} {w : Om} {H : Hp} (k : OmOk K w H) {p : Addr} (h : H p = none) : w p = none := by
  cases e : w p with
  | none => rfl
  | some m =>
    obtain ⟨o, q, _⟩ := k p m e
    rw [h] at q; cases q
inductive EnvR (K : PySem.W.Frag) (H : Hp) : Rho → L2.St → Prop
  | nil : EnvR K H [] []
  | no {x : Option V} {r : Rho} {s : L2.St} : EnvR K H r s → EnvR K H (none :: r) (x :: s)
  | yes {d : Dt} {v : V} {r : Rho} {s : L2.St} : Rp K H d v → EnvR K H r s → EnvR K H (some d :: r) (some v :: s)
def nth : Rho → Nat → Option Dt
  | [], _ => none
  | x :: _, 0 => x
  | _ :: r, n + 1 => nth r n
def pus : Rho → Nat → Option Dt → Rho
  | [], _, _ => []
  | _ :: r, 0, d => d :: r
  | x :: r, n + 1, d => x :: pus r n d
section
variable {K : PySem.W.Frag} {H H' : Hp}
theorem EnvR.mono (e : Same H H') : ∀ {r : Rho} {s : L2.St}, EnvR K H r s → EnvR K H' r s
  | _, _, .nil => .nil
  | _, _, .no t => .no (EnvR.mono e t)
  | _, _, .yes q t => .yes (q.mono e) (EnvR.mono e t)
theorem EnvR.get : ∀ {r : Rho} {s : L2.St} {i : Nat} {d : Dt}, EnvR K H r s → nth r i = some d → ∃ v, s[i]? = some (some v) ∧ Rp K H d v
  | _, _, _, _, .nil, e => by cases e
  | _, _, 0, _, .no _, e => by cases e
  | _, _, 0, _, .yes q _, e => by cases e; exact ⟨_, rfl, q⟩
  | _, _, i + 1, d, .no t, e => by
    obtain ⟨v, h1, h2⟩ := EnvR.get (i := i) (d := d) t e
    exact ⟨v, by simpa using h1, h2⟩
  | _, _, i + 1, d, .yes _ t, e => by
    obtain ⟨v, h1, h2⟩ := EnvR.get (i := i) (d := d) t e
    exact ⟨v, by simpa using h1, h2⟩
theorem EnvR.put {d : Dt} {v : V} (q : Rp K H d v) : ∀ {r : Rho} {s : L2.St} (i : Nat), EnvR K H r s → EnvR K H (pus r i (some d)) (s.set i (some v))
  | _, _, _, .nil => .nil
  | _, _, 0, .no t => .yes q t
  | _, _, 0, .yes _ t => .yes q t
  | _, _, i + 1, .no t => .no (EnvR.put q i t)
  | _, _, i + 1, .yes p t => .yes p (EnvR.put q i t)
theorem EnvR.off {o : Option V} : ∀ {r : Rho} {s : L2.St} (i : Nat), EnvR K H r s → EnvR K H (pus r i none) (s.set i o)
  | _, _, _, .nil => .nil
  | _, _, 0, .no t => .no t
  | _, _, 0, .yes _ t => .no t
  | _, _, i + 1, .no t => .no (EnvR.off i t)
  | _, _, i + 1, .yes p t => .yes p (EnvR.off i t)
def startD (n : Nat) (ds : List Dt) : Rho := ds.map some ++ List.replicate (n - ds.length) none
theorem EnvR.nones : ∀ (n : Nat), EnvR K H (List.replicate n none) (List.replicate n none)
  | 0 => .nil
  | n + 1 => .no (EnvR.nones n)
theorem EnvR.start {N : List Str} {ds : List Dt} {vs : List V} (r : RpL K H ds vs) : EnvR K H (startD N.length ds) (start N vs) := by
  unfold startD L2.start
  rw [r.length]
  generalize N.length - vs.length = n
  induction ds generalizing vs with
  | nil => cases r; exact EnvR.nones n
  | cons d ds ih =>
    cases r with
    | cons q t => exact .yes q (ih t)
end
end DL
namespace DL
open PySem PySem.Spec PyProof.Rows L2
abbrev DK := Dt → Om → Prop
abbrev DTE := Rho → Om → DK → Prop
abbrev DTT := Rho → Om → (Bool → Om → Prop) → Prop
abbrev DTA := Rho → Om → (List Dt → Om → Prop) → Prop
abbrev DWX := Addr → List (Str × Dt) → Rho → Om → Prop
structure DEnds where
  nx : Rho → Om → Prop
  rt : DK
  bk : Rho → Om → Prop := fun _ _ => False
  ct : Rho → Om → Prop := fun _ _ => False
abbrev DTS := DEnds → Rho → Om → Prop
structure Dx where
  X : Cx
  W : WX
  Wd : DWX
  I : Om → Hp → Prop
structure Aft (K : PySem.W.Frag) (w : Om) (H : Hp) (w' : Om) (H' : Hp) : Prop where
  same : Same (hm H w) (hm H' w')
  om : OmOk K w' H'
theorem Aft.trans {K : PySem.W.Frag} {w w1 w2 : Om} {H H1 H2 : Hp} (a : Aft K w H w1 H1) (b : Aft K w1 H1 w2 H2) : Aft K w H w2 H2 := ⟨a.same.trans b.same, b.om⟩
theorem Aft.refl {K : PySem.W.Frag} {w : Om} {H : Hp} (o : OmOk K w H) : Aft K w H w H := ⟨Same.refl _, o⟩
def Xw (Z : Dx) (w : Om) (H : Hp) : Prop := (∀ (C dx : Addr) (gs : List (Str × V)) (fs : List (Str × Dt)) (r : Rho) (s : L2.St) (H' : Hp) (w' : Om),
  H' dx = some (.xd gs) → RpF Z.X.K (hm H' w') fs gs → EnvR Z.X.K (hm H' w') r s → Aft Z.X.K w H w' H' → Z.Wd C fs r w' → Z.W (.ref C) (some dx) s H') ∧
  ∀ (H' : Hp) (w' : Om), Aft Z.X.K w H w' H' → Z.I w' H'
theorem Xw.next {Z : Dx} {w w' : Om} {H H' : Hp} (x : Xw Z w H) (a : Aft Z.X.K w H w' H') : Xw Z w' H' :=
  ⟨fun C dx gs fs r s H2 w2 h1 h2 h3 h4 h5 => x.1 C dx gs fs r s H2 w2 h1 h2 h3 (a.trans h4) h5, fun H2 w2 h => x.2 H2 w2 (a.trans h)⟩
structure Sok (Z : Dx) (r : Rho) (w : Om) (s : L2.St) (H : Hp) : Prop where
  env : EnvR Z.X.K (hm H w) r s
  om : OmOk Z.X.K w H
  xw : Xw Z w H
theorem Sok.next {Z : Dx} {r : Rho} {w w' : Om} {s : L2.St} {H H' : Hp} (S : Sok Z r w s H) (a : Aft Z.X.K w H w' H') : Sok Z r w' s H' :=
  ⟨S.env.mono a.same, a.om, S.xw.next a⟩
def LkE (Z : Dx) (tL : TE) (t : DTE) : Prop := ∀ (r : Rho) (w : Om) (s : L2.St) (H : Hp) (Q : DK) (QL : VK), Sok Z r w s H → t r w Q →
  (∀ v d H' w', Aft Z.X.K w H w' H' → Rp Z.X.K (hm H' w') d v → Q d w' → QL v H') → tL s H QL
def LkT (Z : Dx) (tL : TT) (t : DTT) : Prop := ∀ (r : Rho) (w : Om) (s : L2.St) (H : Hp) (Q : Bool → Om → Prop) (QL : Bool → Hp → Prop), Sok Z r w s H → t r w Q →
  (∀ b H' w', Aft Z.X.K w H w' H' → Q b w' → QL b H') → tL s H QL
def LkA (Z : Dx) (tL : TA) (t : DTA) : Prop := ∀ (r : Rho) (w : Om) (s : L2.St) (H : Hp) (Q : List Dt → Om → Prop) (QL : List V → Hp → Prop), Sok Z r w s H → t r w Q →
  (∀ vs ds H' w', Aft Z.X.K w H w' H' → RpL Z.X.K (hm H' w') ds vs → Q ds w' → QL vs H') → tL s H QL
structure DE (Z : Dx) (e : Expr) (t : DTE) : Prop where
  ex : ∃ tL, PE Z.X e tL ∧ LkE Z tL t
structure DT (Z : Dx) (e : Expr) (t : DTT) : Prop where
  ex : ∃ tL, PT Z.X e tL ∧ LkT Z tL t
structure DWt (Z : Dx) (e : Expr) (t : DTT) : Prop where
  ex : ∃ tL, PW Z.X e tL ∧ LkT Z tL t
structure DA (Z : Dx) (es : List Expr) (t : DTA) : Prop where
  ex : ∃ tL, PA Z.X es tL ∧ LkA Z tL t
abbrev DR2 := Dt → Dt → Om → DK → Prop
def LkR (Z : Dx) (rL : R2) (rd : DR2) : Prop := ∀ (dx dy : Dt) (x y : V) (w : Om) (H : Hp) (Q : DK) (QL : VK), OmOk Z.X.K w H → Rp Z.X.K (hm H w) dx x → Rp Z.X.K (hm H w) dy y → rd dx dy w Q →
  (∀ v d H' w', Aft Z.X.K w H w' H' → Rp Z.X.K (hm H' w') d v → Q d w' → QL v H') → rL x y H QL
structure DOp (Z : Dx) (f : Value → Value → Sem Value) (rd : DR2) : Prop where
  ex : ∃ rL, OpR Z.X f rL ∧ LkR Z rL rd
def dVar (i : Nat) : DTE := fun r w Q => match nth r i with
  | some d => Q d w
  | none => False
def dC (d : Dt) : DTE := fun _ w Q => Q d w
def dOp (rd : DR2) (ta tb : DTE) : DTE := fun r w Q => ta r w fun x w1 => tb r w1 fun y w2 => rd x y w2 Q
def br (b : Bool) (A B : Prop) : Prop := match b with
  | true => A
  | false => B
theorem br_of {b : Bool} {A B : Prop} (h : b = true → A) (h' : b = false → B) : br b A B := by
  cases b with
  | true => exact h rfl
  | false => exact h' rfl
theorem br_t {b : Bool} {A B : Prop} (e : b = true) (h : A) : br b A B := by subst e; exact h
theorem br_f {b : Bool} {A B : Prop} (e : b = false) (h : B) : br b A B := by subst e; exact h
theorem br_dec {p : Prop} [Decidable p] {A B : Prop} (h : p → A) (h' : ¬ p → B) : br (decide p) A B := br_of (fun e => h (of_decide_eq_true e)) fun e => h' (of_decide_eq_false e)
theorem ite_br {b : Bool} {A B A' B' : Prop} (h : br b A B) (ha : A → A') (hb : B → B') : if b = true then A' else B' := by
  cases b with
  | true => exact ha h
  | false => exact hb h
def dIf (t : DTT) (ta tb : DTE) : DTE := fun r w Q => t r w fun b w1 => br b (ta r w1 Q) (tb r w1 Q)
def dB (t : DTE) : DTT := fun r w Q => t r w fun x w1 => match x with
  | .bl c => Q c w1
  | _ => False
def dAnd (t u : DTT) : DTT := fun r w Q => t r w fun c w1 => br c (u r w1 Q) (Q false w1)
def dOr (t u : DTT) : DTT := fun r w Q => t r w fun c w1 => br c (Q true w1) (u r w1 Q)
def dNot (t : DTT) : DTT := fun r w Q => t r w fun c w1 => Q (!c) w1
def dAndV (ta tb : DTE) : DTE := fun r w Q => ta r w fun x w1 => match x with
  | .bl c => br c (tb r w1 Q) (Q (.bl false) w1)
  | _ => False
def dOrV (ta tb : DTE) : DTE := fun r w Q => ta r w fun x w1 => match x with
  | .bl c => br c (Q (.bl true) w1) (tb r w1 Q)
  | _ => False
def dNotV (ta : DTE) : DTE := fun r w Q => ta r w fun x w1 => match x with
  | .bl c => Q (.bl (!c)) w1
  | _ => False
def dNil : DTA := fun _ w Q => Q [] w
def dCons (ta : DTE) (tr : DTA) : DTA := fun r w Q => ta r w fun x w1 => tr r w1 fun xs w2 => Q (x :: xs) w2
def dTup (ta : DTA) : DTE := fun r w Q => ta r w fun xs w1 => xs.length ≤ sizeLine ∧ Q (.tup xs) w1
def dLst (ta : DTA) : DTE := fun r w Q => ta r w fun xs w1 => xs.length ≤ sizeLine ∧ Q (.lst xs) w1
def dLstM (ta : DTA) : DTE := fun r w Q => ta r w fun xs w1 => xs.length ≤ sizeLine ∧ ∀ p, w1 p = none → Q (.ptr p) (put w1 p (.lst xs))
section
variable {Z : Dx} {e a b c : Expr} {ta tb te : DTE} {t u : DTT} {pos : Pos}
theorem de_var (i : Nat) {x : Str} (hN : Z.X.N[i]? = some x := by rfl) (hv : Vis Z.X.env.scope x := by first | exact Or.inl rfl | exact Or.inr (Or.inl rfl) | exact Or.inr (Or.inr rfl)) (hd : (x == ("__debug__" : Str)) = false := by decide)
    (hcd : (x == ("__classdict__" : Str)) = false := by decide) : DE Z (.Name x pos) (dVar i) := by
  refine ⟨_, pe_var hN hv hd hcd, fun r w s H Q QL S h k => ?_⟩
  unfold dVar at h
  cases e : nth r i with
  | none => rw [e] at h; exact h.elim
  | some d =>
    rw [e] at h
    obtain ⟨v, h1, h2⟩ := S.env.get e
    exact ⟨v, h1, k v d H w (Aft.refl S.om) h2 h⟩
theorem de_c {d : Dt} {v : V} {e : Expr} (h : PE Z.X e (tC v)) (r : ∀ K H, Rp K H d v) : DE Z e (dC d) :=
  ⟨_, h, fun ρ w s H Q QL S h k => k v d H w (Aft.refl S.om) (r _ _) h⟩
theorem de_int {i : Int} {j : Nat} : DE Z (.Constant (.int i) j pos) (dC (.int i)) := de_c pe_int fun _ _ => .int
theorem de_bl {i : Bool} {j : Nat} : DE Z (.Constant (.bool i) j pos) (dC (.bl i)) := de_c pe_bl fun _ _ => .bl
theorem de_gref {x : Str} {p : Addr} (hm : Z.X.mg x = some (.ref p)) (hg : Gl Z.X x := by rfl) (hd : (x == ("__debug__" : Str)) = false := by decide) : DE Z (.Name x pos) (dC (.ptr p)) :=
  de_c (pe_glob (v := .ref p) hg hm rfl hd) fun _ _ => .ptr
theorem de_gty {x : Str} {n : String} (hm : Z.X.mg x = none) (hv : bootBuiltins x = some (.type n)) (hg : Gl Z.X x := by rfl) (hn : x ≠ "__name__" := by decide) (hd : (x == ("__debug__" : Str)) = false := by decide) : DE Z (.Name x pos) (dC (.ty n)) :=
  de_c (pe_bltn (v := .ty n) hg hm hv rfl hn hd) fun _ _ => .ty
theorem lk_op {rL : R2} {rd : DR2} {tLa tLb : TE} (lo : LkR Z rL rd) (la : LkE Z tLa ta) (lb : LkE Z tLb tb) : LkE Z (tOp rL tLa tLb) (dOp rd ta tb) := fun r w s H Q QL S h k => by
  refine la r w s H _ _ S h fun v d H1 w1 A1 r1 q1 => ?_
  refine lb r w1 s H1 _ _ (S.next A1) q1 fun v2 d2 H2 w2 A2 r2 q2 => ?_
  exact lo d d2 v v2 w2 H2 Q QL A2.om (r1.mono A2.same) r2 q2 fun v3 d3 H3 w3 A3 r3 q3 => k v3 d3 H3 w3 (A1.trans (A2.trans A3)) r3 q3
theorem de_op {op : Operator} {rd : DR2} (ho : DOp Z (binaryOp op) rd) (ha : DE Z a ta) (hb : DE Z b tb) : DE Z (.BinOp a op b pos) (dOp rd ta tb) := by
  obtain ⟨rL, oL, lo⟩ := ho.ex
  obtain ⟨tLa, pa, la⟩ := ha.ex
  obtain ⟨tLb, pb, lb⟩ := hb.ex
  exact ⟨_, pe_op oL pa pb, lk_op lo la lb⟩
theorem de_cmp {op : CmpOp} {rd : DR2} (ho : DOp Z (compareOp op) rd) (ha : DE Z a ta) (hb : DE Z b tb) (hmk : behindInMarks op b = false := by first | exact nomark _ | rfl | with_unfolding_all rfl) : DE Z (.Compare a [op] [b] pos) (dOp rd ta tb) := by
  obtain ⟨rL, oL, lo⟩ := ho.ex
  obtain ⟨tLa, pa, la⟩ := ha.ex
  obtain ⟨tLb, pb, lb⟩ := hb.ex
  exact ⟨_, pe_cmpR oL pa pb hmk, lk_op lo la lb⟩
theorem lk_B {tL : TE} (l : LkE Z tL te) : LkT Z (tB tL) (dB te) := fun r w s H Q QL S h k => by
  refine l r w s H _ _ S h fun v d H1 w1 A1 r1 q1 => ?_
  cases r1 with
  | bl => exact ⟨_, rfl, k _ H1 w1 A1 q1⟩
  | _ => exact (show False from q1).elim
theorem lk_Test {tL : TE} (l : LkE Z tL te) : LkT Z (tTest tL) (dB te) := lk_B l
theorem dt_cmp {op : CmpOp} {rd : DR2} (ho : DOp Z (compareOp op) rd) (ha : DE Z a ta) (hb : DE Z b tb) (hmk : behindInMarks op b = false := by first | exact nomark _ | rfl | with_unfolding_all rfl) : DT Z (.Compare a [op] [b] pos) (dB (dOp rd ta tb)) := by
  obtain ⟨rL, oL, lo⟩ := ho.ex
  obtain ⟨tLa, pa, la⟩ := ha.ex
  obtain ⟨tLb, pb, lb⟩ := hb.ex
  exact ⟨_, pt_cmpR oL pa pb hmk, lk_Test (lk_op lo la lb)⟩
theorem dt_val (h : DE Z e te) (he : ∀ whole, isTrue e Z.X.env whole = (do let v ← whole; standAt e.pos; holding [v] (truthy v)) := by intro _; rfl) : DT Z e (dB te) := by
  obtain ⟨tL, p, l⟩ := h.ex
  exact ⟨_, pt_val p he, lk_B l⟩
theorem DWt.dt (h : DWt Z e t) : DT Z e t := let ⟨tL, p, l⟩ := h.ex; ⟨_, p.pt, l⟩
theorem lk_and {tL uL : TT} (l : LkT Z tL t) (l' : LkT Z uL u) : LkT Z (tAnd tL uL) (dAnd t u) := fun r w s H Q QL S h k => by
  refine l r w s H _ _ S h fun c H1 w1 A1 q1 => ?_
  exact ite_br q1 (fun q => l' r w1 s H1 Q QL (S.next A1) q fun c2 H2 w2 A2 q2 => k c2 H2 w2 (A1.trans A2) q2) fun q => k false H1 w1 A1 q
theorem lk_or {tL uL : TT} (l : LkT Z tL t) (l' : LkT Z uL u) : LkT Z (tOr tL uL) (dOr t u) := fun r w s H Q QL S h k => by
  refine l r w s H _ _ S h fun c H1 w1 A1 q1 => ?_
  exact ite_br q1 (fun q => k true H1 w1 A1 q) fun q => l' r w1 s H1 Q QL (S.next A1) q fun c2 H2 w2 A2 q2 => k c2 H2 w2 (A1.trans A2) q2
theorem dw_and1 (ha : DT Z a t) : DWt Z (.BoolOp .And [a] pos) t := let ⟨_, p, l⟩ := ha.ex; ⟨_, pw_and1 p, l⟩
theorem dw_or1 (ha : DT Z a t) : DWt Z (.BoolOp .Or [a] pos) t := let ⟨_, p, l⟩ := ha.ex; ⟨_, pw_or1 p, l⟩
theorem dw_and {rest : List Expr} (ha : DT Z a t) (hb : DWt Z (.BoolOp .And (b :: rest) pos) u) : DWt Z (.BoolOp .And (a :: b :: rest) pos) (dAnd t u) :=
  let ⟨_, p, l⟩ := ha.ex; let ⟨_, q, l'⟩ := hb.ex; ⟨_, pw_and p q, lk_and l l'⟩
theorem dw_or {rest : List Expr} (ha : DT Z a t) (hb : DWt Z (.BoolOp .Or (b :: rest) pos) u) : DWt Z (.BoolOp .Or (a :: b :: rest) pos) (dOr t u) :=
  let ⟨_, p, l⟩ := ha.ex; let ⟨_, q, l'⟩ := hb.ex; ⟨_, pw_or p q, lk_or l l'⟩
theorem dt_not (ha : DT Z a t) : DT Z (.UnaryOp .Not a pos) (dNot t) :=
  let ⟨_, p, l⟩ := ha.ex; ⟨_, pt_not p, fun r w s H Q QL S h k => l r w s H _ _ S h fun c H1 w1 A1 q1 => k (!c) H1 w1 A1 q1⟩
theorem de_one {op : BoolOp} (h : DE Z a ta) : DE Z (.BoolOp op [a] pos) ta := let ⟨_, p, l⟩ := h.ex; ⟨_, pe_one p, l⟩
theorem de_and {rest : List Expr} (ha : DE Z a ta) (hb : DE Z (.BoolOp .And (b :: rest) pos) tb) : DE Z (.BoolOp .And (a :: b :: rest) pos) (dAndV ta tb) := by
  obtain ⟨_, p, l⟩ := ha.ex
  obtain ⟨_, q, l'⟩ := hb.ex
  refine ⟨_, pe_and p q, fun r w s H Q QL S h k => ?_⟩
  refine l r w s H _ _ S h fun v d H1 w1 A1 r1 q1 => ?_
  cases r1 with
  | bl => exact ⟨_, rfl, ite_br q1 (fun q => l' r w1 s H1 Q QL (S.next A1) q fun v2 d2 H2 w2 A2 r2 q2 => k v2 d2 H2 w2 (A1.trans A2) r2 q2) fun q => k _ _ H1 w1 A1 .bl q⟩
  | _ => exact (show False from q1).elim
theorem de_not (ha : DE Z a ta) : DE Z (.UnaryOp .Not a pos) (dNotV ta) := by
  obtain ⟨_, p, l⟩ := ha.ex
  refine ⟨_, pe_not p, fun r w s H Q QL S h k => ?_⟩
  refine l r w s H _ _ S h fun v d H1 w1 A1 r1 q1 => ?_
  cases r1 with
  | bl => exact ⟨_, rfl, k _ _ H1 w1 A1 .bl q1⟩
  | _ => exact (show False from q1).elim
theorem de_if (hc : DT Z c t) (ha : DE Z a ta) (hb : DE Z b tb) : DE Z (.IfExp c a b pos) (dIf t ta tb) := by
  obtain ⟨_, p, l⟩ := hc.ex
  obtain ⟨_, pa, la⟩ := ha.ex
  obtain ⟨_, pb, lb⟩ := hb.ex
  refine ⟨_, pe_ifExp p pa pb, fun r w s H Q QL S h k => ?_⟩
  refine l r w s H _ _ S h fun d H1 w1 A1 q1 => ?_
  exact ite_br q1 (fun q => la r w1 s H1 Q QL (S.next A1) q fun v2 d2 H2 w2 A2 r2 q2 => k v2 d2 H2 w2 (A1.trans A2) r2 q2)
    fun q => lb r w1 s H1 Q QL (S.next A1) q fun v2 d2 H2 w2 A2 r2 q2 => k v2 d2 H2 w2 (A1.trans A2) r2 q2
theorem da_nil : DA Z [] dNil := ⟨_, pa_nil, fun r w s H Q QL S h k => k [] [] H w (Aft.refl S.om) .nil h⟩
theorem da_cons {es : List Expr} {tr : DTA} (ha : DE Z e te) (hr : DA Z es tr) (hs : starEach (e :: es) Z.X.env = (false, eval e Z.X.env) :: starEach es Z.X.env := by rfl) : DA Z (e :: es) (dCons te tr) := by
  obtain ⟨_, p, l⟩ := ha.ex
  obtain ⟨_, q, l'⟩ := hr.ex
  refine ⟨_, pa_cons p q hs, fun r w s H Q QL S h k => ?_⟩
  refine l r w s H _ _ S h fun v d H1 w1 A1 r1 q1 => ?_
  exact l' r w1 s H1 _ _ (S.next A1) q1 fun vs ds H2 w2 A2 r2 q2 => k (v :: vs) (d :: ds) H2 w2 (A1.trans A2) (.cons (r1.mono A2.same) r2) q2
theorem Aft.new {K : PySem.W.Frag} {w : Om} {H : Hp} {p : Addr} {o : HO} (ok : OmOk K w H) (hp : H p = none) : Aft K w H w (upd H p o) := by
  have wp : w p = none := ok.fresh hp
  have sm : Same (hm H w) (hm (upd H p o) w) := fun b u hb => by
    obtain ⟨h1, h2⟩ := hm_some hb
    rw [hm_no h1, upd_ne (ne_of_none h2 hp)]
    exact h2
  refine ⟨sm, fun b m hb => ?_⟩
  obtain ⟨u, h1, h2⟩ := ok b m hb
  exact ⟨u, by rw [upd_ne (ne_of_none h1 hp)]; exact h1, h2.mono sm⟩
theorem Aft.newM {K : PySem.W.Frag} {w : Om} {H : Hp} {p : Addr} {o : HO} {m : MO} (ok : OmOk K w H) (hp : H p = none) (r : MoR K (hm H w) m o) : Aft K w H (put w p m) (upd H p o) := by
  have wp : w p = none := ok.fresh hp
  have sm : Same (hm H w) (hm (upd H p o) (put w p m)) := fun b u hb => by
    obtain ⟨h1, h2⟩ := hm_some hb
    have nb := ne_of_none h2 hp
    rw [hm_no (by rw [put_ne nb]; exact h1), upd_ne nb]
    exact h2
  refine ⟨sm, fun b n hb => ?_⟩
  by_cases e : b = p
  · subst e
    rw [put_same] at hb
    cases hb
    exact ⟨o, upd_same, r.mono sm⟩
  · rw [put_ne e] at hb
    obtain ⟨u, h1, h2⟩ := ok b n hb
    exact ⟨u, by rw [upd_ne e]; exact h1, h2.mono sm⟩
theorem Aft.chg {K : PySem.W.Frag} {w : Om} {H : Hp} {p : Addr} {o : HO} {m n : MO} (ok : OmOk K w H) (hp : w p = some n) (r : MoR K (hm H w) m o) : Aft K w H (put w p m) (upd H p o) := by
  have e0 : hm (upd H p o) (put w p m) = hm H w := by
    funext b
    by_cases e : b = p
    · subst e; rw [hm_yes put_same, hm_yes hp]
    · unfold hm; rw [put_ne e, upd_ne e]
  refine ⟨by rw [e0]; exact Same.refl _, fun b k hb => ?_⟩
  rw [e0]
  by_cases e : b = p
  · subst e
    rw [put_same] at hb
    cases hb
    exact ⟨o, upd_same, r⟩
  · rw [put_ne e] at hb
    obtain ⟨u, h1, h2⟩ := ok b k hb
    exact ⟨u, by rw [upd_ne e]; exact h1, h2⟩
theorem de_tup {es : List Expr} {t : DTA} {x1 : Nat} (h : DA Z es t) : DE Z (.Tuple es x1 pos) (dTup t) := by
  obtain ⟨_, p, l⟩ := h.ex
  refine ⟨_, pe_tup p, fun r w s H Q QL S h k => ?_⟩
  refine l r w s H _ _ S h fun vs ds H1 w1 A1 r1 q1 => ⟨by rw [← r1.length]; exact q1.1, fun p hp => ?_⟩
  have A2 := Aft.new (p := p) (o := .tup vs) A1.om hp
  refine k _ (.tup ds) _ w1 (A1.trans A2) (.tup (.inl (.inl ?_)) (r1.mono A2.same)) q1.2
  rw [hm_no (A1.om.fresh hp), upd_same]
theorem de_lst {es : List Expr} {t : DTA} (h : DA Z es t) : DE Z (.List es pos) (dLst t) := by
  obtain ⟨_, p, l⟩ := h.ex
  refine ⟨_, pe_lst p, fun r w s H Q QL S h k => ?_⟩
  refine l r w s H _ _ S h fun vs ds H1 w1 A1 r1 q1 => ⟨by rw [← r1.length]; exact q1.1, fun p hp => ?_⟩
  have A2 := Aft.new (p := p) (o := .lst vs) A1.om hp
  refine k _ (.lst ds) _ w1 (A1.trans A2) (.lst ?_ (r1.mono A2.same)) q1.2
  rw [hm_no (A1.om.fresh hp), upd_same]
theorem de_lstM {es : List Expr} {t : DTA} (h : DA Z es t) : DE Z (.List es pos) (dLstM t) := by
  obtain ⟨_, p, l⟩ := h.ex
  refine ⟨_, pe_lst p, fun r w s H Q QL S h k => ?_⟩
  refine l r w s H _ _ S h fun vs ds H1 w1 A1 r1 q1 => ⟨by rw [← r1.length]; exact q1.1, fun p hp => ?_⟩
  exact k _ (.ptr p) _ _ (A1.trans (Aft.newM A1.om hp (.lst r1))) .ptr (q1.2 p (A1.om.fresh hp))
end
end DL
namespace DL
open PySem PySem.Spec PyProof.Rows L2
def MulC (i j : Int) : Prop := CMulW i j ∨ CMul i j
theorem MulC.ok {i j : Int} (h : MulC i j) : IntMulOk i j := h.elim CMulW.ok CMul.ok
def DivN (j : Int) : Prop := j ≠ 0 ∧ j.natAbs.log2 < 9000
def DivP (j : Int) : Prop := 0 < j ∧ j.natAbs.log2 < 9000
section
variable {X : Cx}
theorem op_mulC : OpR X (binaryOp .Mult) (rI MulC fun i j => .int (i * j)) := opI fun _ _ _ _ _ _ _ hc q => mul_int q hc.ok
theorem op_fdivZ : OpR X (binaryOp .FloorDiv) (rI (fun _ j => DivN j) fun i j => .int (i.fdiv j)) := opI fun i j _ _ _ _ _ hc q => floordiv_int hc.1 q (.inl (PyProof.noPylong_of_log2 hc.2))
theorem op_fdivP : OpR X (binaryOp .FloorDiv) (rI (fun _ j => DivP j) fun i j => .int (i / j)) := opI fun i j _ _ _ _ _ hc q => by
  have h1 : (0 : Int) < j := hc.1
  exact floordiv_int (by omega) (by rw [Int.fdiv_eq_ediv_of_nonneg i (by omega)]; exact q) (.inl (PyProof.noPylong_of_log2 hc.2))
end
def dI (C : Int → Int → Prop) (g : Int → Int → Dt) : DR2 := fun x y w Q => match x, y with
  | .int i, .int j => C i j ∧ Q (g i j) w
  | _, _ => False
def dI0 (g : Int → Int → Dt) : DR2 := fun x y w Q => match x, y with
  | .int i, .int j => Q (g i j) w
  | _, _ => False
section
variable {Z : Dx}
theorem lkI {C : Int → Int → Prop} {g : Int → Int → V} {gd : Int → Int → Dt} (hg : ∀ K H i j, Rp K H (gd i j) (g i j)) : LkR Z (rI C g) (dI C gd) := fun dx dy x y w H Q QL ok rx ry h k => by
  cases rx with
  | int => cases ry with
    | int => exact ⟨_, _, rfl, rfl, h.1, k _ _ H w (Aft.refl ok) (hg _ _ _ _) h.2⟩
    | _ => exact (show False from h).elim
  | _ => exact (show False from h).elim
theorem lkI0 {g : Int → Int → V} {gd : Int → Int → Dt} (hg : ∀ K H i j, Rp K H (gd i j) (g i j)) : LkR Z (rI0 g) (dI0 gd) := fun dx dy x y w H Q QL ok rx ry h k => by
  cases rx with
  | int => cases ry with
    | int => exact ⟨_, _, rfl, rfl, k _ _ H w (Aft.refl ok) (hg _ _ _ _) h⟩
    | _ => exact (show False from h).elim
  | _ => exact (show False from h).elim
theorem o_sub : DOp Z (binaryOp .Sub) (dI0 fun i j => .int (i - j)) := ⟨_, op_sub, lkI0 fun _ _ _ _ => .int⟩
theorem o_fdiv : DOp Z (binaryOp .FloorDiv) (dI (fun _ j => DivP j) fun i j => .int (i / j)) := ⟨_, op_fdivP, lkI fun _ _ _ _ => .int⟩
theorem o_fdivN : DOp Z (binaryOp .FloorDiv) (dI (fun _ j => DivN j) fun i j => .int (i.fdiv j)) := ⟨_, op_fdivZ, lkI fun _ _ _ _ => .int⟩
theorem o_mod : DOp Z (binaryOp .Mod) (dI (fun _ j => 0 < j) fun i j => .int (i % j)) := ⟨_, op_mod, lkI fun _ _ _ _ => .int⟩
theorem o_pow : DOp Z (binaryOp .Pow) (dI CPow fun i j => .int (i ^ j.toNat)) := ⟨_, op_pow, lkI fun _ _ _ _ => .int⟩
theorem o_lt : DOp Z (compareOp .Lt) (dI0 fun i j => .bl (decide (i < j))) := ⟨_, op_lt, lkI0 fun _ _ _ _ => .bl⟩
theorem o_gt : DOp Z (compareOp .Gt) (dI0 fun i j => .bl (decide (j < i))) := ⟨_, op_gt, lkI0 fun _ _ _ _ => .bl⟩
theorem o_ge : DOp Z (compareOp .GtE) (dI0 fun i j => .bl (decide (j ≤ i))) := ⟨_, op_ge, lkI0 fun _ _ _ _ => .bl⟩
theorem newL {K : PySem.W.Frag} {w : Om} {H : Hp} {p : Addr} {ds : List Dt} {vs : List V} (ok : OmOk K w H) (hp : H p = none) (r : RpL K (hm H w) ds vs) : Aft K w H w (upd H p (.lst vs)) ∧ Rp K (hm (upd H p (.lst vs)) w) (.lst ds) (.ref p) := by
  have A := Aft.new (p := p) (o := .lst vs) ok hp
  exact ⟨A, .lst (by rw [hm_no (ok.fresh hp), upd_same]) (r.mono A.same)⟩
theorem newT {K : PySem.W.Frag} {w : Om} {H : Hp} {p : Addr} {ds : List Dt} {vs : List V} (ok : OmOk K w H) (hp : H p = none) (r : RpL K (hm H w) ds vs) : Aft K w H w (upd H p (.tup vs)) ∧ Rp K (hm (upd H p (.tup vs)) w) (.tup ds) (.ref p) := by
  have A := Aft.new (p := p) (o := .tup vs) ok hp
  exact ⟨A, .tup (.inl (.inl (by rw [hm_no (ok.fresh hp), upd_same]))) (r.mono A.same)⟩
def addR : DR2 := fun x y w Q => match x, y with
  | .int i, .int j => Q (.int (i + j)) w
  | .int i, .bl k => Q (.int (i + b2i k)) w
  | .str a, .str b => a.length + b.length ≤ sizeLine ∧ Q (.str (a ++ b)) w
  | .lst a, .lst b => a.length + b.length ≤ sizeLine ∧ Q (.lst (a ++ b)) w
  | .tup a, .tup b => a.length + b.length ≤ sizeLine ∧ Q (.tup (a ++ b)) w
  | _, _ => False
theorem RpL.nil_iff {K : PySem.W.Frag} {H : Hp} {ds : List Dt} {vs : List V} (r : RpL K H ds vs) : vs = [] ↔ ds = [] := by
  cases r <;> simp
theorem o_add : DOp Z (binaryOp .Add) addR := by
  refine ⟨_, op_add.or (op_add_ib.or (op_add_str.or (op_cat.or op_catA))), fun dx dy x y w H Q QL ok rx ry h k => ?_⟩
  cases rx with
  | int => cases ry with
    | int => exact .inl ⟨_, _, rfl, rfl, k _ _ H w (Aft.refl ok) .int h⟩
    | bl => exact .inr (.inl ⟨_, _, rfl, rfl, k _ _ H w (Aft.refl ok) .int h⟩)
    | _ => exact (show False from h).elim
  | str => cases ry with
    | str => exact .inr (.inr (.inl ⟨_, _, rfl, rfl, h.1, k _ _ H w (Aft.refl ok) .str h.2⟩))
    | _ => exact (show False from h).elim
  | lst hx r => cases ry with
    | lst hy r' =>
      obtain ⟨_, hx'⟩ := hm_some hx
      obtain ⟨_, hy'⟩ := hm_some hy
      refine .inr (.inr (.inr (.inl ⟨_, _, _, _, rfl, rfl, hx', hy', by rw [← r.length, ← r'.length]; exact h.1, fun p hp => ?_⟩)))
      obtain ⟨A, R⟩ := newL ok hp (r.append r')
      exact k _ _ _ w A R h.2
    | _ => exact (show False from h).elim
  | tup hx r => cases ry with
    | tup hy r' =>
      rename_i a vs ds a' vs' ds'
      have up : ∀ {b : Addr} {xs : List V}, SqT Z.X.K (hm H w) b xs → SqT Z.X.K H b xs := fun q => same_t (fun b o e => (hm_some e).2) q
      refine .inr (.inr (.inr (.inr ⟨_, _, _, _, rfl, rfl, up hx, up hy, by rw [← r.length, ← r'.length]; exact h.1, fun e => ?_, fun _ e => ?_, fun _ _ p hp => ?_⟩)))
      · have e' := r.nil_iff.mp e
        subst e'
        exact k _ _ H w (Aft.refl ok) (.tup hy r') h.2
      · have e' := r'.nil_iff.mp e
        subst e'
        have q := h.2
        rw [List.append_nil] at q
        exact k _ _ H w (Aft.refl ok) (.tup hx r) q
      · obtain ⟨A, R⟩ := newT ok hp (r.append r')
        exact k _ _ _ w A R h.2
    | _ => exact (show False from h).elim
  | _ => exact (show False from h).elim
def mulR : DR2 := dI MulC fun i j => .int (i * j)
theorem o_mul : DOp Z (binaryOp .Mult) mulR := ⟨_, op_mulC, lkI fun _ _ _ _ => .int⟩
mutual
def toPy : Dt → Option PyData
  | .non => some .none
  | .bl b => some (.bool b)
  | .int i => some (.int i)
  | .str x => some (.str x)
  | .tup xs => (toPyL xs).map .tuple
  | .lst xs => (toPyL xs).map .list
  | .rl xs => (toPyL xs).map .list
  | .ty _ => none
  | .ptr _ => none
  | .num _ => none
  | .ins _ _ => none
  | .dct _ => none
def toPyL : List Dt → Option (List PyData)
  | [] => some []
  | x :: xs => match toPy x, toPyL xs with
    | some a, some b => some (a :: b)
    | _, _ => none
end
theorem up_t {K : PySem.W.Frag} {H : Hp} {w : Om} {b : Addr} {xs : List V} (q : SqT K (hm H w) b xs) : SqT K H b xs := same_t (fun b o e => (hm_some e).2) q
theorem up_l {K : PySem.W.Frag} {H : Hp} {w : Om} {b : Addr} {xs : List V} (q : SqL K (hm H w) b xs) : SqL K H b xs := Same.seq (H := hm H w) (fun b o e => (hm_some e).2) q
theorem up_same {H : Hp} {w : Om} : Same (hm H w) H := fun b o e => (hm_some e).2
mutual
theorem Rp.dp {K : PySem.W.Frag} {H : Hp} : ∀ {d : Dt} {v : V} {p : PyData}, Rp K H d v → toPy d = some p → Dp K H v p
  | _, _, _, .non, e => by cases e; exact .non
  | _, _, _, .bl, e => by cases e; exact .bl _
  | _, _, _, .int, e => by cases e; exact .int _
  | _, _, _, .str, e => by cases e; exact .str _
  | .tup ds, _, p, .tup h r, e => by
    have e' : (toPyL ds).map PyData.tuple = some p := by rw [toPy.eq_def] at e; exact e
    obtain ⟨l, e1, e2⟩ := Option.map_eq_some_iff.mp e'
    subst e2
    exact .tup h (RpL.dp r e1)
  | .lst ds, _, p, .lst h r, e => by
    have e' : (toPyL ds).map PyData.list = some p := by rw [toPy.eq_def] at e; exact e
    obtain ⟨l, e1, e2⟩ := Option.map_eq_some_iff.mp e'
    subst e2
    exact .lst (SqL.of h) (RpL.dp r e1)
  | .rl ds, _, p, .rl h r, e => by
    have e' : (toPyL ds).map PyData.list = some p := by rw [toPy.eq_def] at e; exact e
    obtain ⟨l, e1, e2⟩ := Option.map_eq_some_iff.mp e'
    subst e2
    exact .lst h (RpL.dp r e1)
  | _, _, _, .ty, e => by rw [toPy.eq_def] at e; cases e
  | _, _, _, .ptr, e => by rw [toPy.eq_def] at e; cases e
  | _, _, _, .num _, e => by rw [toPy.eq_def] at e; cases e
  | _, _, _, .ins _ _, e => by rw [toPy.eq_def] at e; cases e
theorem RpL.dp {K : PySem.W.Frag} {H : Hp} : ∀ {ds : List Dt} {vs : List V} {ps : List PyData}, RpL K H ds vs → toPyL ds = some ps → DpAll K H vs ps
  | _, _, _, .nil, e => by rw [toPyL.eq_def] at e; cases e; exact .nil
  | d :: ds, _, ps, .cons r t, e => by
    rw [toPyL.eq_def] at e
    have e' : (match toPy d, toPyL ds with
      | some a, some b => some (a :: b)
      | _, _ => none) = some ps := e
    cases h1 : toPy d with
    | none => rw [h1] at e'; cases e'
    | some a =>
      cases h2 : toPyL ds with
      | none => rw [h1, h2] at e'; cases e'
      | some b =>
        rw [h1, h2] at e'
        cases e'
        exact .cons (Rp.dp r h1) (RpL.dp t h2)
end
def eqG (f : Bool → Bool) : DR2 := fun x y w Q => ∃ a b, toPy x = some a ∧ toPy y = some b ∧ SeqAt.shaped a = true ∧ SeqAt.shaped b = true ∧ Q (.bl (f (PyData.eqv a b))) w
def eqR : DR2 := fun x y w Q => match x, y with
  | .int i, .int j => Q (.bl (decide (i = j))) w
  | .str i, .str j => Q (.bl (decide (i = j))) w
  | .bl i, .bl j => Q (.bl (decide (i = j))) w
  | .non, .non => Q (.bl true) w
  | x, y => eqG id x y w Q
def neR : DR2 := fun x y w Q => match x, y with
  | .int i, .int j => Q (.bl (!decide (i = j))) w
  | .str i, .str j => Q (.bl (!decide (i = j))) w
  | .bl i, .bl j => Q (.bl (!decide (i = j))) w
  | .non, .non => Q (.bl false) w
  | x, y => eqG not x y w Q
theorem dec_vi {i j : Int} : decide (V.int i = V.int j) = decide (i = j) := by simp
theorem dec_vs {i j : Str} : decide (V.str i = V.str j) = decide (i = j) := by simp
theorem dec_vb {i j : Bool} : decide (V.bl i = V.bl j) = decide (i = j) := by simp
theorem Rp.up {K : PySem.W.Frag} {H : Hp} {w : Om} {d : Dt} {v : V} (r : Rp K (hm H w) d v) : Rp K H d v := r.mono up_same
theorem lk_eqG (Q : DK) (QL : VK) (dx dy : Dt) (x y : V) (w : Om) (H : Hp) (ok : OmOk Z.X.K w H) (rx : Rp Z.X.K (hm H w) dx x) (ry : Rp Z.X.K (hm H w) dy y) (h : eqG id dx dy w Q)
    (k : ∀ v d H' w', Aft Z.X.K w H w' H' → Rp Z.X.K (hm H' w') d v → Q d w' → QL v H') : rEqD Z.X.K x y H QL := by
  obtain ⟨a, b, e1, e2, s1, s2, q⟩ := h
  exact ⟨a, b, rx.up.dp e1, ry.up.dp e2, s1, s2, k _ _ H w (Aft.refl ok) .bl q⟩
theorem lk_neG (Q : DK) (QL : VK) (dx dy : Dt) (x y : V) (w : Om) (H : Hp) (ok : OmOk Z.X.K w H) (rx : Rp Z.X.K (hm H w) dx x) (ry : Rp Z.X.K (hm H w) dy y) (h : eqG not dx dy w Q)
    (k : ∀ v d H' w', Aft Z.X.K w H w' H' → Rp Z.X.K (hm H' w') d v → Q d w' → QL v H') : rNeD Z.X.K x y H QL := by
  obtain ⟨a, b, e1, e2, s1, s2, q⟩ := h
  exact ⟨a, b, rx.up.dp e1, ry.up.dp e2, s1, s2, k _ _ H w (Aft.refl ok) .bl q⟩
theorem o_eq {n : Nat} (hr : Room n Z.X.A) : DOp Z (compareOp .Eq) eqR := by
  refine ⟨_, op_eq.or (op_eqD hr.units), fun dx dy x y w H Q QL ok rx ry h k => ?_⟩
  have gen : eqG id dx dy w Q → rEq x y H QL ∨ rEqD Z.X.K x y H QL := fun h => .inr (lk_eqG Q QL dx dy x y w H ok rx ry h k)
  cases rx with
  | int => cases ry with
    | int => exact .inl ⟨rfl, by rw [dec_vi]; exact k _ _ H w (Aft.refl ok) .bl h⟩
    | _ => exact gen h
  | str => cases ry with
    | str => exact .inl ⟨rfl, by rw [dec_vs]; exact k _ _ H w (Aft.refl ok) .bl h⟩
    | _ => exact gen h
  | bl => cases ry with
    | bl => exact .inl ⟨rfl, by rw [dec_vb]; exact k _ _ H w (Aft.refl ok) .bl h⟩
    | _ => exact gen h
  | non => cases ry with
    | non => exact .inl ⟨rfl, by rw [decide_eq_true rfl]; exact k _ _ H w (Aft.refl ok) .bl h⟩
    | _ => exact gen h
  | _ => exact gen h
theorem o_ne {n : Nat} (hr : Room n Z.X.A) : DOp Z (compareOp .NotEq) neR := by
  refine ⟨_, op_ne.or (op_neD hr.units), fun dx dy x y w H Q QL ok rx ry h k => ?_⟩
  have gen : eqG not dx dy w Q → rNe x y H QL ∨ rNeD Z.X.K x y H QL := fun h => .inr (lk_neG Q QL dx dy x y w H ok rx ry h k)
  cases rx with
  | int => cases ry with
    | int => exact .inl ⟨rfl, by rw [dec_vi]; exact k _ _ H w (Aft.refl ok) .bl h⟩
    | _ => exact gen h
  | str => cases ry with
    | str => exact .inl ⟨rfl, by rw [dec_vs]; exact k _ _ H w (Aft.refl ok) .bl h⟩
    | _ => exact gen h
  | bl => cases ry with
    | bl => exact .inl ⟨rfl, by rw [dec_vb]; exact k _ _ H w (Aft.refl ok) .bl h⟩
    | _ => exact gen h
  | non => cases ry with
    | non => exact .inl ⟨rfl, by rw [decide_eq_true rfl]; exact k _ _ H w (Aft.refl ok) .bl h⟩
    | _ => exact gen h
  | _ => exact gen h
theorem OmOk.lst {K : PySem.W.Frag} {w : Om} {H : Hp} (ok : OmOk K w H) {p : Addr} {xs : List Dt} (h : w p = some (.lst xs)) : ∃ vs, H p = some (.lst vs) ∧ RpL K (hm H w) xs vs := by
  obtain ⟨o, h1, h2⟩ := ok p _ h
  cases h2 with
  | lst r => exact ⟨_, h1, r⟩
theorem OmOk.ins {K : PySem.W.Frag} {w : Om} {H : Hp} (ok : OmOk K w H) {p C : Addr} {fs : List (Str × Dt)} (h : w p = some (.ins C fs)) : ∃ dx gs, H p = some (.ins C dx gs) ∧ RpF K (hm H w) fs gs := by
  obtain ⟨o, h1, h2⟩ := ok p _ h
  cases h2 with
  | ins r => exact ⟨_, _, h1, r⟩
end
end DL
namespace DL
open PySem PySem.Spec PyProof.Rows L2
structure EndsOk (Z : Dx) (D : DEnds) (DL : Ends) (w : Om) (H : Hp) : Prop where
  nx : ∀ r s H' w', Aft Z.X.K w H w' H' → EnvR Z.X.K (hm H' w') r s → D.nx r w' → DL.nx s H'
  rt : ∀ v d H' w', Aft Z.X.K w H w' H' → Rp Z.X.K (hm H' w') d v → D.rt d w' → DL.rt v H'
  bk : ∀ r s H' w', Aft Z.X.K w H w' H' → EnvR Z.X.K (hm H' w') r s → D.bk r w' → DL.bk s H'
  ct : ∀ r s H' w', Aft Z.X.K w H w' H' → EnvR Z.X.K (hm H' w') r s → D.ct r w' → DL.ct s H'
theorem EndsOk.next {Z : Dx} {D : DEnds} {DL : Ends} {w w' : Om} {H H' : Hp} (E : EndsOk Z D DL w H) (a : Aft Z.X.K w H w' H') : EndsOk Z D DL w' H' :=
  ⟨fun r s H2 w2 b => E.nx r s H2 w2 (a.trans b), fun v d H2 w2 b => E.rt v d H2 w2 (a.trans b), fun r s H2 w2 b => E.bk r s H2 w2 (a.trans b), fun r s H2 w2 b => E.ct r s H2 w2 (a.trans b)⟩
def LkS (Z : Dx) (tL : TS) (t : DTS) : Prop := ∀ (D : DEnds) (DL : Ends) (r : Rho) (w : Om) (s : L2.St) (H : Hp), Sok Z r w s H → t D r w → EndsOk Z D DL w H → tL DL s H
structure DS (Z : Dx) (st : Stmt) (t : DTS) : Prop where
  ex : ∃ tL, PS Z.X st tL ∧ LkS Z tL t
structure DSs (Z : Dx) (st : List Stmt) (t : DTS) : Prop where
  ex : ∃ tL, PSs Z.X st tL ∧ LkS Z tL t
def dNext : DTS := fun D r w => D.nx r w
def dSeq (t u : DTS) : DTS := fun D r w => t { D with nx := u D } r w
def dDrop (te : DTE) : DTS := fun D r w => te r w fun _ w1 => D.nx r w1
def dRet (te : DTE) : DTS := fun D r w => te r w D.rt
def dRetN : DTS := fun D _ w => D.rt .non w
def dIfS (c : DTT) (t u : DTS) : DTS := fun D r w => c r w fun b w1 => br b (t D r w1) (u D r w1)
abbrev DTG := Dt → Rho → Om → (Rho → Om → Prop) → Prop
abbrev DTGs := List Dt → Rho → Om → (Rho → Om → Prop) → Prop
def gNm (i : Nat) : DTG := fun d r w Q => Q (pus r i (some d)) w
def gsNil : DTGs := fun ds r w Q => match ds with
  | [] => Q r w
  | _ :: _ => False
def gsCons (g : DTG) (gs : DTGs) : DTGs := fun ds r w Q => match ds with
  | [] => False
  | d :: ds => g d r w fun r1 w1 => gs ds r1 w1 Q
def gTp (n : Nat) (gs : DTGs) : DTG := fun d r w Q => match d with
  | .tup ds => br (Nat.beq ds.length n) (gs ds r w Q) False
  | _ => False
theorem br_beq {a b : Nat} {A : Prop} (h : br (Nat.beq a b) A False) : a = b ∧ A := by
  cases e : Nat.beq a b with
  | true => rw [e] at h; exact ⟨Nat.eq_of_beq_eq_true e, h⟩
  | false => rw [e] at h; exact h.elim
def dAsg (te : DTE) (g : DTG) : DTS := fun D r w => te r w fun x w1 => g x r w1 D.nx
def dPar (i j : Nat) (ta : DTA) : DTS := fun D r w => ta r w fun ds w1 => match ds with
  | [a, b] => D.nx (pus (pus r i (some a)) j (some b)) w1
  | _ => False
def dAug (i : Nat) (te : DTE) (rd : DR2) : DTS := fun D r w => match nth r i with
  | some x => te r w fun y w1 => rd x y w1 fun z w2 => D.nx (pus r i (some z)) w2
  | none => False
def dWhile (c : DTT) (tb : DTS) : DTS := fun D r w => ∃ W : Nat → Rho → Om → Prop, (∃ m, W m r w) ∧ ∀ m r w, W m r w →
  c r w fun b w1 => br b (∃ N : Rho → Om → Prop, (∀ r' w', N r' w' → ∃ m', m' < m ∧ W m' r' w') ∧ tb { D with nx := N, ct := N, bk := D.nx } r w1) (D.nx r w1)
abbrev DTI := Rho → Om → (List Dt → (Om → Prop) → Om → Prop) → Prop
def dFor (wi : DTI) (g : DTG) (tb : DTS) : DTS := fun D r w => wi r w fun xs St w1 => ∃ P : Nat → Rho → Om → Prop, P 0 r w1 ∧
  (∀ i r' w', i ≤ xs.length → P i r' w' → St w' ∧ ∀ d, xs[i]? = some d → g d r' w' fun r2 w2 => tb { D with nx := P (i + 1), ct := P (i + 1), bk := D.nx } r2 w2) ∧
  ∀ r' w', P xs.length r' w' → D.nx r' w'
def LkG (Z : Dx) (gL : TG) (g : DTG) : Prop := ∀ (d : Dt) (v : V) (r : Rho) (w : Om) (s : L2.St) (H : Hp) (Q : Rho → Om → Prop) (QL : L2.St → Hp → Prop), Sok Z r w s H → Rp Z.X.K (hm H w) d v → g d r w Q →
  (∀ r' s' H' w', Aft Z.X.K w H w' H' → EnvR Z.X.K (hm H' w') r' s' → Q r' w' → QL s' H') → gL v s H QL
def LkGs (Z : Dx) (gL : TGs) (g : DTGs) : Prop := ∀ (ds : List Dt) (vs : List V) (r : Rho) (w : Om) (s : L2.St) (H : Hp) (Q : Rho → Om → Prop) (QL : L2.St → Hp → Prop), Sok Z r w s H → RpL Z.X.K (hm H w) ds vs → g ds r w Q →
  (∀ r' s' H' w', Aft Z.X.K w H w' H' → EnvR Z.X.K (hm H' w') r' s' → Q r' w' → QL s' H') → gL vs s H QL
structure DG (Z : Dx) (e : Expr) (t : DTG) : Prop where
  ex : ∃ tL, PG Z.X e tL ∧ LkG Z tL t
structure DGs (Z : Dx) (es : List Expr) (t : DTGs) : Prop where
  ex : ∃ tL, PGs Z.X es tL ∧ LkGs Z tL t
section
variable {Z : Dx} {e a b c : Expr} {ta tb te : DTE} {t u : DTT} {ts us : DTS} {pos : Pos} {st : Stmt} {rest : List Stmt}
theorem dss_nil : DSs Z [] dNext := ⟨_, pss_nil, fun D DL r w s H S h E => E.nx r s H w (Aft.refl S.om) S.env h⟩
theorem lk_seq {tL uL : TS} (l : LkS Z tL ts) (l' : LkS Z uL us) : LkS Z (tSeq tL uL) (dSeq ts us) := fun D DL r w s H S h E =>
  l { D with nx := us D } { DL with nx := uL DL } r w s H S h ⟨fun r' s' H' w' A e q => l' D DL r' w' s' H' ⟨e, A.om, S.xw.next A⟩ q (E.next A), E.rt, E.bk, E.ct⟩
theorem dss_cons (h : DS Z st ts) (h' : DSs Z rest us) : DSs Z (st :: rest) (dSeq ts us) :=
  let ⟨_, p, l⟩ := h.ex; let ⟨_, q, l'⟩ := h'.ex; ⟨_, pss_cons p q, lk_seq l l'⟩
theorem dss_one (h : DS Z st ts) : DSs Z [st] ts := let ⟨_, p, l⟩ := h.ex; ⟨_, pss_one p, l⟩
theorem ds_expr (he : DE Z e te) (hs : swapsWith e none pos.line Z.X.env = pure false := by rfl) : DS Z (.Expr e pos) (dDrop te) :=
  let ⟨_, p, l⟩ := he.ex
  ⟨_, ps_expr p hs, fun D DL r w s H S h E => l r w s H _ _ S h fun v d H1 w1 A1 r1 q1 => E.nx r s H1 w1 A1 (S.env.mono A1.same) q1⟩
theorem ds_ret (he : DE Z e te) : DS Z (.Return (some e) pos) (dRet te) :=
  let ⟨_, p, l⟩ := he.ex
  ⟨_, ps_ret p, fun D DL r w s H S h E => l r w s H _ _ S h E.rt⟩
theorem ds_if {xs ys : List Stmt} (hc : DT Z c t) (ha : DSs Z xs ts) (hb : DSs Z ys us) : DS Z (.If c xs ys pos) (dIfS t ts us) := by
  obtain ⟨_, p, l⟩ := hc.ex
  obtain ⟨_, pa, la⟩ := ha.ex
  obtain ⟨_, pb, lb⟩ := hb.ex
  refine ⟨_, ps_if p pa pb, fun D DL r w s H S h E => ?_⟩
  refine l r w s H _ _ S h fun b H1 w1 A1 q1 => ?_
  exact ite_br q1 (fun q => la D DL r w1 s H1 (S.next A1) q (E.next A1)) fun q => lb D DL r w1 s H1 (S.next A1) q (E.next A1)
theorem dg_name (i : Nat) {x : Str} (hN : Z.X.N.Nodup) (hi : Z.X.N[i]? = some x := by rfl) (hx : Loc Z.X.env.scope x := by first | exact Or.inl rfl | exact Or.inr rfl) (hf : Z.X.fn x = true ∨ Z.X.env.scope.names.lookup x = some .local := by first | exact .inl rfl | exact .inr rfl | assumption) :
    DG Z (.Name x pos) (gNm i) := ⟨_, pg_name hN hi hx hf, fun d v r w s H Q QL S rv h k => k _ _ H w (Aft.refl S.om) (S.env.put rv i) h⟩
theorem dgs_nil : DGs Z [] gsNil := by
  refine ⟨_, pgs_nil, fun ds vs r w s H Q QL S rv h k => ?_⟩
  cases rv with
  | nil => exact ⟨rfl, k _ _ H w (Aft.refl S.om) S.env h⟩
  | cons _ _ => exact (show False from h).elim
theorem dgs_cons {es : List Expr} {g : DTG} {gs : DTGs} (h1 : DG Z e g) (h2 : DGs Z es gs) (hs : (assignEach (e :: es) Z.X.env).map (·.2) = assign e Z.X.env :: (assignEach es Z.X.env).map (·.2) := by rfl) : DGs Z (e :: es) (gsCons g gs) := by
  obtain ⟨_, p, l⟩ := h1.ex
  obtain ⟨_, q, l'⟩ := h2.ex
  refine ⟨_, pgs_cons p q hs, fun ds vs r w s H Q QL S rv h k => ?_⟩
  cases rv with
  | nil => exact (show False from h).elim
  | cons r1 r2 =>
    refine ⟨_, _, rfl, ?_⟩
    refine l _ _ r w s H _ _ S r1 h fun r' s' H' w' A e q1 => ?_
    exact l' _ _ r' w' s' H' Q QL ⟨e, A.om, S.xw.next A⟩ (r2.mono A.same) q1 fun r2' s2' H2 w2 A2 e2 q2 => k r2' s2' H2 w2 (A.trans A2) e2 q2
theorem dg_tup {es : List Expr} {k n : Nat} {gs : DTGs} (hc : Z.X.calm = true) (h : DGs Z es gs) (hn : (assignEach es Z.X.env).length = n := by rfl) (hst : (assignEach es Z.X.env).findIdx? (·.1) = none := by rfl) : DG Z (.Tuple es k pos) (gTp n gs) := by
  obtain ⟨_, p, l⟩ := h.ex
  refine ⟨_, pg_tup hc p hn hst, fun d v r w s H Q QL S rv hg k => ?_⟩
  cases rv with
  | tup hx rl =>
    obtain ⟨e, hg⟩ := br_beq hg
    exact ⟨_, _, rfl, up_t hx, by rw [← rl.length]; exact e, l _ _ r w s H Q QL S rl hg k⟩
  | _ => exact (show False from hg).elim
theorem ds_asg {tg : Expr} {g : DTG} (he : DE Z e te) (hg : DG Z tg g) (hs : swapsWithSole [tg] e pos.line Z.X.env = pure false := by rfl) (hw : swappedStores [tg] e Z.X.env = pure none := by rfl)
    (h1 : (assignEach [tg] Z.X.env).map (·.2) = [assign tg Z.X.env] := by rfl) : DS Z (.Assign [tg] e pos) (dAsg te g) := by
  obtain ⟨_, p, l⟩ := he.ex
  obtain ⟨_, q, l'⟩ := hg.ex
  refine ⟨_, ps_asg p q hs hw h1, fun D DL r w s H S h E => ?_⟩
  refine l r w s H _ _ S h fun v d H1 w1 A1 r1 q1 => ?_
  exact l' d v r w1 s H1 _ _ (S.next A1) r1 q1 fun r' s' H' w' A e q2 => E.nx r' s' H' w' (A1.trans A) e q2
theorem ds_set (i : Nat) {x : Str} {pos' : Pos} (hN : Z.X.N.Nodup) (he : DE Z e te) (hi : Z.X.N[i]? = some x := by rfl) (hx : Loc Z.X.env.scope x := by first | exact Or.inl rfl | exact Or.inr rfl) (hs : swapsWith e (some (.Name x pos')) pos.line Z.X.env = pure false := by rfl)
    (hf : Z.X.fn x = true ∨ Z.X.env.scope.names.lookup x = some .local := by first | exact .inl rfl | exact .inr rfl | assumption) : DS Z (.Assign [.Name x pos'] e pos) (dAsg te (gNm i)) := by
  obtain ⟨_, p, l⟩ := he.ex
  refine ⟨_, ps_set hN hi hx p hs hf, fun D DL r w s H S h E => ?_⟩
  refine l r w s H _ _ S h fun v d H1 w1 A1 r1 q1 => ?_
  exact E.nx _ _ H1 w1 A1 ((S.env.mono A1.same).put r1 i) q1
theorem ds_par (i j : Nat) {x y : Str} {ta : DTA} {px py pt : Pos} {kt k2 : Nat} {pt2 : Pos} (hc : Z.X.calm = true) (hN : Z.X.N.Nodup) (ha : DA Z [a, b] ta) (hi : Z.X.N[i]? = some x := by rfl) (hj : Z.X.N[j]? = some y := by rfl) (hij : i ≠ j := by decide)
    (hx : Z.X.env.scope.names.lookup x = some .local := by rfl) (hy : Z.X.env.scope.names.lookup y = some .local := by rfl)
    (hw : swappedStores [.Tuple [.Name x px, .Name y py] kt pt] (.Tuple [a, b] k2 pt2) Z.X.env = pure (some [x, y]) := by rfl)
    (hs : swapsWithSole [.Tuple [.Name x px, .Name y py] kt pt] (.Tuple [a, b] k2 pt2) pos.line Z.X.env = pure false := by rfl) :
    DS Z (.Assign [.Tuple [.Name x px, .Name y py] kt pt] (.Tuple [a, b] k2 pt2) pos) (dPar i j ta) := by
  obtain ⟨_, p, l⟩ := ha.ex
  refine ⟨_, ps_par hc hN hi hj hij hx hy p hw hs, fun D DL r w s H S h E => ?_⟩
  refine l r w s H _ _ S h fun vs ds H1 w1 A1 r1 q1 => ?_
  cases r1 with
  | nil => exact (show False from q1).elim
  | cons a1 r1 => cases r1 with
    | nil => exact (show False from q1).elim
    | cons a2 r1 => cases r1 with
      | nil => exact ⟨_, _, rfl, E.nx _ _ H1 w1 A1 (((S.env.mono A1.same).put a1 i).put a2 j) q1⟩
      | cons _ _ => exact (show False from q1).elim
theorem ds_while {body : List Stmt} (hp : PassesOwn (model Z.X.prog Z.X.w) Z.X.A Z.X.env Z.X.xe) (hc : DT Z c t) (hb : DSs Z body ts) : DS Z (.While c body [] pos) (dWhile t ts) := by
  obtain ⟨_, p, l⟩ := hc.ex
  obtain ⟨_, q, l'⟩ := hb.ex
  refine ⟨_, ps_while hp p q, fun D DL r w s H S h E => ?_⟩
  obtain ⟨W, ⟨m0, w0⟩, turn⟩ := h
  refine ⟨fun m s' H' => ∃ r' w', W m r' w' ∧ EnvR Z.X.K (hm H' w') r' s' ∧ Aft Z.X.K w H w' H', ⟨m0, r, w, w0, S.env, Aft.refl S.om⟩, ?_⟩
  rintro m s1 H1 ⟨r1, w1, h1, e1, A1⟩
  have S1 : Sok Z r1 w1 s1 H1 := ⟨e1, A1.om, S.xw.next A1⟩
  refine l r1 w1 s1 H1 _ _ S1 (turn m r1 w1 h1) fun b H2 w2 A2 q2 => ?_
  refine ite_br q2 (fun q => ?_) fun q => E.nx r1 s1 H2 w2 (A1.trans A2) (e1.mono A2.same) q
  obtain ⟨N, hN, q⟩ := q
  refine ⟨fun s' H' => ∃ r' w', N r' w' ∧ EnvR Z.X.K (hm H' w') r' s' ∧ Aft Z.X.K w H w' H', fun s' H' ⟨r', w', n', e', A'⟩ => ?_, ?_⟩
  · obtain ⟨m', hl, hW⟩ := hN r' w' n'
    exact ⟨m', hl, r', w', hW, e', A'⟩
  · refine l' _ _ r1 w2 s1 H2 (S1.next A2) q ⟨fun r' s' H' w' A e n => ⟨r', w', n, e, (A1.trans A2).trans A⟩, fun v d H' w' A => E.rt v d H' w' ((A1.trans A2).trans A), fun r' s' H' w' A e n => E.nx r' s' H' w' ((A1.trans A2).trans A) e n, fun r' s' H' w' A e n => ⟨r', w', n, e, (A1.trans A2).trans A⟩⟩
def Serves (K : PySem.W.Frag) (J : It) (xs : List Dt) (St : Om → Prop) (w0 : Om) (H0 : Hp) : Prop := ∀ w H, Aft K w0 H0 w H → St w →
  (∀ i, i < xs.length → J.go i H ∧ ∀ x H', J.yld i H x H' → ∃ d, xs[i]? = some d ∧ Aft K w H w H' ∧ Rp K (hm H' w) d x) ∧ ∀ i, xs.length ≤ i → J.stop i H
def LkI (Z : Dx) (wi : TI) (t : DTI) : Prop := ∀ (r : Rho) (w : Om) (s : L2.St) (H : Hp) (R : List Dt → (Om → Prop) → Om → Prop) (RL : It → Hp → Prop), Sok Z r w s H → t r w R →
  (∀ xs St w' H' J, Aft Z.X.K w H w' H' → R xs St w' → Serves Z.X.K J xs St w' H' → RL J H') → wi s H RL
structure DI (Z : Dx) (tg iter : Expr) (t : DTI) : Prop where
  ex : ∃ tL, PI Z.X tg iter tL ∧ LkI Z tL t
theorem ds_for {tg iter : Expr} {body : List Stmt} {wi : DTI} {g : DTG} (hp : PassesOwn (model Z.X.prog Z.X.w) Z.X.A Z.X.env Z.X.xe) (hc : Z.X.calm = true) (hi : DI Z tg iter wi) (hg : DG Z tg g) (hb : DSs Z body ts)
    (hs : ∀ x, foldedSetIterable iter Z.X.env x = pure x := by intro _; rfl) : DS Z (.For tg iter body [] pos) (dFor wi g ts) := by
  obtain ⟨_, p, l⟩ := hi.ex
  obtain ⟨_, pg, lg⟩ := hg.ex
  obtain ⟨_, q, l'⟩ := hb.ex
  refine ⟨_, ps_for hp hc p pg q hs, fun D DL r w s H S h E => ?_⟩
  refine l r w s H _ _ S h fun xs St w1 H1 J A1 q1 sv => ?_
  obtain ⟨P, p0, turn, fin⟩ := q1
  refine ⟨fun i m s' H' => m = xs.length - i ∧ i ≤ xs.length ∧ ∃ r' w', P i r' w' ∧ EnvR Z.X.K (hm H' w') r' s' ∧ Aft Z.X.K w1 H1 w' H', ⟨_, rfl, Nat.zero_le _, r, w1, p0, S.env.mono A1.same, Aft.refl A1.om⟩, ?_⟩
  rintro i m s2 H2 ⟨rfl, hi, r2, w2, p2, e2, A2⟩
  obtain ⟨st2, step⟩ := turn i r2 w2 hi p2
  obtain ⟨go, stop⟩ := sv w2 H2 A2 st2
  by_cases hlt : i < xs.length
  · obtain ⟨g1, g2⟩ := go i hlt
    refine .inr ⟨g1, fun s' H' => ∃ r' w', P (i + 1) r' w' ∧ EnvR Z.X.K (hm H' w') r' s' ∧ Aft Z.X.K w1 H1 w' H', fun s' H' hN => ⟨_, by omega, rfl, hlt, hN⟩, fun x H3 y => ?_⟩
    obtain ⟨d, hd, A3, r3⟩ := g2 x H3 y
    have S3 : Sok Z r2 w2 s2 H3 := ⟨e2.mono A3.same, A3.om, S.xw.next (A1.trans (A2.trans A3))⟩
    refine lg d x r2 w2 s2 H3 _ _ S3 r3 (step d hd) fun r4 s4 H4 w4 A4 e4 q4 => ?_
    have A24 := A2.trans (A3.trans A4)
    refine l' _ _ r4 w4 s4 H4 ⟨e4, A4.om, S3.xw.next A4⟩ q4 ⟨fun r' s' H' w' A e n => ⟨r', w', n, e, A24.trans A⟩, fun v d H' w' A => E.rt v d H' w' (A1.trans (A24.trans A)), fun r' s' H' w' A e n => E.nx r' s' H' w' (A1.trans (A24.trans A)) e n, fun r' s' H' w' A e n => ⟨r', w', n, e, A24.trans A⟩⟩
  · have e : i = xs.length := by omega
    subst e
    exact .inl ⟨stop _ (Nat.le_refl _), E.nx r2 s2 H2 w2 (A1.trans A2) e2 (fin r2 w2 p2)⟩
def dItL (te : DTE) : DTI := fun r w R => te r w fun x w1 => match x with
  | .lst xs => R xs (fun _ => True) w1
  | .rl xs => R xs (fun _ => True) w1
  | .tup xs => R xs (fun _ => True) w1
  | .ptr p => ∃ xs, w1 p = some (.lst xs) ∧ R xs (fun w => w p = some (.lst xs)) w1
  | _ => False
theorem serves_l {K : PySem.W.Frag} {a : Addr} {vs : List V} {xs : List Dt} {St : Om → Prop} {w0 : Om} {H0 : Hp} (h : ∀ w H, Aft K w0 H0 w H → St w → ∃ vs, SqL K H a vs ∧ RpL K (hm H w) xs vs) : Serves K (Itl K a) xs St w0 H0 := fun w H A st => by
  obtain ⟨vs, hs, rl⟩ := h w H A st
  refine ⟨fun i hi => ?_, fun i hi => ⟨vs, hs, by rw [← rl.length]; exact hi⟩⟩
  have hd : xs[i]? = some xs[i] := List.getElem?_eq_getElem hi
  obtain ⟨v, h1, h2⟩ := rl.get hd
  refine ⟨⟨vs, v, hs, h1⟩, fun x H' y => ?_⟩
  obtain ⟨rfl, y⟩ := y
  have e := y vs hs
  rw [h1] at e
  cases e
  exact ⟨_, hd, Aft.refl A.om, h2⟩
theorem di_list {tg : Expr} (he : DE Z e te) : DI Z tg e (fun r w R => te r w fun x w1 => match x with
  | .lst xs => R xs (fun _ => True) w1
  | .rl xs => R xs (fun _ => True) w1
  | .ptr p => ∃ xs, w1 p = some (.lst xs) ∧ R xs (fun w => w p = some (.lst xs)) w1
  | _ => False) := by
  obtain ⟨_, p, l⟩ := he.ex
  refine ⟨_, pi_list p, fun r w s H R RL S h k => ?_⟩
  refine l r w s H _ _ S h fun v d H1 w1 A1 r1 q1 => ?_
  cases r1 with
  | lst hx rl =>
    refine ⟨_, rfl, ⟨_, SqL.of (hm_some hx).2⟩, k _ _ w1 H1 _ A1 q1 (serves_l (vs := []) fun w H A _ => ⟨_, SqL.of (hm_some (A.same _ _ hx)).2, rl.mono A.same⟩)⟩
  | rl hx rl => exact ⟨_, rfl, ⟨_, up_l hx⟩, k _ _ w1 H1 _ A1 q1 (serves_l (vs := []) fun w H A _ => ⟨_, up_l (A.same.seq hx), rl.mono A.same⟩)⟩
  | ptr =>
    obtain ⟨xs, hp, q1⟩ := q1
    obtain ⟨vs, h1, rl⟩ := A1.om.lst hp
    refine ⟨_, rfl, ⟨_, SqL.of h1⟩, k _ _ w1 H1 _ A1 q1 (serves_l (vs := []) fun w H A st => ?_)⟩
    obtain ⟨vs', h1', rl'⟩ := A.om.lst st
    exact ⟨vs', SqL.of h1', rl'⟩
  | _ => exact (show False from q1).elim
def iota (lo : Int) (n : Nat) : List Dt := (List.range n).map fun (i : Nat) => .int (lo + i)
theorem iota_len {lo : Int} {n : Nat} : (iota lo n).length = n := by unfold iota; rw [List.length_map, List.length_range]
theorem iota_get {lo : Int} {n i : Nat} (h : i < n) : (iota lo n)[i]? = some (.int (lo + i)) := by
  unfold iota
  rw [List.getElem?_map, List.getElem?_range h] <;> rfl
theorem serves_r {K : PySem.W.Frag} {lo : Int} {n : Nat} {St : Om → Prop} {w0 : Om} {H0 : Hp} : Serves K (Itr lo n) (iota lo n) St w0 H0 := fun w H A st => by
  refine ⟨fun i hi => ?_, fun i hi => by rw [iota_len] at hi; exact hi⟩
  rw [iota_len] at hi
  refine ⟨hi, fun x H' y => ?_⟩
  obtain ⟨rfl, rfl⟩ := y
  exact ⟨_, iota_get hi, Aft.refl A.om, .int⟩
def dRng1 (ta : DTA) : DTI := fun r w R => ta r w fun ds w1 => match ds with
  | [.int j] => (-(2 ^ 62) ≤ j ∧ j < 2 ^ 62) ∧ R (iota 0 j.toNat) (fun _ => True) w1
  | _ => False
def dRng2 (ta : DTA) : DTI := fun r w R => ta r w fun ds w1 => match ds with
  | [.int i, .int j] => (-(2 ^ 62) ≤ i ∧ i < 2 ^ 62 ∧ -(2 ^ 62) ≤ j ∧ j < 2 ^ 62) ∧ R (iota i (j - i).toNat) (fun _ => True) w1
  | _ => False
theorem di_rng1 {tg : Expr} {ta : DTA} {p : Pos} (hm : Z.X.mg "range" = none) (ha : DA Z [a] ta) (hg : Gl Z.X "range" := by rfl) (hs : starEach [a] Z.X.env = [(false, eval a Z.X.env)] := by rfl) : DI Z tg (.Call (.Name "range" p) [a] [] pos) (dRng1 ta) := by
  obtain ⟨_, pa, l⟩ := ha.ex
  refine ⟨_, pi_range1 hg hm pa hs, fun r w s H R RL S h k => ?_⟩
  refine l r w s H _ _ S h fun vs ds H1 w1 A1 r1 q1 => ?_
  cases r1 with
  | nil => exact (show False from q1).elim
  | cons a1 r1 =>
    cases a1 with
    | int => cases r1 with
      | nil => exact ⟨_, rfl, q1.1.1, q1.1.2, k _ _ w1 H1 _ A1 q1.2 serves_r⟩
      | cons _ _ => exact (show False from q1).elim
    | _ => cases r1 <;> exact (show False from q1).elim
end
end DL
namespace DL
open PySem PySem.Spec PyProof.Rows L2
abbrev DXK := Addr → List (Str × Dt) → Om → Prop
abbrev DSp := List Dt → Om → DK → DXK → Prop
def lift (K : PySem.W.Frag) (sp : DSp) : Sp := fun vs H Q E => ∃ (ds : List Dt) (w : Om) (Qd : DK) (Ed : DXK), RpL K (hm H w) ds vs ∧ OmOk K w H ∧ sp ds w Qd Ed ∧
  (∀ v d H' w', Aft K w H w' H' → Rp K (hm H' w') d v → Qd d w' → Q v H') ∧
  ∀ C dx gs fs H' w', Aft K w H w' H' → H' dx = some (.xd gs) → RpF K (hm H' w') fs gs → Ed C fs w' → E (.ref C) (some dx) H'
structure Rm (k : Nat) (A : Around) : Prop where
  room : Room k A
  gd : 100 ≤ k → A.guards = some []
theorem Rm.mono {j k : Nat} {A : Around} (r : Rm k A) (h : j ≤ k) : Rm j A := ⟨r.room.mono h, fun q => r.gd (Nat.le_trans q h)⟩
theorem Rm.deeper {k : Nat} {A : Around} (r : Rm (k + 1) A) (env : Env) : Rm k (A.deeper env) := ⟨r.room.deeper env, fun q => r.gd (Nat.le_succ_of_le q)⟩
theorem Rm.in1 {k : Nat} {A : Around} (r : Rm (k + 1) A) : Rm k A.in1 := ⟨r.room.in1, fun q => r.gd (Nat.le_succ_of_le q)⟩
theorem Rm.make {k : Nat} {A : Around} (r : Rm (k + 1) A) (C : Addr) (us : List Value) (kw : List (Str × Value)) : Rm k (A.under (.builtin "type.__call__" ⟨.ref C :: us, kw⟩)) :=
  ⟨r.room.make C us kw, fun q => by
    have h := r.gd (Nat.le_succ_of_le q)
    first
      | (rw [Around.under]; simp [Code.guards, Code.isGuard, guardIds, pushGuards, h]; done)
      | simp [Around.under, Code.guards, Code.isGuard, guardIds, pushGuards, h]⟩
structure FnG (P : Program) (w : World) (K : PySem.W.Frag) (mg : Str → Option Value) (base : Heap) (k : Nat) (f : Addr) (fd : FuncData) (ps : List Str) (sp : Sp) : Prop where
  len : ∀ vs H Q E, sp vs H Q E → vs.length = ps.length
  run : ∀ (A : Around) (outer : List Env) (s : Shared) (H : Hp) (args : Args) (us : List Value) (vs : List V) (Q : VK) (E : XK), Rm k A → Env0 P w K mg base A outer s H → BindsTo s fd args (ps.zip us) → Vals vs us → sp vs H Q E →
    codeAny (model P w) A (.call (.ref f) args) (CR (L2.CX P w) outer P w H s Q E) s
abbrev zOf (P : Program) (w : World) (K : PySem.W.Frag) (mg : Str → Option Value) (base : Heap) (N : List Str) (qual : Str) (scope : Scope) (f : Addr) (cd : Value) (A : Around) (outer : List Env) (s : Shared) (H : Hp) (E : XK) (Ed : DXK) : Dx :=
  ⟨cxOf (L2.CX P w) P w K mg base N qual scope f cd A outer s H E, fun cls d _ H => E cls d H, fun C fs _ w => Ed C fs w, fun _ _ => True⟩
structure Bd (Z : Dx) (k : Nat) : Prop where
  tk : Takes Z.X Z.W
  po : PassesOwn (model Z.X.prog Z.X.w) Z.X.A Z.X.env Z.X.xe
  calm : Z.X.calm = true
  room : Rm k Z.X.A
  nd : Z.X.N.Nodup
theorem Bd.mono {Z : Dx} {j k : Nat} (b : Bd Z k) (h : j ≤ k) : Bd Z j := ⟨b.tk, b.po, b.calm, b.room.mono h, b.nd⟩
section
variable {P : Program} {w : World} {K : PySem.W.Frag} {mg : Str → Option Value} {base : Heap} {x qual : Str} {params : Arguments} {body : List Stmt} {scope : Scope} {dvs : List V} {kws : List (Str × V)} {f : Addr} {fd : FuncData}
theorem d_fn {N ps : List Str} {k : Nat} {sp : DSp} (F : FunD K x qual params body scope dvs kws f fd) (S : FnScope N ps scope) (len : ∀ ds w Q E, sp ds w Q E → ds.length = ps.length)
    (hbody : ∀ (cdv : Value) (A : Around) (outer : List Env) (s : Shared) (H : Hp) (EL : XK) (Ed : DXK), Bd (zOf P w K mg base N qual scope f cdv A outer s H EL Ed) k →
      ∃ t, DSs (zOf P w K mg base N qual scope f cdv A outer s H EL Ed) body t ∧ ∀ ds w' Q, sp ds w' Q Ed → t { nx := fun _ w => Q .non w, rt := Q } (startD N.length ds) w') :
    FnG P w K mg base (k + 1) f fd ps (lift K sp) := by
  have len' : ∀ vs H Q E, lift K sp vs H Q E → vs.length = ps.length := fun vs H Q E h => by
    obtain ⟨ds, w', Qd, Ed, r, _, h, _⟩ := h
    rw [← r.length]
    exact len _ _ _ _ h
  obtain ⟨oc, od, dV, kV, doc, pm, an, cdv, ct, osl, rfl, lk, hcd, _, _⟩ := F.ex
  refine ⟨len', fun A outer s H args us vs Q E hr e0 hb rv h => ?_⟩
  have hl := len' _ _ _ _ h
  have keeps : ∀ b o, base.get? b = some o → s.heap.get? b = some o := fun b o e => (e0.bs b o e).1
  have KX : K.In s.heap := e0.mod.kin.keeps keeps
  have cells : ∀ y ∈ ps.zip us, scope.names.lookup y.1 = some .local ∨ (scope.names.lookup y.1 = some .cell ∧ ((cellsFrom (s.heap.objs.size + 1) scope.names []).lookup y.1).isSome = true) := fun y hy =>
    (S.par y.1 (List.of_mem_zip hy).1).imp id fun q => ⟨q, PySem.W.cellsFrom_some _ _ _ (.inl q)⟩
  refine codeAny_call_function hr.room.depth (KX _ _ lk) rfl S.co S.gen rfl (PySem.W.codeRec_of KX hcd) (hb _ _ _ _ ?_)
  refine wpAny_newFunctionEnv_cells S.kind cells fun env he s1 x => ?_
  subst he
  refine ⟨(e0.mod.nolimit.keeps keeps).keeps x.toInCall.keep, codeAny_func ?_⟩
  obtain ⟨ds, w', Qd, Ed, r, ok, h, k1, k2⟩ := h
  have bd : Bd (zOf P w K mg base N qual scope f cdv A outer s H E Ed) k := ⟨takes_of rfl rfl rfl rfl, passes_of rfl, rfl, hr.deeper _, S.nd⟩
  obtain ⟨t, d, q⟩ := hbody cdv A outer s H E Ed bd
  obtain ⟨tL, p, l⟩ := d.ex
  have I := inv_start (CX := L2.CX P w) (E := E) S hr.room.hd e0 hl rv x
  have go := l { nx := fun _ w => Qd .non w, rt := Qd } { nx := fun _ H' => Q .non H', rt := Q } (startD N.length ds) w' (start N vs) H ⟨EnvR.start r, ok, fun C dx gs fs r s H' w2 h1 h2 _ A e => k2 C dx gs fs H' w2 A h1 h2 e, fun _ _ _ => trivial⟩ (q ds w' Qd h)
    ⟨fun r s H' w2 A _ q => k1 .non .non H' w2 A .non q, fun v d H' w2 A rv q => k1 v d H' w2 A rv q, fun _ _ _ _ _ _ q => q.elim, fun _ _ _ _ _ _ q => q.elim⟩
  refine wpAny_mono (p.run [] s1 (start N vs) H _ I go) (fun fl s' hs => ?_) fun e s' hs => hs
  match fl, hs with
  | .ret u, ⟨v, σ', H', J, rv, q⟩ => exact ⟨v, H', J.os, J.bare, J.base, J.hok, rv, q⟩
  | .next, ⟨σ', H', J, q⟩ => exact ⟨V.non, H', J.os, J.bare, J.base, J.hok, rfl, q⟩
  | .brk, ⟨_, _, _, q⟩ => exact q.elim
  | .cont, ⟨_, _, _, q⟩ => exact q.elim
end
structure Cal (P : Program) (w : World) (K : PySem.W.Frag) (mg : Str → Option Value) (base : Heap) (x : Str) (k : Nat) (dd : List Dt) (sp : DSp) : Prop where
  ex : ∃ (f : Addr) (fd : FuncData) (ps : List Str) (dvs : List V) (ds : List Value), mg x = some (.ref f) ∧ PySem.W.keepIn K (.ref f) = true ∧ FnG P w K mg base k f fd ps (lift K sp) ∧ Binds K fd ps ds ∧ Vals dvs ds ∧ ∀ H, RpL K H dd dvs
structure CalM (P : Program) (w : World) (K : PySem.W.Frag) (mg : Str → Option Value) (base : Heap) (C : Addr) (m : Str) (k : Nat) (dd : List Dt) (sp : DSp) : Prop where
  ex : ∃ (f : Addr) (fd : FuncData) (ps : List Str) (dvs : List V) (ds : List Value), Cls K C ∧ Meth K C m f ∧ FnG P w K mg base k f fd ps (lift K sp) ∧ Binds K fd ps ds ∧ Vals dvs ds ∧ ∀ H, RpL K H dd dvs
inductive Frz (K : PySem.W.Frag) : MO → Dt → Prop
  | lst {xs : List Dt} : Frz K (.lst xs) (.lst xs)
  | ins {C : Addr} {fs : List (Str × Dt)} : Frz K (.ins C fs) (.ins C fs)
  | dct {fs : List (Str × Dt)} : Frz K (.dct fs) (.dct fs)
  | num {q : Rat} : Frz K (.ins (cN K) [("bottom", .int q.den), ("top", .int q.num)]) (.num q)
theorem OmOk.cut {K : PySem.W.Frag} {w : Om} {H : Hp} (ok : OmOk K w H) (p : Addr) : Aft K w H (cut w p) H := by
  have sm : Same (hm H w) (hm H (DL.cut w p)) := fun b u hb => by
    obtain ⟨h1, h2⟩ := hm_some hb
    by_cases e : b = p
    · subst e; rw [hm_no cut_same]; exact h2
    · rw [hm_no (by rw [cut_ne e]; exact h1)]; exact h2
  refine ⟨sm, fun b m hb => ?_⟩
  by_cases e : b = p
  · subst e; rw [cut_same] at hb; cases hb
  · rw [cut_ne e] at hb
    obtain ⟨o, h1, h2⟩ := ok b m hb
    exact ⟨o, h1, h2.mono sm⟩
theorem Frz.rp {K : PySem.W.Frag} {w : Om} {H : Hp} {p : Addr} {m : MO} {d : Dt} (f : Frz K m d) (ok : OmOk K w H) (h : w p = some m) : Rp K (hm H (cut w p)) d (.ref p) := by
  obtain ⟨o, h1, h2⟩ := ok p m h
  have sm := (ok.cut p).same
  have hp : hm H (cut w p) p = some o := by rw [hm_no cut_same]; exact h1
  cases f with
  | lst => cases h2 with
    | lst r => exact .lst hp (r.mono sm)
  | ins => cases h2 with
    | ins r => exact .ins hp (r.mono sm)
  | dct => cases h2 with
    | dct r => exact .dct hp (r.mono sm)
  | num => cases h2 with
    | ins r =>
      cases r with
      | cons r1 r2 =>
        cases r1
        cases r2 with
        | cons r3 r4 =>
          cases r3
          cases r4
          exact .num hp
structure CalC (P : Program) (w : World) (K : PySem.W.Frag) (mg : Str → Option Value) (base : Heap) (x : Str) (k : Nat) (dd : List Dt) (sp : DSp) : Prop where
  ex : ∃ (C f : Addr) (fd : FuncData) (ps : List Str) (dvs : List V) (ds : List Value) (si : DSp), mg x = some (.ref C) ∧ Mk K C f ∧ FnG P w K mg base k f fd ps (lift K si) ∧ Binds K fd ps ds ∧ Vals dvs ds ∧ (∀ H, RpL K H dd dvs) ∧
    ∀ ds w Q E, sp ds w Q E → ∀ p, w p = none → si (.ptr p :: ds) (put w p (.ins C [])) (fun v w2 => v = .non ∧ ∃ m d, w2 p = some m ∧ Frz K m d ∧ Q d (cut w2 p)) fun D fs w2 => E D fs (cut w2 p)
section
variable {X : Cx} {k : Nat} {f C : Addr} {fd : FuncData} {ps : List Str} {sp : Sp} {dvs : List V} {ds : List Value} {E : L2.St → XK} {x m : Str} {p pos apos : Pos} {e o : Expr} {es : List Expr} {ta : TE} {t : TA}
theorem run_g {pins : List (Addr × Obj)} {σ : L2.St} {H : Hp} {s : Shared} {Q : VK} {us : List Value} {vs : List V} (F : FnG X.prog X.w X.K X.mg X.base k f fd ps sp) (hr : Rm k X.A) (hb : Binds X.K fd ps ds) (hd : Vals dvs ds) (hx : PassesAt (L2.CX X.prog X.w) X σ (E σ))
    (I : Inv X pins σ H s) (r : Vals vs us) (h : sp (vs ++ dvs) H Q (E σ)) : wpAny (model X.prog X.w) X.A (call (.ref f) us) (EP X pins σ Q) X.xe s := by
  have r2 : Vals (vs ++ dvs) (us ++ ds) := r.append hd
  have ln : (us ++ ds).length = ps.length := r2.length.symm.trans (F.len _ _ _ _ h)
  refine wpAny_call (codeAny_mono (F.run X.A X.stack s H ⟨us, []⟩ _ _ Q (E σ) hr I.env0 (hb s us I.kIn ln) r2 h) fun r s' hq => ?_)
  match r, hq with
  | .error e, hq => exact hx pins H s e s' I hq
  | .ok (.ret u), hq => exact I.after hq
theorem pe_callG (F : FnG X.prog X.w X.K X.mg X.base k f fd ps sp) (hr : Rm k X.A) (hg : Gl X x) (hm : X.mg x = some (.ref f)) (hk : PySem.W.keepIn X.K (.ref f) = true) (hb : Binds X.K fd ps ds) (hd : Vals dvs ds) (hx : ∀ σ, PassesAt (L2.CX X.prog X.w) X σ (E σ))
    (ha : PA X (e :: es) t) (hdb : (x == ("__debug__" : Str)) = false) (he : starEach (e :: es) X.env = (false, eval e X.env) :: starEach es X.env) (hpl : (backTo pos (starEach es X.env)).any (·.1) = false) :
    PE X (.Call (.Name x p) (e :: es) [] pos) (tCallSD sp dvs E t) :=
  ⟨fun pins s σ H Q I h => wpAny_Call_Name_kw (ld_glob I hg hm (PySem.W.callWith_K (h₀ := X.base) I.ok.mod.kin hk (thn (ha.run pos pins s σ H _ I h) fun _ _ ⟨_, _, I1, r, q⟩ => ⟨I1.kIn, run_g F hr hb hd (hx σ) I1 r q⟩) he hpl) hdb)⟩
def tMethS (C : Addr) (m : Str) (sp : Sp) (dvs : List V) (E : L2.St → XK) (ta : TE) (t : TA) : TE := fun σ H Q => ta σ H fun x H1 => ∃ a dx fs, x = .ref a ∧ H1 a = some (.ins C dx fs) ∧ fs.lookup m = none ∧
  t σ H1 fun vs H2 => sp (x :: (vs ++ dvs)) H2 Q (E σ)
theorem pe_methS {pl : Sem Bool} (he : PE X o ta) (c : Cls X.K C) (hm : Meth X.K C m f) (F : FnG X.prog X.w X.K X.mg X.base k f fd ps sp) (hr : Rm k X.A) (hb : Binds X.K fd ps ds) (hd : Vals dvs ds) (hx : ∀ σ, PassesAt (L2.CX X.prog X.w) X σ (E σ)) (ha : PA X (e :: es) t)
    (hst : starEach (e :: es) X.env = (false, eval e X.env) :: starEach es X.env) (hpl : (backTo pos (starEach es X.env)).any (·.1) = false)
    (ht : eval (.Call (.Attribute o m apos) (e :: es) [] pos) X.env = (do
      let ov ← eval o X.env
      standAt apos.atName
      let (f, first) ← holding [ov] (getMethod ov m pl)
      callWith pos f first (backTo pos (starEach (e :: es) X.env)) (backToKw pos (keywordEach [] X.env)))) :
    PE X (.Call (.Attribute o m apos) (e :: es) [] pos) (tMethS C m sp dvs E ta t) := by
  refine ⟨fun pins s σ H Q I h => PySem.W.methodCall_KW (pl := pl) (thn (he.run pins s σ H _ I h) fun u s1 ⟨x, H1, I1, rx, a, dx, fs, ex, ea, l, q⟩ => ?_) ht⟩
  subst ex
  obtain rfl : u = Value.ref a := rx
  refine getmeth_ok I1 ea c hm l ?_
  refine PySem.W.callWith_K (first := [.ref a]) (h₀ := X.base) I.ok.mod.kin hm.kp (thn (ha.run pos pins s1 σ H1 _ I1 q) fun us s2 ⟨vs, H2, I2, r, q2⟩ => ⟨I2.kIn, ?_⟩) hst hpl
  exact run_g (us := .ref a :: us) (vs := .ref a :: vs) F hr hb hd (hx σ) I2 (.cons rfl r) q2
theorem pe_methZ {pl : Sem Bool} (he : PE X o ta) (c : Cls X.K C) (hm : Meth X.K C m f) (F : FnG X.prog X.w X.K X.mg X.base k f fd ps sp) (hr : Rm k X.A) (hb : Binds X.K fd ps ds) (hd : Vals dvs ds) (hx : ∀ σ, PassesAt (L2.CX X.prog X.w) X σ (E σ))
    (ht : eval (.Call (.Attribute o m apos) [] [] pos) X.env = (do
      let ov ← eval o X.env
      standAt apos.atName
      let (f, first) ← holding [ov] (getMethod ov m pl)
      callWith pos f first (backTo pos (starEach [] X.env)) (backToKw pos (keywordEach [] X.env)))) :
    PE X (.Call (.Attribute o m apos) [] [] pos) (tMethS C m sp dvs E ta tNil) := by
  refine ⟨fun pins s σ H Q I h => PySem.W.methodCall_KW (pl := pl) (thn (he.run pins s σ H _ I h) fun u s1 ⟨x, H1, I1, rx, a, dx, fs, ex, ea, l, q⟩ => ?_) ht⟩
  subst ex
  obtain rfl : u = Value.ref a := rx
  refine getmeth_ok I1 ea c hm l ?_
  exact PySem.W.callWith_K0 (first := [.ref a]) I1.kIn hm.kp (run_g (us := [.ref a]) (vs := [.ref a]) F hr hb hd (hx σ) I1 (.cons rfl .nil) q)
def tMakeS (C : Addr) (sp : Sp) (dvs : List V) (E : L2.St → XK) (t : TA) : TE := fun σ H Q => t σ H fun vs H1 => ∀ x dx, H1 x = none → H1 dx = none → dx ≠ x →
  sp (.ref x :: (vs ++ dvs)) (upd (upd H1 dx (.own x)) x (.ins C dx [])) (fun v H2 => v = .non ∧ Q (.ref x) H2) (E σ)
theorem run_makeS {pins : List (Addr × Obj)} {σ : L2.St} {H : Hp} {s : Shared} {Q : VK} {us : List Value} {vs : List V} (M : Mk X.K C f) (F : FnG X.prog X.w X.K X.mg X.base k f fd ps sp) (hr : Rm (k + 1) X.A) (hb : Binds X.K fd ps ds) (hd : Vals dvs ds)
    (hx : PassesAt (L2.CX X.prog X.w) X σ (E σ)) (I : Inv X pins σ H s) (r : Vals vs us)
    (h : ∀ x dx, H x = none → H dx = none → dx ≠ x → sp (.ref x :: (vs ++ dvs)) (upd (upd H dx (.own x)) x (.ins C dx [])) (fun v H2 => v = .non ∧ Q (.ref x) H2) (E σ)) :
    wpAny (model X.prog X.w) X.A (call (.ref C) us) (EP X pins σ Q) X.xe s := by
  have hq := h (s.heap.objs.size + 1) s.heap.objs.size (I.hok.fresh (Nat.le_succ _)) (I.hok.fresh (Nat.le_refl _)) (Nat.ne_of_lt (Nat.lt_succ_self _))
  have I2 := Inv.made (C := C) I
  have r2 : Vals (V.ref (s.heap.objs.size + 1) :: (vs ++ dvs)) (Value.ref (s.heap.objs.size + 1) :: (us ++ ds)) := .cons rfl (r.append hd)
  have hl : (Value.ref (s.heap.objs.size + 1) :: us ++ ds).length = ps.length := (show _ = _ from r2.length).symm.trans (F.len _ _ _ _ hq)
  refine wpAny_call (make_map (f := f) I.kIn M.makes M.init (beq_iff_eq.mp M.fn) (codeAny_mono (F.run _ X.stack _ _ ⟨Value.ref (s.heap.objs.size + 1) :: us, []⟩ (Value.ref (s.heap.objs.size + 1) :: (us ++ ds)) _ _ (E σ) (hr.make C us [])
    (I2.env0.make C us []) (hb _ (Value.ref (s.heap.objs.size + 1) :: us) I2.kIn hl) r2 hq) fun r s' hq' => ?_))
  match r, hq' with
  | .error e, hq' => exact hx pins _ _ e s' I2 hq'
  | .ok (.ret u), hq' =>
    obtain ⟨v, H', I3, rv, ev, q3⟩ := I2.after hq'
    subst ev
    exact ⟨rv, ⟨V.ref (s.heap.objs.size + 1), H', I3, rfl, q3⟩⟩
theorem pe_makeS (M : Mk X.K C f) (F : FnG X.prog X.w X.K X.mg X.base k f fd ps sp) (hr : Rm (k + 1) X.A) (hg : Gl X x) (hm : X.mg x = some (.ref C)) (hb : Binds X.K fd ps ds) (hd : Vals dvs ds) (hx : ∀ σ, PassesAt (L2.CX X.prog X.w) X σ (E σ))
    (ha : PA X (e :: es) t) (hdb : (x == ("__debug__" : Str)) = false) (he : starEach (e :: es) X.env = (false, eval e X.env) :: starEach es X.env) (hpl : (backTo pos (starEach es X.env)).any (·.1) = false) :
    PE X (.Call (.Name x p) (e :: es) [] pos) (tMakeS C sp dvs E t) := by
  refine ⟨fun pins s σ H Q I h => wpAny_Call_Name_kw (ld_glob I hg hm ?_ hdb)⟩
  refine PySem.W.callWith_K (h₀ := X.base) I.ok.mod.kin M.kp (thn (ha.run pos pins s σ H _ I h) fun us s1 ⟨vs, H1, I1, r, q⟩ => ⟨I1.kIn, ?_⟩) he hpl
  exact run_makeS M F hr hb hd (hx σ) I1 r q
end
def dCall (W : DWX) (dd : List Dt) (sp : DSp) (ta : DTA) : DTE := fun r w Q => ta r w fun ds w1 => sp (ds ++ dd) w1 Q fun C fs w2 => W C fs r w2
def dMethN (W : DWX) (dd : List Dt) (sp : DSp) (te : DTE) (ta : DTA) : DTE := fun r w Q => te r w fun x w1 => match x with
  | .num q => ta r w1 fun ds w2 => sp (.num q :: (ds ++ dd)) w2 Q fun C fs w2 => W C fs r w2
  | _ => False
section
variable {Z : Dx} {k j : Nat} {x m : Str} {dd : List Dt} {sp : DSp} {p pos apos : Pos} {e o : Expr} {es : List Expr} {te : DTE} {ta : DTA}
theorem lk_sp {r : Rho} {w : Om} {s : L2.St} {H : Hp} {Q : DK} {QL : VK} {ds : List Dt} {vs : List V} (S : Sok Z r w s H) (rl : RpL Z.X.K (hm H w) ds vs) (h : sp ds w Q fun C fs w2 => Z.Wd C fs r w2)
    (k : ∀ v d H' w', Aft Z.X.K w H w' H' → Rp Z.X.K (hm H' w') d v → Q d w' → QL v H') : lift Z.X.K sp vs H QL (WE Z.W s) :=
  ⟨ds, w, Q, _, rl, S.om, h, k, fun C dx gs fs H' w' A h1 h2 h3 => S.xw.1 C dx gs fs r s H' w' h1 h2 (S.env.mono A.same) A h3⟩
theorem de_call (b : Bd Z k) (c : Cal Z.X.prog Z.X.w Z.X.K Z.X.mg Z.X.base x j dd sp) (ha : DA Z (e :: es) ta) (hj : j ≤ k := by decide) (hg : Gl Z.X x := by rfl) (hdb : (x == ("__debug__" : Str)) = false := by decide)
    (he : starEach (e :: es) Z.X.env = (false, eval e Z.X.env) :: starEach es Z.X.env := by rfl) (hpl : (backTo pos (starEach es Z.X.env)).any (·.1) = false := by rfl) : DE Z (.Call (.Name x p) (e :: es) [] pos) (dCall Z.Wd dd sp ta) := by
  obtain ⟨f, fd, ps, dvs, ds, hm, hk, F, hb, hd, hr⟩ := c.ex
  obtain ⟨_, pa, l⟩ := ha.ex
  refine ⟨_, pe_callG (E := WE Z.W) F (b.room.mono hj) hg hm hk hb hd (fun σ => passAt b.tk σ) pa hdb he hpl, fun r w s H Q QL S h k => ?_⟩
  refine l r w s H _ _ S h fun vs ds H1 w1 A1 r1 q1 => ?_
  exact lk_sp (S.next A1) (r1.append (hr _)) q1 fun v d H' w' A => k v d H' w' (A1.trans A)
theorem no_field {q : Rat} {m : Str} (h1 : m ≠ "bottom") (h2 : m ≠ "top") : List.lookup m ([("bottom", V.int q.den), ("top", V.int q.num)] : List (Str × V)) = none := by
  rw [List.lookup_cons, List.lookup_cons, beq_eq_false_iff_ne.mpr h1, beq_eq_false_iff_ne.mpr h2]
  rfl
theorem de_methN {pl : Sem Bool} (b : Bd Z k) (c : CalM Z.X.prog Z.X.w Z.X.K Z.X.mg Z.X.base (cN Z.X.K) m j dd sp) (ho : DE Z o te) (ha : DA Z (e :: es) ta) (hj : j ≤ k := by decide) (h1 : m ≠ "bottom" := by decide) (h2 : m ≠ "top" := by decide)
    (hst : starEach (e :: es) Z.X.env = (false, eval e Z.X.env) :: starEach es Z.X.env := by rfl) (hpl : (backTo pos (starEach es Z.X.env)).any (·.1) = false := by rfl)
    (ht : eval (.Call (.Attribute o m apos) (e :: es) [] pos) Z.X.env = (do
      let ov ← eval o Z.X.env
      standAt apos.atName
      let (f, first) ← holding [ov] (getMethod ov m pl)
      callWith pos f first (backTo pos (starEach (e :: es) Z.X.env)) (backToKw pos (keywordEach [] Z.X.env))) := by rfl) : DE Z (.Call (.Attribute o m apos) (e :: es) [] pos) (dMethN Z.Wd dd sp te ta) := by
  obtain ⟨f, fd, ps, dvs, ds, hc, hm, F, hb, hd, hr⟩ := c.ex
  obtain ⟨_, pe, le⟩ := ho.ex
  obtain ⟨_, pa, l⟩ := ha.ex
  refine ⟨_, pe_methS (E := WE Z.W) pe hc hm F (b.room.mono hj) hb hd (fun σ => passAt b.tk σ) pa hst hpl ht, fun r w s H Q QL S h k => ?_⟩
  refine le r w s H _ _ S h fun v d H1 w1 A1 r1 q1 => ?_
  cases r1 with
  | num hq =>
    refine ⟨_, _, _, rfl, (hm_some hq).2, no_field h1 h2, ?_⟩
    refine l r w1 s H1 _ _ (S.next A1) q1 fun vs ds H2 w2 A2 r2 q2 => ?_
    exact lk_sp ((S.next A1).next A2) (.cons (.num (A2.same _ _ hq)) (r2.append (hr _))) q2 fun v d H' w' A => k v d H' w' (A1.trans (A2.trans A))
  | _ => exact (show False from q1).elim
theorem de_methN0 {pl : Sem Bool} (b : Bd Z k) (c : CalM Z.X.prog Z.X.w Z.X.K Z.X.mg Z.X.base (cN Z.X.K) m j dd sp) (ho : DE Z o te) (hj : j ≤ k := by decide) (h1 : m ≠ "bottom" := by decide) (h2 : m ≠ "top" := by decide)
    (ht : eval (.Call (.Attribute o m apos) [] [] pos) Z.X.env = (do
      let ov ← eval o Z.X.env
      standAt apos.atName
      let (f, first) ← holding [ov] (getMethod ov m pl)
      callWith pos f first (backTo pos (starEach [] Z.X.env)) (backToKw pos (keywordEach [] Z.X.env))) := by rfl) : DE Z (.Call (.Attribute o m apos) [] [] pos) (dMethN Z.Wd dd sp te dNil) := by
  obtain ⟨f, fd, ps, dvs, ds, hc, hm, F, hb, hd, hr⟩ := c.ex
  obtain ⟨_, pe, le⟩ := ho.ex
  refine ⟨_, pe_methZ (E := WE Z.W) pe hc hm F (b.room.mono hj) hb hd (fun σ => passAt b.tk σ) ht, fun r w s H Q QL S h k => ?_⟩
  refine le r w s H _ _ S h fun v d H1 w1 A1 r1 q1 => ?_
  cases r1 with
  | num hq =>
    refine ⟨_, _, _, rfl, (hm_some hq).2, no_field h1 h2, ?_⟩
    exact lk_sp (S.next A1) (.cons (.num hq) ((RpL.nil (K := Z.X.K)).append (hr _))) q1 fun v d H' w' A => k v d H' w' (A1.trans A)
  | _ => exact (show False from q1).elim
theorem Aft.made {K : PySem.W.Frag} {w : Om} {H : Hp} {p dx C : Addr} (ok : OmOk K w H) (hp : H p = none) (hd : H dx = none) (ne : dx ≠ p) : Aft K w H (put w p (.ins C [])) (upd (upd H dx (.own p)) p (.ins C dx [])) := by
  have A1 := Aft.new (p := dx) (o := .own p) ok hd
  exact A1.trans (Aft.newM A1.om (by rw [upd_ne (Ne.symm ne)]; exact hp) (.ins .nil))
theorem de_make (b : Bd Z k) (c : CalC Z.X.prog Z.X.w Z.X.K Z.X.mg Z.X.base x j dd sp) (ha : DA Z (e :: es) ta) (hj : j + 1 ≤ k := by decide) (hg : Gl Z.X x := by rfl) (hdb : (x == ("__debug__" : Str)) = false := by decide)
    (he : starEach (e :: es) Z.X.env = (false, eval e Z.X.env) :: starEach es Z.X.env := by rfl) (hpl : (backTo pos (starEach es Z.X.env)).any (·.1) = false := by rfl) : DE Z (.Call (.Name x p) (e :: es) [] pos) (dCall Z.Wd dd sp ta) := by
  obtain ⟨C, f, fd, ps, dvs, ds, si, hm, M, F, hb, hd, hr, imp⟩ := c.ex
  obtain ⟨_, pa, l⟩ := ha.ex
  refine ⟨_, pe_makeS (E := WE Z.W) M F (b.room.mono hj) hg hm hb hd (fun σ => passAt b.tk σ) pa hdb he hpl, fun r w s H Q QL S h k => ?_⟩
  refine l r w s H _ _ S h fun vs ds H1 w1 A1 r1 q1 => fun a dx h1 h2 h3 => ?_
  have wa : w1 a = none := A1.om.fresh h1
  have A2 := Aft.made (C := C) A1.om h1 h2 h3
  refine ⟨_, _, _, _, .cons .ptr ((r1.append (hr _)).mono A2.same), A2.om, imp _ _ _ _ q1 a wa, fun v d H' w' A _ q => ?_, fun D dx' gs fs H' w' A g1 g2 g3 => ?_⟩
  · obtain ⟨rfl, m, d', hw, fz, q⟩ := q
    have A3 := A.om.cut a
    refine ⟨?_, k _ d' H' (cut w' a) (A1.trans (A2.trans (A.trans A3))) (fz.rp A.om hw) q⟩
    rename_i rv
    cases rv; rfl
  · have A3 := A.om.cut a
    have AA := A1.trans (A2.trans (A.trans A3))
    exact S.xw.1 D dx' gs fs r s H' (cut w' a) g1 (g2.mono A3.same) (S.env.mono AA.same) AA g3
def dTop (te : DTE) : DTE := fun r w Q => te r w fun x w1 => match x with
  | .num q => Q (.int q.num) w1
  | _ => False
def dBot (te : DTE) : DTE := fun r w Q => te r w fun x w1 => match x with
  | .num q => Q (.int q.den) w1
  | _ => False
theorem de_top (hc : Cls Z.X.K (cN Z.X.K)) (hn : NoAttr Z.X.K (cN Z.X.K) "top") (he : DE Z e te) (hb : attributeBase e "top" Z.X.env (eval e Z.X.env) = eval e Z.X.env := by rfl) : DE Z (.Attribute e "top" pos) (dTop te) := by
  obtain ⟨_, p, l⟩ := he.ex
  refine ⟨_, pe_fld p hb, fun r w s H Q QL S h k => ?_⟩
  refine l r w s H _ _ S h fun v d H1 w1 A1 r1 q1 => ?_
  cases r1 with
  | num hq => exact ⟨_, _, _, _, _, rfl, (hm_some hq).2, hc, hn, by rw [List.lookup_cons, beq_eq_false_iff_ne.mpr (by decide +kernel)]; exact List.lookup_cons_self, k _ _ H1 w1 A1 .int q1⟩
  | _ => exact (show False from q1).elim
theorem de_bot (hc : Cls Z.X.K (cN Z.X.K)) (hn : NoAttr Z.X.K (cN Z.X.K) "bottom") (he : DE Z e te) (hb : attributeBase e "bottom" Z.X.env (eval e Z.X.env) = eval e Z.X.env := by rfl) : DE Z (.Attribute e "bottom" pos) (dBot te) := by
  obtain ⟨_, p, l⟩ := he.ex
  refine ⟨_, pe_fld p hb, fun r w s H Q QL S h k => ?_⟩
  refine l r w s H _ _ S h fun v d H1 w1 A1 r1 q1 => ?_
  cases r1 with
  | num hq => exact ⟨_, _, _, _, _, rfl, (hm_some hq).2, hc, hn, List.lookup_cons_self, k _ _ H1 w1 A1 .int q1⟩
  | _ => exact (show False from q1).elim
def dSetF (C : Addr) (f : Str) (tv to : DTE) : DTS := fun D r w => tv r w fun y w1 => to r w1 fun x w2 => match x with
  | .ptr p => ∃ fs, w2 p = some (.ins C fs) ∧ fs.length < 1000 ∧ D.nx r (put w2 p (.ins C (putD f y fs)))
  | _ => False
theorem RpF.put {K : PySem.W.Frag} {H : Hp} {f : Str} {d : Dt} {v : V} (r : Rp K H d v) : ∀ {fs : List (Str × Dt)} {gs : List (Str × V)}, RpF K H fs gs → RpF K H (putD f d fs) (putF f v gs)
  | _, _, .nil => .cons r .nil
  | (g, x) :: fs, _, .cons q t => by
    show RpF K H (if g = f then (g, d) :: fs else (g, x) :: putD f d fs) (if g = f then _ else _)
    by_cases e : g = f
    · rw [if_pos e, if_pos e]; exact .cons r t
    · rw [if_neg e, if_neg e]; exact .cons q (RpF.put r t)
theorem ds_setF {f : Str} {value : Expr} {pos' : Pos} {tv : DTE} (C : Addr) (h1 : Cls Z.X.K C) (h2 : NoAttr Z.X.K C f) (ho : DE Z o te) (hv : DE Z value tv) (hs : swapsWith value (some (.Attribute o f pos')) pos.line Z.X.env = pure false := by rfl) :
    DS Z (.Assign [.Attribute o f pos'] value pos) (dSetF C f tv te) := by
  obtain ⟨_, p, l⟩ := ho.ex
  obtain ⟨_, q, l'⟩ := hv.ex
  refine ⟨_, ps_fld p q hs, fun D DL r w s H S h E => ?_⟩
  refine l' r w s H _ _ S h fun v d H1 w1 A1 r1 q1 => ?_
  refine l r w1 s H1 _ _ (S.next A1) q1 fun v2 d2 H2 w2 A2 r2 q2 => ?_
  cases r2 with
  | ptr =>
    obtain ⟨fs, hw, hl, q3⟩ := q2
    obtain ⟨dx, gs, hH, rf⟩ := A2.om.ins hw
    refine ⟨_, C, dx, gs, rfl, hH, h1, h2, by rw [← rf.length]; exact hl, ?_⟩
    have A3 := Aft.chg (o := .ins C dx (putF f v gs)) (m := .ins C (putD f d fs)) A2.om hw (.ins (rf.put (f := f) (r1.mono A2.same)))
    have AA := A1.trans (A2.trans A3)
    exact E.nx r s _ _ AA (S.env.mono AA.same) q3
  | _ => exact (show False from q2).elim
end
end DL
namespace DL
open PySem PySem.Spec PyProof.Rows L2
theorem RpL.atI {K : PySem.W.Frag} {H : Hp} {ds : List Dt} {vs : List V} {i : Int} {d : Dt} (r : RpL K H ds vs) (h : L2.atI ds i = some d) : ∃ v, L2.atI vs i = some v ∧ Rp K H d v := by
  unfold L2.atI at h ⊢
  rw [← r.length]
  cases e : ixN ds.length i with
  | none => rw [e] at h; cases h
  | some j =>
    rw [e] at h
    exact r.get (i := j) h
def itemR : DR2 := fun x y w Q => match x, y with
  | .tup xs, .int i => ∃ d, L2.atI xs i = some d ∧ Q d w
  | .lst xs, .int i => ∃ d, L2.atI xs i = some d ∧ Q d w
  | .rl xs, .int i => ∃ d, L2.atI xs i = some d ∧ Q d w
  | .ptr p, .int i => ∃ xs, w p = some (.lst xs) ∧ ∃ d, L2.atI xs i = some d ∧ Q d w
  | .str z, .int i => z.length ≤ sizeLine ∧ ∃ c, L2.atI z.cps.toList i = some c ∧ Q (.str ⟨#[c]⟩) w
  | _, _ => False
section
variable {Z : Dx} {e a b c o : Expr} {ta tb te to ti : DTE} {t u : DTT} {ts us : DTS} {pos apos : Pos}
theorem lk_item : LkR Z (rIx Z.X.K) itemR := fun dx dy x y w H Q QL ok rx ry h k => by
  cases rx with
  | tup hx r => cases ry with
    | int =>
      obtain ⟨d, e, q⟩ := h
      obtain ⟨v, e', rv⟩ := r.atI e
      exact .inr (.inl ⟨_, _, _, v, rfl, rfl, up_t hx, e', k _ _ H w (Aft.refl ok) rv q⟩)
    | _ => exact (show False from h).elim
  | lst hx r => cases ry with
    | int =>
      obtain ⟨d, e, q⟩ := h
      obtain ⟨v, e', rv⟩ := r.atI e
      exact .inl ⟨_, _, _, v, rfl, rfl, SqL.of (hm_some hx).2, e', k _ _ H w (Aft.refl ok) rv q⟩
    | _ => exact (show False from h).elim
  | rl hx r => cases ry with
    | int =>
      obtain ⟨d, e, q⟩ := h
      obtain ⟨v, e', rv⟩ := r.atI e
      exact .inl ⟨_, _, _, v, rfl, rfl, up_l hx, e', k _ _ H w (Aft.refl ok) rv q⟩
    | _ => exact (show False from h).elim
  | ptr => cases ry with
    | int =>
      obtain ⟨xs, hp, d, e, q⟩ := h
      obtain ⟨vs, h1, r⟩ := ok.lst hp
      obtain ⟨v, e', rv⟩ := r.atI e
      exact .inl ⟨_, _, _, v, rfl, rfl, SqL.of h1, e', k _ _ H w (Aft.refl ok) rv q⟩
    | _ => exact (show False from h).elim
  | str => cases ry with
    | int =>
      obtain ⟨hz, d, e, q⟩ := h
      exact .inr (.inr ⟨_, _, _, rfl, rfl, hz, e, k _ _ H w (Aft.refl ok) .str q⟩)
    | _ => exact (show False from h).elim
  | _ => exact (show False from h).elim
theorem de_ix (ha : DE Z a ta) (hb : DE Z b tb) (hs : PlainIx b := by exact fun _ _ => rfl) : DE Z (.Subscript a b pos) (dOp itemR ta tb) := by
  obtain ⟨_, pa, la⟩ := ha.ex
  obtain ⟨_, pb, lb⟩ := hb.ex
  exact ⟨_, pe_ix ix_seq pa pb hs, lk_op lk_item la lb⟩
def gSubM (to ti : DTE) : DTG := fun d r w Q => to r w fun x w1 => ti r w1 fun y w2 => match x, y with
  | .ptr p, .int i => ∃ xs j, w2 p = some (.lst xs) ∧ ixN xs.length i = some j ∧ Q r (put w2 p (.lst (xs.set j d)))
  | _, _ => False
theorem dg_sub (ho : DE Z o to) (hi : DE Z b ti) (ha : ∀ v, assign (.Subscript o b pos) Z.X.env v = (do
      let ov ← holding [v] (eval o Z.X.env)
      let iv ← holding [v, ov] (eval b Z.X.env)
      standAt pos
      holding [v, ov, iv] (setItem ov iv v)
      release [v, ov, iv] []) := by intro _; rfl) : DG Z (.Subscript o b pos) (gSubM to ti) := by
  obtain ⟨_, po, lo⟩ := ho.ex
  obtain ⟨_, pi, li⟩ := hi.ex
  refine ⟨_, pg_sub po pi set_list ha, fun d v r w s H Q QL S rv h k => ?_⟩
  refine lo r w s H _ _ S h fun v1 d1 H1 w1 A1 r1 q1 => ?_
  refine li r w1 s H1 _ _ (S.next A1) q1 fun v2 d2 H2 w2 A2 r2 q2 => ?_
  have r1' := r1.mono A2.same
  cases r1 with
  | ptr => cases r2 with
    | int =>
      obtain ⟨xs, j, hp, hj, q⟩ := q2
      obtain ⟨vs, h1, rl⟩ := A2.om.lst hp
      refine ⟨_, vs, _, j, rfl, rfl, h1, by rw [← rl.length]; exact hj, ?_⟩
      have A3 := Aft.chg (o := .lst (vs.set j v)) (m := .lst (xs.set j d)) A2.om hp (.lst (rl.set (rv.mono (A1.trans A2).same) j))
      have AA := A1.trans (A2.trans A3)
      exact k r s _ _ AA (S.env.mono AA.same) q
    | _ => exact (show False from q2).elim
  | _ => exact (show False from q2).elim
abbrev DTO := Rho → Om → (Option Int → Om → Prop) → Prop
def dNo : DTO := fun _ w Q => Q none w
def dPt (te : DTE) : DTO := fun r w Q => te r w fun x w1 => match x with
  | .int i => Q (some i) w1
  | _ => False
def cutD (xs : List Dt) (lo hi : Option Int) : List Dt := (xs.drop (HT.sIx xs.length 0 lo)).take (HT.sIx xs.length xs.length hi - HT.sIx xs.length 0 lo)
theorem RpL.cut {K : PySem.W.Frag} {H : Hp} {ds : List Dt} {vs : List V} (r : RpL K H ds vs) (lo hi : Option Int) : RpL K H (cutD ds lo hi) (cutV vs lo hi) := by
  unfold cutD cutV
  rw [r.length]
  exact (r.drop _).take _
def sliceR : Dt → Option Int → Option Int → Om → DK → Prop := fun x lo hi w Q => match x with
  | .lst xs => Q (.lst (cutD xs lo hi)) w
  | .rl xs => Q (.lst (cutD xs lo hi)) w
  | .tup xs => Q (.tup (cutD xs lo hi)) w
  | .str z => z.length ≤ sizeLine ∧ Q (.str (cutS z lo hi)) w
  | .ptr p => ∃ xs, w p = some (.lst xs) ∧ Q (.lst (cutD xs lo hi)) w
  | _ => False
def dSl (te : DTE) (tl th : DTO) : DTE := fun r w Q => te r w fun x w1 => tl r w1 fun l w2 => th r w2 fun u w3 => sliceR x l u w3 Q
abbrev DFr := List Dt → Om → DK → Prop
structure DFn (Z : Dx) (f : Value) (rd : DFr) : Prop where
  ex : ∃ rL, CallR Z.X f rL ∧ ∀ (ds : List Dt) (vs : List V) (w : Om) (H : Hp) (Q : DK) (QL : VK), OmOk Z.X.K w H → RpL Z.X.K (hm H w) ds vs → rd ds w Q →
    (∀ v d H' w', Aft Z.X.K w H w' H' → Rp Z.X.K (hm H' w') d v → Q d w' → QL v H') → rL vs H QL
def dFn (rd : DFr) (ta : DTA) : DTE := fun r w Q => ta r w fun ds w1 => rd ds w1 Q
theorem lk_fn {rL : List V → Hp → VK → Prop} {tL : TA} {rd : DFr} {ta : DTA} (l : LkA Z tL ta) (lr : ∀ (ds : List Dt) (vs : List V) (w : Om) (H : Hp) (Q : DK) (QL : VK), OmOk Z.X.K w H → RpL Z.X.K (hm H w) ds vs → rd ds w Q →
    (∀ v d H' w', Aft Z.X.K w H w' H' → Rp Z.X.K (hm H' w') d v → Q d w' → QL v H') → rL vs H QL) : LkE Z (tCB rL tL) (dFn rd ta) := fun r w s H Q QL S h k => by
  refine l r w s H _ _ S h fun vs ds H1 w1 A1 r1 q1 => ?_
  exact lr ds vs w1 H1 Q QL A1.om r1 q1 fun v d H' w' A => k v d H' w' (A1.trans A)
theorem de_fn {x : Str} {id : String} {rd : DFr} {es : List Expr} {t : DTA} {p : Pos} (hc : DFn Z (.builtin id) rd) (hm : Z.X.mg x = none) (ha : DA Z (e :: es) t) (hv : bootBuiltins x = some (.builtin id) := by decide +kernel) (hg : Gl Z.X x := by rfl) (hn : x ≠ "__name__" := by decide) (hdb : (x == ("__debug__" : Str)) = false := by decide)
    (he : starEach (e :: es) Z.X.env = (false, eval e Z.X.env) :: starEach es Z.X.env := by rfl) (hpl : (backTo pos (starEach es Z.X.env)).any (·.1) = false := by rfl) : DE Z (.Call (.Name x p) (e :: es) [] pos) (dFn rd t) := by
  obtain ⟨rL, c, lr⟩ := hc.ex
  obtain ⟨_, pa, l⟩ := ha.ex
  exact ⟨_, pe_callB c hg hm hv pa hn hdb he hpl, lk_fn l lr⟩
theorem de_fnTy {x : Str} {T : String} {rd : DFr} {es : List Expr} {t : DTA} {p : Pos} (hc : DFn Z (.type T) rd) (hm : Z.X.mg x = none) (ha : DA Z (e :: es) t) (hv : bootBuiltins x = some (.type T) := by decide +kernel) (hg : Gl Z.X x := by rfl) (hn : x ≠ "__name__" := by decide) (hdb : (x == ("__debug__" : Str)) = false := by decide)
    (he : starEach (e :: es) Z.X.env = (false, eval e Z.X.env) :: starEach es Z.X.env := by rfl) (hpl : (backTo pos (starEach es Z.X.env)).any (·.1) = false := by rfl) : DE Z (.Call (.Name x p) (e :: es) [] pos) (dFn rd t) := by
  obtain ⟨rL, c, lr⟩ := hc.ex
  obtain ⟨_, pa, l⟩ := ha.ex
  exact ⟨_, pe_callTy c hg hm hv pa hn hdb he hpl, lk_fn l lr⟩
def on1 (f : Dt → Om → DK → Prop) : DFr := fun ds w Q => match ds with
  | [x] => f x w Q
  | _ => False
def on2 (f : Dt → Dt → Om → DK → Prop) : DFr := fun ds w Q => match ds with
  | [x, y] => f x y w Q
  | _ => False
theorem rl1 {K : PySem.W.Frag} {H : Hp} {ds : List Dt} {vs : List V} {f : Dt → Om → DK → Prop} {w : Om} {Q : DK} (r : RpL K H ds vs) (h : on1 f ds w Q) : ∃ d v, ds = [d] ∧ vs = [v] ∧ Rp K H d v ∧ f d w Q := by
  cases r with
  | nil => exact (show False from h).elim
  | cons r1 r2 => cases r2 with
    | nil => exact ⟨_, _, rfl, rfl, r1, h⟩
    | cons _ _ => exact (show False from h).elim
theorem rl2 {K : PySem.W.Frag} {H : Hp} {ds : List Dt} {vs : List V} {f : Dt → Dt → Om → DK → Prop} {w : Om} {Q : DK} (r : RpL K H ds vs) (h : on2 f ds w Q) : ∃ d e v u, ds = [d, e] ∧ vs = [v, u] ∧ Rp K H d v ∧ Rp K H e u ∧ f d e w Q := by
  cases r with
  | nil => exact (show False from h).elim
  | cons r1 r2 => cases r2 with
    | nil => exact (show False from h).elim
    | cons r3 r4 => cases r4 with
      | nil => exact ⟨_, _, _, _, rfl, rfl, r1, r3, h⟩
      | cons _ _ => exact (show False from h).elim
def lenR : DFr := on1 fun x w Q => match x with
  | .lst xs => Q (.int xs.length) w
  | .rl xs => Q (.int xs.length) w
  | .tup xs => Q (.int xs.length) w
  | .str z => z.length ≤ sizeLine ∧ Q (.int z.length) w
  | .ptr p => ∃ xs, w p = some (.lst xs) ∧ Q (.int xs.length) w
  | _ => False
theorem f_len : DFn Z (.builtin "len") lenR := by
  refine ⟨_, call_len, fun ds vs w H Q QL ok r h k => ?_⟩
  obtain ⟨d, v, rfl, rfl, rv, h⟩ := rl1 r h
  cases rv with
  | lst hx rl => exact ⟨_, _, rfl, .inl ⟨_, SqL.of (hm_some hx).2, rl.length⟩, k _ _ H w (Aft.refl ok) .int h⟩
  | rl hx rl => exact ⟨_, _, rfl, .inl ⟨_, up_l hx, rl.length⟩, k _ _ H w (Aft.refl ok) .int h⟩
  | tup hx rl => exact ⟨_, _, rfl, .inr ⟨_, up_t hx, rl.length⟩, k _ _ H w (Aft.refl ok) .int h⟩
  | str => exact ⟨_, _, rfl, ⟨h.1, rfl⟩, k _ _ H w (Aft.refl ok) .int h.2⟩
  | ptr =>
    obtain ⟨xs, hp, q⟩ := h
    obtain ⟨vs, h1, rl⟩ := ok.lst hp
    exact ⟨_, _, rfl, .inl ⟨_, SqL.of h1, rl.length⟩, k _ _ H w (Aft.refl ok) .int q⟩
  | _ => exact (show False from h).elim
def absR : DFr := on1 fun x w Q => match x with
  | .int i => Q (.int (if i < 0 then -i else i)) w
  | _ => False
theorem f_abs : DFn Z (.builtin "abs") absR := by
  refine ⟨_, call_abs, fun ds vs w H Q QL ok r h k => ?_⟩
  obtain ⟨d, v, rfl, rfl, rv, h⟩ := rl1 r h
  cases rv with
  | int => exact ⟨_, rfl, k _ _ H w (Aft.refl ok) .int h⟩
  | _ => exact (show False from h).elim
def max2R : DFr := on2 fun x y w Q => match x, y with
  | .int i, .int j => Q (.int (if j > i then j else i)) w
  | _, _ => False
def min2R : DFr := on2 fun x y w Q => match x, y with
  | .int i, .int j => Q (.int (if j < i then j else i)) w
  | _, _ => False
theorem f_max2 (hc : Z.X.calm = true) : DFn Z (.builtin "max") max2R := by
  refine ⟨_, call_max2 hc, fun ds vs w H Q QL ok r h k => ?_⟩
  obtain ⟨d, e, v, u, rfl, rfl, rv, ru, h⟩ := rl2 r h
  cases rv with
  | int => cases ru with
    | int => exact ⟨_, _, rfl, k _ _ H w (Aft.refl ok) .int h⟩
    | _ => exact (show False from h).elim
  | _ => exact (show False from h).elim
theorem f_min2 (hc : Z.X.calm = true) : DFn Z (.builtin "min") min2R := by
  refine ⟨_, call_min2 hc, fun ds vs w H Q QL ok r h k => ?_⟩
  obtain ⟨d, e, v, u, rfl, rfl, rv, ru, h⟩ := rl2 r h
  cases rv with
  | int => cases ru with
    | int => exact ⟨_, _, rfl, k _ _ H w (Aft.refl ok) .int h⟩
    | _ => exact (show False from h).elim
  | _ => exact (show False from h).elim
def intR : DFr := on1 fun x w Q => match x with
  | .int i => Q (.int i) w
  | .bl b => Q (.int (if b then 1 else 0)) w
  | _ => False
theorem f_int : DFn Z (.type "int") intR := by
  refine ⟨_, call_int1, fun ds vs w H Q QL ok r h k => ?_⟩
  obtain ⟨d, v, rfl, rfl, rv, h⟩ := rl1 r h
  cases rv with
  | int => exact .inl ⟨_, rfl, k _ _ H w (Aft.refl ok) .int h⟩
  | bl => exact .inr ⟨_, rfl, k _ _ H w (Aft.refl ok) .int h⟩
  | _ => exact (show False from h).elim
def listR : DFr := on1 fun x w Q => match x with
  | .lst xs => Q (.lst xs) w
  | .rl xs => Q (.lst xs) w
  | .tup xs => Q (.lst xs) w
  | .ptr p => ∃ xs, w p = some (.lst xs) ∧ Q (.lst xs) w
  | _ => False
def tupleR : DFr := on1 fun x w Q => match x with
  | .lst xs => Q (.tup xs) w
  | .rl xs => Q (.tup xs) w
  | .tup xs => Q (.tup xs) w
  | .ptr p => ∃ xs, w p = some (.lst xs) ∧ Q (.tup xs) w
  | _ => False
def tyName : Dt → Option String
  | .non => some "NoneType"
  | .bl _ => some "bool"
  | .int _ => some "int"
  | .str _ => some "str"
  | .tup _ => some "tuple"
  | .lst _ => some "list"
  | .rl _ => some "list"
  | _ => none
structure Isi (K : PySem.W.Frag) (u : Value) (p : Dt → Bool) : Prop where
  ty : ∀ d n, tyName d = some n → PySem.W.kitOne K (.type n) u = some (p d)
  num : ∀ q, PySem.W.kitOne K (.ref (cN K)) u = some (p (.num q))
  list : ∀ xs ys, p (.lst xs) = p (.lst ys)
structure NumI (K : PySem.W.Frag) : Prop where
  cl : Cls K (cN K)
  ha : PySem.W.findIn K (.ref (cN K)) "__class__" = some (some (.builtin "object.__class__"))
  hn : PySem.W.specialIn K (.builtin "object.__class__") "__get__" = some (some (.builtin "getset_descriptor.__get__"))
  htk : PySem.W.takesIn K (.builtin "object.__class__") = some true
  hm : PySem.W.mroIn K (cN K) (.type "object") = some true
abbrev DMr := Addr → List Dt → Om → DK → Prop
structure DMt (Z : Dx) (id : String) (rd : DMr) : Prop where
  ex : ∃ rL, MtR Z.X id rL ∧ ∀ (p : Addr) (xs : List Dt) (ds : List Dt) (vs : List V) (w : Om) (H : Hp) (Q : DK) (QL : VK), OmOk Z.X.K w H → w p = some (.lst xs) → RpL Z.X.K (hm H w) ds vs → rd p ds w Q →
    (∀ v d H' w', Aft Z.X.K w H w' H' → Rp Z.X.K (hm H' w') d v → Q d w' → QL v H') → rL (.ref p) vs H QL
def dMt (rd : DMr) (te : DTE) (ta : DTA) : DTE := fun r w Q => te r w fun x w1 => match x with
  | .ptr p => (∃ xs, w1 p = some (.lst xs)) ∧ ta r w1 fun ds w2 => (∃ xs, w2 p = some (.lst xs)) ∧ rd p ds w2 Q
  | _ => False
theorem de_mt {name : Str} {id : String} {rd : DMr} {es : List Expr} {ta : DTA} {cpos : Pos} (hmt : DMt Z id rd) (slot : Slot "list" name id) (hty : typeOf (.builtin id) = pure (.type "method_descriptor")) (ho : DE Z o to) (ha : DA Z (e :: es) ta)
    (hbase : attributeBase o name Z.X.env (eval o Z.X.env) = eval o Z.X.env := by rfl)
    (hfew : ((backTo cpos (starEach (e :: es) Z.X.env)).all (fun x => !x.1) && (backToKw cpos (keywordEach [] Z.X.env)).all (fun x => x.1.isSome)
      && decide ((e :: es).length + ([] : List Keyword).length + (if ([] : List Keyword).isEmpty then 0 else 1) < 30)) = true := by rfl)
    (hline : (apos.endLine == cpos.line) = true := by rfl) (hs : starEach (e :: es) Z.X.env = (false, eval e Z.X.env) :: starEach es Z.X.env := by rfl) (hplain : (backTo cpos (starEach es Z.X.env)).any (·.1) = false := by rfl) :
    DE Z (.Call (.Attribute o name apos) (e :: es) [] cpos) (dMt rd to ta) := by
  obtain ⟨rL, m, lr⟩ := hmt.ex
  obtain ⟨_, po, lo⟩ := ho.ex
  obtain ⟨_, pa, la⟩ := ha.ex
  refine ⟨_, pe_bm PySem.F.plainAttrs_list slot hty m po pa hbase hfew hline hs hplain, fun r w s H Q QL S h k => ?_⟩
  refine lo r w s H _ _ S h fun v d H1 w1 A1 r1 q1 => ?_
  cases r1 with
  | ptr =>
    obtain ⟨⟨xs, hp⟩, q1⟩ := q1
    obtain ⟨vs, h1, rl⟩ := A1.om.lst hp
    refine ⟨Or.inl ⟨rfl, _, SqL.of h1⟩, la r w1 s H1 _ _ (S.next A1) q1 fun us ds H2 w2 A2 r2 q2 => ?_⟩
    obtain ⟨⟨ys, hp2⟩, q2⟩ := q2
    exact lr _ ys ds us w2 H2 Q QL A2.om hp2 r2 q2 fun v d H' w' A => k v d H' w' (A1.trans (A2.trans A))
  | _ => exact (show False from q1).elim
def appendR : DMr := fun p ds w Q => match ds with
  | [d] => ∃ xs, w p = some (.lst xs) ∧ xs.length < sizeLine ∧ Q .non (put w p (.lst (xs ++ [d])))
  | _ => False
theorem m_append : DMt Z "list.append" appendR := by
  refine ⟨_, mt_append, fun p xs ds vs w H Q QL ok hp r h k => ?_⟩
  cases r with
  | nil => exact (show False from h).elim
  | cons r1 r2 => cases r2 with
    | nil =>
      obtain ⟨ys, hp2, hl, q⟩ := h
      obtain ⟨us, h1, rl⟩ := ok.lst hp2
      refine ⟨_, us, _, rfl, rfl, h1, by rw [← rl.length]; exact hl, ?_⟩
      exact k .non .non _ _ (Aft.chg ok hp2 (.lst (rl.append (.cons r1 .nil)))) .non q
    | cons _ _ => exact (show False from h).elim
def popR : DMr := fun p ds w Q => match ds with
  | [] => ∃ xs y, w p = some (.lst (xs ++ [y])) ∧ Q y (put w p (.lst xs))
  | _ => False
theorem RpL.last {K : PySem.W.Frag} {H : Hp} {xs : List Dt} {y : Dt} {vs : List V} (r : RpL K H (xs ++ [y]) vs) : ∃ us v, vs = us ++ [v] ∧ RpL K H xs us ∧ Rp K H y v := by
  induction xs generalizing vs with
  | nil => cases r with
    | cons r1 r2 => cases r2; exact ⟨[], _, rfl, .nil, r1⟩
  | cons x xs ih => cases r with
    | cons r1 r2 =>
      obtain ⟨us, v, rfl, h1, h2⟩ := ih r2
      exact ⟨_ :: us, v, rfl, .cons r1 h1, h2⟩
end
end DL
namespace DL
open PySem PySem.Spec PyProof.Rows L2
abbrev noOm : Om := fun _ => none
def LawSp (n : Nat) (sp : DSp) : Prop := ∀ ns : List Int, ns.length ≤ n → (∀ z ∈ ns, Builtin.Int.intBits z ≤ 1048576) → sp [.rl (ns.map Dt.int)] noOm (fun d _ => d = .bl true) fun _ _ _ => False
theorem no_esc {P : Program} {w : World} {outer : List Env} {H : Hp} {s s' : Shared} {e : Value} (h : L2.CX P w outer H s (fun _ _ _ => False) e s') : False := by
  obtain ⟨_, _, _, _, _, h⟩ := h
  first
    | exact h.2.2.2.2.2.2
    | simp_all
theorem rm_caller {k : Nat} (h : Room k callerA) : Rm k callerA := ⟨h, fun _ => rfl⟩
theorem om_no {K : PySem.W.Frag} {H : Hp} : OmOk K noOm H := fun _ _ h => nomatch (show (none : Option MO) = some _ from h)
theorem lift_law {K : PySem.W.Frag} {n : Nat} {sp : DSp} {H : Hp} {a : Addr} {ns : List Int} (g : LawSp n sp) (hl : ns.length ≤ n) (hb : ∀ z ∈ ns, Builtin.Int.intBits z ≤ 1048576) (hS : SqL K H a (ns.map V.int)) :
    lift K sp [.ref a] H (fun v _ => v = .bl true) fun _ _ _ => False := by
  refine ⟨[.rl (ns.map Dt.int)], noOm, (fun d _ => d = .bl true), fun _ _ _ => False, .cons (.rl hS (RpL.ofInts ns)) .nil, om_no, g ns hl hb, fun v d H' w' _ rv e => ?_, fun _ _ _ _ _ _ _ _ _ z => z⟩
  obtain rfl : d = .bl true := e
  cases rv
  rfl
theorem call_law {P : Program} {w : World} {K : PySem.W.Frag} {mg mb : Str → Option Value} {k n : Nat} {fa a : Addr} {fd : FuncData} {x : Str} {sp : DSp} {s₁ : Shared} {vs : List Value} {ns : List Int}
    (KX : K.In s₁.heap) (hns : s₁.heap.Ns mainGlobals mg) (hb : s₁.heap.Ns builtinsNs mb) (hbb : ∀ x : Str, x ≠ "__name__" → mb x = bootBuiltins x) (hlim : s₁.heap.NoLimit) (hg : s₁.gens = #[])
    (ha : s₁.heap.get? a = some { cls := .type "list", data := .seq vs.toArray }) (hi : IntsAre vs ns) (hl : ns.length ≤ n) (hn : n ≤ sizeLine) (hbits : ∀ z ∈ ns, Builtin.Int.intBits z ≤ 1048576) (hr : Room k callerA)
    (F : ∀ base : Heap, K.In base → base.Ns mainGlobals mg → FnG P w K mg base k fa fd [x] (lift K sp)) (hbind : ∀ (s : Shared) (u : Value), BindsTo s fd ⟨[u], []⟩ [(x, u)]) (g : LawSp n sp) :
    codeAny (model P w) callerA (.call (.ref fa) ⟨[.ref a], []⟩) (fun r s' => r = .ok (.ret (.bool true)) ∧ OldK s₁.heap s'.heap ∧ s'.os = s₁.os ∧ AllBare s'.gens) s₁ := by
  have rv := vals_ints hi
  have lenV := hi.length
  have hsz : ns.length ≤ sizeLine := Nat.le_trans hl hn
  have core : ∀ H : Hp, Only H → SqL K H a (ns.map V.int) → HOk P w H s₁.heap → (∀ b, H b ≠ none → b = a) → (H a ≠ none → K.lookup a = none) →
      codeAny (model P w) callerA (.call (.ref fa) ⟨[.ref a], []⟩) (fun r s' => r = .ok (.ret (.bool true)) ∧ OldK s₁.heap s'.heap ∧ s'.os = s₁.os ∧ AllBare s'.gens) s₁ := by
    intro H hO hS hok hA hK
    have atA : ∀ {b : Addr} {u : HO}, H b = some u → b = a := fun q => hA _ (by rw [q]; exact fun z => nomatch z)
    have nsK : ∀ {b : Addr} {m : Str → Option Value}, s₁.heap.Ns b m → (hidT s₁.heap H).Ns b m := fun {b m} ⟨o, es, ep, e, d, r⟩ => ⟨o, es, ep, hidT_get e (by
      cases q : H b with
      | none => rfl
      | some u =>
        obtain rfl := atA q
        rw [ha] at e
        cases e
        exact nomatch (show Data.seq vs.toArray _ = Data.dict es ep from d)), d, r⟩
    have hKb : K.In (hidT s₁.heap H) := fun b o e => hidT_get (KX b o e) (by
      cases q : H b with
      | none => rfl
      | some u =>
        obtain rfl := atA q
        rw [hK (by rw [q]; exact fun z => nomatch z)] at e
        cases e)
    have hM : Mod K mg (hidT s₁.heap H) := ⟨hKb, nsK hns, ⟨mb, nsK hb, hbb⟩, let ⟨mc, h1, h2⟩ := hlim; ⟨mc, nsK h1, h2⟩⟩
    have e0 : Env0 P w K mg (hidT s₁.heap H) callerA [] s₁ H := ⟨rfl, hM, fun b o e => of_hidT e, Nat.le_of_eq (hidT_size _ _), trivial, fun b hb => (List.not_mem_nil hb).elim, hok, .of_eq hg⟩
    refine codeAny_mono ((F _ hKb (nsK hns)).run callerA [] s₁ H ⟨[.ref a], []⟩ [.ref a] [.ref a] _ _ (rm_caller hr) e0 (hbind s₁ (.ref a)) (.cons rfl .nil) (lift_law g hl hbits hS)) fun r s' h => ?_
    match r, h with
    | .error e, h => exact (no_esc h).elim
    | .ok (.ret u), ⟨v, H', os, bare, un, hok', r', q⟩ =>
      obtain rfl : v = .bl true := q
      obtain rfl : u = Value.bool true := r'
      refine ⟨rfl, OldK.of_keep fun b o e => ?_, os, bare⟩
      cases q : H b with
      | none => exact un.keep b o e q (fun z => (List.not_mem_nil z).elim) (List.not_mem_nil)
      | some u =>
        rcases hO b with z | ⟨ob, xs, z⟩
        · rw [q] at z; cases z
        · obtain ⟨e1, _⟩ := hok b _ z
          obtain ⟨e2, _⟩ := hok' b _ (un.frzs b ob _ z)
          rw [e] at e1; cases e1
          exact e2
  cases hk : K.lookup a with
  | some o =>
    have e := KX a o hk
    rw [ha] at e
    cases e
    exact core (fun _ => none) (fun _ => .inl rfl) (.inr ⟨_, vs.toArray, _, hk, rfl, rfl, rfl, by rw [List.size_toArray, lenV]; exact hsz, by simpa using rv⟩) (fun _ _ z => nomatch (show (none : Option HO) = some _ from z)) (fun _ z => absurd rfl z) fun z => absurd rfl z
  | none =>
    have yes : ∀ {b : Addr}, b = a → (fun c => if c = a then some (HO.frz { cls := .type "list", data := .seq vs.toArray } (.lst (ns.map V.int))) else none : Hp) b = some (.frz { cls := .type "list", data := .seq vs.toArray } (.lst (ns.map V.int))) := fun e => if_pos e
    have nope : ∀ {b : Addr}, b ≠ a → (fun c => if c = a then some (HO.frz { cls := .type "list", data := .seq vs.toArray } (.lst (ns.map V.int))) else none : Hp) b = none := fun e => if_neg e
    refine core _ (fun b => ?_) (.inl (.inr ⟨_, yes rfl⟩)) (fun b u z => ?_) (fun b z => Classical.byContradiction fun hb => z (nope hb)) fun _ => hk
    · by_cases hb : b = a
      · exact .inr ⟨_, _, yes hb⟩
      · exact .inl (nope hb)
    · by_cases hb : b = a
      · have z' := (yes hb).symm.trans z
        cases z'
        subst hb
        exact ⟨ha, by rw [List.length_map]; exact hsz, vs, _, rv, ha⟩
      · rw [nope hb] at z; cases z
theorem walk_law {l : PySem.W.OpenLaw} {n k : Nat} {q : Program} {loose : List Str} {XP : (Str → Option Value) → Heap → Prop} {YP : World → Heap → Prop} {d : DefRec} {x : Str}
    (hn : l.most = some n) (hn2 : n ≤ sizeLine) (hdf : d.params.defaults = []) (hr : Room k callerA)
    (F : ∀ (w : World) (mg : Str → Option Value) (fa : Addr) (h : Heap), YP w h → h.Ns mainGlobals mg → mg d.name = some (.ref fa) →
      ∃ (K : PySem.W.Frag) (fd : FuncData) (sp : DSp), K.In h ∧ (∀ (s : Shared) (u : Value), BindsTo s fd ⟨[u], []⟩ [(x, u)]) ∧ LawSp n sp ∧
        ∀ base : Heap, K.In base → base.Ns mainGlobals mg → FnG l.prog w K mg base k fa fd [x] (lift K sp)) :
    PySem.W.WalkO q loose XP YP l.row.toRowW d [] (fun f vs => PySem.call f vs) := by
  refine Att.attach_callB hn hdf fun w s₀ s₁ mg mb fa o pm cd doc a vs ns G Y ho hd hcd hmg hobj hints hlen hbits hg => ?_
  obtain ⟨K, fd, sp, KX, hb, g, hF⟩ := F w mg fa _ Y G.T.g hmg
  exact call_law KX G.T.g G.T.b G.T.builtins G.T.nolimit hg hobj hints hlen hn2 hbits hr hF hb g
section
open He
variable {P : Program} {w : World} {K : PySem.W.Frag} {mg : Str → Option Value} {base : Heap} {x m qual : Str} {params : Arguments} {body : List Stmt} {scope : Scope} {fd : FuncData} {ps : List Str} {k : Nat} {sp : DSp} {f C : Addr} {dvs : List V} {kws : List (Str × V)}
theorem cal_of (F : FunD K x qual params body scope dvs kws f fd) (g : mg x = some (.ref f)) (G : FnG P w K mg base k f fd ps (lift K sp)) {ds : List Value} {dd : List Dt} {dvs' : List V} (b : Binds K fd ps ds) (hv : Vals dvs' ds) (hr : ∀ H, RpL K H dd dvs') : Cal P w K mg base x k dd sp :=
  ⟨f, fd, ps, dvs', ds, g, F.kp, G, b, hv, hr⟩
theorem cal_plain (F : FunD K x qual params body scope [] kws f fd) (g : mg x = some (.ref f)) (G : FnG P w K mg base k f fd ps (lift K sp))
    (h : ∀ (kV doc pm : Value) (an : Option Addr) (cdv ct : Value) (us : List Value), us.length = ps.length → bindArgs (PySem.W.fnOf x qual params body scope .none kV doc pm an cdv ct) ⟨us, []⟩ = pure (ps.zip us)) : Cal P w K mg base x k [] sp :=
  cal_of F g G (F.bindsN h) .nil fun _ => .nil
theorem calm_plain (F : FunD K x qual params body scope [] kws f fd) (c : Cls K C) (hm : Meth K C m f) (G : FnG P w K mg base k f fd ps (lift K sp))
    (h : ∀ (kV doc pm : Value) (an : Option Addr) (cdv ct : Value) (us : List Value), us.length = ps.length → bindArgs (PySem.W.fnOf x qual params body scope .none kV doc pm an cdv ct) ⟨us, []⟩ = pure (ps.zip us)) : CalM P w K mg base C m k [] sp :=
  ⟨f, fd, ps, [], [], c, hm, G, F.bindsN h, .nil, fun _ => .nil⟩
end
end DL
namespace DL
open PySem PySem.Spec PyProof.Rows L2
theorem vals_nil {dvs : List V} {ds : List Value} (h : dvs = []) (r : Vals dvs ds) : ds = [] := by subst h; cases r; rfl
theorem rpl_nil {K : PySem.W.Frag} {H : Hp} {dvs : List V} (h : RpL K H [] dvs) : dvs = [] := by cases h; rfl
def dFmt (te : DTE) : DTE := fun r w Q => te r w fun x w1 => match x with
  | .str y => y.length ≤ sizeLine ∧ Q (.str y) w1
  | .int i => i.natAbs.log2 < 1920 ∧ Q (.str (toString i)) w1
  | _ => False
def dJs : List DTE → Str → Rho → Om → (Str → Om → Prop) → Prop
  | [], acc, _, w, Q => Q acc w
  | t :: ts, acc, r, w, Q => t r w fun x w1 => match x with
    | .str y => (acc ++ y).length ≤ sizeLine ∧ dJs ts (acc ++ y) r w1 Q
    | _ => False
def dJoin (ts : List DTE) : DTE := fun r w Q => dJs ts Str.empty r w fun out w1 => Q (.str out) w1
end DL
namespace DL
open PySem PySem.Spec PyProof.Rows L2
def dNeg (te : DTE) : DTE := fun r w Q => te r w fun x w1 => match x with
  | .int i => Q (.int (-i)) w1
  | _ => False
def isNon : Dt → Bool
  | .non => true
  | _ => false
def isR (neg : Bool) : DR2 := fun x y w Q => match y with
  | .non => Q (.bl (if neg then !isNon x else isNon x)) w
  | .bl b => (match x with
    | .bl a => Q (.bl (if neg then !decide (a = b) else decide (a = b))) w
    | _ => False)
  | _ => False
section
variable {Z : Dx} {e a b : Expr} {te ta tb : DTE} {pos : Pos}
theorem de_neg (he : DE Z e te) : DE Z (.UnaryOp .USub e pos) (dNeg te) := by
  obtain ⟨_, p, l⟩ := he.ex
  refine ⟨_, pe_un un_neg p, fun r w s H Q QL S h k => ?_⟩
  refine l r w s H _ _ S h fun v d H1 w1 A1 r1 q1 => ?_
  cases r1 with
  | int => exact ⟨_, rfl, k _ _ H1 w1 A1 .int q1⟩
  | _ => exact (show False from q1).elim
end
def wipeD (r : Rho) : List Nat → Rho
  | [] => r
  | v :: vs => pus (wipeD r vs) v none
section
variable {Z : Dx} {k : Nat} {e : Expr} {te : DTE} {tt : DTT} {pos : Pos}
def dYes : DTT := fun _ w Q => Q true w
def dLcK (wi : DTI) (g : DTG) (tt : DTT) (te : DTE) (vs : List Nat) (fin : Rho → Addr → Om → DK → Prop) : DTE := fun r w Q => wi r w fun xs St w1 => ∀ D, w1 D = none → ∃ P : Nat → Om → Prop, P 0 (put w1 D (.lst [])) ∧
  (∀ i w2, i ≤ xs.length → P i w2 → St w2 ∧ ∀ d, xs[i]? = some d → g d (wipeD r vs) w2 fun r4 w4 => tt r4 w4 fun b w5 => br b (te r4 w5 fun y w6 => ∃ acc, w6 D = some (.lst acc) ∧ acc.length < sizeLine ∧ P (i + 1) (put w6 D (.lst (acc ++ [y])))) (P (i + 1) w5)) ∧
  ∀ w2, P xs.length w2 → fin r D w2 Q
end
end DL
namespace DL
open PySem PySem.Spec PyProof.Rows L2
def Sz (n : Nat) (i : Int) : Prop := i.natAbs < 2 ^ n
def SzR (n : Nat) (q : Rat) : Prop := Sz n q.num ∧ Sz n q.den
theorem Sz.mono {m n : Nat} {i : Int} (h : Sz m i) (l : m ≤ n) : Sz n i := Nat.lt_of_lt_of_le h (Nat.pow_le_pow_right (by decide) l)
theorem SzR.mono {m n : Nat} {q : Rat} (h : SzR m q) (l : m ≤ n) : SzR n q := ⟨h.1.mono l, h.2.mono l⟩
theorem Sz.log {n : Nat} {i : Int} (h : Sz n i) (hn : 0 < n) : i.natAbs.log2 < n := by
  by_cases z : i.natAbs = 0
  · rw [z]; exact hn
  · exact (Nat.log2_lt z).mpr h
theorem Sz.mul {m n : Nat} {i j : Int} (a : Sz m i) (b : Sz n j) : Sz (m + n) (i * j) := by
  unfold Sz at *
  rw [Int.natAbs_mul, Nat.pow_add]
  exact Nat.mul_lt_mul'' a b
theorem Sz.neg {n : Nat} {i : Int} (a : Sz n i) : Sz n (-i) := by unfold Sz at *; rwa [Int.natAbs_neg]
theorem Sz.add {m n : Nat} {i j : Int} (a : Sz m i) (b : Sz n j) : Sz (max m n + 1) (i + j) := by
  have a' := a.mono (Nat.le_max_left m n)
  have b' := b.mono (Nat.le_max_right m n)
  unfold Sz at *
  rw [Nat.pow_succ]
  omega
theorem Sz.sub {m n : Nat} {i j : Int} (a : Sz m i) (b : Sz n j) : Sz (max m n + 1) (i - j) := by
  rw [Int.sub_eq_add_neg]; exact a.add b.neg
theorem Sz.abs {n : Nat} {i : Int} (a : Sz n i) : Sz n i.natAbs := by unfold Sz at *; rwa [Int.natAbs_natCast]
theorem Sz.ediv {n : Nat} {i j : Int} (a : Sz n i) (hj : 0 < j) : Sz n (i / j) := by
  have h : (i / j).natAbs ≤ i.natAbs := by
    have := Int.natAbs_ediv_le_natAbs i j
    exact this
  exact Nat.lt_of_le_of_lt h a
theorem Sz.mulC {m n : Nat} {i j : Int} (a : Sz m i) (b : Sz n j) (hm : 0 < m) (hn : 0 < n) (h : m + n ≤ 1000000) : MulC i j := .inl (by
  have h1 := a.log hm
  have h2 := b.log hn
  unfold CMulW
  omega)
theorem Sz.divP {n : Nat} {i : Int} (a : Sz n i) (hi : 0 < i) (h : n ≤ 9000) : DivP i := ⟨hi, by
  by_cases z : n = 0
  · subst z
    have := a
    unfold Sz at this
    have e : i.natAbs = 0 := by omega
    rw [e]; decide
  · exact Nat.lt_of_lt_of_le (a.log (Nat.pos_of_ne_zero z)) h⟩
theorem Sz.divN {n : Nat} {i : Int} (a : Sz n i) (hi : i ≠ 0) (h : n ≤ 9000) : DivN i := ⟨hi, by
  by_cases z : n = 0
  · subst z
    have := a
    unfold Sz at this
    have e : i.natAbs = 0 := by omega
    rw [e]; decide
  · exact Nat.lt_of_lt_of_le (a.log (Nat.pos_of_ne_zero z)) h⟩
theorem Sz.of_le {n : Nat} {i j : Int} (a : Sz n j) (h : i.natAbs ≤ j.natAbs) : Sz n i := Nat.lt_of_le_of_lt h a
theorem abs_if (a : Int) : (if a < 0 then -a else a) = (a.natAbs : Int) := by split <;> omega
theorem gcd_step {a b : Nat} (hb : 0 < b) : Nat.gcd b (a % b) = Nat.gcd a b := by
  rw [Nat.gcd_comm a b, Nat.gcd_comm b (a % b)]
  exact (Nat.gcd_rec b a).symm
theorem den_pos (q : Rat) : (0 : Int) < (q.den : Int) := Int.ofNat_lt.mpr q.den_pos
def byOf (a b : Int) : Int := if b < 0 then 0 - (Nat.gcd a.natAbs b.natAbs : Int) else (Nat.gcd a.natAbs b.natAbs : Int)
theorem byOf_ne {a b : Int} (hb : b ≠ 0) : byOf a b ≠ 0 := by
  have h : 0 < Nat.gcd a.natAbs b.natAbs := Nat.gcd_pos_of_pos_right _ (Int.natAbs_pos.mpr hb)
  unfold byOf
  split <;> omega
theorem bot_of {a b : Int} (hb : b ≠ 0) : b.fdiv (byOf a b) = ((Rat.divInt a b).den : Int) := by
  rw [Rat.den_divInt, if_neg hb]
  have hg : 0 < Nat.gcd a.natAbs b.natAbs := Nat.gcd_pos_of_pos_right _ (Int.natAbs_pos.mpr hb)
  have hc : b.gcd a = Nat.gcd a.natAbs b.natAbs := by rw [Int.gcd_comm]; rfl
  rw [hc]
  obtain ⟨c, hc'⟩ := Nat.gcd_dvd_right a.natAbs b.natAbs
  unfold byOf
  generalize Nat.gcd a.natAbs b.natAbs = G at *
  have hq : b.natAbs / G = c := by rw [hc']; exact Nat.mul_div_cancel_left c hg
  rw [hq]
  have hG0 : (G : Int) ≠ 0 := by omega
  have hcast : (b.natAbs : Int) = (G : Int) * (c : Int) := by rw [hc']; exact Int.natCast_mul G c
  split
  · rename_i hn
    have e : b = (0 - (G : Int)) * (c : Int) := by
      rw [Int.zero_sub, Int.neg_mul, ← hcast]; omega
    rw [e]
    exact Int.mul_fdiv_cancel_left _ (by omega)
  · rename_i hn
    have e : b = (G : Int) * (c : Int) := by rw [← hcast]; omega
    rw [e]
    exact Int.mul_fdiv_cancel_left _ hG0
theorem top_of {a b : Int} (hb : b ≠ 0) : a.fdiv (byOf a b) = (Rat.divInt a b).num := by
  rw [Rat.num_divInt]
  have hg : 0 < Nat.gcd a.natAbs b.natAbs := Nat.gcd_pos_of_pos_right _ (Int.natAbs_pos.mpr hb)
  have hc : b.gcd a = Nat.gcd a.natAbs b.natAbs := by rw [Int.gcd_comm]; rfl
  rw [hc]
  have d : ((Nat.gcd a.natAbs b.natAbs : Nat) : Int) ∣ a := Int.ofNat_dvd_left.mpr (Nat.gcd_dvd_left _ _)
  obtain ⟨c, hc'⟩ := d
  unfold byOf
  split
  · rename_i hn
    rw [Int.sign_eq_neg_one_of_neg hn]
    generalize hG : ((Nat.gcd a.natAbs b.natAbs : Nat) : Int) = G at *
    have hG0 : G ≠ 0 := by omega
    have h1 : a = (0 - G) * (-c) := by rw [hc', Int.zero_sub, Int.neg_mul_neg]
    have h2 : -1 * a = G * (-c) := by rw [hc', Int.mul_neg, Int.neg_mul, Int.one_mul]
    rw [h2, Int.mul_ediv_cancel_left _ hG0]
    conv => lhs; rw [h1]
    exact Int.mul_fdiv_cancel_left _ (by omega)
  · rename_i hn
    rw [Int.sign_eq_one_of_pos (by omega), Int.one_mul]
    exact Int.fdiv_eq_ediv_of_nonneg _ (Int.natCast_nonneg _)
theorem sub_txt (q p : Rat) : Rat.divInt (q.num * p.den - p.num * q.den) (q.den * p.den) = q - p := by
  rw [Rat.sub_def', ← Int.natCast_mul, Rat.divInt_ofNat]
theorem add_txt (q p : Rat) : Rat.divInt (q.num * p.den + p.num * q.den) (q.den * p.den) = q + p := by
  rw [Rat.add_def', ← Int.natCast_mul, Rat.divInt_ofNat]
theorem mul_txt (q p : Rat) : Rat.divInt (q.num * p.num) (q.den * p.den) = q * p := by
  rw [Rat.mul_def', ← Int.natCast_mul, Rat.divInt_ofNat]
theorem div_txt (q p : Rat) : Rat.divInt (q.num * p.den) (q.den * p.num) = q / p := by
  rw [Rat.div_def, Rat.inv_def, ← Rat.divInt_mul_divInt, Rat.num_divInt_den]
theorem lt_txt (q p : Rat) : decide (q.num * p.den < p.num * q.den) = decide (q < p) := decide_eq_decide.mpr (Rat.lt_iff q p).symm
theorem abs_txt (q : Rat) : Rat.divInt (q.num.natAbs : Int) q.den = q.abs := by
  unfold Rat.abs
  split
  · rename_i h
    have h2 := Rat.num_nonneg.mpr h
    rw [Int.natAbs_of_nonneg h2, Rat.num_divInt_den]
  · rename_i h
    have h2 : ¬ 0 ≤ q.num := fun z => h (Rat.num_nonneg.mp z)
    have e : (q.num.natAbs : Int) = -q.num := by omega
    rw [e, ← Rat.neg_divInt, Rat.num_divInt_den]
theorem ofInt_txt (n : Int) : Rat.divInt n 1 = (n : Rat) := by
  refine Rat.ext ?_ ?_
  · rw [Rat.num_divInt, Rat.num_intCast]; simp
  · rw [Rat.den_divInt, Rat.den_intCast]; simp
theorem szr_divInt {n : Nat} {a b : Int} (ha : Sz n a) (hb : Sz n b) (h0 : b ≠ 0) : SzR n (Rat.divInt a b) := by
  have h1 := bot_of (a := a) h0
  have h2 := top_of (a := a) h0
  have by0 := byOf_ne (a := a) h0
  refine ⟨?_, ?_⟩
  · have hd := Rat.num_divInt a b
    refine ha.of_le ?_
    rw [hd]
    have e1 : (b.sign * a / (b.gcd a : Int)).natAbs ≤ (b.sign * a).natAbs := Int.natAbs_ediv_le_natAbs _ _
    refine Nat.le_trans e1 ?_
    rw [Int.natAbs_mul, Int.natAbs_sign_of_ne_zero h0, Nat.one_mul]
    exact Nat.le_refl _
  · have hd := Rat.den_divInt a b
    rw [if_neg h0] at hd
    refine hb.of_le ?_
    rw [hd, Int.natAbs_natCast]
    exact Nat.div_le_self _ _
theorem SzR.sub {m n : Nat} {q p : Rat} (a : SzR m q) (b : SzR n p) : SzR (m + n + 1) (q - p) := by
  rw [← sub_txt]
  have h1 := a.1.mul b.2
  have h2 := b.1.mul a.2
  rw [Nat.add_comm n m] at h2
  have h3 := h1.sub h2
  rw [Nat.max_self] at h3
  exact szr_divInt h3 ((a.2.mul b.2).mono (Nat.le_succ _)) (Int.ne_of_gt (Int.mul_pos (den_pos q) (den_pos p)))
theorem SzR.add {m n : Nat} {q p : Rat} (a : SzR m q) (b : SzR n p) : SzR (m + n + 1) (q + p) := by
  rw [← add_txt]
  have h1 := a.1.mul b.2
  have h2 := b.1.mul a.2
  rw [Nat.add_comm n m] at h2
  have h3 := h1.add h2
  rw [Nat.max_self] at h3
  exact szr_divInt h3 ((a.2.mul b.2).mono (Nat.le_succ _)) (Int.ne_of_gt (Int.mul_pos (den_pos q) (den_pos p)))
theorem SzR.mul {m n : Nat} {q p : Rat} (a : SzR m q) (b : SzR n p) : SzR (m + n) (q * p) := by
  rw [← mul_txt]
  exact szr_divInt (a.1.mul b.1) (a.2.mul b.2) (Int.ne_of_gt (Int.mul_pos (den_pos q) (den_pos p)))
theorem SzR.int {n : Nat} {i : Int} (a : Sz n i) (hn : 0 < n) : SzR n (i : Rat) := ⟨by rw [Rat.num_intCast]; exact a, by
  rw [Rat.den_intCast]
  exact Nat.lt_of_lt_of_le (by decide : 1 < 2) (Nat.le_trans (by simp) (Nat.pow_le_pow_right (by decide) hn : 2 ^ 1 ≤ 2 ^ n))⟩
theorem SzR.neg {n : Nat} {q : Rat} (a : SzR n q) : SzR n (-q) := ⟨by rw [Rat.neg_num]; exact a.1.neg, by rw [Rat.neg_den]; exact a.2⟩
end DL
namespace DL
open PySem PySem.Spec PyProof.Rows L2
def Fit (q : Rat) : Prop := SzR 4000 q
def flr (q : Rat) : Int := q.num / q.den
def sp_gcd : DSp := fun ds w Q _ => ∃ a b : Nat, ds = [.int a, .int b] ∧ Q (.int (Nat.gcd a b)) w
def nF (q : Rat) : List (Str × Dt) := [("bottom", .int q.den), ("top", .int q.num)]
def sp_num : DSp := fun ds w Q _ => ∃ a b : Int, ds = [.int a, .int b] ∧ b ≠ 0 ∧ Sz 9000 a ∧ Sz 9000 b ∧ Q (.num (Rat.divInt a b)) w
def sp_less : DSp := fun ds w Q _ => ∃ q p : Rat, ds = [.num q, .num p] ∧ Fit q ∧ Fit p ∧ Q (.num (q - p)) w
def sp_more : DSp := fun ds w Q _ => ∃ q p : Rat, ds = [.num q, .num p] ∧ Fit q ∧ Fit p ∧ Q (.num (q + p)) w
def sp_times : DSp := fun ds w Q _ => ∃ q p : Rat, ds = [.num q, .num p] ∧ Fit q ∧ Fit p ∧ Q (.num (q * p)) w
def sp_below : DSp := fun ds w Q _ => ∃ q p : Rat, ds = [.num q, .num p] ∧ Fit q ∧ Fit p ∧ Q (.bl (decide (q < p))) w
def sp_size : DSp := fun ds w Q _ => ∃ q : Rat, ds = [.num q] ∧ Fit q ∧ Q (.num q.abs) w
def sp_floor : DSp := fun ds w Q _ => ∃ q : Rat, ds = [.num q] ∧ SzR 9000 q ∧ Q (.int (flr q)) w
def isP (l : List String) (num : Bool) (d : Dt) : Bool := match d with
  | .num _ => num
  | d => match tyName d with
    | some n => l.contains n
    | none => false
theorem tyName_mem {d : Dt} {n : String} (h : tyName d = some n) : n ∈ kinds := by
  cases d <;> first | (cases h; done) | (obtain rfl := Option.some.inj h; decide)
theorem isi_of {K : PySem.W.Frag} {u : Value} {l : List String} {num : Bool} (h : isiB K u l num = true) : Isi K u (isP l num) := by
  obtain ⟨h1, h2⟩ := He.ba h
  refine ⟨fun d n e => ?_, fun q => by simpa [isP] using h2, fun xs ys => rfl⟩
  have h3 := List.all_eq_true.mp h1 n (tyName_mem e)
  have h4 : PySem.W.kitOne K (.type n) u = some (l.contains n) := by simpa using h3
  rw [h4]
  cases d <;> first | (cases e; done) | (obtain rfl := Option.some.inj e; rfl)
theorem num_of {K : PySem.W.Frag} (h : numB K = true) : NumI K := by
  obtain ⟨h1, h⟩ := He.ba h
  obtain ⟨h2, h⟩ := He.ba h
  obtain ⟨h3, h⟩ := He.ba h
  obtain ⟨h4, h5⟩ := He.ba h
  exact ⟨He.cls_ok h1, He.eqO_ok h2, He.eqO_ok h3, by simpa using h4, by simpa using h5⟩
theorem cdr_ptr {a : Addr} (K : PySem.W.Frag) (H : Hp) (v : V) (h : Rp K H (.ptr a) v) : v = .ref a := by cases h; rfl
end DL
namespace DL
open PySem PySem.Spec PyProof.Rows L2
structure Dk (w : Om) (D c : Addr) : Prop where
  ne : c ≠ D
  ex : ∃ (cells : List Int) (seed cnt : Int), w D = some (.lst [.ptr c, .int seed, .int cnt]) ∧ w c = some (.lst (cells.map Dt.int)) ∧ cells.length ≤ 63
def Off (w w' : Om) (D c : Addr) : Prop := ∀ p, p ≠ D → p ≠ c → w' p = w p
theorem Off.trans {w w1 w2 : Om} {D c : Addr} (a : Off w w1 D c) (b : Off w1 w2 D c) : Off w w2 D c := fun p h1 h2 => (b p h1 h2).trans (a p h1 h2)
theorem Off.refl {w : Om} {D c : Addr} : Off w w D c := fun _ _ _ => rfl
def sp_draw : DSp := fun ds w Q _ => ∃ (D c : Addr) (n : Int), ds = [.ptr D, .int n] ∧ 0 < n ∧ n < 2 ^ 64 ∧ Dk w D c ∧ ∀ (r : Int) w', 0 ≤ r → r < n → Dk w' D c → Off w w' D c → Q (.int r) w'
theorem divP_small {n : Int} (h : 0 < n) (h' : n < 2 ^ 64) : DivP n := ⟨h, by
  have e : n.natAbs < 2 ^ 64 := by omega
  exact Nat.lt_trans ((Nat.log2_lt (by omega)).mpr e) (by decide)⟩
theorem mulS {i j : Int} (h : -(2 ^ 64) < i ∧ i < 2 ^ 64) : MulC i j := .inr (.inl h)
theorem mulS' {i j : Int} (h : -(2 ^ 64) < j ∧ j < 2 ^ 64) : MulC i j := .inr (.inr h)
theorem at_all {P : Dt → Prop} {xs : List Dt} {r : Int} (h0 : 0 ≤ r) (h1 : r < xs.length) (h : ∀ d ∈ xs, P d) : ∃ d, L2.atI xs r = some d ∧ P d := by
  have h2 : r.toNat < xs.length := by omega
  refine ⟨xs[r.toNat], ?_, h _ (List.getElem_mem h2)⟩
  unfold L2.atI ixN
  rw [if_pos h0, if_pos h1]
  exact List.getElem?_eq_getElem h2
theorem int_of_mem {ns : List Int} {i : Nat} {d : Dt} (h : (ns.map Dt.int)[i]? = some d) : ∃ n, d = .int n := by
  rw [List.getElem?_map] at h
  cases e : ns[i]? with
  | none => rw [e] at h; cases h
  | some n => rw [e] at h; exact ⟨n, (Option.some.inj h).symm⟩
theorem pA : (0 : Int) < 2147483587 := by decide
theorem pB : (0 : Int) < 2147483629 := by decide
theorem pC : (0 : Int) < 2147483647 := by decide
theorem pD : (0 : Int) < 2147483563 := by decide
theorem d64 : DivP 64 := divP_small (by decide) (by decide)
theorem sz3 : 3 ≤ sizeLine := by decide
theorem m1 {j : Int} : MulC 104729 j := mulS ⟨by decide, by decide⟩
theorem m2 {j : Int} : MulC j 48271 := mulS' ⟨by decide, by decide⟩
theorem m3 {j : Int} : MulC 69621 j := mulS ⟨by decide, by decide⟩
theorem m4 {j : Int} : MulC j 69621 := mulS' ⟨by decide, by decide⟩
theorem mC {i j : Int} : MulC (i % 2147483647) j := by
  have h1 := Int.emod_nonneg i (Int.ne_of_gt pC)
  have h2 := Int.emod_lt_of_pos i pC
  exact mulS ⟨by omega, by omega⟩
theorem mA {i j : Int} : MulC (i % 2147483587) j := by
  have h1 := Int.emod_nonneg i (Int.ne_of_gt pA)
  have h2 := Int.emod_lt_of_pos i pA
  exact mulS ⟨by omega, by omega⟩
theorem pow18 : CPow 10 18 := ⟨by decide, by decide, by decide⟩
def GrI (t b : Int) : Prop := 0 < t ∧ t ≤ 1000000000000 ∧ 0 < b ∧ b ≤ 1000000000000
def GrD (d : Dt) : Prop := ∃ t b : Int, d = .tup [.int t, .int b] ∧ GrI t b
theorem sz2 : 2 ≤ sizeLine := by decide
theorem sz4 : 4 ≤ sizeLine := by decide
theorem sz6 : 6 ≤ sizeLine := by decide
theorem pw {i j : Int} (h : 0 ≤ j := by decide) (h' : j ≤ 1000000 := by decide) (h'' : i.natAbs < 2 ^ 64 := by decide) : CPow i j := ⟨h, h', h''⟩
theorem dr {w : Om} {D c : Addr} {n : Int} {Q : DK} {E : DXK} (dk : Dk w D c) (h : ∀ (r : Int) w', 0 ≤ r → r < n → Dk w' D c → Off w w' D c → Q (.int r) w') (h0 : 0 < n) (h1 : n < 2 ^ 64) : sp_draw [.ptr D, .int n] w Q E := ⟨D, c, n, rfl, h0, h1, dk, h⟩
theorem all2 {P : Dt → Prop} {a : Dt} {l : List Dt} (h : P a) (t : ∀ d ∈ l, P d) : ∀ d ∈ a :: l, P d := fun d hd => by
  rcases List.mem_cons.mp hd with e | hd
  · subst e; exact h
  · exact t d hd
theorem all0 {P : Dt → Prop} : ∀ d ∈ ([] : List Dt), P d := fun _ h => nomatch h
theorem gr {t b : Int} (h : GrI t b) : GrD (.tup [.int t, .int b]) := ⟨t, b, rfl, h⟩
end DL
namespace DL
open PySem PySem.Spec PyProof.Rows L2
inductive Wy where
  | up | down | high | low | hup | hdown | heven | hodd
def Wy.txt : Wy → Str
  | .up => "up" | .down => "down" | .high => "high" | .low => "low" | .hup => "half up" | .hdown => "half down" | .heven => "half even" | .hodd => "half odd"
def Wy.fn : Wy → Str
  | .up => "goes_up" | .down => "goes_down" | .high => "goes_high" | .low => "goes_low" | .hup => "goes_half_up" | .hdown => "goes_half_down" | .heven => "goes_half_even" | .hodd => "goes_half_odd"
def byHalf (q : Rat) (b : Bool) : Bool := if 2 * q.num = q.den then b else decide ((q.den : Int) < 2 * q.num)
def Wy.go : Wy → Int → Rat → Bool
  | .up, c, _ => decide (0 ≤ c)
  | .down, c, _ => decide (c < 0)
  | .high, _, _ => true
  | .low, _, _ => false
  | .hup, c, q => byHalf q (decide (0 ≤ c))
  | .hdown, c, q => byHalf q (decide (c < 0))
  | .heven, c, q => byHalf q (decide (c % 2 = 1))
  | .hodd, c, q => byHalf q (decide (c % 2 = 0))
def lowC (q p : Rat) : Int := flr (q / p)
def highC (q p : Rat) : Int := if p * (lowC q p : Rat) = q then lowC q p else lowC q p + 1
def cntBy (y : Wy) (q p : Rat) : Int := if lowC q p = highC q p then lowC q p else if y.go (lowC q p) (q / p - (lowC q p : Rat)) then highC q p else lowC q p
theorem Sz.flr {n : Nat} {q : Rat} (h : SzR n q) : Sz n (flr q) := h.1.ediv (den_pos q)
theorem FnG.mono {P : Program} {w : World} {K : PySem.W.Frag} {mg : Str → Option Value} {base : Heap} {j k : Nat} {f : Addr} {fd : FuncData} {ps : List Str} {sp : Sp} (F : FnG P w K mg base j f fd ps sp) (h : j ≤ k) : FnG P w K mg base k f fd ps sp :=
  ⟨F.len, fun A outer s H args us vs Q E hr => F.run A outer s H args us vs Q E (hr.mono h)⟩
end DL
namespace DL
open PySem PySem.Spec PyProof.Rows L2
theorem flr_of {r : Rat} {n : Int} (h1 : (n : Rat) ≤ r) (h2 : r < (n : Rat) + 1) : flr r = n := by
  have a := (Rat.le_iff _ _).mp h1
  have e : (n : Rat) + 1 = ((n + 1 : Int) : Rat) := by rw [Rat.intCast_add]; rfl
  rw [e] at h2
  have b := (Rat.lt_iff _ _).mp h2
  simp only [Rat.num_intCast, Rat.den_intCast] at a b
  have d := den_pos r
  unfold flr
  have b1 : n ≤ r.num / r.den := (Int.le_ediv_iff_mul_le d).mpr (by omega)
  have b2 : r.num / r.den < n + 1 := (Int.ediv_lt_iff_lt_mul d).mpr (by omega)
  omega
theorem half_eq (x : Rat) : (2 * x.num = x.den) ↔ x = 1 / 2 := by
  rw [Rat.eq_iff_mul_eq_mul]
  have e1 : (1 / 2 : Rat).num = 1 := by decide +kernel
  have e2 : (1 / 2 : Rat).den = 2 := by decide +kernel
  rw [e1, e2]
  omega
theorem half_lt (x : Rat) : ((x.den : Int) < 2 * x.num) ↔ 1 / 2 < x := by
  rw [Rat.lt_iff]
  have e1 : (1 / 2 : Rat).num = 1 := by decide +kernel
  have e2 : (1 / 2 : Rat).den = 2 := by decide +kernel
  rw [e1, e2]
  omega
theorem div_of_mul {p q x : Rat} (h : p ≠ 0) (e : q = p * x) : q / p = x := by
  rw [e, Rat.mul_comm]; exact Rat.mul_div_cancel h
theorem low_grid {p q x : Rat} {n : Int} (h : p ≠ 0) (e : q = p * ((n : Rat) + x)) (x0 : 0 ≤ x) (x1 : x < 1) : lowC q p = n := by
  unfold lowC
  rw [div_of_mul h e]
  refine flr_of ?_ ?_
  · have := (Rat.add_le_add_left (c := (n : Rat))).mpr x0
    rwa [Rat.add_zero] at this
  · exact (Rat.add_lt_add_left (c := (n : Rat))).mpr x1
theorem mul_left_cancel' {p a b : Rat} (h : p ≠ 0) (e : p * a = p * b) : a = b := by
  have h1 := div_of_mul (q := p * a) h rfl
  have h2 := div_of_mul (q := p * a) h e
  exact h1.symm.trans h2
theorem high_grid {p q x : Rat} {n : Int} (h : p ≠ 0) (e : q = p * ((n : Rat) + x)) (x0 : 0 ≤ x) (x1 : x < 1) : highC q p = if x = 0 then n else n + 1 := by
  unfold highC
  rw [low_grid h e x0 x1]
  by_cases z : x = 0
  · rw [if_pos z, if_pos (by rw [e, z, Rat.add_zero])]
  · rw [if_neg z, if_neg fun q' => z (by
      have h2 := mul_left_cancel' h (q'.trans e)
      have h3 : (n : Rat) + 0 = (n : Rat) + x := by rw [Rat.add_zero]; exact h2
      exact (Rat.add_left_cancel _ h3).symm)]
theorem cnt_grid {p q x : Rat} {n : Int} {y : Wy} (h : p ≠ 0) (e : q = p * ((n : Rat) + x)) (x0 : 0 ≤ x) (x1 : x < 1) : cntBy y q p = if x = 0 then n else if y.go n x then n + 1 else n := by
  unfold cntBy
  have e2 : q / p - (n : Rat) = x := by
    rw [div_of_mul h e, Rat.add_comm]
    exact Rat.add_sub_cancel
  rw [high_grid h e x0 x1, low_grid h e x0 x1, e2]
  by_cases z : x = 0
  · rw [if_pos z, if_pos z, if_pos rfl]
  · rw [if_neg z, if_neg z, if_neg (by omega)]
theorem divInt_pos {a b : Int} (ha : 0 < a) (hb : 0 < b) : 0 < Rat.divInt a b := by
  rw [Rat.divInt_eq_div]
  have h1 : (0 : Rat) < (a : Rat) := by rw [← Rat.intCast_zero]; exact Rat.intCast_lt_intCast.mpr ha
  have h2 : (0 : Rat) < (b : Rat) := by rw [← Rat.intCast_zero]; exact Rat.intCast_lt_intCast.mpr hb
  rw [Rat.div_def]
  exact Rat.mul_pos h1 (Rat.inv_pos.mpr h2)
theorem divInt_ne {a b : Int} (ha : a ≠ 0) (hb : b ≠ 0) : Rat.divInt a b ≠ 0 := by
  intro h
  have h1 := Rat.num_divInt a b
  rw [h] at h1
  have h2 : b.sign * a / (b.gcd a : Int) = 0 := h1.symm
  have hd : ((b.gcd a : Nat) : Int) ∣ b.sign * a := Int.dvd_mul_of_dvd_right (Int.gcd_dvd_right ..)
  have h3 := Int.ediv_mul_cancel hd
  rw [h2, Int.zero_mul] at h3
  exact Int.mul_ne_zero (fun z => hb (Int.sign_eq_zero_iff_zero.mp z)) ha h3.symm
theorem sz64 {i : Int} (h : -18446744073709551616 < i ∧ i < 18446744073709551616) : Sz 64 i := by unfold Sz; omega
theorem d2 : DivP 2 := divP_small (by decide) (by decide)
end DL
namespace DL
open PySem PySem.Spec PyProof.Rows L2
abbrev DSr := Str → List Dt → Om → DK → Prop
def dStr (rd : DSr) (te : DTE) (ta : DTA) : DTE := fun r w Q => te r w fun x w1 => match x with
  | .str y => ta r w1 fun ds w2 => rd y ds w2 Q
  | _ => False
section
variable {Z : Dx} {o e : Expr} {es : List Expr} {to te : DTE} {ta : DTA} {pos apos : Pos}
def s1R (f : Str → Str → Om → DK → Prop) : DSr := fun y ds w Q => match ds with
  | [.str z] => f y z w Q
  | _ => False
def startsR : DSr := s1R fun y z w Q => Q (.bl (Txt.startswith y z)) w
end
end DL
namespace DL
open PySem PySem.Spec PyProof.Rows L2
theorem divInt_zero_iff {a L : Int} (hL : L ≠ 0) : Rat.divInt a L = 0 ↔ a = 0 := by
  constructor
  · intro h
    exact Classical.byContradiction fun z => divInt_ne z hL h
  · rintro rfl; exact Rat.zero_divInt L
theorem mul_int {p : Rat} {c : Int} : p * (c : Rat) = p * Rat.divInt c 1 := by rw [ofInt_txt]
theorem mul_inj {p : Rat} {a b : Int} (h : p ≠ 0) : p * (a : Rat) = p * (b : Rat) ↔ a = b := by
  constructor
  · intro e
    have := mul_left_cancel' h e
    exact Rat.intCast_inj.mp this
  · rintro rfl; rfl
end DL
namespace DL
open PySem PySem.Spec PyProof.Rows L2
def numText (q : Rat) : Str := Str.empty ++ ("Number(" : Str) ++ toString q.num ++ (", " : Str) ++ toString (q.den : Int) ++ (")" : Str)
def RepSp (sp : DSp) : Prop := ∀ q w (Q : DK) E, SzR 1920 q → Q (.str (numText q)) w → sp [.num q] w Q E
def txE : Dt → Option Str
  | .num q => if q.num.natAbs < 2 ^ 1920 ∧ q.den < 2 ^ 1920 then some (numText q) else none
  | .int i => if i.natAbs.log2 < 1920 then some (toString i) else none
  | .non => some "None"
  | .bl b => some (if b then "True" else "False")
  | .str x => if (reprText x).length ≤ sizeLine then some (reprText x) else none
  | _ => none
def txL : List Dt → Option (List Str)
  | [] => some []
  | d :: ds => match txE d, txL ds with
    | some t, some ts => some (t :: ts)
    | _, _ => none
section
variable {Z : Dx} {k j : Nat} {sp : DSp}
theorem call_rep {f : Addr} {fd : FuncData} {ps : List Str} (hs : RepSp sp) (F : FnG Z.X.prog Z.X.w Z.X.K Z.X.mg Z.X.base j f fd ps (lift Z.X.K sp)) (hb : Binds Z.X.K fd ps []) {A : Around} (fr : A.frames = Z.X.A.frames) (hr : Rm j A)
    {pins : List (Addr × Obj)} {σ : L2.St} {H : Hp} {s : Shared} {w : Om} {q : Rat} {a : Addr} (I : Inv Z.X pins σ H s) (om : OmOk Z.X.K w H) (ra : Rp Z.X.K (hm H w) (.num q) (.ref a)) (sq : SzR 1920 q) {Q : Value → Shared → Prop}
    (h : ∀ u s' H', Inv Z.X pins σ H' s' → Aft Z.X.K w H w H' → Q (.str (numText q) u) s') : wpAny (model Z.X.prog Z.X.w) A (call (.ref f) [.ref a]) Q Z.X.xe s := by
  have hsp : lift Z.X.K sp [.ref a] H (fun v H' => v = .str (numText q) ∧ Aft Z.X.K w H w H') (fun _ _ _ => False) :=
    ⟨[.num q], w, fun d w2 => d = .str (numText q) ∧ w2 = w, fun _ _ _ => False, .cons ra .nil, om, hs _ _ _ _ sq ⟨rfl, rfl⟩, fun v d H' w' A' rv ⟨e1, e2⟩ => by
      subst e1 e2
      cases rv
      exact ⟨rfl, A'⟩, fun _ _ _ _ _ _ _ _ _ z => z.elim⟩
  have hl := F.len _ _ _ _ hsp
  have e0 : Env0 Z.X.prog Z.X.w Z.X.K Z.X.mg Z.X.base A Z.X.stack s H := by
    have e := I.env0
    exact ⟨by rw [fr]; exact e.frames, e.mod, e.bs, e.bsz, e.funs, e.frf, e.hok, e.bare⟩
  refine wpAny_call (codeAny_mono (F.run A Z.X.stack s H ⟨[.ref a], []⟩ [.ref a] [.ref a] _ _ hr e0 (by
    have := hb s [.ref a] I.kIn (by simpa using hl)
    simpa using this) (.cons rfl .nil) hsp) fun r s' hq => ?_)
  match r, hq with
  | .error e, hq => exact (no_esc hq).elim
  | .ok (.ret u), hq =>
    obtain ⟨z, H', I', rz, ez, A'⟩ := I.after hq
    subst ez
    obtain ⟨t, rfl⟩ := rz
    exact h t s' H' I' A'
theorem under_rep {A : Around} {f a : Addr} {C : Addr} {od : Option Obj} {ox : Obj} {s : Shared} {base : Nat} {Q : Str → Shared → Prop} (X : Z.X.K.In s.heap) (J : PySem.W.InstAt s.heap a ox C od) (hs : PySem.W.findIn Z.X.K (.ref C) "__repr__" = some (some (.ref f))) (hf : PySem.W.isFn Z.X.K (.ref f) = true)
    (hu : A.units < cLine) (hb : base ≤ sizeLine) (h : wpAny (model Z.X.prog Z.X.w) A (call (.ref f) [.ref a]) (fun v s' => ∃ x u, v = .str x u ∧ Q x s') Z.X.xe s) : wpAny (model Z.X.prog Z.X.w) A (pyReprUnder base (.ref a)) Q Z.X.xe s := by
  refine wpAny_pyReprUnder_ref hb ?_
  unfold pyReprObjUnder pyReprObjBy
  refine wpAny_bind (wpAny_cRoomFor hu ?_)
  refine wpAny_bind (wpAny_bind (J.type.here ((PySem.W.looks_findIn X hs).here ?_)))
  show wpAny _ _ (if (some (Value.ref f)).isNone = true then _ else _) _ _ _
  rw [if_neg (by simp)]
  have fin : wpAny (model Z.X.prog Z.X.w) A (call (.ref f) ([.ref a] ++ []) >>= fun v => pure (some v)) (fun r s' => ∃ v, r = some v ∧ ∃ x u, v = .str x u ∧ Q x s') Z.X.xe s := wpAny_bind (wpAny_mono h (fun v s' h' => wpAny_pure ⟨v, rfl, h'⟩) fun _ _ h' => h')
  have one : wpAny (model Z.X.prog Z.X.w) A (callSpecialIfBoundBy? (fun g first => match reprUnder? g, first with
    | some twin, [self] => call twin [self, rawInt base]
    | _, _ => call g (first ++ [])) (.ref a) "__repr__") (fun r s' => ∃ v, r = some v ∧ ∃ x u, v = .str x u ∧ Q x s') Z.X.xe s := by
    simp only [callSpecialIfBoundBy?, bindSpecialIfBound?]
    refine wpAny_holding (wpAny_bind (wpAny_bind (wpAny_bind (J.type.here ((PySem.W.looks_findIn X hs).here ?_)))))
    refine wpAny_bind (wpAny_askSetting (wpAny_ite ?_))
    split
    · exact wpAny_bind ((PySem.W.bind_fn X _ (beq_iff_eq.mp hf)).here (wpAny_pure (by exact fin)))
    · exact wpAny_tryCatch (wpAny_bind ((PySem.W.bind_fn X _ (beq_iff_eq.mp hf)).here (wpAny_pure (by exact fin))))
  refine wpAny_bind (wpAny_mono one (fun r s' hr => ?_) fun _ _ e => e)
  obtain ⟨v, rfl, x, u, rfl, hq⟩ := hr
  refine wpAny_bind (wpAny_isInstance (typeIs_str _ _ _) isSubtype_str_str ?_)
  first
    | exact wpAny_pure ⟨_, _, rfl, hq⟩
    | (rw [if_pos rfl]; exact wpAny_pure ⟨_, _, rfl, hq⟩)
end
theorem txL_len : ∀ {ds : List Dt} {ts : List Str}, txL ds = some ts → ts.length = ds.length
  | [], ts, h => by cases h; rfl
  | d :: ds, ts, h => by
    unfold txL at h
    cases e1 : txE d with
    | none => rw [e1] at h; cases h
    | some t =>
      cases e2 : txL ds with
      | none => rw [e1, e2] at h; cases h
      | some ts' =>
        rw [e1, e2] at h
        cases h
        rw [List.length_cons, List.length_cons, txL_len e2]
section
variable {Z : Dx} {k j : Nat} {sp : DSp}
structure RepAt (Z : Dx) (j : Nat) (f : Addr) : Prop where
  hs : PySem.W.findIn Z.X.K (.ref (cN Z.X.K)) "__repr__" = some (some (.ref f))
  hf : PySem.W.isFn Z.X.K (.ref f) = true
  run : ∀ {A : Around}, A.frames = Z.X.A.frames → Rm j A → ∀ {pins : List (Addr × Obj)} {σ : L2.St} {H : Hp} {s : Shared} {w : Om} {q : Rat} {a : Addr}, Inv Z.X pins σ H s → OmOk Z.X.K w H → Rp Z.X.K (hm H w) (.num q) (.ref a) → SzR 1920 q → ∀ {Q : Value → Shared → Prop},
    (∀ u s' H', Inv Z.X pins σ H' s' → Aft Z.X.K w H w H' → Q (.str (numText q) u) s') → wpAny (model Z.X.prog Z.X.w) A (call (.ref f) [.ref a]) Q Z.X.xe s
theorem repAt_of (c : CalM Z.X.prog Z.X.w Z.X.K Z.X.mg Z.X.base (cN Z.X.K) "__repr__" j [] sp) (hs : RepSp sp) : ∃ f, RepAt Z j f := by
  obtain ⟨f, fd, ps, dvs, ds, hc, hm, F, hb, hd, hr⟩ := c.ex
  obtain rfl := rpl_nil (hr (fun _ => none))
  obtain rfl := vals_nil rfl hd
  exact ⟨f, hm.at_, hm.fn, fun fr rm => fun I om ra sq => fun h => call_rep hs F hb fr rm I om ra sq h⟩
theorem item_rep {f : Addr} (R : RepAt Z j f) {A : Around} (fr : A.frames = Z.X.A.frames) (hr : Rm j A) {pins : List (Addr × Obj)} {σ : L2.St} {H : Hp} {s : Shared} {w : Om} {d : Dt} {v : V} {u : Value} {t : Str} {base : Nat} {Q : Str → Shared → Prop}
    (I : Inv Z.X pins σ H s) (om : OmOk Z.X.K w H) (ra : Rp Z.X.K (hm H w) d v) (rv : RelV v u) (ht : txE d = some t) (hb : base + t.length ≤ sizeLine) (h : ∀ s' H', Inv Z.X pins σ H' s' → Aft Z.X.K w H w H' → Q t s') : wpAny (model Z.X.prog Z.X.w) A (pyReprUnder base u) Q Z.X.xe s := by
  have leaf : ReprIs Z.X.prog Z.X.w u t → wpAny (model Z.X.prog Z.X.w) A (pyReprUnder base u) Q Z.X.xe s := fun z => z base hb A Z.X.xe s Q fun tk => h _ H (I.tok tk) (Aft.refl om)
  cases ra with
  | non => cases rv; cases ht; exact leaf ReprIs.none
  | bl => cases rv; cases ht; exact leaf (ReprIs.bool _)
  | @int i =>
    obtain ⟨tk, rfl⟩ := rv
    have ht' : (if i.natAbs.log2 < 1920 then some (toString i : Str) else none) = some t := ht
    by_cases z : i.natAbs.log2 < 1920
    · rw [if_pos z] at ht'; cases ht'; exact leaf (ReprIs.int tk z)
    · rw [if_neg z] at ht'; cases ht'
  | @str x =>
    obtain ⟨tk, rfl⟩ := rv
    have ht' : (if (reprText x).length ≤ sizeLine then some (reprText x) else none) = some t := ht
    by_cases z : (reprText x).length ≤ sizeLine
    · rw [if_pos z] at ht'; cases ht'; exact leaf (ReprIs.str _ tk z)
    · rw [if_neg z] at ht'; cases ht'
  | @num a dx q hq =>
    cases rv
    have ht' : (if q.num.natAbs < 2 ^ 1920 ∧ q.den < 2 ^ 1920 then some (numText q) else none) = some t := ht
    by_cases hz : q.num.natAbs < 2 ^ 1920 ∧ q.den < 2 ^ 1920
    · rw [if_pos hz] at ht'
      have ht2 : numText q = t := Option.some.inj ht'
      subst ht2
      obtain ⟨mA, J, _⟩ := ins_get I.hok (hm_some hq).2
      obtain ⟨od, J, _⟩ := J.look
      exact under_rep I.kIn J R.hs R.hf hr.room.units0 (by omega) (R.run fr hr I om (.num hq) ⟨hz.1, by unfold Sz; rw [Int.natAbs_natCast]; exact hz.2⟩ fun tk s' H' I' A' => ⟨_, tk, rfl, h s' H' I' A'⟩)
    · rw [if_neg hz] at ht'; cases ht'
  | _ => exact nomatch (show (none : Option Str) = some t from ht)
theorem fold_rep {f : Addr} (R : RepAt Z j f) {A : Around} (fr : A.frames = Z.X.A.frames) (hr : Rm j A) {pins : List (Addr × Obj)} {σ : L2.St} {w : Om} {H0 : Hp} : ∀ (l : List Value) (vs : List V) (ds : List Dt) (ts : List Str) (acc : Array Str) (n : Nat) (s : Shared) (H : Hp) (Q : (Array Str × Nat) → Shared → Prop),
    Inv Z.X pins σ H s → Aft Z.X.K w H0 w H → RpL Z.X.K (hm H w) ds vs → Vals vs l → txL ds = some ts → n + piled ts ≤ sizeLine → (∀ s' H', Inv Z.X pins σ H' s' → Aft Z.X.K w H0 w H' → Q ⟨acc ++ ts.toArray, n + piled ts⟩ s') →
    wpAny (model Z.X.prog Z.X.w) A (forIn l (⟨acc, n⟩ : (Array Str × Nat)) tupBody) Q Z.X.xe s := by
  intro l
  induction l with
  | nil =>
    intro vs ds ts acc n s H Q I A0 rl rv ht hn h
    cases rv
    cases rl
    cases ht
    have h0 := h s H I A0
    simp only [List.forIn_nil]
    exact wpAny_pure (by simpa [piled] using h0)
  | cons x l ih =>
    intro vs ds ts acc n s H Q I A0 rl rv ht hn h
    cases rv with
    | cons rv rvs => cases rl with
      | @cons d v ds' vs' r1 r2 =>
        unfold txL at ht
        cases e1 : txE d with
        | none => rw [e1] at ht; cases ht
        | some t =>
          cases e2 : txL ds' with
          | none => rw [e1, e2] at ht; cases ht
          | some ts' =>
            rw [e1, e2] at ht
            cases ht
            rw [piled_cons] at hn
            rw [List.forIn_cons]
            refine wpAny_bind (wpAny_bind (item_rep R fr hr I A0.om r1 rv e1 (base := n + 1) (by omega) fun s' H' I' A1 => wpAny_pure ?_))
            refine ih _ ds' ts' (acc.push t) (n + (t.length + 2)) s' H' Q I' (A0.trans A1) (r2.mono A1.same) rvs e2 (by omega) fun s2 H2 I2 A2 => ?_
            have h1 := h s2 H2 I2 A2
            have e : n + piled (t :: ts') = n + (t.length + 2) + piled ts' := by rw [piled_cons]; omega
            rw [e] at h1
            simpa using h1
def reprR : DFr := on1 fun x w Q => match x with
  | .num q => SzR 1920 q ∧ Q (.str (numText q)) w
  | .int i => i.natAbs.log2 < 1920 ∧ Q (.str (toString i)) w
  | .non => Q (.str "None") w
  | .bl b => Q (.str (if b then "True" else "False")) w
  | .str x => (reprText x).length ≤ sizeLine ∧ Q (.str (reprText x)) w
  | .tup xs => match toPy (.tup xs) with
    | some p => p.showable = true ∧ p.hasDict = false ∧ p.depth ≤ 60 ∧ p.shown.length ≤ sizeLine ∧ Q (.str p.shown) w
    | none => ∃ ts, txL xs = some ts ∧ (tupleText ts).length ≤ sizeLine ∧ Q (.str (tupleText ts)) w
  | .lst xs => ∃ p, toPy (.lst xs) = some p ∧ p.showable = true ∧ p.hasDict = false ∧ p.depth ≤ 60 ∧ p.shown.length ≤ sizeLine ∧ Q (.str p.shown) w
  | _ => False
theorem call_tup {f : Addr} (R : RepAt Z j f) (b : Bd Z k) (h100 : 100 ≤ k) (hj : j + 3 ≤ k) (hj2 : j < 100) {pins : List (Addr × Obj)} {σ : L2.St} {H : Hp} {s : Shared} {w : Om} {ds : List Dt} {a : Addr} {ts : List Str} {Q : Value → Shared → Prop}
    (I : Inv Z.X pins σ H s) (om : OmOk Z.X.K w H) (ra : Rp Z.X.K (hm H w) (.tup ds) (.ref a)) (ht : txL ds = some ts) (hz : (tupleText ts).length ≤ sizeLine)
    (h : ∀ u s' H', Inv Z.X pins σ H' s' → Aft Z.X.K w H w H' → Q (.str (tupleText ts) u) s') : wpAny (model Z.X.prog Z.X.w) Z.X.A (call (.builtin "repr") [.ref a]) Q Z.X.xe s := by
  have hg : Z.X.A.guards = some [] := b.room.gd h100
  have hr := b.room.room
  cases ra with
  | tup hx rl =>
    obtain ⟨its, rv, ⟨o, ho, hc, n, hd⟩, hlen⟩ := I.tuple (up_t hx)
    have hT : s.TypeIs (.ref a) "tuple" := ⟨o, ho, hc⟩
    have hsz := piled_le_tupleText ts
    have tl := txL_len ht
    have r1 : Room (k - 1) Z.X.A.in1 := Room.in1 (by
      have : k - 1 + 1 = k := by omega
      rw [this]; exact hr)
    have hg1 : Z.X.A.in1.guards = some [] := hg
    refine call_repr_slot (by have := hr.units; omega) hT F.slot_tuple_repr ?_
    refine wpAny_call (codeAny_call_builtin_own (Code.quiet_builtin _ (by decide +kernel)) F.entry_tuple_repr (F.slot_tuple_repr.check _ _ _ _ _ _ _ _ hT (F.args_tuple_repr_1 _) ?_))
    have hn : (([] : List Code).any fun c => tupGuardF (.ref a) (c, default)) = false := rfl
    rw [show Builtin.«tuple.__repr__» = Builtin.tupleReprAt 0 from rfl, tuple_repr_tree, tupleReprUnderWay_eq]
    refine wpOwn_bind (wpOwn_stackTailAny hg1 (tupGuardF_off _) (tupGuardF_pos _) ?_)
    rw [hn]
    refine wpOwn_of_wpAny ?_
    show wpAny _ _ (tupleReprRest 0 (.ref a)) _ _ s
    unfold tupleReprRest Builtin.Tuple.tupleItemsOf
    refine wpAny_bind (wpAny_bind (wpAny_seqItems ho hd (wpAny_pure ?_)))
    rw [← Array.forIn_toList]
    have u_dp : ∀ A : Around, (A.under (.builtin "tuple.__repr__" ⟨[.ref a], []⟩)).depth = A.depth + 1 ∨ (A.under (.builtin "tuple.__repr__" ⟨[.ref a], []⟩)).depth = A.depth := fun A => by
      first | exact Or.inl rfl | exact Or.inr rfl | (left; simp [Around.under, Code.weight, Code.isCreation, Code.isGuard, Code.isCaller, Code.frames, Code.isFrame, guardIds]; done) | (right; simp [Around.under, Code.weight, Code.isCreation, Code.isGuard, Code.isCaller, Code.frames, Code.isFrame, guardIds]; done)
    have u_fr : (Z.X.A.in1.under (.builtin "tuple.__repr__" ⟨[.ref a], []⟩)).frames = Z.X.A.frames := by
      first | rfl | simp [Around.under, Code.envs]
    have rA : Rm j (Z.X.A.in1.under (.builtin "tuple.__repr__" ⟨[.ref a], []⟩)) := by
      refine ⟨⟨r1.hd, ?_, ?_⟩, fun q => ?_⟩
      · have h1 := r1.dp
        rcases u_dp Z.X.A.in1 with e | e <;> rw [e] <;> omega
      · have h1 := r1.un
        rw [units_under_tuple_repr]
        omega
      · exact absurd q (by omega)
    refine wpAny_bind (fold_rep R u_fr rA its _ ds ts #[] 0 s H _ I (Aft.refl om) rl rv ht (by omega) fun s' H' I' A' => ?_)
    have l1 : its.toArray.size = ts.length := by rw [List.size_toArray, ← rv.length, ← rl.length, tl]
    refine wpAny_bind (wpAny_mkStr (wpAny_pure ?_) (by simpa [tupleText, l1] using hz))
    have h1 := h s'.toks { s' with toks := s'.toks + 1 } H' (I'.tok _) A'
    simpa [tupleText, l1] using h1
theorem repr_data {pins : List (Addr × Obj)} {σ : L2.St} {H : Hp} {s : Shared} {w : Om} {d : Dt} {p : PyData} {a : Addr} {Q : Value → Shared → Prop} (b : Bd Z k) (h100 : 100 ≤ k) (I : Inv Z.X pins σ H s) (ra : Rp Z.X.K (hm H w) d (.ref a)) (hp : toPy d = some p)
    (h1 : p.showable = true) (h2 : p.hasDict = false) (h3 : p.depth ≤ 60) (h4 : p.shown.length ≤ sizeLine) (h : ∀ u s', Inv Z.X pins σ H s' → Q (.str p.shown u) s') : wpAny (model Z.X.prog Z.X.w) Z.X.A (call (.builtin "repr") [.ref a]) Q Z.X.xe s := by
  have hu := b.room.room.units
  obtain ⟨as, r⟩ := Dp.reads I p (.ref a) (.ref a) (ra.up.dp hp) rfl
  exact repr_of_reads' r h1 (fun z => absurd z (by rw [h2]; decide)) (b.room.gd h100) (by omega) (fun _ _ e => e) (fun h' u tk hk => h u _ (I.kept hk)) h4
theorem f_repr (b : Bd Z k) (c : CalM Z.X.prog Z.X.w Z.X.K Z.X.mg Z.X.base (cN Z.X.K) "__repr__" j [] sp) (hs : RepSp sp) (h100 : 100 ≤ k := by decide) (hj : j + 3 ≤ k := by decide) (hj2 : j < 100 := by decide) : DFn Z (.builtin "repr") reprR := by
  obtain ⟨f, R⟩ := repAt_of c hs
  refine ⟨fun vs H Q => ∃ (d : Dt) (v : V) (w : Om) (Qd : DK), vs = [v] ∧ Rp Z.X.K (hm H w) d v ∧ OmOk Z.X.K w H ∧ reprR [d] w Qd ∧ ∀ v d H' w', Aft Z.X.K w H w' H' → Rp Z.X.K (hm H' w') d v → Qd d w' → Q v H', fun pins s σ H xs us Q I r h => ?_, fun ds vs w H Q QL ok rl h kk => ?_⟩
  · obtain ⟨d, v, w, Qd, rfl, rd, om, hq, kk⟩ := h
    obtain ⟨u, rfl, ru⟩ := vals1 r
    cases rd with
    | non =>
      cases ru
      exact PySem.P.repr_of_none ⟨.str "None", H, I.tok _, ⟨_, rfl⟩, kk _ _ H w (Aft.refl om) .str hq⟩
    | @bl b =>
      cases ru
      exact PySem.P.repr_of_bool ⟨.str (if b then "True" else "False"), H, I.tok _, ⟨_, by cases b <;> rfl⟩, kk _ _ H w (Aft.refl om) .str hq⟩
    | @str x =>
      obtain ⟨t, rfl⟩ := ru
      exact PySem.P.repr_of_str ⟨.str (reprText x), H, I.tok _, ⟨_, rfl⟩, kk _ _ H w (Aft.refl om) .str hq.2⟩ hq.1
    | @int i =>
      obtain ⟨t, rfl⟩ := ru
      exact PySem.P.repr_of_int hq.1 ⟨.str (toString i), H, I.tok _, ⟨_, rfl⟩, kk _ _ H w (Aft.refl om) .str hq.2⟩
    | @num a dx q hn =>
      cases ru
      obtain ⟨mA, J, _⟩ := ins_get I.hok (hm_some hn).2
      obtain ⟨od, J, _⟩ := J.look
      obtain ⟨m, hF⟩ := I.fr
      have r1 : Rm j Z.X.A.in1 := ⟨Room.mono (Room.in1 (k := k - 1) (by
        have : k - 1 + 1 = k := by omega
        rw [this]; exact b.room.room)) (by omega), fun z => absurd z (by omega)⟩
      refine PySem.W.repr_K (by have := r1.room.units; omega) hF I.ok.mod.kin J R.hs R.hf ?_
      exact R.run (A := Z.X.A.in1) rfl r1 I om (.num hn) hq.1 fun t s' H' I' A' => ⟨.str (numText q), H', I', ⟨t, rfl⟩, kk _ _ H' w A' .str hq.2⟩
    | @tup a vs ds hx rl =>
      cases ru
      have hq' : (match toPy (.tup ds) with
        | some p => p.showable = true ∧ p.hasDict = false ∧ p.depth ≤ 60 ∧ p.shown.length ≤ sizeLine ∧ Qd (.str p.shown) w
        | none => ∃ ts, txL ds = some ts ∧ (tupleText ts).length ≤ sizeLine ∧ Qd (.str (tupleText ts)) w) := hq
      cases e : toPy (.tup ds) with
      | some p =>
        rw [e] at hq'
        obtain ⟨h1, h2, h3, h4, q⟩ := hq'
        exact repr_data b h100 I (.tup hx rl) e h1 h2 h3 h4 fun u s' I' => ⟨.str p.shown, H, I', ⟨u, rfl⟩, kk _ _ H w (Aft.refl om) .str q⟩
      | none =>
        rw [e] at hq'
        obtain ⟨ts, h1, h2, q⟩ := hq'
        exact call_tup R b h100 hj hj2 I om (.tup hx rl) h1 h2 fun u s' H' I' A' => ⟨.str (tupleText ts), H', I', ⟨u, rfl⟩, kk _ _ H' w A' .str q⟩
    | @lst a vs ds hx rl =>
      cases ru
      obtain ⟨p, e, h1, h2, h3, h4, q⟩ := hq
      exact repr_data b h100 I (.lst hx rl) e h1 h2 h3 h4 fun u s' I' => ⟨.str p.shown, H, I', ⟨u, rfl⟩, kk _ _ H w (Aft.refl om) .str q⟩
    | _ => exact (show False from hq).elim
  · have hq := h
    unfold reprR at h
    obtain ⟨d, v, rfl, rfl, rd, h⟩ := rl1 rl h
    exact ⟨d, v, w, Q, rfl, rd, ok, hq, kk⟩
end
theorem toS_len {i : Int} (h : i.natAbs.log2 < 1920) : (toString i : Str).length ≤ 1921 := by
  have := int_text_length_le (a := i) (k := 1920) (by decide) h
  have e : (toString i : Str).length = (toString i : String).length := by
    exact PySem.ofString_length _
  rw [e]; exact this
end DL
namespace DL
open PySem PySem.Spec PyProof.Rows L2
theorem pow6 : (10 : Int) ^ (6 : Nat) = 1000000 := by decide
def SgnD (d : Dt) : Prop := ∃ n : Int, d = .int n ∧ (n = 1 ∨ n = -1)
def PcsD (d : Dt) : Prop := ∃ n : Int, d = .int n ∧ 1 ≤ n ∧ n ≤ 1000
theorem pc {n : Int} (h : 1 ≤ n ∧ n ≤ 1000) : PcsD (.int n) := ⟨n, rfl, h.1, h.2⟩
end DL
namespace DL
open PySem PySem.Spec PyProof.Rows L2
theorem OmOk.dct {K : PySem.W.Frag} {w : Om} {H : Hp} (ok : OmOk K w H) {p : Addr} {fs : List (Str × Dt)} (h : w p = some (.dct fs)) : ∃ gs, H p = some (.dK (kyG gs)) ∧ RpF K (hm H w) fs gs := by
  obtain ⟨o, h1, h2⟩ := ok p _ h
  cases h2 with
  | dct r => exact ⟨_, h1, r⟩
end DL
namespace DL
open PySem PySem.Spec PyProof.Rows L2
theorem at2 (U : Bool) {x y : Int} : L2.atI [Dt.int x, Dt.int y] (if U = true then 1 else 0) = some (.int (if U = true then y else x)) := by cases U <;> rfl
def Wy.tie : Wy → Int → Bool
  | .hup, n => decide (0 ≤ n)
  | .hdown, n => decide (n < 0)
  | .heven, n => decide (n % 2 = 1)
  | _, n => decide (n % 2 = 0)
end DL
namespace DL
open PySem PySem.Spec PyProof.Rows L2
def isOk : Dt → Bool
  | .ty _ => false | .ins _ _ => false | .dct _ => false | .ptr _ => false | _ => true
def Wy.gr (y : Wy) (n : Int) (b a : Rat) : Bool := match y with
  | .up => decide (0 ≤ n) | .down => decide (n < 0) | .high => true | .low => false
  | y => if b = a then y.tie n else decide (a < b)
end DL
namespace DL
open PySem PySem.Spec PyProof.Rows L2
def ReprOk (p : PyData) : Prop := p.showable = true ∧ p.hasDict = false ∧ p.depth ≤ 60 ∧ p.shown.length ≤ sizeLine
end DL
namespace DL
open PySem PySem.Spec PyProof.Rows L2
section
variable {Z : Dx}
def mulSR : DR2 := fun x y w Q => match x, y with
  | .str a, .int n => MulOk a n ∧ Q (.str (Txt.mul a n)) w
  | _, _ => False
def strR : DFr := on1 fun x w Q => match x with
  | .int i => i.natAbs.log2 < 1920 ∧ Q (.str (toString i)) w
  | .str a => Q (.str a) w
  | _ => False
end
end DL
namespace DL
open PySem PySem.Spec PyProof.Rows L2 TL
def nd (n : Nat) : Nat := (numL n).length
theorem nd_lt {n : Nat} (h : n < 10) : nd n = 1 := by unfold nd; rw [numL_lt h]; rfl
theorem nd_step {n : Nat} (h : 10 ≤ n) : nd n = nd (n / 10) + 1 := by unfold nd; rw [numL_step h]; simp
theorem nd_pos (n : Nat) : 0 < nd n := by
  by_cases h : n < 10
  · rw [nd_lt h]; decide
  · rw [nd_step (by omega)]; omega
theorem nd_up (n : Nat) : n < 10 ^ nd n := by
  induction n using Nat.strongRecOn with
  | _ n ih =>
    by_cases h : n < 10
    · rw [nd_lt h]; omega
    · rw [nd_step (by omega), Nat.pow_succ]
      have := ih (n / 10) (by omega)
      omega
theorem nd_dn {n : Nat} (h0 : 0 < n) : 10 ^ (nd n - 1) ≤ n := by
  induction n using Nat.strongRecOn with
  | _ n ih =>
    by_cases h : n < 10
    · rw [nd_lt h]; simp; omega
    · rw [nd_step (by omega), Nat.add_sub_cancel]
      have h1 := ih (n / 10) (by omega) (by omega)
      have h2 := nd_pos (n / 10)
      have e : nd (n / 10) = (nd (n / 10) - 1) + 1 := by omega
      rw [e, Nat.pow_succ]
      omega
def tenZ (k : Int) : Rat := if k < 0 then Rat.divInt 1 ((10 : Int) ^ (-k).toNat) else (((10 : Int) ^ k.toNat : Int) : Rat)
theorem ten_pos (n : Nat) : (0 : Int) < (10 : Int) ^ n := Int.pow_pos (by decide)
theorem tenZ_div (k : Int) (j : Nat) (h : 0 ≤ k + j) : tenZ k = Rat.divInt ((10 : Int) ^ (k + j).toNat) ((10 : Int) ^ j) := by
  unfold tenZ
  by_cases hk : k < 0
  · rw [if_pos hk]
    refine (Rat.divInt_eq_divInt_iff (Int.ne_of_gt (ten_pos _)) (Int.ne_of_gt (ten_pos _))).mpr ?_
    rw [Int.one_mul, ← Int.pow_add]
    congr 1
    omega
  · rw [if_neg hk, ← ofInt_txt]
    refine (Rat.divInt_eq_divInt_iff (by decide) (Int.ne_of_gt (ten_pos _))).mpr ?_
    rw [Int.mul_one, ← Int.pow_add]
    congr 1
    omega
theorem tenZ_pos (k : Int) : 0 < tenZ k := by
  rw [tenZ_div k k.natAbs (by omega)]
  exact divInt_pos (ten_pos _) (ten_pos _)
theorem tenZ_succ (k : Int) : tenZ (k + 1) = 10 * tenZ k := by
  rw [tenZ_div k (k.natAbs + 1) (by omega), tenZ_div (k + 1) (k.natAbs + 1) (by omega)]
  rw [show (10 : Rat) = Rat.divInt 10 1 from rfl, Rat.divInt_mul_divInt, Int.one_mul]
  congr 1
  rw [show (k + 1 + ((k.natAbs + 1 : Nat) : Int)).toNat = (k + ((k.natAbs + 1 : Nat) : Int)).toNat + 1 by omega, Int.pow_succ, Int.mul_comm]
end DL
namespace DL
open PySem PySem.Spec PyProof.Rows L2 TL
theorem dI_lt {a b c d : Int} (hb : 0 < b) (hd : 0 < d) : Rat.divInt a b < Rat.divInt c d ↔ a * d < c * b := by
  have hb' : (0 : Rat) < (b : Rat) := by rw [← Rat.intCast_zero]; exact Rat.intCast_lt_intCast.mpr hb
  have hd' : (0 : Rat) < (d : Rat) := by rw [← Rat.intCast_zero]; exact Rat.intCast_lt_intCast.mpr hd
  rw [Rat.divInt_eq_div, Rat.divInt_eq_div, Rat.div_lt_iff hb']
  have e : (c : Rat) / (d : Rat) * (b : Rat) = (c * b : Int) / (d : Rat) := by
    rw [Rat.intCast_mul, Rat.div_def, Rat.div_def, Rat.mul_assoc, Rat.mul_assoc, Rat.mul_comm (d : Rat)⁻¹]
  rw [e, Rat.lt_div_iff hd', ← Rat.intCast_mul, Rat.intCast_lt_intCast]
theorem dI_le {a b c d : Int} (hb : 0 < b) (hd : 0 < d) : Rat.divInt a b ≤ Rat.divInt c d ↔ a * d ≤ c * b := by
  rw [← Rat.not_lt, dI_lt hd hb]
  exact Int.not_lt
theorem tenZ_mono {i j : Int} (h : i ≤ j) : tenZ i ≤ tenZ j := by
  obtain ⟨n, rfl⟩ : ∃ n : Nat, j = i + n := ⟨(j - i).toNat, by omega⟩
  clear h
  induction n with
  | zero => simp [Rat.le_refl]
  | succ n ih =>
    rw [show i + ((n + 1 : Nat) : Int) = i + n + 1 by omega, tenZ_succ]
    have := tenZ_pos (i + n)
    grind
theorem tenZ_add (i j : Int) : tenZ (i + j) = tenZ i * tenZ j := by
  rw [tenZ_div i i.natAbs (by omega), tenZ_div j j.natAbs (by omega), tenZ_div (i + j) (i.natAbs + j.natAbs) (by omega), Rat.divInt_mul_divInt]
  congr 1
  · rw [← Int.pow_add]; congr 1; omega
  · rw [← Int.pow_add]
def fnd (q : Rat) : Int := (nd q.num.natAbs : Int) - nd q.den
def pw10 (q : Rat) : Int := if q.abs < tenZ (fnd q) then fnd q - 1 else fnd q
theorem abs_dI (q : Rat) : q.abs = Rat.divInt (q.num.natAbs : Int) q.den := (abs_txt q).symm
theorem fnd_bounds {q : Rat} (h : q ≠ 0) : tenZ (fnd q - 1) ≤ q.abs ∧ q.abs < tenZ (fnd q + 1) := by
  have n0 : 0 < q.num.natAbs := Int.natAbs_pos.mpr fun z => h (Rat.num_eq_zero.mp z)
  have h1 := nd_up q.num.natAbs
  have h2 := nd_dn n0
  have h3 := nd_up q.den
  have h4 := nd_dn q.den_pos
  have p1 := nd_pos q.num.natAbs
  have p2 := nd_pos q.den
  rw [abs_dI]
  unfold fnd
  generalize nd q.num.natAbs = a at *
  generalize nd q.den = b at *
  generalize q.num.natAbs = n at *
  have d0 := q.den_pos
  generalize q.den = d at *
  have hd : (0 : Int) < (d : Int) := by omega
  constructor
  · rw [tenZ_div _ b (by omega), dI_le (ten_pos _) hd]
    have e : ((a : Int) - b - 1 + (b : Int)).toNat = a - 1 := by omega
    rw [e]
    have : 10 ^ (a - 1) * d ≤ n * 10 ^ b := Nat.mul_le_mul h2 (Nat.le_of_lt h3)
    exact_mod_cast this
  · rw [tenZ_div _ (b - 1) (by omega), dI_lt hd (ten_pos _)]
    have e : ((a : Int) - b + 1 + ((b - 1 : Nat) : Int)).toNat = a := by omega
    rw [e]
    have : n * 10 ^ (b - 1) < 10 ^ a * d := Nat.lt_of_lt_of_le (Nat.mul_lt_mul_of_pos_right h1 (Nat.pow_pos (by decide))) (Nat.mul_le_mul_left _ h4)
    exact_mod_cast this
theorem pw10_bounds {q : Rat} (h : q ≠ 0) : tenZ (pw10 q) ≤ q.abs ∧ q.abs < tenZ (pw10 q + 1) := by
  obtain ⟨h1, h2⟩ := fnd_bounds h
  unfold pw10
  split
  · rename_i h3
    exact ⟨h1, by rw [Int.sub_add_cancel]; exact h3⟩
  · rename_i h3
    exact ⟨Rat.not_lt.mp h3, h2⟩
end DL
namespace DL
open PySem PySem.Spec PyProof.Rows L2 TL
theorem sz_ten {n m : Nat} (h : n ≤ m) : Sz (4 * m + 1) ((10 : Int) ^ n) := by
  have h1 : (10 : Nat) ^ n ≤ 16 ^ n := Nat.pow_le_pow_left (by decide) n
  have h2 : (16 : Nat) ^ n = 2 ^ (4 * n) := by rw [Nat.pow_mul]
  have h3 : (2 : Nat) ^ (4 * n) < 2 ^ (4 * m + 1) := Nat.pow_lt_pow_right (by decide) (by omega)
  unfold Sz
  rw [Int.natAbs_pow]
  show 10 ^ n < _
  omega
end DL
namespace DL
open PySem PySem.Spec PyProof.Rows L2 TL
theorem flr_le (z : Rat) : ((flr z : Int) : Rat) ≤ z := by
  have d := den_pos z
  have h := Int.ediv_mul_le z.num (Int.ne_of_gt d)
  conv => rhs; rw [← Rat.num_divInt_den z]
  rw [← ofInt_txt]
  refine (dI_le (by decide) d).mpr ?_
  show z.num / z.den * z.den ≤ z.num * 1
  omega
theorem lt_flr (z : Rat) : z < ((flr z + 1 : Int) : Rat) := by
  have d := den_pos z
  have h := Int.lt_ediv_add_one_mul_self z.num d
  conv => lhs; rw [← Rat.num_divInt_den z]
  rw [← ofInt_txt]
  refine (dI_lt d (by decide)).mpr ?_
  show z.num * 1 < (z.num / z.den + 1) * z.den
  omega
theorem mul_div_self {p q : Rat} (hp : 0 < p) : p * (q / p) = q := by
  rw [Rat.mul_comm, Rat.div_mul_cancel (Rat.ne_of_gt hp)]
theorem abs_mul_pos {p x : Rat} (hp : 0 < p) : (p * x).abs = p * x.abs := by
  unfold Rat.abs
  by_cases h : 0 ≤ x
  · rw [if_pos h, if_pos (Rat.mul_nonneg (Rat.le_of_lt hp) h)]
  · rw [if_neg h]
    have h1 : x < 0 := Rat.not_le.mp h
    have h2 : p * x < 0 := by
      have := (Rat.mul_lt_mul_left hp).mpr h1
      rwa [Rat.mul_zero] at this
    rw [if_neg (Rat.not_le.mpr h2), Rat.mul_neg]
end DL
namespace DL
open PySem PySem.Spec PyProof.Rows L2 TL
def Wl (w : Om) (W : Addr) : Prop := ∃ a b c : Int, w W = some (.lst [.int a, .int b, .int c])
def OffW (w w' : Om) (W : Addr) : Prop := ∀ p, p ≠ W → w' p = w p
theorem OffW.trans {w w1 w2 : Om} {W : Addr} (a : OffW w w1 W) (b : OffW w1 w2 W) : OffW w w2 W := fun p h => (b p h).trans (a p h)
theorem OffW.refl {w : Om} {W : Addr} : OffW w w W := fun _ _ => rfl
def sp_well : DSp := fun ds w Q _ => ∃ (ns : List Int) (k : Int), ds = [.rl (ns.map Dt.int), .int k] ∧ 0 ≤ k ∧ k ≤ 1000 ∧ ∀ W w', w W = none → Wl w' W → OffW w w' W → Q (.ptr W) w'
def sp_take : DSp := fun ds w Q _ => ∃ (W : Addr) (n : Int), ds = [.ptr W, .int n] ∧ 0 < n ∧ Sz 200 n ∧ Wl w W ∧ ∀ (r : Int) w', 0 ≤ r → r < n → Wl w' W → OffW w w' W → Q (.int r) w'
def sp_lten : DSp := fun ds w Q _ => ∃ k : Int, ds = [.int k] ∧ 0 ≤ k ∧ k ≤ 1000 ∧ Q (.int ((10 : Int) ^ k.toNat)) w
def PrI (T B : Int) : Prop := B ≠ 0 ∧ Sz 110 T ∧ Sz 41 B
def sp_pair : DSp := fun ds w Q _ => ∃ W : Addr, ds = [.ptr W] ∧ Wl w W ∧ ∀ (T B : Int) w', PrI T B → Wl w' W → OffW w w' W → Q (.tup [.int T, .int B]) w'
def sp_lowest : DSp := fun ds w Q _ => ∃ (a b : Int), ds = [.int a, .int b] ∧ b ≠ 0 ∧ Sz 9000 b ∧ Q (.tup [.int (Rat.divInt a b).num, .int (Rat.divInt a b).den]) w
theorem wsz_take {n : Int} (h0 : 0 < n) (h : Sz 200 n) : DivP n := h.divP h0 (by decide)
theorem p30' : (10 : Int) ^ (30 : Nat) = 1000000000000000000000000000000 := by decide +kernel
theorem p12'' : (10 : Int) ^ (12 : Nat) = 1000000000000 := by decide +kernel
theorem sz110' {i : Int} (h : -(2 ^ 109) < i ∧ i < 2 ^ 109) : Sz 110 i := by
  have : i.natAbs < 2 ^ 109 := by omega
  exact Nat.lt_of_lt_of_le this (Nat.pow_le_pow_right (by decide) (by decide))
theorem sz41 {i : Int} (h : -2199023255552 < i ∧ i < 2199023255552) : Sz 41 i := by unfold Sz; omega
def TpD (d : Dt) : Prop := ∃ T : Int, d = .int T ∧ 0 ≤ T ∧ T ≤ 10 ^ 30
theorem tpI {T : Int} (h : 0 ≤ T) (h2 : T ≤ 10 ^ 30) : TpD (.int T) := ⟨T, rfl, h, h2⟩
def BpD (d : Dt) : Prop := ∃ T : Int, d = .int T ∧ 0 < T ∧ T ≤ 1000000000000
theorem bpI {T : Int} (h : 0 < T) (h2 : T ≤ 1000000000000) : BpD (.int T) := ⟨T, rfl, h, h2⟩
def T25 (d : Dt) : Prop := ∃ T : Int, d = .int T ∧ (T = 2 ∨ T = 5)
theorem if_join {c : DTT} {t u rest : DTS} {D : DEnds} {r : Rho} {w : Om} (J : Rho → Om → Prop) (h2 : ∀ r' w', J r' w' → rest D r' w') (h1 : ∀ K : Rho → Om → Prop, (∀ r' w', J r' w' → K r' w') → dIfS c t u { D with nx := K } r w) : dSeq (dIfS c t u) rest D r w := h1 (rest D) h2
theorem gif_join {i : Nat} {x : Dt} {c : DTT} {t u rest : DTS} {D : DEnds} {r : Rho} {w : Om} (J : Rho → Om → Prop) (h2 : ∀ r' w', J r' w' → rest D r' w') (h1 : ∀ K : Rho → Om → Prop, (∀ r' w', J r' w' → K r' w') → dIfS c t u { D with nx := K } (pus r i (some x)) w) : gNm i x r w (dSeq (dIfS c t u) rest D) := h1 (rest D) h2
theorem ten_le {k : Nat} {m : Nat} (h : k ≤ m) : (10 : Int) ^ k ≤ (10 : Int) ^ m := by
  have := Nat.pow_le_pow_right (n := 10) (by decide) h
  have e1 : ((10 ^ k : Nat) : Int) = (10 : Int) ^ k := Int.natCast_pow 10 k
  have e2 : ((10 ^ m : Nat) : Int) = (10 : Int) ^ m := Int.natCast_pow 10 m
  omega
end DL
namespace DL
open PySem PySem.Spec PyProof.Rows L2
def lstOf (x : Dt) (w : Om) : Option (List Dt) := match x with
  | .lst xs => some xs
  | .ptr p => match w p with
    | some (.lst xs) => some xs
    | _ => none
  | _ => none
section
variable {Z : Dx}
def catM : DR2 := fun x y w Q => ∃ xs ys, lstOf x w = some xs ∧ lstOf y w = some ys ∧ xs.length + ys.length ≤ sizeLine ∧ ∀ p, w p = none → Q (.ptr p) (put w p (.lst (xs ++ ys)))
def catL : DR2 := fun x y w Q => ∃ xs ys, lstOf x w = some xs ∧ lstOf y w = some ys ∧ xs.length + ys.length ≤ sizeLine ∧ Q (.lst (xs ++ ys)) w
end
def vfN (f : Nat) : Nat → Nat → Nat
  | 0, _ => 0
  | k + 1, n => if f ∣ n then vfN f k (n / f) + 1 else 0
def vf (f n : Nat) : Nat := vfN f n n
theorem vfN_of {f : Nat} (hf : 2 ≤ f) : ∀ {k n v m : Nat}, 0 < m → n = f ^ v * m → ¬ f ∣ m → n ≤ k → vfN f k n = v
  | 0, n, v, m, hm, e, _, hk => by
    have h1 : 0 < f ^ v := Nat.pow_pos (by omega)
    have h2 : 0 < f ^ v * m := Nat.mul_pos h1 hm
    omega
  | k + 1, n, 0, m, hm, e, hd, hk => by
    rw [Nat.pow_zero, Nat.one_mul] at e
    subst e
    unfold vfN
    rw [if_neg hd]
  | k + 1, n, v + 1, m, hm, e, hd, hk => by
    have e1 : n = f * (f ^ v * m) := by rw [e, Nat.pow_succ]; grind
    have e2 : n / f = f ^ v * m := by rw [e1]; exact Nat.mul_div_cancel_left _ (by omega)
    have h1 : 0 < f ^ v * m := Nat.mul_pos (Nat.pow_pos (by omega)) hm
    unfold vfN
    rw [if_pos ⟨_, e1⟩, e2, vfN_of hf hm rfl hd (by
      have : 2 * (f ^ v * m) ≤ f * (f ^ v * m) := Nat.mul_le_mul_right _ hf
      omega)]
theorem vf_of {f n v m : Nat} (hf : 2 ≤ f) (hm : 0 < m) (e : n = f ^ v * m) (hd : ¬ f ∣ m) : vf f n = v := vfN_of hf hm e hd (Nat.le_refl _)
def plc (d : Nat) : Dt := if d = 2 ^ vf 2 d * 5 ^ vf 5 d then .int ((max (vf 2 d) (vf 5 d) : Nat) : Int) else .non
theorem no2_5 {b m : Nat} (h : ¬ 2 ∣ m) : ¬ 2 ∣ 5 ^ b * m := fun z =>
  h (Nat.Coprime.dvd_of_dvd_mul_left (Nat.Coprime.pow_right b (by decide : Nat.Coprime 2 5)) z)
theorem no5_2 {a m : Nat} (h : ¬ 5 ∣ m) : ¬ 5 ∣ 2 ^ a * m := fun z =>
  h (Nat.Coprime.dvd_of_dvd_mul_left (Nat.Coprime.pow_right a (by decide : Nat.Coprime 5 2)) z)
theorem has_fac {f : Nat} (hf : 2 ≤ f) {n : Nat} (hn : 0 < n) : ∃ v m, n = f ^ v * m ∧ 0 < m ∧ ¬ f ∣ m := by
  induction n using Nat.strongRecOn with
  | _ n ih =>
    by_cases h : f ∣ n
    · obtain ⟨c, rfl⟩ := h
      have hc : 0 < c := Nat.pos_of_mul_pos_left hn
      have hl : c < f * c := by have : 2 * c ≤ f * c := Nat.mul_le_mul_right _ hf; omega
      obtain ⟨v, m, e, h1, h2⟩ := ih c hl hc
      exact ⟨v + 1, m, by rw [e, Nat.pow_succ]; grind, h1, h2⟩
    · exact ⟨0, n, by rw [Nat.pow_zero, Nat.one_mul], hn, h⟩
theorem pow_dvd_le {f a k m : Nat} (hf : 2 ≤ f) (hm : 0 < m) (hd : ¬ f ∣ m) (h : f ^ a ∣ f ^ k * m) : a ≤ k := by
  obtain ⟨c, hc⟩ := h
  have c0 : 0 < c := by
    refine Nat.pos_of_ne_zero fun z => ?_
    rw [z, Nat.mul_zero] at hc
    have : 0 < f ^ k * m := Nat.mul_pos (Nat.pow_pos (by omega)) hm
    omega
  obtain ⟨v, m', e, h1, h2⟩ := has_fac hf c0
  have a2 : vf f (f ^ k * m) = a + v := vf_of hf h1 (by rw [hc, e, Nat.pow_add, Nat.mul_assoc]) h2
  have a3 : vf f (f ^ k * m) = k := vf_of hf hm rfl hd
  omega
theorem ten_fac (n : Nat) : 10 ^ n = 2 ^ n * 5 ^ n := by rw [← Nat.mul_pow]
theorem plc_dvd {d P : Nat} (h : plc d = .int P) : d ∣ 10 ^ P := by
  unfold plc at h
  split at h
  · rename_i e
    have hP : max (vf 2 d) (vf 5 d) = P := by
      injection h with h; exact Int.ofNat_inj.mp h
    rw [ten_fac, e]
    have h1 : vf 2 d ≤ P := by omega
    have h2 : vf 5 d ≤ P := by omega
    generalize vf 2 d = a at *
    generalize vf 5 d = b at *
    exact Nat.mul_dvd_mul (Nat.pow_dvd_pow 2 h1) (Nat.pow_dvd_pow 5 h2)
  · cases h
theorem plc_least {d P : Nat} (h : plc d = .int ((P + 1 : Nat) : Int)) : ¬ d ∣ 10 ^ P := by
  unfold plc at h
  split at h
  · rename_i e
    have hP : max (vf 2 d) (vf 5 d) = P + 1 := by
      injection h with h; exact Int.ofNat_inj.mp h
    intro hd
    have d2 : 2 ^ vf 2 d ∣ d := ⟨5 ^ vf 5 d, e⟩
    have d5 : 5 ^ vf 5 d ∣ d := ⟨2 ^ vf 2 d, by rw [Nat.mul_comm]; exact e⟩
    have h2 : vf 2 d ≤ P := pow_dvd_le (f := 2) (m := 5 ^ P) (by decide) (Nat.pow_pos (by decide)) (by have := no2_5 (b := P) (m := 1) (by decide); rwa [Nat.mul_one] at this) (by rw [← ten_fac]; exact Nat.dvd_trans d2 hd)
    have h5 : vf 5 d ≤ P := pow_dvd_le (f := 5) (m := 2 ^ P) (by decide) (Nat.pow_pos (by decide)) (by have := no5_2 (a := P) (m := 1) (by decide); rwa [Nat.mul_one] at this) (by rw [Nat.mul_comm, ← ten_fac]; exact Nat.dvd_trans d5 hd)
    omega
  · cases h
end DL
namespace DL
open PySem PySem.Spec PyProof.Rows L2
theorem int_ge {d : Int} {a : Int} (h : ((a - 1 : Int) : Rat) < (d : Rat)) : a ≤ d := by
  have := Rat.intCast_lt_intCast.mp h
  omega
theorem int_le_of {d : Int} {a : Int} (h : (d : Rat) < ((a + 1 : Int) : Rat)) : d ≤ a := by
  have := Rat.intCast_lt_intCast.mp h
  omega
theorem abs_lt' {x b : Rat} : x.abs < b ↔ -b < x ∧ x < b := by
  unfold Rat.abs
  by_cases h : 0 ≤ x
  · rw [if_pos h]; constructor
    · intro h1; exact ⟨by grind, h1⟩
    · exact fun h1 => h1.2
  · rw [if_neg h]; constructor
    · intro h1; exact ⟨by grind, by grind⟩
    · intro h1; grind
theorem abs_eq' {x b : Rat} (hb : 0 ≤ b) : x.abs = b ↔ x = b ∨ x = -b := by
  unfold Rat.abs
  by_cases h : 0 ≤ x
  · rw [if_pos h]; constructor
    · exact .inl
    · rintro (h1 | h1) <;> grind
  · rw [if_neg h]; constructor
    · intro h1; right; grind
    · rintro (h1 | h1) <;> grind
theorem hev_iff {p q : Rat} {c : Int} (hp : 0 < p) : cntBy .heven q p = c ↔ 2 * (q - p * (c : Rat)).abs < p ∨ (2 * (q - p * (c : Rat)).abs = p ∧ c % 2 = 0) := by
  have h1 := flr_le (q / p)
  have h2 := lt_flr (q / p)
  have h3 := mul_div_self (q := q) hp
  generalize hn : flr (q / p) = n at *
  obtain ⟨x, hx⟩ : ∃ x, x = q / p - (n : Rat) := ⟨_, rfl⟩
  have x0 : 0 ≤ x := by grind
  have x1 : x < 1 := by rw [Rat.intCast_add] at h2; grind
  have eq : q = p * ((n : Rat) + x) := by rw [← h3, hx]; congr 1; grind
  rw [cnt_grid (y := .heven) (Rat.ne_of_gt hp) eq x0 x1]
  have e1 : q - p * (c : Rat) = p * (((n - c : Int) : Rat) + x) := by rw [eq, Rat.intCast_sub]; grind
  rw [e1, abs_mul_pos hp]
  have r1 : (2 * (p * (((n - c : Int) : Rat) + x).abs) < p) ↔ (((n - c : Int) : Rat) + x).abs < 1 / 2 := by
    have e : 2 * (p * (((n - c : Int) : Rat) + x).abs) = p * (2 * (((n - c : Int) : Rat) + x).abs) := by grind
    rw [e]
    have : p * (2 * (((n - c : Int) : Rat) + x).abs) < p * 1 ↔ 2 * (((n - c : Int) : Rat) + x).abs < 1 := Rat.mul_lt_mul_left hp
    rw [Rat.mul_one] at this
    rw [this]
    constructor <;> intro h <;> grind
  have r2 : (2 * (p * (((n - c : Int) : Rat) + x).abs) = p) ↔ (((n - c : Int) : Rat) + x).abs = 1 / 2 := by
    have e : 2 * (p * (((n - c : Int) : Rat) + x).abs) = p * (2 * (((n - c : Int) : Rat) + x).abs) := by grind
    rw [e]
    constructor
    · intro h
      have := mul_left_cancel' (Rat.ne_of_gt hp) (h.trans (Rat.mul_one p).symm)
      grind
    · intro h
      rw [h]; grind
  rw [r1, r2, abs_lt', abs_eq' (by decide +kernel)]
  have go : Wy.go .heven n x = if x = 1 / 2 then decide (n % 2 = 1) else decide (1 / 2 < x) := by
    show byHalf x (decide (n % 2 = 1)) = _
    unfold byHalf
    by_cases z : x = 1 / 2
    · rw [if_pos z, if_pos ((half_eq x).mpr z)]
    · rw [if_neg z, if_neg fun h => z ((half_eq x).mp h)]
      exact decide_eq_decide.mpr (half_lt x)
  rw [go]
  obtain ⟨d, hd⟩ : ∃ d, d = n - c := ⟨_, rfl⟩
  have dc : c = n - d := by omega
  rw [← hd]
  clear hd r1 r2 go e1
  subst dc
  have two : ∀ (h : -(1/2 : Rat) ≤ (d : Rat) + x ∧ (d : Rat) + x ≤ 1/2), d = 0 ∨ d = -1 := fun h => by
    have a : -1 ≤ d := int_ge (a := -1) (by
      have : ((-1 - 1 : Int) : Rat) = -2 := by decide +kernel
      rw [this]; grind)
    have b : d ≤ 0 := int_le_of (a := 0) (by
      have : ((0 + 1 : Int) : Rat) = 1 := by decide +kernel
      rw [this]; grind)
    omega
  have c0 : ((0 : Int) : Rat) = 0 := rfl
  have c1 : ((-1 : Int) : Rat) = -1 := by decide +kernel
  constructor
  · intro h
    by_cases z0 : x = 0
    · rw [if_pos z0] at h
      have : d = 0 := by omega
      subst this
      left; rw [c0, z0]; decide +kernel
    · rw [if_neg z0] at h
      by_cases zh : x = 1 / 2
      · rw [if_pos zh] at h
        right
        split at h
        · rename_i hh
          have hh := of_decide_eq_true hh
          have : d = -1 := by omega
          subst this
          refine ⟨.inr (by rw [c1, zh]; decide +kernel), by omega⟩
        · rename_i hh
          have hh : ¬ n % 2 = 1 := by simpa using hh
          have : d = 0 := by omega
          subst this
          refine ⟨.inl (by rw [c0, zh]; decide +kernel), by omega⟩
      · rw [if_neg zh] at h
        left
        split at h
        · rename_i hh
          have hh := of_decide_eq_true hh
          have : d = -1 := by omega
          subst this
          rw [c1]; constructor <;> grind
        · rename_i hh
          have hh : ¬ 1 / 2 < x := by simpa using hh
          have : d = 0 := by omega
          subst this
          rw [c0]; constructor <;> grind
  · intro h
    have d2 : d = 0 ∨ d = -1 := by
      rcases h with h | ⟨h | h, _⟩
      · exact two ⟨Rat.le_of_lt h.1, Rat.le_of_lt h.2⟩
      · exact two (by rw [h]; decide +kernel)
      · exact two (by rw [h]; decide +kernel)
    by_cases z0 : x = 0
    · rw [if_pos z0]
      rcases d2 with rfl | rfl
      · omega
      · exfalso
        rw [c1, z0] at h
        rcases h with h | ⟨h | h, _⟩ <;> grind
    · rw [if_neg z0]
      by_cases zh : x = 1 / 2
      · rw [if_pos zh]
        rcases d2 with rfl | rfl
        · have ce : (n - 0) % 2 = 0 := by
            rcases h with h | ⟨_, h⟩
            · exfalso; rw [c0, zh] at h; grind
            · exact h
          rw [decide_eq_false (by omega)]; simp
        · have ce : (n - -1) % 2 = 0 := by
            rcases h with h | ⟨_, h⟩
            · exfalso; rw [c1, zh] at h; grind
            · exact h
          rw [decide_eq_true (by omega)]; simp
      · rw [if_neg zh]
        rcases d2 with rfl | rfl
        · have : ¬ 1 / 2 < x := by
            rw [c0] at h
            rcases h with h | ⟨h | h, _⟩ <;> grind
          rw [decide_eq_false this]; simp
        · have : 1 / 2 < x := by
            rw [c1] at h
            rcases h with h | ⟨h | h, _⟩ <;> grind
          rw [decide_eq_true this]; simp
def lead (k p : Rat) (N : Nat) (a : Int) : Bool := decide (p * (cntBy .heven (tenZ (-(N : Int)) * (a : Rat)) p : Rat) = k)
def nearL (k : Rat) (N : Nat) : List Int := if k * tenZ N = ((flr (k * tenZ N) : Int) : Rat) then [flr (k * tenZ N)] else [flr (k * tenZ N), flr (k * tenZ N) + 1]
def goodL (k p : Rat) (N : Nat) : List Int := (nearL k N).filter (lead k p N)
def pickL (k p : Rat) (N : Nat) : List Int := if (goodL k p N).length = 2 ∧ ((flr (k * tenZ N) + 1 : Int) : Rat) - k * tenZ N < k * tenZ N - ((flr (k * tenZ N) : Int) : Rat) then (goodL k p N).reverse else goodL k p N
theorem tenZ_inv (N : Nat) : tenZ (-(N : Int)) * tenZ (N : Int) = 1 := by
  rw [← tenZ_add, show -(N : Int) + (N : Int) = 0 by omega]
  decide +kernel
theorem lead_iff {k p : Rat} {N : Nat} {a c : Int} (hp : 0 < p) (hk : k = p * (c : Rat)) : lead k p N a = true ↔ 2 * (tenZ (-(N : Int)) * (a : Rat) - k).abs < p ∨ (2 * (tenZ (-(N : Int)) * (a : Rat) - k).abs = p ∧ c % 2 = 0) := by
  unfold lead
  rw [hk, ← hev_iff hp, decide_eq_true_iff, mul_inj (Rat.ne_of_gt hp)]
theorem off_eq (k : Rat) (N : Nat) (a : Int) : tenZ (-(N : Int)) * (a : Rat) - k = tenZ (-(N : Int)) * ((a : Rat) - k * tenZ N) := by
  have := tenZ_inv N
  grind
theorem off_abs (k : Rat) (N : Nat) (a : Int) : (tenZ (-(N : Int)) * (a : Rat) - k).abs = tenZ (-(N : Int)) * ((a : Rat) - k * tenZ N).abs := by
  rw [off_eq, abs_mul_pos (tenZ_pos _)]
theorem lead_near {k p : Rat} {N : Nat} {a b c : Int} (hp : 0 < p) (hk : k = p * (c : Rat)) (h : lead k p N a = true) (hn : ((b : Rat) - k * tenZ N).abs ≤ ((a : Rat) - k * tenZ N).abs) : lead k p N b = true := by
  rw [lead_iff hp hk, off_abs] at *
  have t := tenZ_pos (-(N : Int))
  have m := Rat.mul_le_mul_of_nonneg_left hn (Rat.le_of_lt t)
  by_cases e : 2 * (tenZ (-(N : Int)) * ((b : Rat) - k * tenZ N).abs) < p
  · exact .inl e
  · rcases h with h | ⟨h, hc⟩
    · exfalso; grind
    · exact .inr ⟨by grind, hc⟩
theorem good_of_any {k p : Rat} {N : Nat} {a c : Int} (hp : 0 < p) (hk : k = p * (c : Rat)) (h : lead k p N a = true) : goodL k p N ≠ [] := by
  have h1 := flr_le (k * tenZ N)
  have h2 := lt_flr (k * tenZ N)
  have mem : ∀ b, b ∈ nearL k N → ((b : Rat) - k * tenZ N).abs ≤ ((a : Rat) - k * tenZ N).abs → goodL k p N ≠ [] := fun b hb hn e => by
    have := List.mem_filter.mpr ⟨hb, lead_near hp hk h hn⟩
    unfold goodL at e
    rw [e] at this
    cases this
  by_cases z : k * tenZ N = ((flr (k * tenZ N) : Int) : Rat)
  · refine mem (flr (k * tenZ N)) (by unfold nearL; rw [if_pos z]; exact List.mem_singleton.mpr rfl) ?_
    have e : ((flr (k * tenZ N) : Int) : Rat) - k * tenZ N = 0 := by rw [← z]; grind
    rw [e]
    have : Rat.abs 0 = 0 := by decide +kernel
    rw [this]
    unfold Rat.abs
    split <;> grind
  · by_cases l : a ≤ flr (k * tenZ N)
    · refine mem (flr (k * tenZ N)) (by unfold nearL; rw [if_neg z]; exact List.mem_cons_self) ?_
      have l' : (a : Rat) ≤ ((flr (k * tenZ N) : Int) : Rat) := Rat.intCast_le_intCast.mpr l
      unfold Rat.abs
      split <;> split <;> grind
    · refine mem (flr (k * tenZ N) + 1) (by unfold nearL; rw [if_neg z]; exact List.mem_cons_of_mem _ (List.mem_singleton.mpr rfl)) ?_
      have l' : ((flr (k * tenZ N) + 1 : Int) : Rat) ≤ (a : Rat) := Rat.intCast_le_intCast.mpr (by omega)
      unfold Rat.abs
      split <;> split <;> grind
theorem good_fine {k p : Rat} {N : Nat} {c : Int} (hp : 0 < p) (hk : k = p * (c : Rat)) (h : 2 * tenZ (-(N : Int)) ≤ p) : goodL k p N ≠ [] := by
  refine good_of_any (a := flr (k * tenZ N)) hp hk ?_
  rw [lead_iff hp hk, off_abs]
  have h1 := flr_le (k * tenZ N)
  have h2 := lt_flr (k * tenZ N)
  have t := tenZ_pos (-(N : Int))
  have e : (((flr (k * tenZ N) : Int) : Rat) - k * tenZ N).abs < 1 := by
    rw [abs_lt']
    rw [Rat.intCast_add] at h2
    constructor <;> grind
  have m := (Rat.mul_lt_mul_left t).mpr e
  left
  grind
theorem pick_mem {k p : Rat} {N : Nat} {a : Int} (h : a ∈ pickL k p N) : a ∈ goodL k p N := by
  unfold pickL at h
  split at h
  · exact List.mem_reverse.mp h
  · exact h
structure ShOk (k p : Rat) (f : Int) (N : Nat) : Prop where
  hd : ∃ r, pickL k p N = f :: r
  least : ∀ M, M < N → goodL k p M = []
theorem ShOk.lead {k p : Rat} {f : Int} {N : Nat} (h : ShOk k p f N) : lead k p N f = true := by
  obtain ⟨r, e⟩ := h.hd
  have m : f ∈ pickL k p N := by rw [e]; exact List.mem_cons_self
  exact (List.mem_filter.mp (pick_mem m)).2
theorem ShOk.no {k p : Rat} {f : Int} {N M : Nat} {a c : Int} (h : ShOk k p f N) (hp : 0 < p) (hk : k = p * (c : Rat)) (hM : M < N) : DL.lead k p M a = false := by
  cases e : DL.lead k p M a with
  | false => rfl
  | true => exact absurd (h.least M hM) (good_of_any hp hk e)
def papD (k : Rat) : Nat → Dt
  | 0 => .non
  | N + 1 => .tup [.int (flr (k * tenZ N)), .int (flr (k * tenZ N) + 1)]
end DL
namespace DL
open PySem PySem.Spec PyProof.Rows L2
section
variable {Z : Dx} {a b c : Expr} {ta tb tc : DTE} {pos : Pos}
def dChain (rd rd' : DR2) (ta tb tc : DTE) : DTE := fun r w Q => ta r w fun x w1 => tb r w1 fun y w2 => rd x y w2 fun z w3 => match z with
  | .bl k => br k (tc r w3 fun v w4 => rd' y v w4 Q) (Q (.bl false) w3)
  | _ => False
end
def areNext (k : Rat) (M : Nat) : Dt → Bool
  | .tup [.int l, .int h] => decide (h = l + 1) && (decide ((l : Rat) < k * tenZ M) && decide (k * tenZ M < (h : Rat)))
  | _ => false
def anyBack (k p : Rat) (M : Nat) : Dt → Bool
  | .tup [.int l, .int h] => lead k p M l || lead k p M h
  | _ => false
def mostP (p : Rat) : Int := if 1 - pw10 p > 0 then 1 - pw10 p else 0
theorem mostP_fine {p : Rat} (hp : 0 < p) : 2 * tenZ (-(mostP p)) ≤ p := by
  have h0 : p ≠ 0 := Rat.ne_of_gt hp
  obtain ⟨h1, _⟩ := pw10_bounds h0
  have e : p.abs = p := if_pos (Rat.le_of_lt hp)
  rw [e] at h1
  have h2 : tenZ (-(mostP p)) ≤ tenZ (pw10 p - 1) := tenZ_mono (by unfold mostP; split <;> omega)
  have h3 := tenZ_succ (pw10 p - 1)
  rw [Int.sub_add_cancel] at h3
  have := tenZ_pos (pw10 p - 1)
  grind
theorem ShOk.most {k p : Rat} {f : Int} {N : Nat} {c : Int} (h : ShOk k p f N) (hp : 0 < p) (hk : k = p * (c : Rat)) : (N : Int) ≤ mostP p := by
  refine Classical.byContradiction fun z => ?_
  have m0 : 0 ≤ mostP p := by unfold mostP; split <;> omega
  have hm : ((mostP p).toNat : Int) = mostP p := by omega
  exact good_fine (N := (mostP p).toNat) hp hk (by rw [hm]; exact mostP_fine hp) (h.least (mostP p).toNat (by omega))
theorem ShOk.next {k p : Rat} {f : Int} {N : Nat} {c : Int} (h : ShOk k p f (N + 1)) (hp : 0 < p) (hk : k = p * (c : Rat)) : areNext k N (papD k (N + 1)) = true ∧ anyBack k p N (papD k (N + 1)) = false := by
  have h1 := flr_le (k * tenZ N)
  have h2 := lt_flr (k * tenZ N)
  have no : ∀ a, DL.lead k p N a = false := fun a => h.no hp hk (Nat.lt_succ_self N)
  refine ⟨?_, by show (DL.lead k p N _ || DL.lead k p N _) = false; rw [no, no]; rfl⟩
  show (decide _ && (decide _ && decide _)) = true
  rw [decide_eq_true rfl, Bool.true_and, decide_eq_true h2, Bool.and_true]
  refine decide_eq_true (Rat.lt_of_le_of_ne h1 fun e => ?_)
  have l : DL.lead k p N (flr (k * tenZ N)) = true := by
    rw [lead_iff hp hk, off_abs, e]
    have : (k * tenZ N - k * tenZ N).abs = 0 := by rw [Rat.sub_self]; decide +kernel
    rw [this, Rat.mul_zero, Rat.mul_zero]
    exact .inl hp
  rw [no] at l
  cases l
theorem lead_neg {k p : Rat} {N : Nat} {a c : Int} (hp : 0 < p) (hk : k = p * (c : Rat)) (h : DL.lead k p N a = true) : DL.lead (-k) p N (-a) = true := by
  have hk' : -k = p * ((-c : Int) : Rat) := by rw [hk, Rat.intCast_neg, Rat.mul_neg]
  rw [lead_iff hp hk] at h
  rw [lead_iff hp hk']
  have e : (tenZ (-(N : Int)) * ((-a : Int) : Rat) - -k).abs = (tenZ (-(N : Int)) * (a : Rat) - k).abs := by
    rw [Rat.intCast_neg, Rat.mul_neg]
    have : -(tenZ (-(N : Int)) * (a : Rat)) - -k = -(tenZ (-(N : Int)) * (a : Rat) - k) := by grind
    rw [this]
    unfold Rat.abs
    split <;> split <;> grind
  rw [e]
  rcases h with h | ⟨h, h2⟩
  · exact .inl h
  · exact .inr ⟨h, by omega⟩
theorem ShOk.same {k p : Rat} {f f' : Int} {N N' : Nat} {c : Int} (h : ShOk k p f N) (h' : ShOk (-k) p f' N') (hp : 0 < p) (hk : k = p * (c : Rat)) : N' = N := by
  have hk' : -k = p * ((-c : Int) : Rat) := by rw [hk, Rat.intCast_neg, Rat.mul_neg]
  have a : ¬ N < N' := fun l => by
    have := h'.no (a := -f) hp hk' l
    rw [lead_neg hp hk h.lead] at this; cases this
  have b : ¬ N' < N := fun l => by
    have := h.no (a := -f') hp hk l
    have e := lead_neg hp hk' h'.lead
    rw [Rat.neg_neg] at e
    rw [e] at this; cases this
  omega
end DL
namespace DL
open PySem PySem.Spec PyProof.Rows L2
def arL (L : Int) : List Int := [L - 1, L, L + 1, L + 2]
def gL (k p : Rat) (M : Nat) : List Int := (arL (flr (k * tenZ M))).filter (lead k p M)
end DL
namespace DL
open PySem PySem.Spec PyProof.Rows L2
theorem sz_zero {n : Nat} : Sz n 0 := Nat.pow_pos (by decide)
theorem SzR.abs {n : Nat} {q : Rat} (h : SzR n q) : SzR n q.abs := by
  rw [abs_dI]
  exact szr_divInt (by unfold Sz; rw [Int.natAbs_natCast]; exact h.1) h.2 (Int.ne_of_gt (den_pos q))
def Wy.turn : Wy → Wy
  | .high => .low
  | .low => .high
  | y => y
end DL
namespace DL
open PySem PySem.Spec PyProof.Rows L2
def WkAt : Bool → Heap → Addr → Addr → Nat → Prop
  | true, h, i, l, k => h.IsTupleIter i l k
  | false, h, i, l, k => h.IsListIter i l k
def SeqA : Bool → Heap → Addr → Array Value → Prop
  | true, h, l, xs => h.IsTuple l xs
  | false, h, l, xs => h.IsList l xs
theorem WkAt.ext {u : Bool} {h h' : Heap} {a b l : Addr} {i : Nat} (x : WkAt u h a l i) (e : Heap.ExtBut b h h') (n : a ≠ b) : WkAt u h' a l i := by
  cases u
  · exact Heap.IsListIter.extBut x e n
  · exact Heap.IsTupleIter.extBut x e n
theorem WkAt.up {u : Bool} {h h' : Heap} {a l : Addr} {i : Nat} (x : WkAt u h a l i) (e : ∀ o, h.get? a = some o → h'.get? a = some o) : WkAt u h' a l i := by
  cases u
  · exact Heap.IsListIter.at x e
  · exact Heap.IsTupleIter.at x e
theorem WkAt.ob {u : Bool} {h : Heap} {a l : Addr} {i : Nat} (x : WkAt u h a l i) : ∃ o, h.get? a = some o ∧ ∀ v, o.data ≠ .cell v := by
  cases u
  · obtain ⟨o, e, _, d⟩ := (show h.IsListIter a l i from x); exact ⟨o, e, fun v q => by rw [d] at q; cases q⟩
  · obtain ⟨o, e, _, d⟩ := (show h.IsTupleIter a l i from x); exact ⟨o, e, fun v q => by rw [d] at q; cases q⟩
theorem SeqA.ext {u : Bool} {h h' : Heap} {l b : Addr} {xs : Array Value} (x : SeqA u h l xs) (e : Heap.ExtBut b h h') (n : l ≠ b) : SeqA u h' l xs := by
  cases u
  · exact Heap.IsList.extBut x e n
  · exact Heap.IsTuple.extBut x e n
def SqS : Bool → PySem.W.Frag → Hp → Addr → List V → Prop
  | true, K, H, a, xs => SqT K H a xs
  | false, K, H, a, xs => SqL K H a xs
theorem SqS.at {X : Cx} {pins : List (Addr × Obj)} {σ : L2.St} {H : Hp} {s : Shared} {u : Bool} {a : Addr} {xs : List V} (I : Inv X pins σ H s) (q : SqS u X.K H a xs) : ∃ its : List Value, Vals xs its ∧ SeqA u s.heap a its.toArray := by
  cases u
  · obtain ⟨its, r, p, _⟩ := I.list q; exact ⟨its, r, p.isList⟩
  · obtain ⟨its, r, p, _⟩ := I.tuple q; exact ⟨its, r, p⟩
theorem SqS.inj {X : Cx} {pins : List (Addr × Obj)} {σ : L2.St} {H : Hp} {s : Shared} {u : Bool} {a : Addr} {xs ys : List V} (I : Inv X pins σ H s) (p : SqS u X.K H a xs) (q : SqS u X.K H a ys) : xs = ys := by
  cases u
  · exact I.list_inj p q
  · exact I.tuple_inj p q
end DL
namespace DL
open PySem PySem.Spec PyProof.Rows L2
def seqOf (x : Dt) (w : Om) : Option (List Dt) := match x with
  | .lst xs => some xs
  | .rl xs => some xs
  | .tup xs => some xs
  | .ptr p => match w p with
    | some (.lst xs) => some xs
    | _ => none
  | _ => none
def zipD (xs ys : List Dt) : List Dt := List.zipWith (fun x y => .tup [x, y]) xs ys
section
variable {Z : Dx} {e e2 tg : Expr} {ta : DTA} {p pos tp : Pos} {elts : List Expr} {n : Nat}
def dZip (ta : DTA) : DTI := fun r w R => ta r w fun ds w1 => match ds with
  | [x, y] => ∃ xs ys, seqOf x w1 = some xs ∧ seqOf y w1 = some ys ∧ xs.length = ys.length ∧ R (zipD xs ys) (fun w => seqOf x w = some xs ∧ seqOf y w = some ys) w1
  | _ => False
end
end DL
namespace DL
open PySem PySem.Spec PyProof.Rows L2
section
variable {Z : Dx} {k : Nat} {e e2 tg o : Expr} {es : List Expr} {te : DTE} {ta : DTA} {p pos tp : Pos} {elts : List Expr} {n : Nat}
def enuD (xs : List Dt) : List Dt := (List.range xs.length).zipWith (fun (i : Nat) x => .tup [.int i, x]) xs
def dEnum (ta : DTA) : DTI := fun r w R => ta r w fun ds w1 => match ds with
  | [x] => ∃ xs, lstOf x w1 = some xs ∧ R (enuD xs) (fun w => lstOf x w = some xs) w1
  | _ => False
def dFrz (te : DTE) : DTE := fun r w Q => te r w fun x w1 => match x with
  | .ptr q => ∃ xs, w1 q = some (.lst xs) ∧ Q (.lst xs) (cut w1 q)
  | _ => False
theorem de_frz (he : DE Z e te) : DE Z e (dFrz te) := by
  obtain ⟨_, pe, l⟩ := he.ex
  refine ⟨_, pe, fun r w s H Q QL S h kk => ?_⟩
  refine l r w s H _ _ S h fun v d H1 w1 A1 r1 q1 => ?_
  cases r1 with
  | ptr =>
    obtain ⟨xs, hw, q⟩ := q1
    exact kk _ _ H1 _ (A1.trans (A1.om.cut _)) (Frz.rp .lst A1.om hw) q
  | _ => exact (show False from q1).elim
end
end DL
namespace DL
open PySem PySem.Spec PyProof.Rows L2
section
variable {prog : Program} {w : World} {A : Around} {E : Value → Shared → Prop} {s : Shared} {K : PySem.W.Frag} {x C L f : Addr} {h₀ : Heap} {m : Str → Option Value} {ox : Obj} {od : Option Obj} {b tb : Value}
def NeBack (Q : Value → Shared → Prop) (v : Value) (s' : Shared) : Prop := match v with
  | .bool c => Q (.bool (!c)) s'
  | _ => False
theorem cmp_ne {Q : Value → Shared → Prop} (hu : A.units + 1 < cLine) (G : Fr h₀ L s.heap m) (X₀ : K.In h₀) (I : PySem.W.InstAt s.heap x ox C od) (hb : PySem.W.Looks (model prog w) s.heap (typeOf b) tb) (hn : PySem.W.notFirst K C tb = true)
    (hs : PySem.W.findIn K (.ref C) "__ne__" = some (some (.builtin "object.__ne__"))) (ho : PySem.W.mroIn K C (.type "object") = some true) (he : PySem.W.findIn K (.ref C) "__eq__" = some (some (.ref f))) (hf : PySem.W.isFn K (.ref f) = true)
    (h : wpAny (model prog w) A.in1 (call (.ref f) [.ref x, b]) (NeBack Q) E s) : wpAny (model prog w) A (richCompare .NotEq (.ref x) b) Q E s := by
  have X := X₀.keeps G.keep
  have inner : wpAny (model prog w) A.in1 (Builtin.«object.__ne__» ⟨[.ref x, b], []⟩) (fun r s' => ∃ v, r = .done (.ret v) ∧ v ≠ .notImplemented ∧ Q v s') E s := by
    unfold Builtin.«object.__ne__»
    repeat (first | with_reducible refine wpAny_cRoomFor hu ?_ | with_reducible refine PySem.W.ifBound_K X I he hf (wpAny_mono h (fun v s' q => ?_) fun _ _ e => e) | wp_step)
    cases v <;> first | exact q.elim | skip
    rename_i c
    exact wpAny_bind (wpAny_truthy_bool (wpAny_pure ⟨_, rfl, (fun z => nomatch z), q⟩))
  have called : wpAny (model prog w) A (call (.builtin "object.__ne__") [.ref x, b]) (fun v s' => v ≠ .notImplemented ∧ Q v s') E s :=
    wpAny_call (codeAny_call_builtin F.cmp_object.ne.plain F.cmpEntry_ne (PySem.W.check_slot F.cmpKind_ne F.cmpSplit_ne (I.type.andThen (PySem.W.looks_mroIn X ho)) (F.cmpArgs_ne _ _) (wpAny_mono inner (fun r s' ⟨v, e, q⟩ => by subst e; exact q) fun _ _ e => e)))
  have spec : wpAny (model prog w) A (callSpecialIfBound? (.ref x) "__ne__" [b]) (fun r s' => ∃ v, r = some v ∧ v ≠ .notImplemented ∧ Q v s') E s := by
    simp only [callSpecialIfBound?, bindSpecialIfBound?]
    refine wpAny_holding (wpAny_bind (wpAny_bind (wpAny_bind (I.type.here ((PySem.W.looks_findIn X hs).here ?_)))))
    refine wpAny_bind (wpAny_askSetting (wpAny_ite ?_))
    have fin : wpAny (model prog w) A (call (.builtin "object.__ne__") ([.ref x] ++ [b]) >>= fun v => pure (some v)) (fun r s' => ∃ v, r = some v ∧ v ≠ .notImplemented ∧ Q v s') E s :=
      wpAny_bind (wpAny_mono called (fun v s' q => wpAny_pure ⟨v, rfl, q⟩) fun _ _ e => e)
    split
    · exact wpAny_bind (wpAny_of_eq (F.cmp_object.ne.bind _) (wpAny_pure (by exact fin)))
    · exact wpAny_tryCatch (wpAny_bind (wpAny_of_eq (F.cmp_object.ne.bind _) (wpAny_pure (by exact fin))))
  have one : wpAny (model prog w) A (tryCompare (.ref x) "__ne__" b) (fun r s' => ∃ v, r = some v ∧ Q v s') E s := by
    unfold tryCompare
    refine wpAny_bind (wpAny_mono spec (fun r s' z => ?_) fun _ _ e => e)
    obtain ⟨v, rfl, n, q⟩ := z
    cases v <;> first | exact absurd rfl n | exact wpAny_pure ⟨_, rfl, q⟩
  unfold richCompare
  simp only [oneThing_ref]
  refine wpAny_holding (wpAny_bind (wpAny_cRoomFor (by omega) (wpAny_bind (I.type.here (wpAny_bind (hb.here ?_))))))
  have last : ∀ {R : Option Value → Sem Value}, (∀ v, R (some v) = pure v) → wpAny (model prog w) A (tryCompare (.ref x) "__ne__" b >>= R) Q E s := fun hR => wpAny_bind (wpAny_mono one (fun r s' ⟨v, e, q⟩ => by subst e; rw [hR]; exact wpAny_pure q) fun _ _ e => e)
  split
  · rename_i q
    have e : PySem.W.subIn K tb (.ref C) = some false := by
      rcases Bool.or_eq_true_iff.mp hn with e | e
      · rw [beq_iff_eq.mp e] at q; simp at q
      · exact beq_iff_eq.mp e
    refine wpAny_bind ((PySem.W.looks_subIn X e).here ?_)
    simp only [Bool.false_eq_true, if_false]
    exact last fun v => rfl
  · refine wpAny_bind (wpAny_pure ?_)
    simp only [Bool.false_eq_true, if_false]
    exact last fun v => rfl
end
end DL
namespace DL
open PySem PySem.Spec PyProof.Rows L2
def fgo (be : Nat → Rat) : Nat → List Nat → Nat
  | b, [] => b
  | b, x :: l => fgo be (if be b < be x then x else b) l
def fg (be : Nat → Rat) : List Nat → Nat
  | [] => 0
  | b :: l => fgo be b l
end DL
namespace DL
open PySem PySem.Spec PyProof.Rows L2
def PtQ (q : Rat) : Prop := q.num.natAbs < 2 ^ 101 ∧ q.den < 2 ^ 41
def PtsOk (qs : List Rat) : Prop := qs.length ≤ 21 ∧ ∀ q ∈ qs, PtQ q
theorem PtsOk.take {qs : List Rat} (h : PtsOk qs) (i : Nat) : PtsOk (qs.take i) := ⟨by rw [List.length_take]; have := h.1; omega, fun q hq => h.2 q (List.mem_of_mem_take hq)⟩
def StQ (p : Rat) : Prop := 0 < p ∧ SzR 90 p
def Grow (w w' : Om) : Prop := ∀ x m, w x = some m → w' x = some m
theorem Grow.refl {w : Om} : Grow w w := fun _ _ h => h
theorem Grow.trans {w w1 w2 : Om} (a : Grow w w1) (b : Grow w1 w2) : Grow w w2 := fun x m h => b x m (a x m h)
theorem Grow.new {w w' : Om} {p : Addr} {m : MO} (g : Grow w w') (h : w' p = none) : Grow w (put w' p m) := fun x n hx => by
  have h2 := g x n hx
  rw [put_ne (om_ne h2 h)]; exact h2
end DL
namespace DL
open PySem PySem.Spec PyProof.Rows L2
abbrev I2 := Int × Int
def GI (g : I2) : Prop := 0 < g.1 ∧ 0 < g.2 ∧ Sz 41 g.1 ∧ Sz 41 g.2
def qO (t : I2) : Rat := Rat.divInt t.1 t.2
theorem GI.st {g : I2} (h : GI g) : StQ (qO g) := ⟨divInt_pos h.1 h.2.1, (szr_divInt h.2.2.1 h.2.2.2 (Int.ne_of_gt h.2.1)).mono (by decide)⟩
end DL
namespace DL
open PySem PySem.Spec PyProof.Rows L2
theorem iota_nat {N i : Nat} {d : Dt} (h : (iota 0 N)[i]? = some d) : i < N ∧ d = .int (i : Nat) := by
  have hi : i < N := by have := (List.getElem?_eq_some_iff.mp h).1; rw [iota_len] at this; exact this
  rw [iota_get hi] at h
  refine ⟨hi, ?_⟩
  rw [← Option.some.inj h, Int.zero_add]
end DL
namespace DL
open PySem PySem.Spec PyProof.Rows L2
section
variable {Z : Dx}
def mulLR : DR2 := fun x y w Q => match x, y with
  | .lst xs, .int n => (0 ≤ n ∧ n ≤ 1000) ∧ xs.length * n.toNat ≤ sizeLine ∧ Q (.lst (List.replicate n.toNat xs).flatten) w
  | _, _ => False
end
end DL
namespace SrtO
open PySem PySem.Spec PyProof.Rows
section
variable {prog : Program} {w : World} {A : Around} {E : Value → Shared → Prop} {s : Shared}
def IsSI (h : Heap) (v : Value) (x : PySem.Str) (y : Int) : Prop := ∃ a o t u n, v = .ref a ∧ h.get? a = some o ∧ o.cls = .type "tuple" ∧ o.data = .seq #[.str x t, .int y u] n
theorem IsSI.keeps {h h' : Heap} {v : Value} {x : PySem.Str} {y : Int} (p : IsSI h v x y) (k : ∀ b o, h.get? b = some o → o.cls = .type "tuple" → h'.get? b = some o) : IsSI h' v x y := by
  obtain ⟨a, o, t, u, n, e, ho, hc, hd⟩ := p
  exact ⟨a, o, t, u, n, e, k _ _ ho hc, hc, hd⟩
def sLt (x y : PySem.Str) : Prop := x.cps.toList < y.cps.toList
instance : DecidableRel sLt := fun x y => inferInstanceAs (Decidable (x.cps.toList < y.cps.toList))
end
end SrtO
namespace DL
open PySem PySem.Spec PyProof.Rows L2
def strN (q : Rat) : PySem.Str := if q.den = 1 then toString q.num else Str.empty ++ toString q.num ++ ("/" : PySem.Str) ++ toString (q.den : Int)
end DL
namespace DL
open PySem PySem.Spec PyProof.Rows L2
def strsD (ys : List Str) : List Dt := ys.map Dt.str
section
variable {Z : Dx}
def splitR : DSr := s1R fun y z w Q => (z.length == 0) = false ∧ y.length + 2 ≤ sizeLine ∧ Q (.lst (strsD (Txt.split y z))) w
def endsR : DSr := s1R fun y z w Q => Q (.bl (Txt.endswith y z)) w
def strsOf : List Dt → Option (List Str)
  | [] => some []
  | .str x :: ds => (strsOf ds).map fun l => x :: l
  | _ :: _ => none
def joinR : DSr := fun y ds w Q => match ds with
  | [x] => ∃ xs ys, seqOf x w = some xs ∧ strsOf xs = some ys ∧ (ys.map (·.length)).sum + ys.length * y.length ≤ 16777216 ∧ Q (.str (Txt.join y ys)) w
  | _ => False
def chD (x : Str) : List Dt := x.cps.toList.map fun c => .str ⟨#[c]⟩
def dItS (te : DTE) : DTI := fun r w R => te r w fun x w1 => match x with
  | .str z => R (chD z) (fun _ => True) w1
  | _ => False
def inCR (neg : Bool) : DR2 := fun x y w Q => match x, y with
  | .str a, .str z => ∃ c, a = ⟨#[c]⟩ ∧ Q (.bl (if neg then !decide (c ∈ z.cps.toList) else decide (c ∈ z.cps.toList))) w
  | _, _ => False
end
end DL
namespace DL
open PySem PySem.Spec PyProof.Rows L2 TL
def tlI (n : Int) : List Nat := if n < 0 then 45 :: numL n.natAbs else numL n.natAbs
theorem tl_int (n : Int) : tl (toString n : Str) = tlI n := by
  unfold tlI
  cases n with
  | ofNat m =>
    rw [if_neg (by show ¬ ((m : Int) < 0); omega)]
    exact tl_num m
  | negSucc m =>
    rw [if_pos (Int.negSucc_lt_zero m)]
    show tl (Str.ofString (toString (Int.negSucc m))) = 45 :: numL (m + 1)
    have e : toString (Int.negSucc m) = "-" ++ toString ((m + 1 : Nat) : Int) := rfl
    rw [e, tl_ofString, String.toList_append, List.map_append]
    have e2 := tl_num (m + 1)
    rw [tl_ofString] at e2
    rw [e2]; rfl
theorem tl_lit (s : String) : tl (Str.ofString s) = s.toList.map Char.toNat := tl_ofString s
theorem tl_slash : tl ("/" : Str) = [47] := by rw [tl_lit]; rfl
theorem tl_empty : tl Str.empty = [] := rfl
theorem tl_strN (q : Rat) : tl (strN q) = if q.den = 1 then tlI q.num else tlI q.num ++ 47 :: numL q.den := by
  unfold strN
  split
  · exact tl_int _
  · rw [tl_append, tl_append, tl_append, tl_empty, List.nil_append, tl_int, tl_slash, tl_int, List.append_assoc]
    have e : tlI ((q.den : Nat) : Int) = numL q.den := by
      unfold tlI
      rw [if_neg (by omega)]; rfl
    rw [e]; rfl
end DL
namespace PySem
namespace EXG
open PySem.W PySem.Calls PyProof.Rows PySem.HandSPX Builtin Builtin.ObjectAttr
structure Bas (B newId initId : String) (tl : List Value) : Prop where
  base : ExcBaseFacts B newId initId tl
  pass : ∀ self : Value, refuseLoop self "__setattr__" tl = pure ()
  obj : tl.contains (.type "object") = true
  ne : tl ≠ []
theorem bas_A : Bas "ArithmeticError" "ArithmeticError.__new__" "ArithmeticError.__init__" [.type "ArithmeticError", .type "Exception", .type "BaseException", .type "object"] := ⟨F.excBase_ArithmeticError, F.store_ArithmeticError.passes, by decide +kernel, by simp⟩
section
variable {B newId initId : String} {tl : List Value}
theorem own_cases {l : List Value} (e : own tl l = true) : (∃ c r, l = .ref c :: r ∧ own tl r = true) ∨ l = tl := by
  unfold own at e
  split at e
  · exact .inl ⟨_, _, rfl, e⟩
  · exact .inr (beq_iff_eq.mp e)
theorem own_ne (F : Bas B newId initId tl) {l : List Value} (e : own tl l = true) : l.isEmpty = false := by
  rcases own_cases e with ⟨c, r, rfl, _⟩ | rfl
  · rfl
  · cases l with
    | nil => exact absurd rfl F.ne
    | cons _ _ => rfl
theorem own_pass (F : Bas B newId initId tl) (self : Value) : ∀ l : List Value, own tl l = true → refuseLoop self "__setattr__" l = pure ()
  | [], e => absurd (own_ne F e) (by decide)
  | x :: l, e => by
    rcases own_cases e with ⟨c, r, q, h⟩ | q
    · injection q with q1 q2
      subst q1 q2
      rw [refuseLoop_ref]
      exact own_pass F self l h
    · rw [q]; exact F.pass self
theorem own_has (F : Bas B newId initId tl) (y : String) : ∀ l : List Value, own tl l = true → l.contains (.type y) = tl.contains (.type y)
  | [], e => absurd (own_ne F e) (by decide)
  | x :: l, e => by
    rcases own_cases e with ⟨c, r, q, h⟩ | q
    · injection q with q1 q2
      subst q1 q2
      rw [List.contains_cons, own_has F y l h]; rfl
    · rw [q]
end
section
variable {prog : Program} {w : World} {A : Around} {R : Result → Shared → Prop} {hp : Heap} {g : Array GenState} {d : Drawn} {t : Nat} {os : OsState}
variable {B newId initId : String} {tl : List Value} {K : Frag} {name : Str} {tk : Tok} {v : Value} {x C : Addr} {ox : Obj} {od : Option Obj} {cd : ClassData}
theorem osa_go (Y : Bas B newId initId tl) (X : K.In hp) (I : InstAt hp x ox C od) (hcd : clsIn K C = some cd) (hm : own tl cd.mro = true) (ha : findIn K (.ref C) name = some none) {Q : Fin → Shared → Prop} {E : Value → Shared → Prop}
    (fin : wpAny (model prog w) A (storeInOwnDict (.ref x) (.ref C) (.str name tk) name v false) Q E ⟨hp, g, d, t, os⟩) :
    wpAny (model prog w) A (Builtin.«object.__setattr__» ⟨[.ref x, .str name tk, v], []⟩) Q E ⟨hp, g, d, t, os⟩ := by
  have lm : Looks (model prog w) hp (mroOf (.ref C)) cd.mro := (looks_clsIn X hcd).andThen .now
  have ln : Looks (model prog w) hp (storeTaker? none) none := .now
  rw [osa_eq, refuse_eq]
  refine wpAny_bind (wpAny_bind (I.type.at (wpAny_bind (lm.at ?_))))
  rw [own_pass Y _ _ hm]
  exact wpAny_pure (wpAny_bind (I.type.at (wpAny_bind ((looks_findIn X ha).at (wpAny_bind (ln.at fin))))))
theorem osa_call (Y : Bas B newId initId tl) (X : K.In hp) (I : InstAt hp x ox C od) (hcd : clsIn K C = some cd) (hm : own tl cd.mro = true) (ha : findIn K (.ref C) name = some none)
    (fin : wpAny (model prog w) A.in1 (storeInOwnDict (.ref x) (.ref C) (.str name tk) name v false) (fun f s' => match f with | .done f => R (.ok f) s' | .again c' => c'.quiet = true ∧ codeAny (model prog w) A c' R s') (fun e s' => R (.error e) s') ⟨hp, g, d, t, os⟩) :
    codeAny (model prog w) A (.call (.builtin "object.__setattr__") ⟨[.ref x, .str name tk, v], []⟩) R ⟨hp, g, d, t, os⟩ := by
  have SF := PySem.F.store_object
  have sub : Looks (model prog w) hp (isInstance (.ref x) (.type "object")) true := I.type.andThen (looks_mroIn X (by unfold mroIn; rw [hcd, Option.bind_some, if_neg (by rw [own_ne Y hm]; decide), (own_has Y "object" _ hm).trans Y.obj]))
  exact codeAny_call_builtin SF.slot.plain SF.entry (@check_slot (model prog w) _ _ ⟨hp, g, d, t, os⟩ "object.__setattr__" "object" "__setattr__" (.ref x) [.str name tk, v] [] _ SF.kind SF.split sub (SF.args (.ref x) (.str name tk) v) (osa_go Y X I hcd hm ha fin))
theorem sd_new {fv : Array Value} {Q : Fin → Shared → Prop} {E : Value → Shared → Prop} (hx : hp.get? x = some { cls := .ref C, data := .fields fv }) (lc : Looks (model prog w) hp (classData C) cd) (hh : cd.hasDict = true)
    (fin : ∀ h' tk' dx, (∀ b o, b ≠ x → hp.get? b = some o → h'.get? b = some o) → hp.objs.size ≤ dx → dx ≠ x → h'.get? x = some { cls := .ref C, dict := some dx, data := .fields fv } → h'.Ns1 dx (fun y => if y = name then some v else none) →
      Q (.done (.ret .none)) ⟨h', g, d, tk', os⟩) : wpAny (model prog w) A (storeInOwnDict (.ref x) (.ref C) (.str name tk) name v false) Q E ⟨hp, g, d, t, os⟩ := by
  have nx : x ≠ hp.objs.size := Nat.ne_of_lt (Heap.lt_size hx)
  have up := Heap.get?_push_of_some ({ cls := .type "dict", data := .dict #[] } : Obj) hx
  cases cd with
  | mk nm bs mro ns qn hd sn sb ab col del =>
    cases (show hd = true from hh)
    unfold storeInOwnDict ownDictForStores
    repeat (first | with_reducible refine HandSPX.store_in_new ?_ ?_ | with_reducible refine wpAny_loadPart_at hx ?_ | with_reducible refine lc.at ?_ | wp_step)
    · exact ⟨_, #[], _, Heap.get?_update_of_ne _ nx (Heap.get?_push_at (o := ({ cls := .type "dict", data := .dict #[] } : Obj)) rfl rfl), rfl, (fun e he => by simp at he), fun _ => rfl⟩
    · intro G tk' hn same
      refine fin G tk' hp.objs.size (fun b o hb ho => ?_) (Nat.le_refl _) nx.symm ((same.2 x nx).trans (Heap.get?_update_self _ up rfl)) hn
      exact (same.2 b (Nat.ne_of_lt (Heap.lt_size ho))).trans ((Heap.get?_update_ne _ _ _ _ hb).trans (Heap.get?_push_of_some _ ho))
theorem sd_old {fv : Array Value} {dx : Addr} {m0 : Str → Option Value} {ns : List Str} {Q : Fin → Shared → Prop} {E : Value → Shared → Prop} (hx : hp.get? x = some { cls := .ref C, dict := some dx, data := .fields fv }) (hns : hp.Ns1 dx m0) (hw : Within m0 ns) (hz : ns.length ≤ 1000)
    (lc : Looks (model prog w) hp (classData C) cd) (hh : cd.hasDict = true)
    (fin : ∀ h' tk', (∀ b o, b ≠ dx → hp.get? b = some o → h'.get? b = some o) → h'.Ns1 dx (fun y => if y = name then some v else m0 y) → Q (.done (.ret .none)) ⟨h', g, d, tk', os⟩) :
    wpAny (model prog w) A (storeInOwnDict (.ref x) (.ref C) (.str name tk) name v false) Q E ⟨hp, g, d, t, os⟩ := by
  cases cd with
  | mk nm bs mro ns' qn hd sn sb ab col del =>
    cases (show hd = true from hh)
    unfold storeInOwnDict ownDictForStores
    repeat (first | with_reducible refine PySem.OEX.store_in_old hns hw hz ?_ | with_reducible refine wpAny_loadPart_at hx ?_ | with_reducible refine lc.at ?_ | wp_step)
    intro G tk' hn same
    exact fin G tk' (fun b o hb ho => (same.2 b hb).trans ho) hn
end
end EXG
end PySem
namespace L2
open PySem PySem.Spec PyProof.Rows
structure OexG (K : PySem.W.Frag) (C : Addr) (newId : String) (tl : List Value) : Prop where
  cls : ∃ nm q N bs bm sn sub ab col dd k0 k1 k2 k3 k5, K.lookup C = some (excClassObj nm q C N bs bm true sn sub ab col dd k0 k1 k2 k3 k5 newId) ∧ EXG.own tl bm = true
  sa : PySem.W.findIn K (.ref C) "__setattr__" = some (some (.builtin "object.__setattr__"))
  exC : PySem.W.subIn K (.ref C) (.type "BaseException") = some true
  tyC : PySem.W.typeIn K (.ref C) = some (.type "type")
  kC : PySem.W.keepIn K (.ref C) = true
theorem OexG.cd {K : PySem.W.Frag} {C : Addr} {newId : String} {tl : List Value} (T : OexG K C newId tl) : ∃ cd, PySem.W.clsIn K C = some cd ∧ EXG.own tl cd.mro = true ∧ cd.hasDict = true := by
  obtain ⟨nm, q, N, bs, bm, sn, sub, ab, col, dd, k0, k1, k2, k3, k5, h1, h2⟩ := T.cls
  refine ⟨{ name := nm, bases := bs, mro := .ref C :: bm, ns := N, qualname := q, hasDict := true, slotNames := sn, subclasses := sub, abstract := ab, collection := col, hasDel := false }, ?_, h2, rfl⟩
  unfold PySem.W.clsIn
  rw [h1] <;> rfl
section
variable {X : Cx} {pins : List (Addr × Obj)} {σ : St} {H : Hp} {s : Shared} {a C dx : Addr} {f : Str} {y : V} {u : Value} {fs : List (Str × V)} {Q : Unit → Shared → Prop} {E : Value → Shared → Prop} {A : Around} {B newId initId : String} {tl : List Value}
theorem inv_beside {o1 o2 : HO} {hp h' : Heap} {g : Array GenState} {d : Drawn} {t t' : Nat} {os : OsState} (I : Inv X pins σ H ⟨hp, g, d, t, os⟩) (ea : (H a).isSome = true) (nt : ∀ o, H a = some o → (∀ c, o ≠ .own c) ∧ (∀ xs, o ≠ .tup xs) ∧ (∀ b v, o ≠ .frz b v) ∧ ∀ ps, o ≠ .tbl ps)
    (k : ∀ b o, b ≠ a → hp.get? b = some o → h'.get? b = some o) (dn : hp.objs.size ≤ dx) (hx : ∃ o, h'.get? a = some o) (k1 : ObjOk X.prog X.w (upd (upd H dx o2) a o1) h' a o1) (k2 : ObjOk X.prog X.w (upd (upd H dx o2) a o1) h' dx o2) : Inv X pins σ (upd (upd H dx o2) a o1) ⟨h', g, d, t', os⟩ := by
  obtain ⟨o0, e0⟩ := Option.isSome_iff_exists.mp ea
  obtain ⟨n1, n2, n3, n4⟩ := nt o0 e0
  have hd0 : H dx = none := I.hok.fresh dn
  have isa : ∀ {b : Addr} {o : HO}, H b = some o → o0 ≠ o → b ≠ a := fun {b o} q w z => by
    rw [z, e0] at q
    exact w (Option.some.inj q)
  have noa : ∀ {b : Addr}, H b = none → b ≠ a := fun {b} q z => by rw [z, e0] at q; cases q
  have nod : ∀ {b : Addr} {o : HO}, H b = some o → b ≠ dx := fun {b o} q z => by rw [z, hd0] at q; cases q
  have old : ∀ {b : Addr} {o : Obj}, hp.get? b = some o → b ≠ dx := fun {b o} q => Nat.ne_of_lt (Nat.lt_of_lt_of_le (Heap.lt_size q) dn)
  have same : ∀ {b : Addr}, b ≠ a → b ≠ dx → upd (upd H dx o2) a o1 b = H b := fun {b} p q => by rw [upd_ne p, upd_ne q]
  have U : Un X.fs [] H (upd (upd H dx o2) a o1) hp h' := {
    keep := fun b o q n _ _ => k b o (noa n) q
    slot := fun b o q n _ _ => ⟨o.slots, k b o (noa n) q⟩
    free := fun b o q n _ => (same (noa n) (old q)).trans n
    there := fun b o q _ => (Classical.em (b = a)).elim (fun z => by rw [z]; exact hx) fun z => ⟨o, k b o z q⟩
    tups := fun b xs q => (same (isa q (n2 xs)) (nod q)).trans q
    frzs := fun b o v q => (same (isa q (n3 o v)) (nod q)).trans q
    tbls := fun b ps q => ⟨#[], by rw [same (isa q (n4 ps)) (nod q), q]; simp⟩ }
  refine I.un (t' := t') U fun b o q => ?_
  by_cases ha : b = a
  · subst ha
    rw [upd_same] at q
    cases q
    exact k1
  by_cases hd : b = dx
  · subst hd
    rw [upd_ne ha, upd_same] at q
    cases q
    exact k2
  rw [same ha hd] at q
  refine (I.hok b o q).stay (fun c v hc z => k c v (hc.elim (fun e => by rw [e]; exact ha) fun e => isa e (n1 b)) z) (fun c hc => ?_) fun c xs hc => ?_
  · exact (same (isa hc (n1 b)) (nod hc)).trans hc
  · exact (same (isa hc (n2 xs)) (nod hc)).trans hc
theorem stg_new (Y : EXG.Bas B newId initId tl) (T : OexG X.K C newId tl) (I : Inv X pins σ H s) (e : H a = some (exo a C none)) (hno : PySem.W.findIn X.K (.ref C) f = some none) (ry : RelV y u)
    (h : ∀ dx s', H dx = none → dx ≠ a → Inv X pins σ (upd (upd H dx (exd dx [(f, y)])) a (exo a C (some dx))) s' → Q () s') : wpAny (model X.prog X.w) A (setAttr (.ref a) f u) Q E s := by
  obtain ⟨cd, h1, h2, h3⟩ := T.cd
  obtain ⟨t1, ho⟩ := exo_at I.hok e
  obtain ⟨hp, g, d, t, os⟩ := s
  refine PySem.W.set_plain I.kIn (ox := { cls := .ref C, dict := none, data := .fields #[.ref t1, .none, .none, .none, .bool false, .none] }) (od := none) ⟨ho, rfl, rfl, trivial⟩ T.sa ?_
  refine EXG.osa_call Y I.kIn (od := none) ⟨ho, rfl, rfl, trivial⟩ h1 h2 hno (EXG.sd_new ho (PySem.W.looks_clsIn I.kIn h1) h3 fun h' tk' dx k dn dne hx hn => ?_)
  refine h dx _ (I.hok.fresh dn) dne (inv_beside I (by rw [e]; rfl) (fun o q => ?_) k dn ⟨_, hx⟩ (exo_ok hx) (exd_ok hn (relO_put (fs := []) ry fun g => True.intro)))
  rw [e] at q
  cases q
  exact ⟨fun _ => exo_own, fun _ => exo_tup, fun _ _ => exo_frz, fun _ => exo_tbl⟩
theorem stg_old (Y : EXG.Bas B newId initId tl) (T : OexG X.K C newId tl) (I : Inv X pins σ H s) (e : H a = some (exo a C (some dx))) (ed : H dx = some (exd dx fs)) (hl : fs.length ≤ 900) (hno : PySem.W.findIn X.K (.ref C) f = some none) (ry : RelV y u)
    (h : ∀ s', Inv X pins σ (upd H dx (exd dx ((f, y) :: fs))) s' → Q () s') : wpAny (model X.prog X.w) A (setAttr (.ref a) f u) Q E s := by
  obtain ⟨cd, h1, h2, h3⟩ := T.cd
  obtain ⟨t1, ho⟩ := exo_at I.hok e
  obtain ⟨mA, hns, rel⟩ := exd_at I.hok ed
  obtain ⟨hp, g, d, t, os⟩ := s
  obtain ⟨oD, _, _, hoD, _, _⟩ := hns.count (within_of rel)
  refine PySem.W.set_plain I.kIn (ox := { cls := .ref C, dict := some dx, data := .fields #[.ref t1, .none, .none, .none, .bool false, .none] }) (od := some oD) ⟨ho, rfl, rfl, hoD⟩ T.sa ?_
  refine EXG.osa_call Y I.kIn (od := some oD) ⟨ho, rfl, rfl, hoD⟩ h1 h2 hno (EXG.sd_old ho hns (within_of rel) (by rw [List.length_map]; omega) (PySem.W.looks_clsIn I.kIn h1) h3 fun h' tk' k hn => ?_)
  have there : ∃ o, h'.get? dx = some o := by
    obtain ⟨o, _, _, q, _⟩ := hn
    exact ⟨o, q⟩
  exact h _ (I.write (t' := tk') (x := dx) (e := dx) (o := exd dx ((f, y) :: fs)) (by rw [ed]; trivial) (.inl rfl) k there (exd_ok hn (relO_put ry rel)))
theorem ing_ok {us : List Value} {Q : Value → Shared → Prop} (Y : EXG.Bas B newId initId tl) (T : OexG X.K C newId tl) (I : Inv X pins σ H s) (e : H a = some (exo a C none)) (hl : us.length ≤ sizeLine) (h : ∀ s', Inv X pins σ H s' → Q .none s') :
    wpAny (model X.prog X.w) A (call (.builtin initId) (.ref a :: us)) Q E s := by
  obtain ⟨nm, q, N, bs, bm, sn, sub, ab, col, dd, k0, k1, k2, k3, k5, h1, h2⟩ := T.cls
  obtain ⟨t1, ho⟩ := exo_at I.hok e
  obtain ⟨hp, g, d, t, os⟩ := s
  refine wpAny_call (HandSPX.init_base Y.base (fun z => EXG.own_has Y z bm h2) (I.kIn _ _ h1) ho hl fun h' t2 k hx => ?_)
  have J := I.write (t' := t) (x := a) (e := a) (o := exo a C none) (by rw [e]; trivial) (.inl rfl) k ⟨_, hx⟩ (exo_ok hx)
  have same : upd H a (exo a C none) = H := funext fun b => by
    by_cases z : b = a
    · rw [z, upd_same, e]
    · rw [upd_ne z]
  rw [same] at J
  exact h _ J
end
def tBi (K : PySem.W.Frag) (newId : String) (tl : List Value) (ta : TA) : TE := fun σ H Q => ta σ H fun vs H1 => ∃ (a C : Addr) (ws : List V), vs = .ref a :: ws ∧ ws.length ≤ 1000 ∧ OexG K C newId tl ∧ H1 a = some (exo a C none) ∧ Q .non H1
def tStg (K : PySem.W.Frag) (newId : String) (tl : List Value) (f : Str) (to te : TE) : TS := fun D σ H => te σ H fun y H1 => to σ H1 fun x H2 => ∃ a C : Addr, x = .ref a ∧ OexG K C newId tl ∧ PySem.W.findIn K (.ref C) f = some none ∧
  ((H2 a = some (exo a C none) ∧ ∀ dx, H2 dx = none → dx ≠ a → D.nx σ (upd (upd H2 dx (exd dx [(f, y)])) a (exo a C (some dx)))) ∨
    ∃ (dx : Addr) (fs : List (Str × V)), H2 a = some (exo a C (some dx)) ∧ H2 dx = some (exd dx fs) ∧ fs.length ≤ 900 ∧ D.nx σ (upd H2 dx (exd dx ((f, y) :: fs))))
section
variable {X : Cx} {o e : Expr} {es : List Expr} {to te : TE} {ta : TA} {f : Str} {p p' p1 p2 pos : Pos} {B newId initId : String} {tl : List Value}
theorem pe_binit {nm : Str} {pl : Sem Bool} (Y : EXG.Bas B newId initId tl) (hg : Gl X nm) (hm : X.mg nm = none) (hv : bootBuiltins nm = some (.type B)) (hn : nm ≠ "__name__") (hdb : (nm == ("__debug__" : Str)) = false) (ty : typeOf (.type B) = pure (.type "type")) (stub : Manifest.isStub B = false) (hand : PySem.W.handedIn (.builtin initId) = true)
    (vV : PySem.W.findCls X.K (.type B) (.type "type") "__init__" = some (.val (.builtin initId))) (ha : PA X (e :: es) ta)
    (hc : eval (.Call (.Attribute (.Name nm p1) "__init__" p2) (e :: es) [] pos) X.env = (do
      let ov ← eval (.Name nm p1) X.env
      standAt p2.atName
      let (f, first) ← holding [ov] (getMethod ov "__init__" pl)
      callWith pos f first (backTo pos (starEach (e :: es) X.env)) (backToKw pos (keywordEach [] X.env))) := by rfl)
    (he : starEach (e :: es) X.env = (false, eval e X.env) :: starEach es X.env := by rfl) (hpl : (backTo pos (starEach es X.env)).any (·.1) = false := by rfl) :
    PE X (.Call (.Attribute (.Name nm p1) "__init__" p2) (e :: es) [] pos) (tBi X.K newId tl ta) := by
  refine ⟨fun pins s σ H Q I h => PySem.W.methodCall_KW (ld_blt I hg hm hv ?_ hn hdb) hc⟩
  obtain ⟨m, fr⟩ := I.fr
  refine PySem.W.method_type fr I.ok.mod.kin ty stub vV hand ?_
  show wpAny _ _ (callWith pos (Value.builtin initId) [] (backTo pos (starEach (e :: es) X.env)) []) _ _ _
  refine PyProof.Rows.callWith_method1 (thn (ha.run pos pins _ σ H _ (I.tok _) h) ?_) he hpl
  rintro us s1 ⟨vs, H1, I1, r1, a, C, ws, rfl, hl, T, ea, q⟩
  cases r1 with
  | @cons _ u0 _ ur ra rw' =>
    cases (show u0 = Value.ref a from ra)
    exact ing_ok Y T I1 ea (by rw [← Paired.length rw', sizeLine_eq]; omega) fun s' J => ⟨.non, H1, J, rfl, q⟩
theorem ps_stg (Y : EXG.Bas B newId initId tl) (ho : PE X o to) (he : PE X e te) (hs : swapsWith e (some (.Attribute o f p')) pos.line X.env = pure false := by rfl) : PS X (.Assign [.Attribute o f p'] e pos) (tStg X.K newId tl f to te) := by
  refine ⟨fun pins s σ H D I h => plainObj_wpAny_Assign_Attribute (thn (he.run pins s σ H _ I h) ?_) hs⟩
  rintro v s1 ⟨y, H1, I1, r1, q1⟩
  refine thn (ho.run pins s1 σ H1 _ I1 q1) ?_
  rintro u s2 ⟨x, H2, I2, r2, a, C, rfl, T, hno, q⟩
  cases (show u = Value.ref a from r2)
  rcases q with ⟨ea, q⟩ | ⟨dx, fs, ea, ed, hl, q⟩
  · exact stg_new Y T I2 ea hno r1 fun dx s' n ne J => ⟨σ, _, J, q dx n ne⟩
  · exact stg_old Y T I2 ea ed hl hno r1 fun s' J => ⟨σ, _, J, q⟩
end
end L2
namespace DL
open PySem PySem.Spec PyProof.Rows L2
theorem l_fn {P : Program} {w : World} {K : PySem.W.Frag} {mg : Str → Option Value} {base : Heap} {x qual : Str} {params : Arguments} {body : List Stmt} {scope : Scope} {dvs : List V} {kws : List (Str × V)} {f : Addr} {fd : FuncData} {N ps : List Str} {k : Nat} {sp : Sp}
    (F : FunD K x qual params body scope dvs kws f fd) (S : FnScope N ps scope) (len : ∀ vs H Q E, sp vs H Q E → vs.length = ps.length)
    (hbody : ∀ (cdv : Value) (A : Around) (outer : List Env) (s : Shared) (H : Hp) (E : XK),
      ∃ t, PSs (cxOf (L2.CX P w) P w K mg base N qual scope f cdv A outer s H E) body t ∧ ∀ vs Q, sp vs H Q E → t { nx := fun _ H' => Q .non H', rt := Q } (start N vs) H) :
    FnG P w K mg base (k + 1) f fd ps sp := by
  obtain ⟨oc, od, dV, kV, doc, pm, an, cdv, ct, osl, rfl, lk, hcd, _, _⟩ := F.ex
  refine ⟨len, fun A outer s H args us vs Q E hr e0 hb rv h => ?_⟩
  have hl := len _ _ _ _ h
  have keeps : ∀ b o, base.get? b = some o → s.heap.get? b = some o := fun b o e => (e0.bs b o e).1
  have KX : K.In s.heap := e0.mod.kin.keeps keeps
  have cells : ∀ y ∈ ps.zip us, scope.names.lookup y.1 = some .local ∨ (scope.names.lookup y.1 = some .cell ∧ ((cellsFrom (s.heap.objs.size + 1) scope.names []).lookup y.1).isSome = true) := fun y hy =>
    (S.par y.1 (List.of_mem_zip hy).1).imp id fun q => ⟨q, PySem.W.cellsFrom_some _ _ _ (.inl q)⟩
  refine codeAny_call_function hr.room.depth (KX _ _ lk) rfl S.co S.gen rfl (PySem.W.codeRec_of KX hcd) (hb _ _ _ _ ?_)
  refine wpAny_newFunctionEnv_cells S.kind cells fun env he s1 x => ?_
  subst he
  refine ⟨(e0.mod.nolimit.keeps keeps).keeps x.toInCall.keep, codeAny_func ?_⟩
  obtain ⟨t, d, q⟩ := hbody cdv A outer s H E
  have I := inv_start (CX := L2.CX P w) (E := E) S hr.room.hd e0 hl rv x
  refine wpAny_mono (d.run [] s1 (start N vs) H _ I (q vs Q h)) (fun fl s' hs => ?_) fun e s' hs => hs
  match fl, hs with
  | .ret u, ⟨v, σ', H', J, rv, q⟩ => exact ⟨v, H', J.os, J.bare, J.base, J.hok, rv, q⟩
  | .next, ⟨σ', H', J, q⟩ => exact ⟨V.non, H', J.os, J.bare, J.base, J.hok, rfl, q⟩
  | .brk, ⟨_, _, _, q⟩ => exact q.elim
  | .cont, ⟨_, _, _, q⟩ => exact q.elim
def spX (K : PySem.W.Frag) (newId : String) (tl : List Value) (n : Nat) (flds : List V → List (Str × V)) : Sp := fun vs H Q _ => ∃ (a C : Addr) (ys : List V), vs = .ref a :: ys ∧ ys.length = n ∧ OexG K C newId tl ∧ H a = some (exo a C none) ∧ (∀ f ∈ (flds ys).map (·.1), PySem.W.findIn K (.ref C) f = some none) ∧
  ∀ dx H', H dx = none → dx ≠ a → (∀ b, b ≠ a → b ≠ dx → H' b = H b) → H' a = some (exo a C (some dx)) → H' dx = some (exd dx (flds ys)) → Q .non H'
structure XCls (P : Program) (w : World) (K : PySem.W.Frag) (mg : Str → Option Value) (base : Heap) (x : Str) (k n : Nat) (flds : List V → List (Str × V)) : Prop where
  ex : ∃ (B newId initId : String) (tl : List Value) (fI : Addr) (fd : FuncData) (ps : List Str), EXG.Bas B newId initId tl ∧ OexG K (He.ga K x) newId tl ∧ PySem.W.findIn K (.ref (He.ga K x)) "__init__" = some (some (.ref fI)) ∧ PySem.W.typeIn K (.ref fI) = some (.type "function") ∧
    FnG P w K mg base k fI fd ps (spX K newId tl n flds) ∧ Binds K fd ps [] ∧ (∀ ys, ys.length = n → ∀ f ∈ (flds ys).map (·.1), PySem.W.findIn K (.ref (He.ga K x)) f = some none) ∧ mg x = some (.ref (He.ga K x))
section
variable {X : Cx} {e : Expr} {es : List Expr} {ta : TA} {p pos : Pos}
def tMkG (C : Addr) (n : Nat) (flds : List V → List (Str × V)) (ta : TA) : L2.St → Hp → XK → Prop := fun σ H Q => ta σ H fun vs H1 => vs.length = n ∧ ∀ d, H1 d = none → Q (.ref C) (some d) (upd H1 d (.xd (flds vs)))
theorem pmk_g {x : Str} {k n : Nat} {flds : List V → List (Str × V)} (c : XCls X.prog X.w X.K X.mg X.base x k n flds) (hn : n ≤ 1000) (hr : Rm (k + 1) X.A) (hx : Passes (L2.CX X.prog X.w) X (fun _ _ _ => False)) (hg : Gl X x) (ha : PA X (e :: es) ta)
    (hdb : (x == ("__debug__" : Str)) = false := by decide) (he : starEach (e :: es) X.env = (false, eval e X.env) :: starEach es X.env := by rfl) (hpl : (backTo pos (starEach es X.env)).any (·.1) = false := by rfl) :
    PMk X (.Call (.Name x p) (e :: es) [] pos) (tMkG (He.ga X.K x) n flds ta) := by
  obtain ⟨B, newId, initId, tl, fI, fd, ps, Y, T, iC, tI, F1, hb, hf, hm⟩ := c.ex
  obtain ⟨nm, q, N, bs, bm, sn, sub, ab, col, dd, k0, k1, k2, k3, k5, hC, hbm⟩ := T.cls
  intro pins s σ H Q I h
  refine wpAny_Call_Name_kw (ld_glob I hg hm ?_ hdb)
  refine PySem.W.callWith_K (h₀ := X.base) I.ok.mod.kin T.kC (thn (ha.run pos pins s σ H _ I h) fun us s1 ⟨vs, H1, I1, r1, hz, q1⟩ => ⟨I1.kIn, ?_⟩) he hpl
  show wpAny _ _ (call (.ref (He.ga X.K x)) us) _ _ _
  obtain ⟨hp, g, dr, tk, os⟩ := s1
  generalize hCC : He.ga X.K x = C at *
  obtain ⟨a, ea⟩ : ∃ a, a = hp.objs.size + 1 := ⟨_, rfl⟩
  have hsz : hp.objs.size ≤ a := by omega
  have hn1 : H1 a = none := I1.hok.fresh hsz
  have hus : us.length ≤ sizeLine := by rw [← Paired.length r1, sizeLine_eq]; omega
  obtain ⟨h2, eh2⟩ : ∃ h2, h2 = (hp.push (PySem.W.kdv_tup us)).push (PySem.HandSPX.excO C hp.objs.size) := ⟨_, rfl⟩
  have kk : ∀ b o, hp.get? b = some o → h2.get? b = some o := fun b o e => by rw [eh2]; exact Heap.get?_push_of_some _ (Heap.get?_push_of_some _ e)
  have hget : h2.get? a = some (PySem.HandSPX.excO C hp.objs.size) := by rw [eh2, ea]; heap_get
  have I2 : Inv X pins σ (upd H1 a (exo a C none)) ⟨h2, g, dr, tk, os⟩ := I1.laid (t' := tk) (a := a) (o := exo a C none) (h' := h2) kk hsz (exo_ok hget)
  have r2 : Vals (V.ref a :: vs) (Value.ref a :: us) := .cons rfl r1
  have hsp : spX X.K newId tl n flds (V.ref a :: vs) (upd H1 a (exo a C none)) (fun v H2 => v = .non ∧ ∃ (d : Addr) (fs : List (Str × V)), H2 a = some (exo a C (some d)) ∧ H2 d = some (exd d fs) ∧ H1 d = none ∧ Q (.ref C) (some d) (upd (del H2 a) d (.xd fs))) (fun _ _ _ => False) := by
    refine ⟨a, C, vs, rfl, hz, T, upd_same, hf vs hz, fun dx H' n1 n2 n3 n4 n5 => ⟨rfl, dx, flds vs, n4, n5, ?_, ?_⟩⟩
    · rw [upd_ne n2] at n1; exact n1
    · have e : upd (del H' a) dx (.xd (flds vs)) = upd H1 dx (.xd (flds vs)) := funext fun b => by
        by_cases e1 : b = dx
        · rw [e1, upd_same, upd_same]
        · rw [upd_ne e1, upd_ne e1]
          by_cases e2 : b = a
          · rw [e2, del_same, hn1]
          · rw [del_ne e2, n3 b e2 e1, upd_ne e2]
      rw [e]
      exact q1 dx (by rw [upd_ne n2] at n1; exact n1)
  have hl : (Value.ref a :: us ++ []).length = ps.length := by
    have e := r2.length
    rw [F1.len _ _ _ _ hsp] at e
    rw [List.append_nil]; exact e.symm
  have b2 := hb _ (Value.ref a :: us) I2.kIn hl
  rw [List.append_nil] at b2
  refine wpAny_call (PySem.HandSPX.call_own Y.base (fun z => EXG.own_has Y z bm hbm) (I1.kIn _ _ hC) (PySem.W.looks_findIn I1.kIn iC) (fun self => PySem.W.bind_fn I1.kIn self tI) hus ?_)
  rw [← ea, ← eh2]
  refine codeAny_mono (F1.run _ X.stack _ _ ⟨Value.ref a :: us, []⟩ (Value.ref a :: us) _ _ (fun _ _ _ => False) (hr.make C us []) (I2.env0.make C us []) b2 r2 hsp) fun r s' hq' => ?_
  match r, hq' with
  | .error er, hq' => exact hx pins σ _ _ er s' I2 hq'
  | .ok (.ret u), ⟨v, H2, os2, bare2, un2, hok2, rv, ev, d, fs, e1, e2, hd1, q2⟩ =>
    subst ev
    exact ⟨rv, mk_end (raises_own T.exC T.tyC) I1 hsz kk un2 hok2 os2 bare2 e1 e2 hd1 q2⟩
end
end DL
namespace PySem
namespace EXG
open PySem.W PySem.Calls PyProof.Rows PySem.HandSPX Builtin Builtin.ObjectAttr
section
variable {prog : Program} {w : World} {A : Around} {E : Value → Shared → Prop} {s : Shared} {K : Frag} {x D : Addr} {ox : Obj} {od : Option Obj}
theorem cls_get {Q : Option Value → Shared → Prop} (T : L2.ExcC K D) (X : K.In s.heap) (I : InstAt s.heap x ox D od) (h : Q (some (.ref D)) { s with toks := s.toks + 1 }) : wpAny (model prog w) A (getAttr? (.ref x) "__class__") Q E s := by
  have hf : findObj K D od "__class__" = some (.bind (.builtin "getset_descriptor.__get__") (.builtin "object.__class__")) := by
    obtain ⟨cd, hc, _⟩ := any_some T.hd
    unfold findObj
    rw [hc, Option.bind_some, T.ha, Option.bind_some]
    simp [T.hn, T.ht]
  obtain ⟨hp, g, d, t, os⟩ := s
  have l0 := I.type (M := model prog w)
  have l1 := looks_findIn (M := model prog w) X T.hg
  have l2 := looks_findIn (M := model prog w) X T.hk
  have l3 := looks_find (M := model prog w) X I hf
  have sub : Looks (model prog w) hp (isInstance (.ref x) (.type "BaseException")) true := l0.andThen (looks_subIn X T.hs)
  have h2 : (Value.builtin "BaseException.__getattribute__" == Value.builtin "object.__getattribute__") = false := by decide +kernel
  have h1 : (onTheHeap (Value.ref D) && Value.builtin "BaseException.__getattribute__" == Value.builtin "object.__getattribute__") = false := by rw [h2]; rfl
  have h0 : (false && onTheHeap (Value.builtin "BaseException.__getattribute__")) = false := rfl
  unfold getAttr? getAttrBy? getAttrBy
  refine wpAny_bind (wpAny_mkText (wpAny_bind (wpAny_attempt (wpAny_holding (wpAny_bind (l0.at (wpAny_bind (l1.at ?_))))))))
  show wpAny _ _ (if (onTheHeap (Value.ref D) && Value.builtin "BaseException.__getattribute__" == Value.builtin "object.__getattribute__") = true then _ else _) _ _ _
  rw [h1, if_neg Bool.false_ne_true]
  unfold getAttrByItsOwn hookBefore
  refine wpAny_bind ?_
  rw [if_pos (show onTheHeap (Value.ref D) = true from rfl)]
  refine l2.at (wpAny_bind (wpAny_attempt (wpAny_holding ?_)))
  unfold callGetattribute
  rw [h0, if_neg Bool.false_ne_true]
  unfold boundAndCalled
  rw [PySem.F.excAttr_ValueError.ga.bind (.ref x)]
  refine wpAny_bind (wpAny_pure ?_)
  show wpAny _ _ (call (.builtin "BaseException.__getattribute__") [.ref x, .str "__class__" t]) _ _ _
  refine wpAny_call (codeAny_call_builtin PySem.F.excAttr_ValueError.ga.plain PySem.F.entry_bexc_ga ?_)
  refine @check_slot (model prog w) _ _ ⟨hp, g, d, t + 1, os⟩ "BaseException.__getattribute__" "BaseException" "__getattribute__" (.ref x) [.str "__class__" t] [] _ (by decide +kernel) (by decide +kernel) sub (PySem.F.args_bexc_ga (.ref x) (.str "__class__" t)) ?_
  unfold Builtin.«object.__getattribute__»
  refine wpAny_bind (wpAny_of_eq (a := ((Value.ref x : Value), [Value.str "__class__" t])) (by first | rfl | (simp only [slotArgs]; rfl)) ?_)
  refine wpAny_bind (wpAny_pure (wpAny_bind (l0.at (wpAny_bind (l3.at ?_)))))
  show wpAny _ _ (holding [Value.builtin "object.__class__"] (call (.builtin "getset_descriptor.__get__") [.builtin "object.__class__", .ref x, .ref D]) >>= ret) _ _ _
  refine wpAny_bind (wpAny_holding (wpAny_call (class_get (s := ⟨hp, g, d, t + 1, os⟩) (ox := ox) (od := od) X I T.hm ?_)))
  refine wpAny_pure ?_
  show wpAny _ _ (handedOut (.ref D)) _ _ _
  rw [handedOut_of (v := .ref D) rfl]
  first
    | exact wpAny_pure (wpAny_pure h)
    | exact wpAny_pure h
    | exact wpAny_pure (wpAny_bind (wpAny_pure (wpAny_pure h)))
theorem kit_exc (T : L2.ExcC K D) : KitX K (.ref x) (.ref D) (fun h => ∃ od, InstAt h x ox D od) where
  ty := fun _ _ _ ⟨_, I⟩ => I.type
  it := fun M h X _ => by
    obtain ⟨cdD, hcD, _⟩ := any_some T.hd
    unfold clsIn at hcD
    split at hcD
    · rename_i c' d' cd' sl' ho
      intro A' Q' E' s' k q
      unfold isType loadHead
      exact wpAny_bind (wpAny_loadPart (k _ _ (X _ _ ho)) (wpAny_pure q))
    · cases hcD
  ne := (handS_kitx_exc (x := x) (ox := ox) T.hg T.hk T.hs T.hd T.ha T.hn T.ht T.hm).ne
  ca := fun X ⟨_, I⟩ k => cls_get T X I k
end
end EXG
end PySem
namespace L2
open PySem PySem.Spec PyProof.Rows
section
variable {X : Cx} {a C dd : Addr} {oe : Obj} {pn : List (Addr × Obj)}
theorem exc_at {pins : List (Addr × Obj)} {σ : St} {H : Hp} {s : Shared} {gs : List (Str × V)} (I : Inv (X.suite a ((a, oe) :: pn)) pins σ H s) (hz : Zc (.ref C) (some dd) oe) (hf : ∃ vs, oe.data = .fields vs) (hd : H dd = some (.xd gs)) : ∃ od, PySem.W.InstAt s.heap a oe C od := by
  obtain ⟨ha, _⟩ := I.pin (a, oe) (List.mem_append_left _ List.mem_cons_self)
  obtain ⟨vs, hv⟩ := hf
  obtain ⟨mA, hns, _⟩ := (show ObjOk X.prog X.w H s.heap dd (.xd gs) from I.hok dd _ hd)
  obtain ⟨od, ho, _⟩ := lookIn_ns hns
  exact ⟨some od, ha, hz.1, by unfold PySem.W.notCls; rw [hv] <;> rfl, by rw [hz.2]; exact ho⟩
def rIsX (K : PySem.W.Frag) (a C dd : Addr) : List V → Hp → VK → Prop := fun xs H Q => ExcC K C ∧ (∃ gs, H dd = some (.xd gs)) ∧ ((∃ (c : V) (u : Value) (b : Bool), xs = [.ref a, c] ∧ ClsV c u ∧ PySem.W.kitOne K (.ref C) u = some b ∧ Q (.bl b) H) ∨
  ∃ (tp : Addr) (cs : List V) (us : List Value) (b : Bool), xs = [.ref a, .ref tp] ∧ SqT K H tp cs ∧ Paired ClsV cs us ∧ PySem.W.kitAny K (.ref C) us = some b ∧ Q (.bl b) H)
theorem call_isX (hz : Zc (.ref C) (some dd) oe) (hf : ∃ vs, oe.data = .fields vs) : CallR (X.suite a ((a, oe) :: pn)) (.builtin "isinstance") (rIsX X.K a C dd) := by
  intro pins s σ H xs us Q I r h
  obtain ⟨T, ⟨gs, hd⟩, ⟨c, u, b, rfl, k, e, q⟩ | ⟨tp, cs, ws, b, rfl, hT, k, e, q⟩⟩ := h
  · obtain ⟨u1, u2, rfl, r1, r2⟩ := vals2 r
    cases (show u1 = Value.ref a from r1)
    obtain rfl := k.eq r2
    exact PySem.W.kia_one (PySem.EXG.kit_exc (x := a) (ox := oe) T) I.kIn (exc_at I hz hf hd) e (fun z => nomatch z) fun tk => ⟨.bl b, H, I.tok tk, rfl, q⟩
  · obtain ⟨u1, u2, rfl, r1, r2⟩ := vals2 r
    cases (show u1 = Value.ref a from r1)
    cases (show u2 = Value.ref tp from r2)
    obtain ⟨its, rv, ⟨o, h1, h2, n, h3⟩, _⟩ := I.tuple hT
    have e3 := ClsV.all k rv
    subst e3
    obtain ⟨oc, od, dt, sl⟩ := o
    simp only at h2 h3
    subst h2 h3
    exact PySem.W.kia_tup (PySem.EXG.kit_exc (x := a) (ox := oe) T) I.kIn (exc_at I hz hf hd) h1 e (fun z => nomatch z) fun tk => ⟨.bl b, H, I.tok tk, rfl, q⟩
end
end L2
namespace DL
open PySem PySem.Spec PyProof.Rows L2
def fldsV (fs : List Str) (ys : List V) : List (Str × V) := (fs.zip ys).reverse
def fldsD (fs : List Str) (ds : List Dt) : List (Str × Dt) := (fs.zip ds).reverse
theorem rpf_app {K : PySem.W.Frag} {H : Hp} : ∀ {a : List (Str × Dt)} {b : List (Str × V)} {c : List (Str × Dt)} {d : List (Str × V)}, RpF K H a b → RpF K H c d → RpF K H (a ++ c) (b ++ d)
  | _, _, _, _, .nil, h => h
  | _, _, _, _, .cons r t, h => .cons r (rpf_app t h)
theorem rpf_flds {K : PySem.W.Frag} {H : Hp} : ∀ {fs : List Str} {ds : List Dt} {ys : List V}, RpL K H ds ys → RpF K H (fldsD fs ds) (fldsV fs ys)
  | [], _, _, _ => by unfold fldsD fldsV; exact .nil
  | _ :: _, _, _, .nil => by unfold fldsD fldsV; exact .nil
  | f :: fs, _, _, .cons r t => by
    unfold fldsD fldsV
    rw [List.zip_cons_cons, List.zip_cons_cons, List.reverse_cons, List.reverse_cons]
    exact rpf_app (rpf_flds (fs := fs) t) (.cons r .nil)
theorem fldsV_names {fs : List Str} {ys : List V} {f : Str} (h : f ∈ (fldsV fs ys).map (·.1)) : f ∈ fs := by
  unfold fldsV at h
  obtain ⟨p, hp, rfl⟩ := List.mem_map.mp h
  exact (List.of_mem_zip (List.mem_reverse.mp hp)).1
def dRaise (Wd : DWX) (C : Addr) (fs : List Str) (ta : DTA) : DTS := fun _ r w => ta r w fun ds w1 => ds.length = fs.length ∧ Wd C (fldsD fs ds) r w1
section
variable {Z : Dx} {e : Expr} {es : List Expr} {x : Str} {fs : List Str} {j k : Nat} {ta : DTA} {p pos pos' : Pos}
theorem ds_raise (b : Bd Z k) (c : XCls Z.X.prog Z.X.w Z.X.K Z.X.mg Z.X.base x j fs.length (fldsV fs)) (ha : DA Z (e :: es) ta) (hj : j + 1 ≤ k := by decide) (hn : fs.length ≤ 1000 := by decide) (hg : Gl Z.X x := by rfl) (hdb : (x == ("__debug__" : Str)) = false := by decide)
    (he : starEach (e :: es) Z.X.env = (false, eval e Z.X.env) :: starEach es Z.X.env := by rfl) (hpl : (backTo pos (starEach es Z.X.env)).any (·.1) = false := by rfl) :
    DS Z (.Raise (some (.Call (.Name x p) (e :: es) [] pos)) none pos') (dRaise Z.Wd (He.ga Z.X.K x) fs ta) := by
  obtain ⟨tA, pa, l⟩ := ha.ex
  have hx : Passes (L2.CX Z.X.prog Z.X.w) Z.X (fun _ _ _ => False) := fun pins σ H s e s' I c => by
    obtain ⟨_, _, _, _, _, _, _, _, _, _, _, _, z⟩ := c
    exact z.elim
  refine ⟨_, ps_raise b.calm b.tk (pmk_g c hn (b.room.mono hj) hx hg pa hdb he hpl), fun D DL r w s H S h E => ?_⟩
  refine l r w s H _ _ S h fun vs ds H1 w1 A1 r1 q => ?_
  obtain ⟨q1, q2⟩ := q
  refine ⟨r1.length.symm.trans q1, fun d hd => ?_⟩
  have A2 := Aft.new (p := d) (o := .xd (fldsV fs vs)) A1.om hd
  exact S.xw.1 _ d _ (fldsD fs ds) r s _ w1 upd_same ((rpf_flds r1).mono A2.same) (S.env.mono (A1.same.trans A2.same)) (A1.trans A2) q2
end
def dwAs (K : PySem.W.Frag) (c : Value) (i : Nat) (ts : Addr → Addr → List (Str × Dt) → DTS) (Wd : DWX) (D : DEnds) : DWX := fun C fs r w => ∃ b, PySem.W.exmOne K (.ref C) c = some b ∧
  br b (∀ a, ts a C fs { nx := fun r' w' => D.nx (pus r' i none) w', rt := D.rt, bk := fun r' w' => D.bk (pus r' i none) w', ct := fun r' w' => D.ct (pus r' i none) w' } (pus r i (some (.ptr a))) w) (Wd C fs r w)
def suZ (Z : Dx) (a : Addr) (oe : Obj) (pn : List (Addr × Obj)) (dd : Addr) (fs : List (Str × Dt)) : Dx :=
  ⟨Z.X.suite a ((a, oe) :: pn), fun _ _ _ _ => False, fun _ _ _ _ => False, fun w H => w dd = none ∧ ∃ gs, H dd = some (.xd gs) ∧ RpF Z.X.K (hm H w) fs gs⟩
def trZ (Z : Dx) (pn : List (Addr × Obj)) (xe : Value → Shared → Prop) (W : WX) (Wd : DWX) : Dx := ⟨Z.X.tr pn xe, W, Wd, fun _ _ => True⟩
theorem xd_stays {K : PySem.W.Frag} {w w' : Om} {H H' : Hp} {dd : Addr} {fs : List (Str × Dt)} {gs : List (Str × V)} (A : Aft K w H w' H') (h0 : w dd = none) (h1 : H dd = some (.xd gs)) (h2 : RpF K (hm H w) fs gs) : w' dd = none ∧ ∃ gs, H' dd = some (.xd gs) ∧ RpF K (hm H' w') fs gs := by
  have e : hm H w dd = some (.xd gs) := by rw [hm_no h0]; exact h1
  have e2 := A.same _ _ e
  obtain ⟨q1, q2⟩ := hm_some e2
  exact ⟨q1, gs, q2, h2.mono A.same⟩
section
variable {Z : Dx} {x n : Str} {c : Value} {i k : Nat} {body suite : List Stmt} {b₀ : Stmt} {np pos pos' : Pos} {tb : DWX → DTS} {ts : Addr → Addr → List (Str × Dt) → DTS}
theorem ds_tryAsN (b : Bd Z k) (hc : Names Z.X x c)
    (hb : ∀ (pn : List (Addr × Obj)) (xe : Value → Shared → Prop) (W : WX) (Wd : DWX), Bd (trZ Z pn xe W Wd) k → DSs (trZ Z pn xe W Wd) body (tb Wd))
    (hsu : ∀ (a C dd : Addr) (oe : Obj) (pn : List (Addr × Obj)) (fs : List (Str × Dt)), Zc (.ref C) (some dd) oe → (∃ vs, oe.data = .fields vs) → DSs (suZ Z a oe pn dd fs) (b₀ :: suite) (ts a C fs))
    (hi : Z.X.N[i]? = some n := by rfl) (hln : Z.X.env.kindOf n = some .local := by rfl) (hs : Z.X.stack = Z.X.env :: Z.X.outer := by rfl) (hf : Z.X.env.frame = some Z.X.env.locals := by rfl) :
    DS Z (.Try body [.ExceptHandler (some (.Name x np)) (some n) (b₀ :: suite) pos'] [] [] pos) (fun D r w => tb (dwAs Z.X.K c i ts Z.Wd D) D r w) := by
  refine ⟨_, ps_try_as (tb := fun W D σ H => ∀ pn xe, Takes (Z.X.tr pn xe) W → PassesOwn (model Z.X.prog Z.X.w) Z.X.A Z.X.env xe → ∃ tL, PSs (Z.X.tr pn xe) body tL ∧ tL D σ H)
    (ts := fun a cls d D σ H => ∀ oe pn, Zc cls d oe → (∃ vs, oe.data = .fields vs) → ∃ tL, PSs (Z.X.suite a ((a, oe) :: pn)) (b₀ :: suite) tL ∧ tL D σ H) hs hf b.nd hi hln hc b.tk ?_ ?_, ?_⟩
  · intro W pn xe tk po
    refine ⟨fun pins s σ H D I h => ?_⟩
    obtain ⟨tL, p, q⟩ := h pn xe tk po
    exact p.run pins s σ H D I q
  · intro a oe cls d pn hz hv
    refine ⟨fun pins s σ H D I h => ?_⟩
    obtain ⟨tL, p, q⟩ := h oe pn hz hv
    exact p.run pins s σ H D I q
  · intro D DL r w s H S h E pn xe tk po
    obtain ⟨tL, p, l⟩ := (hb pn xe _ (dwAs Z.X.K c i ts Z.Wd D) ⟨tk, po, b.calm, b.room, b.nd⟩).ex
    refine ⟨tL, p, l D DL r w s H ⟨S.env, S.om, ?_, fun _ _ _ => trivial⟩ h ⟨E.nx, E.rt, E.bk, E.ct⟩⟩
    intro C dx gs fs r1 s1 H1 w1 h1 h2 h3 A1 q
    obtain ⟨bb, hb1, q⟩ := q
    refine ⟨bb, hb1, ?_, ?_⟩
    · intro e a ha oe pn2 hz hv
      subst e
      obtain ⟨tL2, p2, l2⟩ := (hsu a C dx oe pn2 fs hz hv).ex
      have wa : w1 a = none := A1.om.fresh ha
      have wd : w1 dx = none := by
        cases e : w1 dx with
        | none => rfl
        | some m =>
          obtain ⟨o, e1, e2⟩ := A1.om dx m e
          rw [h1] at e1
          cases e1
          cases e2
      refine ⟨tL2, p2, l2 _ _ _ w1 _ H1 ⟨h3.put .ptr i, A1.om, ⟨fun _ _ _ _ _ _ _ _ _ _ _ _ z => z.elim, fun H2 w2 A2 => xd_stays A2 wd h1 h2⟩⟩ (q a) ⟨?_, ?_, ?_, ?_⟩⟩
      · exact fun r2 s2 H2 w2 A2 en q2 => E.nx _ _ H2 w2 (A1.trans A2) (en.off i) q2
      · exact fun v d H2 w2 A2 rv q2 => E.rt v d H2 w2 (A1.trans A2) rv q2
      · exact fun r2 s2 H2 w2 A2 en q2 => E.bk _ _ H2 w2 (A1.trans A2) (en.off i) q2
      · exact fun r2 s2 H2 w2 A2 en q2 => E.ct _ _ H2 w2 (A1.trans A2) (en.off i) q2
    · intro e
      subst e
      exact S.xw.1 C dx gs fs r1 s1 H1 w1 h1 h2 h3 A1 q
theorem ds_tryAs {C0 : Addr} (i : Nat) (b : Bd Z k) (hm : Z.X.mg x = some (.ref C0))
    (hb : ∀ (pn : List (Addr × Obj)) (xe : Value → Shared → Prop) (W : WX) (Wd : DWX), Bd (trZ Z pn xe W Wd) k → DSs (trZ Z pn xe W Wd) body (tb Wd))
    (hsu : ∀ (a C dd : Addr) (oe : Obj) (pn : List (Addr × Obj)) (fs : List (Str × Dt)), Zc (.ref C) (some dd) oe → (∃ vs, oe.data = .fields vs) → DSs (suZ Z a oe pn dd fs) (b₀ :: suite) (ts a C fs))
    (hg : Gl Z.X x := by rfl) (hdb : (x == ("__debug__" : Str)) = false := by decide) (hi : Z.X.N[i]? = some n := by rfl) (hln : Z.X.env.kindOf n = some .local := by rfl) (hs : Z.X.stack = Z.X.env :: Z.X.outer := by rfl) (hf : Z.X.env.frame = some Z.X.env.locals := by rfl) :
    DS Z (.Try body [.ExceptHandler (some (.Name x np)) (some n) (b₀ :: suite) pos'] [] [] pos) (fun D r w => tb (dwAs Z.X.K (.ref C0) i ts Z.Wd D) D r w) :=
  ds_tryAsN b ⟨hg, hdb, .inl hm⟩ hb hsu hi hln hs hf
end
def dXf (K : PySem.W.Frag) (a C : Addr) (fs : List (Str × Dt)) (f : Str) (te : DTE) : DTE := fun r w Q => XfC K C ∧ PySem.W.findIn K (.ref C) f = some none ∧ te r w fun x w1 => x = .ptr a ∧ ∃ d, fs.lookup f = some d ∧ Q d w1
def clsO : Dt → Option Value
  | .ptr p => some (.ref p)
  | .ty n => some (.type n)
  | _ => none
def clsOs : List Dt → Option (List Value)
  | [] => some []
  | d :: r => match clsO d, clsOs r with
    | some u, some us => some (u :: us)
    | _, _ => none
def isXR (K : PySem.W.Frag) (a C : Addr) : DFr := fun ds w Q => match ds with
  | [x, c] => x = .ptr a ∧ ExcC K C ∧ match c with
    | .tup cs => ∃ us b, clsOs cs = some us ∧ PySem.W.kitAny K (.ref C) us = some b ∧ Q (.bl b) w
    | c => ∃ u b, clsO c = some u ∧ PySem.W.kitOne K (.ref C) u = some b ∧ Q (.bl b) w
  | _ => False
theorem clsO_v {K : PySem.W.Frag} {H : Hp} {d : Dt} {v : V} {u : Value} (h : clsO d = some u) (r : Rp K H d v) : ClsV v u := by
  cases r <;> first
    | (cases h; exact .own _)
    | (cases h; exact .ty _)
    | (exact absurd h (by simp [clsO]))
theorem clsOs_v {K : PySem.W.Frag} {H : Hp} : ∀ {ds : List Dt} {vs : List V} {us : List Value}, clsOs ds = some us → RpL K H ds vs → Paired ClsV vs us
  | [], _, _, h, .nil => by cases h; exact .nil
  | d :: ds, _, _, h, .cons r t => by
    unfold clsOs at h
    split at h
    · rename_i u us h1 h2
      cases h
      exact .cons (clsO_v h1 r) (clsOs_v h2 t)
    · cases h
section
variable {Z : Dx} {a C dd : Addr} {oe : Obj} {pn : List (Addr × Obj)} {fs : List (Str × Dt)} {e : Expr} {es : List Expr} {te : DTE} {ta : DTA} {f x : Str} {p pos : Pos}
theorem de_xf (hz : Zc (.ref C) (some dd) oe) (hf : ∃ vs, oe.data = .fields vs) (he : DE (suZ Z a oe pn dd fs) e te) (hb : attributeBase e f Z.X.env (eval e Z.X.env) = eval e Z.X.env := by rfl) :
    DE (suZ Z a oe pn dd fs) (.Attribute e f pos) (dXf Z.X.K a C fs f te) := by
  obtain ⟨tL, p, l⟩ := he.ex
  refine ⟨fun σ H Q => ∃ (_ : XfC Z.X.K C) (_ : PySem.W.findIn Z.X.K (.ref C) f = some none), tXf a (.ref C) (some dd) C f tL σ H Q, ⟨fun pins s σ H Q I ⟨T, n, h⟩ => (pe_xf T n hz hf p hb).run pins s σ H Q I h⟩, fun r w s H Q QL S h k => ?_⟩
  obtain ⟨T, n, h⟩ := h
  refine ⟨T, n, l r w s H _ _ S h fun v d H1 w1 A1 rv q => ?_⟩
  obtain ⟨rfl, d, hl, q⟩ := q
  cases rv
  obtain ⟨w0, gs, h1, h2⟩ := S.xw.2 H1 w1 A1
  rcases h2.look (f := f) with ⟨z, _⟩ | ⟨d', v, e1, e2, rv⟩
  · rw [hl] at z; cases z
  · rw [hl] at e1; cases e1
    exact ⟨rfl, rfl, dd, gs, v, rfl, h1, e2, k v d H1 w1 A1 rv q⟩
theorem de_isX (hz : Zc (.ref C) (some dd) oe) (hf : ∃ vs, oe.data = .fields vs) (hmi : Z.X.mg "isinstance" = none) (ha : DA (suZ Z a oe pn dd fs) (e :: es) ta) (hg : Gl Z.X "isinstance" := by rfl)
    (he : starEach (e :: es) Z.X.env = (false, eval e Z.X.env) :: starEach es Z.X.env := by rfl) (hpl : (backTo pos (starEach es Z.X.env)).any (·.1) = false := by rfl) :
    DE (suZ Z a oe pn dd fs) (.Call (.Name "isinstance" p) (e :: es) [] pos) (dFn (isXR Z.X.K a C) ta) := by
  obtain ⟨_, pa, l⟩ := ha.ex
  refine ⟨_, pe_callB (call_isX (X := Z.X) hz hf) hg hmi (by decide +kernel) pa (by decide) (by decide) he hpl, fun r w s H Q QL S h k => ?_⟩
  refine l r w s H _ _ S h fun vs ds H1 w1 A1 rl q => ?_
  obtain ⟨w0, gs, h1, h2⟩ := S.xw.2 H1 w1 A1
  cases rl with
  | nil => exact q.elim
  | cons r1 rl => cases rl with
    | nil => exact q.elim
    | cons r2 rl => cases rl with
      | cons _ _ => exact q.elim
      | nil =>
        obtain ⟨rfl, T, q⟩ := q
        cases r1
        refine ⟨T, ⟨gs, h1⟩, ?_⟩
        have one : ∀ {c v}, Rp Z.X.K (hm H1 w1) c v → (∃ u b, clsO c = some u ∧ PySem.W.kitOne Z.X.K (.ref C) u = some b ∧ Q (.bl b) w1) → ∃ (c : V) (u : Value) (b : Bool), [V.ref a, v] = [.ref a, c] ∧ ClsV c u ∧ PySem.W.kitOne Z.X.K (.ref C) u = some b ∧ QL (.bl b) H1 := fun {c v} rc ⟨u, b, e1, e2, q⟩ =>
          ⟨v, u, b, rfl, clsO_v e1 rc, e2, k _ _ H1 w1 A1 .bl q⟩
        cases r2 with
        | tup hs rs =>
          obtain ⟨us, b, e1, e2, q⟩ := q
          exact .inr ⟨_, _, us, b, rfl, up_t hs, clsOs_v e1 rs, e2, k _ _ H1 w1 A1 .bl q⟩
        | ptr => exact .inl (one .ptr q)
        | ty => exact .inl (one .ty q)
        | _ => obtain ⟨_, _, z, _⟩ := q; exact absurd z (by simp [clsO])
end
end DL
namespace DL
open PySem PySem.Spec PyProof.Rows L2
structure XcK (K : PySem.W.Frag) (x : Str) (B newId initId : String) (tl : List Value) (fs : List Str) : Prop where
  ox : OexG K (He.ga K x) newId tl
  ini : PySem.W.findIn K (.ref (He.ga K x)) "__init__" = some (some (.ref (He.fAd K (x, some "__init__"))))
  ity : PySem.W.typeIn K (.ref (He.fAd K (x, some "__init__"))) = some (.type "function")
  no : ∀ f ∈ fs, PySem.W.findIn K (.ref (He.ga K x)) f = some none
  bi : PySem.W.findCls K (.type B) (.type "type") "__init__" = some (.val (.builtin initId))
  xf : XfC K (He.ga K x)
  xc : ExcC K (He.ga K x)
theorem clsB_ok {o : Option Obj} {C : Addr} {newId : String} {tl : List Value} (h : clsB o C newId tl = true) :
    ∃ nm q N bs bm sn sub ab col dd k0 k1 k2 k3 k5, o = some (excClassObj nm q C N bs bm true sn sub ab col dd k0 k1 k2 k3 k5 newId) ∧ EXG.own tl bm = true := by
  unfold clsB at h
  split at h
  · rename_i dd cd sl
    split at h
    · rename_i C' bm k0 k1 k2 k3 n k5 hm hs
      simp only [Bool.and_eq_true, beq_iff_eq, Bool.not_eq_true'] at h
      obtain ⟨rfl, rfl, hdel, hd, ho⟩ := h
      obtain ⟨nm, bs, mro, ns, qn, hdd, sn, sub, ab, col, del⟩ := cd
      dsimp only at hm hdel hd
      subst hm hdel hd
      obtain ⟨l⟩ := sl
      simp only at hs
      subst hs
      exact ⟨_, _, _, _, _, _, _, _, _, _, _, _, _, _, _, rfl, ho⟩
    · cases h
  · cases h
theorem valB_ok {o : Option PySem.W.CFound} {i : String} (h : valB o i = true) : o = some (.val (.builtin i)) := by
  unfold valB at h
  split at h
  · rw [beq_iff_eq.mp h]
  · cases h
theorem xk_of {K : PySem.W.Frag} {x : Str} {B newId initId : String} {tl : List Value} {fs : List Str} (h : xkB K x B newId initId tl fs = true) : XcK K x B newId initId tl fs := by
  obtain ⟨h1, h⟩ := He.ba h
  obtain ⟨h2, h⟩ := He.ba h
  obtain ⟨h3, h⟩ := He.ba h
  obtain ⟨h4, h⟩ := He.ba h
  obtain ⟨h5, h⟩ := He.ba h
  obtain ⟨h6, h⟩ := He.ba h
  obtain ⟨h7, h⟩ := He.ba h
  obtain ⟨h8, h⟩ := He.ba h
  obtain ⟨h9, h⟩ := He.ba h
  obtain ⟨h10, h⟩ := He.ba h
  obtain ⟨h11, h⟩ := He.ba h
  obtain ⟨h12, h13⟩ := He.ba h
  have xf := xfB_ok h9
  exact ⟨⟨clsB_ok h1, He.eqO_ok h2, xf.exC, by simpa using h3, h4⟩, He.eqO_ok h5, by simpa using h6, fun f hf => He.eqO_ok (List.all_eq_true.mp h7 f hf), valB_ok h8, xf, ⟨xf.ga, xf.gg, xf.exC, xf.hdC, He.eqO_ok h10, He.eqO_ok h11, by simpa using h12, by simpa using h13⟩⟩
theorem XcK.cls {P : Program} {w : World} {K : PySem.W.Frag} {mg : Str → Option Value} {base : Heap} {x : Str} {k : Nat} {B newId initId : String} {tl : List Value} {fs ps : List Str} {fd : FuncData} (X : XcK K x B newId initId tl fs) (Y : EXG.Bas B newId initId tl) (hg : mg x = some (.ref (He.ga K x)))
    (F : FnG P w K mg base k (He.fAd K (x, some "__init__")) fd ps (spX K newId tl fs.length (fldsV fs))) (hb : Binds K fd ps []) : XCls P w K mg base x k fs.length (fldsV fs) :=
  ⟨B, newId, initId, tl, _, fd, ps, Y, X.ox, X.ini, X.ity, F, hb, fun ys _ f hf => X.no f (fldsV_names hf), hg⟩
theorem init1 {K : PySem.W.Frag} {newId : String} {tl : List Value} {f msg : Str} {vs : List V} {H : Hp} {Q : VK} {E : XK} (h : spX K newId tl 1 (fldsV [f]) vs H Q E) (self a : Str) :
    tSeq (tDrop (tBi K newId tl (tCons (tVar 0) (tCons (tC (.str msg)) tNil)))) (tStg K newId tl f (tVar 0) (tVar 1)) { nx := fun _ H' => Q .non H', rt := Q } (start [self, a] vs) H := by
  obtain ⟨x, C, ys, rfl, hl, T, ha, hn, q⟩ := h
  match ys, hl with
  | [y], _ =>
    refine ⟨_, rfl, ⟨x, C, [.str msg], rfl, by show 1 ≤ 1000; omega, T, ha, ?_⟩⟩
    refine ⟨y, rfl, .ref x, rfl, x, C, rfl, T, hn f (by simp [fldsV]), .inl ⟨ha, fun dx h1 h2 => ?_⟩⟩
    refine q dx _ h1 h2 (fun b h3 h4 => by rw [upd_ne h3, upd_ne h4]) upd_same (by rw [upd_ne h2, upd_same]; rfl)
end DL
namespace DL
open PySem PySem.Spec PyProof.Rows L2 TL
theorem tl_sgn {l : List Nat} {n : Nat} {b : Bool} (h : l.drop (if b = true then 1 else 0) = numL n) (hb : b = true → l.take 1 = [45]) (h0 : b = true → n ≠ 0) : l = tlI (if b = true then -(n : Int) else n) := by
  unfold tlI
  cases b with
  | true =>
    rw [if_pos rfl] at h
    have z := h0 rfl
    rw [if_pos rfl, if_pos (by omega)]
    have e := hb rfl
    cases l with
    | nil => cases e
    | cons c r =>
      have ec : c = 45 := by simpa using e
      have er : r = numL n := h
      rw [ec, er, show (-(n : Int)).natAbs = n by omega]
  | false =>
    rw [if_neg (by decide)] at h
    rw [show (if false = true then -(n : Int) else (n : Int)) = (n : Int) from rfl, if_neg (by omega)]
    exact h
theorem sgn_low {n m : Nat} {b : Bool} (h : (Rat.divInt (n : Int) (m : Int)).num = (n : Int) ∧ (Rat.divInt (n : Int) (m : Int)).den = m) : (Rat.divInt (if b = true then -(n : Int) else n) (m : Int)).num = (if b = true then -(n : Int) else n) ∧ (Rat.divInt (if b = true then -(n : Int) else n) (m : Int)).den = m := by
  cases b with
  | false => exact h
  | true =>
    rw [if_pos rfl, ← Rat.neg_divInt, Rat.neg_num, Rat.neg_den, h.1, h.2]
    exact ⟨rfl, rfl⟩
theorem reads {x a : Str} {n m : Nat} {b : Bool} {r : List Nat} (hx : tl x = tl a ++ r) (ha : (tl a).drop (if b = true then 1 else 0) = numL n) (hb : b = true → (tl a).take 1 = [45]) (h0 : b = true → n ≠ 0)
    (hl : (Rat.divInt (n : Int) (m : Int)).num = (n : Int) ∧ (Rat.divInt (n : Int) (m : Int)).den = m) (hr : (m = 1 ∧ r = []) ∨ (m ≠ 1 ∧ r = 47 :: numL m)) : x = strN (Rat.divInt (if b = true then -(n : Int) else n) (m : Int)) := by
  have e := tl_sgn ha hb h0
  obtain ⟨h1, h2⟩ := sgn_low (b := b) hl
  refine ext_tl ?_
  rw [tl_strN, h1, h2, hx, ← e]
  rcases hr with ⟨rfl, rfl⟩ | ⟨z, rfl⟩
  · rw [if_pos rfl, List.append_nil]
  · rw [if_neg z]
section
variable {Z : Dx}
def splitPR : DSr := s1R fun y z w Q => (z.length == 0) = false ∧ y.length + 2 ≤ sizeLine ∧ ∀ p, w p = none → Q (.ptr p) (put w p (.lst (strsD (Txt.split y z))))
end
end DL
namespace DL
open PySem PySem.Spec PyProof.Rows L2 TL
def sg (c : Nat) : Bool := c == 45 || (decide (48 ≤ c) && decide (c ≤ 57))
end DL
namespace DL
open PySem PySem.Spec PyProof.Rows L2
structure SuOf (Zs : Dx) (K : PySem.W.Frag) (a C : Addr) (fs : List (Str × Dt)) : Prop where
  ex : ∃ (Z : Dx) (oe : Obj) (pn : List (Addr × Obj)) (dd : Addr), Zs = suZ Z a oe pn dd fs ∧ Zc (.ref C) (some dd) oe ∧ (∃ vs, oe.data = .fields vs) ∧ K = Z.X.K
section
variable {Z : Dx} {x n : Str} {i k : Nat} {body suite : List Stmt} {b₀ : Stmt} {np pos pos' : Pos} {tb : DWX → DTS} {ts : Addr → Addr → List (Str × Dt) → DTS}
theorem ds_tryAsS {C0 : Addr} (i : Nat) (b : Bd Z k) (hm : Z.X.mg x = some (.ref C0))
    (hb : ∀ (pn : List (Addr × Obj)) (xe : Value → Shared → Prop) (W : WX) (Wd : DWX), Bd (trZ Z pn xe W Wd) k → DSs (trZ Z pn xe W Wd) body (tb Wd))
    (hsu : ∀ (a C dd : Addr) (oe : Obj) (pn : List (Addr × Obj)) (fs : List (Str × Dt)), SuOf (suZ Z a oe pn dd fs) Z.X.K a C fs → DSs (suZ Z a oe pn dd fs) (b₀ :: suite) (ts a C fs))
    (hg : Gl Z.X x := by rfl) (hdb : (x == ("__debug__" : Str)) = false := by decide) (hi : Z.X.N[i]? = some n := by rfl) (hln : Z.X.env.kindOf n = some .local := by rfl) (hs : Z.X.stack = Z.X.env :: Z.X.outer := by rfl) (hf : Z.X.env.frame = some Z.X.env.locals := by rfl) :
    DS Z (.Try body [.ExceptHandler (some (.Name x np)) (some n) (b₀ :: suite) pos'] [] [] pos) (fun D r w => tb (dwAs Z.X.K (.ref C0) i ts Z.Wd D) D r w) :=
  ds_tryAs i b hm hb (fun a C dd oe pn fs hz hv => hsu a C dd oe pn fs ⟨Z, oe, pn, dd, rfl, hz, hv, rfl⟩) hg hdb hi hln hs hf
end
section
variable {Zs : Dx} {K : PySem.W.Frag} {a C : Addr} {fs : List (Str × Dt)} {e : Expr} {es : List Expr} {te : DTE} {ta : DTA} {f : Str} {p pos : Pos}
theorem de_xfS (su : SuOf Zs K a C fs) (he : DE Zs e te) (hb : attributeBase e f Zs.X.env (eval e Zs.X.env) = eval e Zs.X.env := by rfl) : DE Zs (.Attribute e f pos) (dXf K a C fs f te) := by
  obtain ⟨Z, oe, pn, dd, rfl, hz, hv, rfl⟩ := su.ex
  exact de_xf hz hv he hb
theorem de_isXS (su : SuOf Zs K a C fs) (hmi : Zs.X.mg "isinstance" = none) (ha : DA Zs (e :: es) ta) (hg : Gl Zs.X "isinstance" := by rfl)
    (he : starEach (e :: es) Zs.X.env = (false, eval e Zs.X.env) :: starEach es Zs.X.env := by rfl) (hpl : (backTo pos (starEach es Zs.X.env)).any (·.1) = false := by rfl) :
    DE Zs (.Call (.Name "isinstance" p) (e :: es) [] pos) (dFn (isXR K a C) ta) := by
  obtain ⟨Z, oe, pn, dd, rfl, hz, hv, rfl⟩ := su.ex
  exact de_isX hz hv hmi ha hg he hpl
end
theorem de_callW {Z : Dx} {e : Expr} {l : List Dt} {sp : DSp} {ta : DTA} (Wd : DWX) (hW : Z.Wd = Wd) (h : DE Z e (dCall Z.Wd l sp ta)) : DE Z e (dCall Wd l sp ta) := hW ▸ h
end DL
namespace DL
open PySem PySem.Spec PyProof.Rows L2
section
variable {Z : Dx} {e : Expr} {te : DTE} {pos : Pos}
def dRevS (te : DTE) : DTE := fun r w Q => te r w fun x w1 => match x with
  | .str z => z.length ≤ sizeLine ∧ ∀ y : Str, y.length ≤ z.length → Q (.str y) w1
  | _ => False
end
end DL
namespace DL
open PySem PySem.Spec PyProof.Rows L2
section
variable {Z : Dx} {e : Expr} {elts : List Expr} {n : Nat} {ta : DTA} {p pos tp : Pos}
def dEnumS (ta : DTA) : DTI := fun r w R => ta r w fun ds w1 => match ds with
  | [.str z] => R (enuD (chD z)) (fun _ => True) w1
  | _ => False
end
end DL
namespace DL
open PySem PySem.Spec PyProof.Rows L2
theorem seq_op {t u : DTS} {D : DEnds} {r : Rho} {w : Om} (h : ∀ N : Rho → Om → Prop, (∀ r' w', u D r' w' → N r' w') → t { D with nx := N } r w) : dSeq t u D r w := h _ fun _ _ x => x
theorem br_T {A B : Prop} : br true A B = A := rfl
theorem br_F {A B : Prop} : br false A B = B := rfl
theorem eqR_i {i j : Int} {w : Om} {Q : DK} : eqR (.int i) (.int j) w Q = (Q (.bl (decide (i = j))) w) := rfl
theorem neR_i {i j : Int} {w : Om} {Q : DK} : neR (.int i) (.int j) w Q = (Q (.bl (!decide (i = j))) w) := rfl
theorem eqR_s {i j : Str} {w : Om} {Q : DK} : eqR (.str i) (.str j) w Q = (Q (.bl (decide (i = j))) w) := rfl
theorem neR_s {i j : Str} {w : Om} {Q : DK} : neR (.str i) (.str j) w Q = (Q (.bl (!decide (i = j))) w) := rfl
theorem eqR_b {i j : Bool} {w : Om} {Q : DK} : eqR (.bl i) (.bl j) w Q = (Q (.bl (decide (i = j))) w) := rfl
theorem neR_b {i j : Bool} {w : Om} {Q : DK} : neR (.bl i) (.bl j) w Q = (Q (.bl (!decide (i = j))) w) := rfl
theorem eqR_n  {w : Om} {Q : DK} : eqR .non .non w Q = (Q (.bl true) w) := rfl
theorem neR_n  {w : Om} {Q : DK} : neR .non .non w Q = (Q (.bl false) w) := rfl
theorem itemR_t {xs : List Dt} {i : Int} {w : Om} {Q : DK} : itemR (.tup xs) (.int i) w Q = (∃ d, L2.atI xs i = some d ∧ Q d w) := rfl
theorem itemR_l {xs : List Dt} {i : Int} {w : Om} {Q : DK} : itemR (.lst xs) (.int i) w Q = (∃ d, L2.atI xs i = some d ∧ Q d w) := rfl
theorem itemR_r {xs : List Dt} {i : Int} {w : Om} {Q : DK} : itemR (.rl xs) (.int i) w Q = (∃ d, L2.atI xs i = some d ∧ Q d w) := rfl
theorem itemR_p {p : Addr} {i : Int} {w : Om} {Q : DK} : itemR (.ptr p) (.int i) w Q = (∃ xs, w p = some (.lst xs) ∧ ∃ d, L2.atI xs i = some d ∧ Q d w) := rfl
theorem itemR_s {z : Str} {i : Int} {w : Om} {Q : DK} : itemR (.str z) (.int i) w Q = (z.length ≤ sizeLine ∧ ∃ c, L2.atI z.cps.toList i = some c ∧ Q (.str ⟨#[c]⟩) w) := rfl
theorem addR_i {i j : Int} {w : Om} {Q : DK} : addR (.int i) (.int j) w Q = (Q (.int (i + j)) w) := rfl
theorem addR_b {i : Int} {k : Bool} {w : Om} {Q : DK} : addR (.int i) (.bl k) w Q = (Q (.int (i + b2i k)) w) := rfl
theorem addR_s {a b : Str} {w : Om} {Q : DK} : addR (.str a) (.str b) w Q = (a.length + b.length ≤ sizeLine ∧ Q (.str (a ++ b)) w) := rfl
theorem addR_l {a b : List Dt} {w : Om} {Q : DK} : addR (.lst a) (.lst b) w Q = (a.length + b.length ≤ sizeLine ∧ Q (.lst (a ++ b)) w) := rfl
theorem addR_t {a b : List Dt} {w : Om} {Q : DK} : addR (.tup a) (.tup b) w Q = (a.length + b.length ≤ sizeLine ∧ Q (.tup (a ++ b)) w) := rfl
theorem mulR_i {i j : Int} {w : Om} {Q : DK} : mulR (.int i) (.int j) w Q = (MulC i j ∧ Q (.int (i * j)) w) := rfl
theorem dI_i {C : Int → Int → Prop} {g : Int → Int → Dt} {i j : Int} {w : Om} {Q : DK} : dI C g (.int i) (.int j) w Q = (C i j ∧ Q (g i j) w) := rfl
theorem dI0_i {g : Int → Int → Dt} {i j : Int} {w : Om} {Q : DK} : dI0 g (.int i) (.int j) w Q = (Q (g i j) w) := rfl
theorem isR_n {b : Bool} {x : Dt} {w : Om} {Q : DK} : isR b x .non w Q = (Q (.bl (if b then !DL.isNon x else DL.isNon x)) w) := rfl
theorem isR_b {b a c : Bool} {w : Om} {Q : DK} : isR b (.bl a) (.bl c) w Q = (Q (.bl (if b then !decide (a = c) else decide (a = c))) w) := rfl
theorem lenR_t {xs : List Dt} {w : Om} {Q : DK} : lenR [.tup xs] w Q = (Q (.int xs.length) w) := rfl
theorem listR_t {xs : List Dt} {w : Om} {Q : DK} : listR [.tup xs] w Q = (Q (.lst xs) w) := rfl
theorem tupleR_t {xs : List Dt} {w : Om} {Q : DK} : tupleR [.tup xs] w Q = (Q (.tup xs) w) := rfl
theorem sliceR_t {xs : List Dt} {lo hi : Option Int} {w : Om} {Q : DK} : sliceR (.tup xs) lo hi w Q = (Q (.tup (cutD xs lo hi)) w) := rfl
theorem lenR_l {xs : List Dt} {w : Om} {Q : DK} : lenR [.lst xs] w Q = (Q (.int xs.length) w) := rfl
theorem listR_l {xs : List Dt} {w : Om} {Q : DK} : listR [.lst xs] w Q = (Q (.lst xs) w) := rfl
theorem tupleR_l {xs : List Dt} {w : Om} {Q : DK} : tupleR [.lst xs] w Q = (Q (.tup xs) w) := rfl
theorem sliceR_l {xs : List Dt} {lo hi : Option Int} {w : Om} {Q : DK} : sliceR (.lst xs) lo hi w Q = (Q (.lst (cutD xs lo hi)) w) := rfl
theorem lenR_r {xs : List Dt} {w : Om} {Q : DK} : lenR [.rl xs] w Q = (Q (.int xs.length) w) := rfl
theorem listR_r {xs : List Dt} {w : Om} {Q : DK} : listR [.rl xs] w Q = (Q (.lst xs) w) := rfl
theorem tupleR_r {xs : List Dt} {w : Om} {Q : DK} : tupleR [.rl xs] w Q = (Q (.tup xs) w) := rfl
theorem sliceR_r {xs : List Dt} {lo hi : Option Int} {w : Om} {Q : DK} : sliceR (.rl xs) lo hi w Q = (Q (.lst (cutD xs lo hi)) w) := rfl
theorem lenR_s {z : Str} {w : Om} {Q : DK} : lenR [.str z] w Q = (z.length ≤ sizeLine ∧ Q (.int z.length) w) := rfl
theorem lenR_p {p : Addr} {w : Om} {Q : DK} : lenR [.ptr p] w Q = (∃ xs, w p = some (.lst xs) ∧ Q (.int xs.length) w) := rfl
theorem listR_p {p : Addr} {w : Om} {Q : DK} : listR [.ptr p] w Q = (∃ xs, w p = some (.lst xs) ∧ Q (.lst xs) w) := rfl
theorem tupleR_p {p : Addr} {w : Om} {Q : DK} : tupleR [.ptr p] w Q = (∃ xs, w p = some (.lst xs) ∧ Q (.tup xs) w) := rfl
theorem sliceR_p {p : Addr} {lo hi : Option Int} {w : Om} {Q : DK} : sliceR (.ptr p) lo hi w Q = (∃ xs, w p = some (.lst xs) ∧ Q (.lst (cutD xs lo hi)) w) := rfl
theorem sliceR_s {z : Str} {lo hi : Option Int} {w : Om} {Q : DK} : sliceR (.str z) lo hi w Q = (z.length ≤ sizeLine ∧ Q (.str (cutS z lo hi)) w) := rfl
theorem absR_i {i : Int} {w : Om} {Q : DK} : absR [.int i] w Q = (Q (.int (if i < 0 then -i else i)) w) := rfl
theorem max2R_i {i j : Int} {w : Om} {Q : DK} : max2R [.int i, .int j] w Q = (Q (.int (if j > i then j else i)) w) := rfl
theorem min2R_i {i j : Int} {w : Om} {Q : DK} : min2R [.int i, .int j] w Q = (Q (.int (if j < i then j else i)) w) := rfl
theorem intR_i {i : Int} {w : Om} {Q : DK} : intR [.int i] w Q = (Q (.int i) w) := rfl
theorem intR_b {b : Bool} {w : Om} {Q : DK} : intR [.bl b] w Q = (Q (.int (if b then 1 else 0)) w) := rfl
theorem strR_i {i : Int} {w : Om} {Q : DK} : strR [.int i] w Q = (i.natAbs.log2 < 1920 ∧ Q (.str (toString i)) w) := rfl
theorem strR_s {a : Str} {w : Om} {Q : DK} : strR [.str a] w Q = (Q (.str a) w) := rfl
theorem mulSR_s {a : Str} {n : Int} {w : Om} {Q : DK} : mulSR (.str a) (.int n) w Q = (MulOk a n ∧ Q (.str (Txt.mul a n)) w) := rfl
theorem mulLR_l {xs : List Dt} {n : Int} {w : Om} {Q : DK} : mulLR (.lst xs) (.int n) w Q = ((0 ≤ n ∧ n ≤ 1000) ∧ xs.length * n.toNat ≤ sizeLine ∧ Q (.lst (List.replicate n.toNat xs).flatten) w) := rfl
theorem gTp_1 {gs : DTGs} {a : Dt} {r : Rho} {w : Om} {Q : Rho → Om → Prop} : gTp 1 gs (.tup [a]) r w Q = gs [a] r w Q := rfl
theorem gTp_2 {gs : DTGs} {a b : Dt} {r : Rho} {w : Om} {Q : Rho → Om → Prop} : gTp 2 gs (.tup [a, b]) r w Q = gs [a, b] r w Q := rfl
theorem gTp_3 {gs : DTGs} {a b c : Dt} {r : Rho} {w : Om} {Q : Rho → Om → Prop} : gTp 3 gs (.tup [a, b, c]) r w Q = gs [a, b, c] r w Q := rfl
theorem gTp_4 {gs : DTGs} {a b c d : Dt} {r : Rho} {w : Om} {Q : Rho → Om → Prop} : gTp 4 gs (.tup [a, b, c, d]) r w Q = gs [a, b, c, d] r w Q := rfl
theorem gTp_5 {gs : DTGs} {a b c d e : Dt} {r : Rho} {w : Om} {Q : Rho → Om → Prop} : gTp 5 gs (.tup [a, b, c, d, e]) r w Q = gs [a, b, c, d, e] r w Q := rfl
theorem gTp_6 {gs : DTGs} {a b c d e f : Dt} {r : Rho} {w : Om} {Q : Rho → Om → Prop} : gTp 6 gs (.tup [a, b, c, d, e, f]) r w Q = gs [a, b, c, d, e, f] r w Q := rfl
theorem gTp_7 {gs : DTGs} {a b c d e f g : Dt} {r : Rho} {w : Om} {Q : Rho → Om → Prop} : gTp 7 gs (.tup [a, b, c, d, e, f, g]) r w Q = gs [a, b, c, d, e, f, g] r w Q := rfl
theorem gTp_8 {gs : DTGs} {a b c d e f g h : Dt} {r : Rho} {w : Om} {Q : Rho → Om → Prop} : gTp 8 gs (.tup [a, b, c, d, e, f, g, h]) r w Q = gs [a, b, c, d, e, f, g, h] r w Q := rfl
theorem at0 {α : Type} {c : α} {l : List α} : L2.atI (c :: l) 0 = some c := by
  unfold L2.atI ixN
  rw [if_pos (by omega), if_pos (by rw [List.length_cons]; omega)]
  rfl
theorem at1 {α : Type} {c d : α} {l : List α} : L2.atI (c :: d :: l) 1 = some d := by
  unfold L2.atI ixN
  rw [if_pos (by omega), if_pos (by rw [List.length_cons, List.length_cons]; omega)]
  rfl
def ForB (xs : List Dt) (St : Om → Prop) (g : DTG) (tb : DTS) (D : DEnds) (r : Rho) (w1 : Om) : Prop := ∃ P : Nat → Rho → Om → Prop, P 0 r w1 ∧
    (∀ i r' w', i ≤ xs.length → P i r' w' → St w' ∧ ∀ d, xs[i]? = some d → g d r' w' fun r2 w2 => tb { D with nx := P (i + 1), ct := P (i + 1), bk := D.nx } r2 w2) ∧
    ∀ r' w', P xs.length r' w' → D.nx r' w'
def LcB (xs : List Dt) (St : Om → Prop) (g : DTG) (tt : DTT) (te : DTE) (vs : List Nat) (fin : Rho → Addr → Om → DK → Prop) (r : Rho) (w1 : Om) (Q : DK) : Prop := ∀ D, w1 D = none → ∃ P : Nat → Om → Prop, P 0 (put w1 D (.lst [])) ∧
    (∀ i w2, i ≤ xs.length → P i w2 → St w2 ∧ ∀ d, xs[i]? = some d → g d (wipeD r vs) w2 fun r4 w4 => tt r4 w4 fun b w5 => br b (te r4 w5 fun y w6 => ∃ acc, w6 D = some (.lst acc) ∧ acc.length < sizeLine ∧ P (i + 1) (put w6 D (.lst (acc ++ [y])))) (P (i + 1) w5)) ∧
    ∀ w2, P xs.length w2 → fin r D w2 Q
theorem for_i {xs : List Dt} {St : Om → Prop} {g : DTG} {tb : DTS} {D : DEnds} {r : Rho} {w1 : Om} (P : Nat → Rho → Om → Prop) (h0 : P 0 r w1)
    (step : ∀ i r' w' d (N : Rho → Om → Prop), xs[i]? = some d → P i r' w' → (∀ r2 w2, P (i + 1) r2 w2 → N r2 w2) → St w' ∧ g d r' w' fun r2 w2 => tb { D with nx := N, ct := N, bk := D.nx } r2 w2)
    (hst : ∀ r' w', P xs.length r' w' → St w') (h : ∀ r' w', P xs.length r' w' → D.nx r' w') : ForB xs St g tb D r w1 := by
  refine ⟨P, h0, fun i r' w' hi hP => ?_, h⟩
  rcases Nat.lt_or_ge i xs.length with z | z
  · obtain ⟨s1, s2⟩ := step i r' w' _ (P (i + 1)) (List.getElem?_eq_getElem z) hP fun _ _ q => q
    exact ⟨s1, fun d hd => by rw [List.getElem?_eq_getElem z] at hd; cases hd; exact s2⟩
  · have e : i = xs.length := Nat.le_antisymm hi z
    subst e
    exact ⟨hst _ _ hP, fun d hd => by rw [List.getElem?_eq_none (Nat.le_refl _)] at hd; cases hd⟩
theorem dFor_eq {wi : DTI} {g : DTG} {tb : DTS} {D : DEnds} {r : Rho} {w : Om} : dFor wi g tb D r w = wi r w (fun xs St w1 => ForB xs St g tb D r w1) := rfl
theorem dLcK_eq {wi : DTI} {g : DTG} {tt : DTT} {te : DTE} {vs : List Nat} {fin : Rho → Addr → Om → DK → Prop} {r : Rho} {w : Om} {Q : DK} : dLcK wi g tt te vs fin r w Q = wi r w (fun xs St w1 => LcB xs St g tt te vs fin r w1 Q) := rfl
end DL
namespace DL
open PySem PySem.Spec PyProof.Rows L2
theorem RpF.none {K : PySem.W.Frag} {H : Hp} {fs : List (Str × Dt)} {gs : List (Str × V)} {m : Str} (r : RpF K H fs gs) (h : fs.lookup m = none) : gs.lookup m = none := by
  rcases r.look (f := m) with ⟨_, e⟩ | ⟨d, v, e, _⟩
  · exact e
  · rw [h] at e; cases e
end DL
namespace DL
open PySem PySem.Spec PyProof.Rows L2
structure XcI (K : PySem.W.Frag) (x y : Str) (B newId initId : String) (tl : List Value) (fs : List Str) : Prop where
  ox : OexG K (He.ga K x) newId tl
  ini : PySem.W.findIn K (.ref (He.ga K x)) "__init__" = some (some (.ref (He.fAd K (y, some "__init__"))))
  ity : PySem.W.typeIn K (.ref (He.fAd K (y, some "__init__"))) = some (.type "function")
  no : ∀ f ∈ fs, PySem.W.findIn K (.ref (He.ga K x)) f = some none
  xf : XfC K (He.ga K x)
  xc : ExcC K (He.ga K x)
theorem XcI.cls {P : Program} {w : World} {K : PySem.W.Frag} {mg : Str → Option Value} {base : Heap} {x y : Str} {k : Nat} {B newId initId : String} {tl : List Value} {fs ps : List Str} {fd : FuncData} (X : XcI K x y B newId initId tl fs) (Y : EXG.Bas B newId initId tl) (hg : mg x = some (.ref (He.ga K x)))
    (F : FnG P w K mg base k (He.fAd K (y, some "__init__")) fd ps (spX K newId tl fs.length (fldsV fs))) (hb : Binds K fd ps []) : XCls P w K mg base x k fs.length (fldsV fs) :=
  ⟨B, newId, initId, tl, _, fd, ps, Y, X.ox, X.ini, X.ity, F, hb, fun ys _ f hf => X.no f (fldsV_names hf), hg⟩
end DL
namespace DL
open PySem PySem.Spec PyProof.Rows L2
def emptyS : L2.Key → Bool := fun _ => false
def withS (S : L2.Key → Bool) (k : L2.Key) : L2.Key → Bool := fun j => S j || decide (j = k)
end DL
namespace DL
open PySem PySem.Spec PyProof.Rows L2
section
variable {Z : Dx} {k : Nat} {tt : DTT} {te tk : DTE} {pos p : Pos} {vs : List Nat}
theorem OmOk.dki {K : PySem.W.Frag} {w : Om} {H : Hp} {D : Addr} {ks : List L2.Key} {ds : List Dt} (ok : OmOk K w H) (h : w D = some (.dki ks ds)) : ∃ vs, H D = some (.dK (ks.zip vs)) ∧ RpL K (hm H w) ds vs ∧ ks.length = ds.length := by
  obtain ⟨o, h1, h2⟩ := ok _ _ h
  cases h2 with
  | dki r l => exact ⟨_, h1, r, l⟩
variable {o e f : Expr} {to tf : DTE} {apos cpos : Pos}
end
def cntK (l : List L2.Key) : (L2.Key → Bool) × Nat := l.foldl (fun p c => (withS p.1 c, if p.1 c = true then p.2 else p.2 + 1)) (emptyS, 0)
theorem cnt_snoc (l : List L2.Key) (c : L2.Key) : cntK (l ++ [c]) = (withS (cntK l).1 c, if (cntK l).1 c = true then (cntK l).2 else (cntK l).2 + 1) := by
  unfold cntK
  rw [List.foldl_append]; rfl
theorem snoc_ind {α : Type} {P : List α → Prop} (h0 : P []) (h1 : ∀ l a, P l → P (l ++ [a])) (l : List α) : P l := by
  rw [← List.reverse_reverse l]
  induction l.reverse with
  | nil => exact h0
  | cons a r ih => rw [List.reverse_cons]; exact h1 _ _ ih
theorem cntK_mem (l : List L2.Key) : ∀ k, (cntK l).1 k = true ↔ k ∈ l := by
  refine snoc_ind (P := fun l => ∀ k, (cntK l).1 k = true ↔ k ∈ l) ?_ ?_ l
  · intro k
    simp [cntK, emptyS]
  · intro l c ih k
    rw [cnt_snoc]
    show ((cntK l).1 k || decide (k = c)) = true ↔ _
    rw [Bool.or_eq_true, ih k]
    simp [List.mem_append]
theorem cntK_le (l : List L2.Key) : (cntK l).2 ≤ l.length := by
  refine snoc_ind (P := fun l => (cntK l).2 ≤ l.length) (Nat.le_refl 0) (fun l c ih => ?_) l
  rw [cnt_snoc, List.length_append, List.length_singleton]
  dsimp only
  split <;> omega
theorem cntK_nodup (l : List L2.Key) : (cntK l).2 = l.length ↔ l.Nodup := by
  refine snoc_ind (P := fun l => (cntK l).2 = l.length ↔ l.Nodup) ?_ (fun l c ih => ?_) l
  · simp [cntK]
  · rw [cnt_snoc, List.length_append, List.length_singleton]
    dsimp only
    rw [List.nodup_append, ← ih]
    have := cntK_le l
    by_cases h : c ∈ l
    · rw [if_pos ((cntK_mem l c).mpr h)]
      constructor
      · intro e; omega
      · rintro ⟨_, _, z⟩
        exact absurd rfl (z c h c (by simp))
    · rw [if_neg (fun z => h ((cntK_mem l c).mp z))]
      constructor
      · intro e
        refine ⟨by omega, by simp, fun a ha b hb => ?_⟩
        rw [List.mem_singleton] at hb
        subst hb
        exact fun z => h (z ▸ ha)
      · rintro ⟨e, _, _⟩
        omega
end DL
namespace DL
open PySem PySem.Spec PyProof.Rows L2 TL
structure InsI (K : PySem.W.Frag) (C : Addr) : Prop where
  cl : Cls K C
  ha : PySem.W.findIn K (.ref C) "__class__" = some (some (.builtin "object.__class__"))
  hn : PySem.W.specialIn K (.builtin "object.__class__") "__get__" = some (some (.builtin "getset_descriptor.__get__"))
  htk : PySem.W.takesIn K (.builtin "object.__class__") = some true
  hm : PySem.W.mroIn K C (.type "object") = some true
theorem ins_of {K : PySem.W.Frag} {c : Str} (h : insB K c = true) : InsI K (He.ga K c) := by
  obtain ⟨h1, h⟩ := He.ba h
  obtain ⟨h2, h⟩ := He.ba h
  obtain ⟨h3, h⟩ := He.ba h
  obtain ⟨h4, h5⟩ := He.ba h
  exact ⟨He.cls_ok h1, He.eqO_ok h2, He.eqO_ok h3, by simpa using h4, by simpa using h5⟩
structure IsG (K : PySem.W.Frag) (u : Value) (l : List String) (own : List (Str × Bool)) : Prop where
  ty : ∀ n ∈ "dict" :: kinds, PySem.W.kitOne K (.type n) u = some (l.contains n)
  own : ∀ c ∈ own, PySem.W.kitOne K (.ref (He.ga K c.1)) u = some c.2 ∧ InsI K (He.ga K c.1)
theorem isg_of {K : PySem.W.Frag} {u : Value} {l : List String} {own : List (Str × Bool)} (h : isGB K u l own = true) : IsG K u l own := by
  obtain ⟨h1, h2⟩ := He.ba h
  refine ⟨fun n hn => by simpa using List.all_eq_true.mp h1 n hn, fun c hc => ?_⟩
  obtain ⟨a, b⟩ := He.ba (List.all_eq_true.mp h2 c hc)
  exact ⟨by simpa using a, ins_of b⟩
def kindIn (l : List String) (x : Dt) : Bool := match tyName x with
  | some n => l.contains n
  | none => false
def isRG (K : PySem.W.Frag) (l : List String) (own : List (Str × Bool)) : DFr := on2 fun x _ w Q => match x with
  | .ptr a => ∃ xs, w a = some (.lst xs) ∧ Q (.bl (l.contains "list")) w
  | .ty _ => False
  | .ins C _ => ∃ c ∈ own, C = He.ga K c.1 ∧ Q (.bl c.2) w
  | .num _ => ∃ c ∈ own, c.1 = "Number" ∧ Q (.bl c.2) w
  | .dct _ => Q (.bl (l.contains "dict")) w
  | x => Q (.bl (kindIn l x)) w
theorem f_isG {Z : Dx} {u : Value} {l : List String} {own : List (Str × Bool)} {cd : Dt} {cv : V} (I : IsG Z.X.K u l own) (hc : ClsV cv u) (hcd : ∀ K H v, Rp K H cd v → v = cv) : DFn Z (.builtin "isinstance") (fun ds w Q => (∃ x, ds = [x, cd]) ∧ isRG Z.X.K l own ds w Q) := by
  refine ⟨_, call_isi, fun ds vs w H Q QL ok r h k => ?_⟩
  obtain ⟨⟨x0, e0⟩, h⟩ := h
  obtain ⟨d, e, v, c, rfl, rfl, rv, rc, h⟩ := rl2 r h
  injection e0 with e1 e2
  injection e2 with e3 e4
  subst e1 e3
  have ec := hcd _ _ _ rc
  subst ec
  have ty : ∀ (d : Dt) n, tyName d = some n → PySem.W.kitOne Z.X.K (.type n) u = some (l.contains n) := fun d n e => I.ty n (List.mem_cons_of_mem _ (tyName_mem e))
  cases rv with
  | non => exact ⟨_, _, _, u, _, rfl, hc, .base .non, ty .non _ rfl, k _ _ H w (Aft.refl ok) .bl h⟩
  | bl => exact ⟨_, _, _, u, _, rfl, hc, .base (.bl _), ty (.bl true) _ rfl, k _ _ H w (Aft.refl ok) .bl h⟩
  | int => exact ⟨_, _, _, u, _, rfl, hc, .base (.int _), ty (.int 0) _ rfl, k _ _ H w (Aft.refl ok) .bl h⟩
  | str => exact ⟨_, _, _, u, _, rfl, hc, .base (.str _), ty (.str "") _ rfl, k _ _ H w (Aft.refl ok) .bl h⟩
  | dct hx rl => exact ⟨_, _, _, u, _, rfl, hc, .base (.dK (hm_some hx).2), I.ty "dict" List.mem_cons_self, k _ _ H w (Aft.refl ok) .bl h⟩
  | ty => exact (show False from h).elim
  | ptr =>
    obtain ⟨xs, hp, q⟩ := h
    obtain ⟨vs, h1, rl⟩ := ok.lst hp
    exact ⟨_, _, _, u, _, rfl, hc, .base (.lst h1), ty (.lst xs) _ rfl, k _ _ H w (Aft.refl ok) .bl q⟩
  | lst hx rl => exact ⟨_, _, _, u, _, rfl, hc, .base (.lst (hm_some hx).2), ty (.lst []) _ rfl, k _ _ H w (Aft.refl ok) .bl h⟩
  | rl hx rl =>
    have q := k _ _ H w (Aft.refl ok) .bl h
    rcases up_l hx with (h1 | ⟨o, h1⟩) | ⟨o, its, n, h1, h2, _⟩
    · exact ⟨_, _, _, u, _, rfl, hc, .base (.lst h1), ty (.rl []) _ rfl, q⟩
    · exact ⟨_, _, _, u, _, rfl, hc, .base (.frz h1), ty (.rl []) _ rfl, q⟩
    · exact ⟨_, _, _, u, _, rfl, hc, .kList h1 h2, ty (.rl []) _ rfl, q⟩
  | tup hx rl =>
    have q := k _ _ H w (Aft.refl ok) .bl h
    rcases up_t hx with (h1 | ⟨o, h1⟩) | ⟨o, its, n, h1, h2, _⟩
    · exact ⟨_, _, _, u, _, rfl, hc, .base (.tup h1), ty (.tup []) _ rfl, q⟩
    · exact ⟨_, _, _, u, _, rfl, hc, .fTuple h1, ty (.tup []) _ rfl, q⟩
    · exact ⟨_, _, _, u, _, rfl, hc, .kTuple h1 h2, ty (.tup []) _ rfl, q⟩
  | num hx =>
    obtain ⟨c, hc1, e, q⟩ := h
    obtain ⟨i1, N⟩ := I.own c hc1
    rw [e] at i1 N
    exact ⟨_, _, _, u, _, rfl, hc, .base (.ins (hm_some hx).2 N.cl N.ha N.hn N.htk N.hm), i1, k _ _ H w (Aft.refl ok) .bl q⟩
  | ins hx _ =>
    obtain ⟨c, hc1, e, q⟩ := h
    obtain ⟨i1, N⟩ := I.own c hc1
    rw [← e] at i1 N
    exact ⟨_, _, _, u, _, rfl, hc, .base (.ins (hm_some hx).2 N.cl N.ha N.hn N.htk N.hm), i1, k _ _ H w (Aft.refl ok) .bl q⟩
theorem f_isK {Z : Dx} {K : PySem.W.Frag} {u : Value} {l : List String} {own : List (Str × Bool)} {cd : Dt} {cv : V} (I : IsG K u l own) (hc : ClsV cv u) (hcd : ∀ K H v, Rp K H cd v → v = cv) (hK : Z.X.K = K := by rfl) : DFn Z (.builtin "isinstance") (fun ds w Q => (∃ x, ds = [x, cd]) ∧ isRG K l own ds w Q) := by
  subst hK
  exact f_isG I hc hcd
end DL
namespace DL
open PySem PySem.Spec PyProof.Rows L2 TL
theorem joinL_nil : ∀ l : List (List Nat), joinL [] l = l.flatten
  | [] => rfl
  | [a] => by simp [joinL]
  | a :: b :: l => by
    have ih := joinL_nil (b :: l)
    show a ++ ([] ++ joinL [] (b :: l)) = _
    rw [ih]; simp
theorem tl_joinE (ys : List Str) : tl (Txt.join "" ys) = (ys.map tl).flatten := by
  rw [join_eq, tl_join, show tl ("" : Str) = [] by rw [tl_lit]; rfl, joinL_nil]
def TxOk (z : Str) : Prop := z.length ≤ 100000 ∧ PyData.strOk z = true
theorem txok_of {z : Str} (h : z.length ≤ 100000) (g : ∀ c ∈ z.cps.toList, c < 1114112) : TxOk z := by
  refine ⟨h, ?_⟩
  unfold PyData.strOk
  simp only [decide_eq_true_eq, Array.all_eq_true]
  intro i hi
  exact g _ (by simp)
def isDa : Dt → Bool
  | .num _ => false
  | x => isOk x
def T0 (x : Dt) : Prop := (isDa x = true ∨ x = .dct []) ∧ (∀ z, x = .str z → TxOk z) ∧ (∀ es, x = .tup es → es.length ≤ 1000) ∧ ∀ es, x = .lst es → es.length ≤ 1000
def ThN : Nat → Dt → Prop
  | 0, x => T0 x
  | n + 1, x => T0 x ∧ ∀ es, x = .tup es → ∀ e ∈ es, ThN n e
theorem ThN.t0 : ∀ {n : Nat} {x : Dt}, ThN n x → T0 x
  | 0, _, h => h
  | _ + 1, _, h => h.1
theorem ThN.low : ∀ {n : Nat} {x : Dt}, ThN (n + 1) x → ThN n x
  | 0, _, h => h.1
  | _ + 1, _, h => ⟨h.1, fun es e d hd => (h.2 es e d hd).low⟩
def kStr : Dt → Bool
  | .str _ => true | _ => false
theorem isi_str {K : PySem.W.Frag} {own : List (Str × Bool)} {x : Dt} {w : Om} {Q : DK} (h : T0 x) (q : Q (.bl (kStr x)) w) : isRG K ["str"] own [x, .ty "str"] w Q := by
  rcases h.1 with h | rfl
  · cases x <;> first | exact q | exact (Bool.false_ne_true h).elim
  · exact q
def isFromD (lo hi : Int) : Dt → Bool
  | .int i => decide (lo ≤ i) && decide (i ≤ hi)
  | _ => false
def isTextD (lo hi : Int) : Dt → Bool
  | .str z => decide (lo ≤ z.length) && (decide ((z.length : Int) ≤ hi) && (!decide (32 ∈ z.cps.toList) && !decide (10 ∈ z.cps.toList)))
  | _ => false
def isGroupD (x : Dt) : Bool := isTextD 0 1 x || (match x with
  | .str z => decide (z = " ")
  | _ => false)
def areSizesD : Dt → Bool
  | .tup es => (decide (1 ≤ (es.length : Int)) && decide ((es.length : Int) ≤ 4)) && es.all (isFromD 1 6)
  | _ => false
def bothNil : List Dt → Bool
  | [.str a, .str b] => decide (a = "") && decide (b = "")
  | _ => false
def areSidesD : Dt → Bool
  | .tup es => decide (es.length = 2) && (es.all (isTextD 0 3) && !bothNil es)
  | _ => false
def signKey (d : Dt) : Option L2.Key := match d with
  | .str z => some (.inr z)
  | _ => none
def areFiguresD : Dt → Bool
  | .str z => isTextD 10 10 (.str z) && decide (((cntK ((chD z).filterMap signKey)).2 : Int) = 10)
  | _ => false
def isWordD : Dt → Bool
  | .tup [a, b] => isFromD 1 30 a && isTextD 1 3 b
  | _ => false
def wPow : Dt → Int
  | .tup [.int a, _] => a
  | _ => 0
def wTxt : Dt → Str
  | .tup [_, .str b] => b
  | _ => ""
def rising (es : List Dt) : Bool := (es.dropLast.zipWith (fun a b => decide (wPow a < wPow b)) es.tail).all id
def areWordsD : Dt → Bool
  | .tup es => decide (es.length ≤ 6) && (es.all isWordD && (rising es && decide ((cntK (es.map fun e => Sum.inr (wTxt e))).2 = es.length)))
  | _ => false
def rightD (n : Str) (x : Dt) : Bool :=
  if n = "point" then isTextD 1 1 x else if n = "group" then isGroupD x else if n = "sizes" then areSizesD x else if n = "least" then isFromD 1 4 x
  else if n = "minus" ∨ n = "plus" then areSidesD x else if n = "figures" then areFiguresD x else if n = "words" then areWordsD x else isTextD 1 3 x
def txtOf : Dt → Str
  | .str z => z
  | _ => ""
def signsD (n : Str) (x : Dt) : Str :=
  if n = "sizes" ∨ n = "least" then "" else if n = "words" then (match x with
    | .tup es => Txt.join "" (es.map wTxt)
    | _ => "") else (match x with
    | .str z => z
    | .tup es => Txt.join "" (es.map txtOf)
    | _ => "")
def fitsD (n : Str) (x : Dt) (taken : Str) : Bool := rightD n x && !(signsD n x).cps.toList.any fun c => decide (c ∈ taken.cps.toList)
def faultC : Str → List (Str × Dt) → Option Str
  | _, [] => none
  | taken, (n, d) :: r => if fitsD n d taken = true then faultC (taken ++ signsD n d) r else some n
theorem faultC_cons {t n : Str} {d : Dt} {r : List (Str × Dt)} : faultC t ((n, d) :: r) = if fitsD n d t = true then faultC (t ++ signsD n d) r else some n := rfl
def cuF (a b c d e f g h i j : Dt) : List (Str × Dt) := [("point", a), ("group", b), ("sizes", c), ("least", d), ("minus", e), ("plus", f), ("figures", g), ("words", h), ("between", i), ("about", j)]
end DL
namespace DL
open PySem PySem.Spec PyProof.Rows L2 TL
def OffB (w w' : Om) (D c : Addr) : Prop := ∀ p m, p ≠ D → p ≠ c → w p = some m → w' p = some m
theorem OffB.refl {w : Om} {D c : Addr} : OffB w w D c := fun _ _ _ _ h => h
theorem OffB.trans {w w1 w2 : Om} {D c : Addr} (a : OffB w w1 D c) (b : OffB w1 w2 D c) : OffB w w2 D c := fun p m h1 h2 h => b p m h1 h2 (a p m h1 h2 h)
theorem OffB.of {w w' : Om} {D c : Addr} (a : Off w w' D c) : OffB w w' D c := fun p m h1 h2 h => by rw [a p h1 h2]; exact h
theorem OffB.new {w w' : Om} {D c p : Addr} {m : MO} (a : OffB w w' D c) (h : w' p = none) : OffB w (put w' p m) D c := fun q n h1 h2 h3 => by
  have := a q n h1 h2 h3
  by_cases e : q = p
  · subst e; rw [h] at this; cases this
  · rw [put_ne e]; exact this
theorem Dk.keep {w w' : Om} {D c : Addr} (h : Dk w D c) (e1 : w' D = w D) (e2 : w' c = w c) : Dk w' D c := by
  obtain ⟨ne, cells, seed, cnt, hD, hc, hl⟩ := h
  exact ⟨ne, cells, seed, cnt, by rw [e1]; exact hD, by rw [e2]; exact hc, hl⟩
theorem Dk.has {w : Om} {D c : Addr} (h : Dk w D c) : (∃ m, w D = some m) ∧ ∃ m, w c = some m := by
  obtain ⟨ne, cells, seed, cnt, hD, hc, hl⟩ := h
  exact ⟨⟨_, hD⟩, _, hc⟩
theorem Dk.off {w : Om} {D c p : Addr} {m : MO} (h : Dk w D c) (hp : w p = none) : Dk (put w p m) D c := by
  obtain ⟨⟨m1, h1⟩, m2, h2⟩ := h.has
  exact h.keep (put_ne fun e => by rw [e, hp] at h1; cases h1) (put_ne fun e => by rw [e, hp] at h2; cases h2)
theorem OffB.none {w w' : Om} {D c p : Addr} (a : OffB w w' D c) (h : w' p = none) (dk : Dk w' D c) : w p = none := by
  cases e : w p with
  | none => rfl
  | some m =>
    obtain ⟨⟨m1, h1⟩, m2, h2⟩ := dk.has
    have n1 : p ≠ D := fun z => by rw [z, h1] at h; cases h
    have n2 : p ≠ c := fun z => by rw [z, h2] at h; cases h
    rw [a p m n1 n2 e] at h
    cases h
def wd (q : Int × Str) : Dt := .tup [.int q.1, .str q.2]
end DL
namespace DL
open PySem PySem.Spec PyProof.Rows L2 TL
theorem fault_none : ∀ (xs : List ((Str × Dt) × List Nat)) (taken : Str), (∀ q ∈ xs, rightD q.1.1 q.1.2 = true ∧ (∀ x ∈ (signsD q.1.1 q.1.2).cps.toList, x ∈ q.2) ∧ ∀ x ∈ q.2, x ∉ taken.cps.toList) → xs.Pairwise (fun a b => ∀ x ∈ b.2, x ∉ a.2) → faultC taken (xs.map (·.1)) = none
  | [], _, _, _ => rfl
  | ((n, d), R) :: xs, taken, h, p => by
    obtain ⟨h1, h2, h3⟩ := h _ List.mem_cons_self
    obtain ⟨p1, p2⟩ := List.pairwise_cons.mp p
    rw [List.map_cons, faultC_cons, if_pos]
    · refine fault_none xs _ (fun q hq => ?_) p2
      obtain ⟨g1, g2, g3⟩ := h q (List.mem_cons_of_mem _ hq)
      refine ⟨g1, g2, fun x hx hm => ?_⟩
      have hm : x ∈ tl (taken ++ signsD n d) := hm
      rw [tl_append] at hm
      rcases List.mem_append.mp hm with hm | hm
      · exact g3 x hx hm
      · exact p1 q hq x hx (h2 x hm)
    · unfold fitsD
      rw [h1, Bool.true_and, Bool.not_eq_true', List.any_eq_false]
      intro c hc
      rw [decide_eq_true_iff]
      exact h3 c (h2 c hc)
def Clean (z : Str) : Prop := ∀ x ∈ z.cps.toList, x ≠ 32 ∧ x ≠ 10 ∧ x < 1114112
theorem isText_of {z : Str} {lo hi : Int} (h : Clean z) (h1 : lo ≤ z.length) (h2 : (z.length : Int) ≤ hi) : isTextD lo hi (.str z) = true := by
  unfold isTextD
  dsimp only
  rw [decide_eq_true h1, decide_eq_true h2, decide_eq_false (fun e => (h 32 e).1 rfl), decide_eq_false (fun e => (h 10 e).2.1 rfl)]
  rfl
theorem right_sizes {sz : List Int} (h1 : 1 ≤ sz.length) (h4 : sz.length ≤ 4) (h : ∀ n ∈ sz, 1 ≤ n ∧ n ≤ 6) : areSizesD (.tup (sz.map Dt.int)) = true := by
  unfold areSizesD
  dsimp only
  rw [List.length_map, decide_eq_true (by omega), decide_eq_true (by omega), Bool.true_and, Bool.true_and, List.all_eq_true]
  intro d hd
  obtain ⟨n, hn, rfl⟩ := List.mem_map.mp hd
  unfold isFromD
  dsimp only
  rw [decide_eq_true (h n hn).1, decide_eq_true (h n hn).2]; rfl
theorem right_sides {a b : Str} (ca : Clean a) (cb : Clean b) (ha : a.length ≤ 3) (hb : b.length ≤ 3) (n : ¬ (a = "" ∧ b = "")) : areSidesD (.tup [.str a, .str b]) = true := by
  unfold areSidesD
  dsimp only
  rw [show bothNil [.str a, .str b] = false by
    unfold bothNil
    dsimp only
    rw [Bool.and_eq_false_iff, decide_eq_false_iff_not, decide_eq_false_iff_not]
    by_cases e : a = ""
    · exact .inr fun e2 => n ⟨e, e2⟩
    · exact .inl e]
  rw [List.all_cons, List.all_cons, List.all_nil, isText_of ca (by omega) (by omega), isText_of cb (by omega) (by omega)]
  rfl
theorem right_figs {f : Str} (c : Clean f) (h : f.length = 10) (nd : f.cps.toList.Nodup) : areFiguresD (.str f) = true := by
  unfold areFiguresD
  dsimp only
  rw [isText_of c (by omega) (by omega), Bool.true_and]
  have e : (chD f).filterMap signKey = f.cps.toList.map fun c => (Sum.inr (⟨#[c]⟩ : Str) : L2.Key) := by
    unfold chD
    rw [List.filterMap_map]
    show f.cps.toList.filterMap (fun c => some (Sum.inr (⟨#[c]⟩ : Str) : L2.Key)) = _
    rw [List.filterMap_eq_map']
  rw [e, decide_eq_true_iff, (cntK_nodup _).mpr, List.length_map, Array.length_toList]
  · exact congrArg (Nat.cast (R := Int)) h
  · unfold List.Nodup
    rw [List.pairwise_map]
    refine List.Pairwise.imp (fun {a b} ne e => ne ?_) nd
    injection e with e
    injection e with e
    injection e with e
    injection e
theorem right_words {ws : List (Int × Str)} (h6 : ws.length ≤ 6) (h : ∀ q ∈ ws, 1 ≤ q.1 ∧ q.1 ≤ 30 ∧ 1 ≤ q.2.length ∧ q.2.length ≤ 3 ∧ Clean q.2) (up : ws.Pairwise fun a b => a.1 < b.1) (ap : ws.Pairwise fun a b => a.2 ≠ b.2) : areWordsD (.tup (ws.map wd)) = true := by
  unfold areWordsD
  dsimp only
  have e1 : (ws.map wd).all isWordD = true := by
    rw [List.all_eq_true]
    intro d hd
    obtain ⟨q, hq, rfl⟩ := List.mem_map.mp hd
    obtain ⟨a1, a2, a3, a4, a5⟩ := h q hq
    unfold wd isWordD isFromD
    dsimp only
    rw [isText_of a5 (by omega) (by omega), decide_eq_true a1, decide_eq_true a2]; rfl
  have e2 : rising (ws.map wd) = true := by
    clear h6 h ap e1
    unfold rising
    induction ws with
    | nil => rfl
    | cons a l ih =>
      cases l with
      | nil => rfl
      | cons b m =>
        obtain ⟨u1, u2⟩ := List.pairwise_cons.mp up
        have := ih u2
        show (decide (a.1 < b.1) && _) = true
        rw [decide_eq_true (u1 b List.mem_cons_self), Bool.true_and]
        exact this
  have e3 : (ws.map wd).map (fun e => (Sum.inr (wTxt e) : L2.Key)) = ws.map fun q => Sum.inr q.2 := by rw [List.map_map]; rfl
  rw [e1, e2, e3, (cntK_nodup _).mpr]
  · simp only [List.length_map, Bool.and_eq_true, decide_eq_true_eq]
    exact ⟨h6, trivial, trivial, trivial⟩
  · unfold List.Nodup
    rw [List.pairwise_map]
    exact List.Pairwise.imp (fun {a b} ne e => ne (by injection e)) ap
theorem mem_join {ys : List Str} {x : Nat} : x ∈ (Txt.join "" ys).cps.toList ↔ ∃ y ∈ ys, x ∈ y.cps.toList := by
  have e : (Txt.join "" ys).cps.toList = (ys.map tl).flatten := tl_joinE ys
  rw [e, List.mem_flatten]
  constructor
  · rintro ⟨l, hl, hx⟩
    obtain ⟨y, hy, rfl⟩ := List.mem_map.mp hl
    exact ⟨y, hy, hx⟩
  · rintro ⟨y, hy, hx⟩
    exact ⟨_, List.mem_map.mpr ⟨y, hy, rfl⟩, hx⟩
inductive CuTen : List Dt → Prop
  | mk {d g : Str} {sz : List Int} {l : Int} {m1 m2 p1 p2 f : Str} {ws : List (Int × Str)} {b a : Str} {Rd Rg Rm Rp Rw Rb Ra : List Nat}
    (hd : d.length = 1) (hg : g = " " ∨ (g.length ≤ 1 ∧ Clean g)) (s1 : 1 ≤ sz.length) (s4 : sz.length ≤ 4) (hs : ∀ n ∈ sz, 1 ≤ n ∧ n ≤ 6) (l1 : 1 ≤ l) (l4 : l ≤ 4)
    (hm1 : m1.length ≤ 3) (hm2 : m2.length ≤ 3) (hm : ¬ (m1 = "" ∧ m2 = "")) (hp1 : p1.length ≤ 3) (hp2 : p2.length ≤ 3) (hp : ¬ (p1 = "" ∧ p2 = ""))
    (hf : f.length = 10) (nf : f.cps.toList.Nodup) (w6 : ws.length ≤ 6) (hw : ∀ q ∈ ws, 1 ≤ q.1 ∧ q.1 ≤ 30 ∧ 1 ≤ q.2.length ∧ q.2.length ≤ 3 ∧ ∀ x ∈ q.2.cps.toList, x ∈ Rw)
    (up : ws.Pairwise fun a b => a.1 < b.1) (ap : ws.Pairwise fun a b => a.2 ≠ b.2) (b1 : 1 ≤ b.length) (b3 : b.length ≤ 3) (a1 : 1 ≤ a.length) (a3 : a.length ≤ 3)
    (id : ∀ x ∈ d.cps.toList, x ∈ Rd) (ig : ∀ x ∈ g.cps.toList, x ∈ Rg) (im1 : ∀ x ∈ m1.cps.toList, x ∈ Rm) (im2 : ∀ x ∈ m2.cps.toList, x ∈ Rm) (ip1 : ∀ x ∈ p1.cps.toList, x ∈ Rp) (ip2 : ∀ x ∈ p2.cps.toList, x ∈ Rp)
    (ib : ∀ x ∈ b.cps.toList, x ∈ Rb) (ia : ∀ x ∈ a.cps.toList, x ∈ Ra)
    (dis : [Rd, Rg, [], [], Rm, Rp, f.cps.toList, Rw, Rb, Ra].Pairwise fun u v => ∀ x ∈ v, x ∉ u)
    (cl : ∀ x, x ∈ Rd ∨ x ∈ Rm ∨ x ∈ Rp ∨ x ∈ f.cps.toList ∨ x ∈ Rw ∨ x ∈ Rb ∨ x ∈ Ra → x ≠ 32 ∧ x ≠ 10 ∧ x < 1114112) :
    CuTen [.str d, .str g, .tup (sz.map Dt.int), .int l, .tup [.str m1, .str m2], .tup [.str p1, .str p2], .str f, .tup (ws.map wd), .str b, .str a]
theorem th_str {z : Str} (h : z.length ≤ 1000) (c : ∀ x ∈ z.cps.toList, x < 1114112) : ∀ n, ThN n (.str z)
  | 0 => ⟨.inl rfl, (fun y e => by cases e; exact txok_of (by omega) c), (fun _ e => nomatch e), fun _ e => nomatch e⟩
  | n + 1 => ⟨(th_str h c n).t0, fun _ e => nomatch e⟩
theorem th_int {i : Int} : ∀ n, ThN n (.int i)
  | 0 => ⟨.inl rfl, (fun _ e => nomatch e), (fun _ e => nomatch e), fun _ e => nomatch e⟩
  | n + 1 => ⟨(th_int n).t0, fun _ e => nomatch e⟩
theorem th_tup {es : List Dt} {n : Nat} (h : es.length ≤ 1000) (k : ∀ e ∈ es, ThN n e) : ThN (n + 1) (.tup es) :=
  ⟨⟨.inl rfl, (fun _ e => nomatch e), (fun _ e => by cases e; exact h), fun _ e => nomatch e⟩, fun _ e => by cases e; exact k⟩
theorem signs_pair {n : Str} {a b : Str} {R : List Nat} (e : signsD n (.tup [.str a, .str b]) = Txt.join "" ([.str a, .str b].map txtOf)) (ha : ∀ x ∈ a.cps.toList, x ∈ R) (hb : ∀ x ∈ b.cps.toList, x ∈ R) : ∀ x ∈ (signsD n (.tup [.str a, .str b])).cps.toList, x ∈ R := by
  intro x hx
  rw [e, mem_join] at hx
  obtain ⟨y, hy, hx⟩ := hx
  rcases List.mem_cons.mp hy with rfl | hy
  · exact ha x hx
  · rw [List.mem_singleton.mp hy] at hx; exact hb x hx
theorem no_signs {R : List Nat} : ∀ x ∈ ("" : Str).cps.toList, x ∈ R := fun x hx => by
  rw [show ("" : Str).cps.toList = [] by decide +kernel] at hx
  cases hx
theorem CuTen.len {fs : List Dt} (h : CuTen fs) : fs.length = 10 := by cases h; rfl
theorem CuTen.none {a b c d e f g h i j : Dt} (t : CuTen [a, b, c, d, e, f, g, h, i, j]) : faultC "" (cuF a b c d e f g h i j) = none := by
  cases t with
  | @mk d g sz l m1 m2 p1 p2 f ws b a Rd Rg Rm Rp Rw Rb Ra hd hg s1 s4 hs l1 l4 hm1 hm2 hm hp1 hp2 hp hf nf w6 hw up ap b1 b3 a1 a3 id ig im1 im2 ip1 ip2 ib ia dis cl =>
  refine fault_none [(("point", .str d), Rd), (("group", .str g), Rg), (("sizes", .tup (sz.map Dt.int)), []), (("least", .int l), []), (("minus", .tup [.str m1, .str m2]), Rm), (("plus", .tup [.str p1, .str p2]), Rp), (("figures", .str f), f.cps.toList), (("words", .tup (ws.map wd)), Rw), (("between", .str b), Rb), (("about", .str a), Ra)] "" ?_ ?_
  · have cd : Clean d := fun x hx => cl x (.inl (id x hx))
    have cm1 : Clean m1 := fun x hx => cl x (.inr (.inl (im1 x hx)))
    have cm2 : Clean m2 := fun x hx => cl x (.inr (.inl (im2 x hx)))
    have cp1 : Clean p1 := fun x hx => cl x (.inr (.inr (.inl (ip1 x hx))))
    have cp2 : Clean p2 := fun x hx => cl x (.inr (.inr (.inl (ip2 x hx))))
    have cf : Clean f := fun x hx => cl x (.inr (.inr (.inr (.inl hx))))
    have cw : ∀ q ∈ ws, Clean q.2 := fun q hq x hx => cl x (.inr (.inr (.inr (.inr (.inl ((hw q hq).2.2.2.2 x hx))))))
    have cb : Clean b := fun x hx => cl x (.inr (.inr (.inr (.inr (.inr (.inl (ib x hx)))))))
    have ca : Clean a := fun x hx => cl x (.inr (.inr (.inr (.inr (.inr (.inr (ia x hx)))))))
    have nn : ∀ x : Nat, x ∉ ("" : Str).cps.toList := fun x hx => nomatch no_signs (R := []) x hx
    intro q hq
    simp only [List.mem_cons, List.not_mem_nil, or_false] at hq
    rcases hq with rfl | rfl | rfl | rfl | rfl | rfl | rfl | rfl | rfl | rfl
    · exact ⟨isText_of cd (by omega) (by omega), id, fun x _ => nn x⟩
    · refine ⟨?_, ig, fun x _ => nn x⟩
      show isGroupD (.str g) = true
      unfold isGroupD
      rcases hg with rfl | ⟨g1, cg⟩
      · rw [Bool.or_eq_true]; exact .inr (by decide +kernel)
      · rw [isText_of cg (by omega) (by omega)]; rfl
    · exact ⟨right_sizes s1 s4 hs, no_signs, fun x _ => nn x⟩
    · refine ⟨?_, no_signs, fun x _ => nn x⟩
      show (decide (1 ≤ l) && decide (l ≤ 4)) = true
      rw [decide_eq_true l1, decide_eq_true l4]; rfl
    · exact ⟨right_sides cm1 cm2 hm1 hm2 hm, signs_pair rfl im1 im2, fun x _ => nn x⟩
    · exact ⟨right_sides cp1 cp2 hp1 hp2 hp, signs_pair rfl ip1 ip2, fun x _ => nn x⟩
    · exact ⟨right_figs cf hf nf, fun x hx => hx, fun x _ => nn x⟩
    · refine ⟨right_words w6 (fun q hq => ⟨(hw q hq).1, (hw q hq).2.1, (hw q hq).2.2.1, (hw q hq).2.2.2.1, cw q hq⟩) up ap, fun x hx => ?_, fun x _ => nn x⟩
      have hx : x ∈ (Txt.join "" ((ws.map wd).map wTxt)).cps.toList := hx
      obtain ⟨y, hy, hx⟩ := mem_join.mp hx
      rw [List.map_map] at hy
      obtain ⟨q, hq, rfl⟩ := List.mem_map.mp hy
      exact (hw q hq).2.2.2.2 x hx
    · exact ⟨isText_of cb (by omega) (by omega), ib, fun x _ => nn x⟩
    · exact ⟨isText_of ca (by omega) (by omega), ia, fun x _ => nn x⟩
  · rw [← List.pairwise_map (f := fun q : (Str × Dt) × List Nat => q.2) (R := fun u v => ∀ x ∈ v, x ∉ u)]
    exact dis
theorem CuTen.th {fs : List Dt} (t : CuTen fs) : ∀ d ∈ fs, ThN 3 d := by
  cases t with
  | @mk d g sz l m1 m2 p1 p2 f ws b a Rd Rg Rm Rp Rw Rb Ra hd hg s1 s4 hs l1 l4 hm1 hm2 hm hp1 hp2 hp hf nf w6 hw up ap b1 b3 a1 a3 id ig im1 im2 ip1 ip2 ib ia dis cl =>
  have cm1 : ∀ x ∈ m1.cps.toList, x < 1114112 := fun x hx => (cl x (.inr (.inl (im1 x hx)))).2.2
  have cm2 : ∀ x ∈ m2.cps.toList, x < 1114112 := fun x hx => (cl x (.inr (.inl (im2 x hx)))).2.2
  have cp1 : ∀ x ∈ p1.cps.toList, x < 1114112 := fun x hx => (cl x (.inr (.inr (.inl (ip1 x hx))))).2.2
  have cp2 : ∀ x ∈ p2.cps.toList, x < 1114112 := fun x hx => (cl x (.inr (.inr (.inl (ip2 x hx))))).2.2
  have cg : ∀ x ∈ g.cps.toList, x < 1114112 := by
    rcases hg with rfl | ⟨_, cg⟩
    · decide +kernel
    · exact fun x hx => (cg x hx).2.2
  have gl : g.length ≤ 1 := by
    rcases hg with rfl | ⟨h, _⟩
    · decide +kernel
    · exact h
  intro e he
  simp only [List.mem_cons, List.not_mem_nil, or_false] at he
  rcases he with rfl | rfl | rfl | rfl | rfl | rfl | rfl | rfl | rfl | rfl
  · exact th_str (by omega) (fun x hx => (cl x (.inl (id x hx))).2.2) _
  · exact th_str (by omega) cg _
  · refine th_tup (by rw [List.length_map]; omega) fun e he => ?_
    obtain ⟨n, _, rfl⟩ := List.mem_map.mp he
    exact th_int _
  · exact th_int _
  · refine th_tup (by show 2 ≤ 1000; decide) fun e he => ?_
    rcases List.mem_cons.mp he with rfl | he
    · exact th_str (by omega) cm1 _
    · rw [List.mem_singleton.mp he]; exact th_str (by omega) cm2 _
  · refine th_tup (by show 2 ≤ 1000; decide) fun e he => ?_
    rcases List.mem_cons.mp he with rfl | he
    · exact th_str (by omega) cp1 _
    · rw [List.mem_singleton.mp he]; exact th_str (by omega) cp2 _
  · exact th_str (by omega) (fun x hx => (cl x (.inr (.inr (.inr (.inl hx))))).2.2) _
  · refine th_tup (by rw [List.length_map]; omega) fun e he => ?_
    obtain ⟨q, hq, rfl⟩ := List.mem_map.mp he
    refine th_tup (by show 2 ≤ 1000; decide) fun e he => ?_
    rcases List.mem_cons.mp he with rfl | he
    · exact th_int _
    · rw [List.mem_singleton.mp he]
      have := (hw q hq).2.2.2.1
      exact th_str (by omega) (fun x hx => (cl x (.inr (.inr (.inr (.inr (.inl ((hw q hq).2.2.2.2 x hx))))))).2.2) _
  · exact th_str (by omega) (fun x hx => (cl x (.inr (.inr (.inr (.inr (.inr (.inl (ib x hx)))))))).2.2) _
  · exact th_str (by omega) (fun x hx => (cl x (.inr (.inr (.inr (.inr (.inr (.inr (ia x hx)))))))).2.2) _
end DL
namespace DL
open PySem PySem.Spec PyProof.Rows L2 TL
def Sw (n b : Nat) (d : Dt) : Prop := ∃ p, toPy d = some p ∧ p.showable = true ∧ p.hasDict = false ∧ p.depth ≤ n ∧ p.leavesShort 2000 = true ∧ p.bulk ≤ b
theorem Sw.mono {n m b c : Nat} {d : Dt} (h : Sw n b d) (hn : n ≤ m) (hb : b ≤ c) : Sw m c d := by
  obtain ⟨p, h1, h2, h3, h4, h5, h6⟩ := h
  exact ⟨p, h1, h2, h3, Nat.le_trans h4 hn, h5, Nat.le_trans h6 hb⟩
theorem sw_int {i : Int} (h : i.natAbs.log2 < 1920) : Sw 0 0 (.int i) := by
  refine ⟨_, rfl, ?_, rfl, ?_, ?_, Nat.le_refl _⟩
  · simpa [PyData.showable] using h
  · simp [PyData.depth]
  · simp only [PyData.leavesShort, decide_eq_true_eq]
    have := toS_len h
    show (toString i : Str).length ≤ 2000
    omega
theorem sw_bl {b : Bool} : Sw 0 0 (.bl b) := by
  refine ⟨_, rfl, rfl, rfl, by simp [PyData.depth], ?_, Nat.le_refl _⟩
  cases b <;> rfl
theorem swAll {n b : Nat} : ∀ {es : List Dt}, (∀ e ∈ es, Sw n b e) → ∃ ps, toPyL es = some ps ∧ PyData.showableAll ps = true ∧ PyData.hasDictAll ps = false ∧ PyData.depthAll ps ≤ n ∧ PyData.leavesShortAll 2000 ps = true ∧ PyData.bulkAll ps ≤ (b + 1) * es.length
  | [], _ => ⟨[], rfl, by simp [PyData.showableAll], by simp [PyData.hasDictAll], by simp [PyData.depthAll], by simp [PyData.leavesShortAll], by simp [PyData.bulkAll]⟩
  | e :: es, h => by
    obtain ⟨p, a1, a2, a3, a4, a5, a6⟩ := h e List.mem_cons_self
    obtain ⟨ps, b1, b2, b3, b4, b5, b6⟩ := swAll fun x hx => h x (List.mem_cons_of_mem _ hx)
    refine ⟨p :: ps, by simp [toPyL, a1, b1], by simp [PyData.showableAll, a2, b2], by simp [PyData.hasDictAll, a3, b3], ?_, by simp [PyData.leavesShortAll, a5, b5], ?_⟩
    · simp only [PyData.depthAll]; omega
    · simp only [PyData.bulkAll, List.length_cons, Nat.mul_succ]; omega
theorem sw_tup {n b : Nat} {es : List Dt} (h : ∀ e ∈ es, Sw n b e) : Sw (n + 1) ((b + 1) * es.length) (.tup es) := by
  obtain ⟨ps, b1, b2, b3, b4, b5, b6⟩ := swAll h
  refine ⟨.tuple ps, by simp [toPy, b1], by simp [PyData.showable, b2], by simp [PyData.hasDict, b3], ?_, by simp [PyData.leavesShort, b5], by simpa [PyData.bulk] using b6⟩
  simp only [PyData.depth]; omega
theorem sw_lst {n b : Nat} {es : List Dt} (h : ∀ e ∈ es, Sw n b e) : Sw (n + 1) ((b + 1) * es.length) (.lst es) := by
  obtain ⟨ps, b1, b2, b3, b4, b5, b6⟩ := swAll h
  refine ⟨.list ps, by simp [toPy, b1], by simp [PyData.showable, b2], by simp [PyData.hasDict, b3], ?_, by simp [PyData.leavesShort, b5], by simpa [PyData.bulk] using b6⟩
  simp only [PyData.depth]; omega
theorem Sw.ok {n b : Nat} {d : Dt} (h : Sw n b d) (hn : n ≤ 60) (hb : b ≤ 8000) : ∃ p, toPy d = some p ∧ ReprOk p := by
  obtain ⟨p, h1, h2, h3, h4, h5, h6⟩ := h
  refine ⟨p, h1, h2, h3, Nat.le_trans h4 hn, ?_⟩
  have := PyData.shown_le_bulk 2000 (by decide) p h5
  rw [sizeLine_eq]
  omega
def reprP : DFr := fun ds w Q => ∃ d p, ds = [d] ∧ toPy d = some p ∧ ReprOk p ∧ Q (.str p.shown) w
theorem repr_p {n b : Nat} {d : Dt} (h : Sw n b d) (hn : n ≤ 60 := by decide) (hb : b ≤ 8000 := by decide) : ∃ t : Str, ∀ (w : Om) (Q : DK), Q (.str t) w → reprP [d] w Q := by
  obtain ⟨p, h1, h2⟩ := h.ok hn hb
  exact ⟨p.shown, fun w Q q => ⟨d, p, rfl, h1, h2, q⟩⟩
theorem f_reprP {Z : Dx} {k : Nat} (b : Bd Z k) (h100 : 100 ≤ k := by decide) : DFn Z (.builtin "repr") reprP := by
  refine ⟨fun vs H Q => ∃ (d : Dt) (v : V) (w : Om) (Qd : DK), vs = [v] ∧ Rp Z.X.K (hm H w) d v ∧ OmOk Z.X.K w H ∧ reprP [d] w Qd ∧ ∀ v d H' w', Aft Z.X.K w H w' H' → Rp Z.X.K (hm H' w') d v → Qd d w' → Q v H', fun pins s σ H xs us Q I r h => ?_, fun ds vs w H Q QL ok rl h kk => ?_⟩
  · obtain ⟨d, v, w, Qd, rfl, rd, om, ⟨_, p, e0, e, ⟨h1, h2, h3, h4⟩, q⟩, kk⟩ := h
    cases e0
    obtain ⟨u, rfl, ru⟩ := vals1 r
    cases rd with
    | non =>
      cases ru
      cases e
      exact PySem.P.repr_of_none ⟨.str "None", H, I.tok _, ⟨_, rfl⟩, kk _ _ H w (Aft.refl om) .str q⟩
    | @bl b =>
      cases ru
      cases e
      exact PySem.P.repr_of_bool ⟨.str (if b then "True" else "False"), H, I.tok _, ⟨_, by cases b <;> rfl⟩, kk _ _ H w (Aft.refl om) .str (by cases b <;> exact q)⟩
    | @str x =>
      obtain ⟨t, rfl⟩ := ru
      cases e
      exact PySem.P.repr_of_str ⟨.str (reprText x), H, I.tok _, ⟨_, rfl⟩, kk _ _ H w (Aft.refl om) .str q⟩ h4
    | @int i =>
      obtain ⟨t, rfl⟩ := ru
      cases e
      exact PySem.P.repr_of_int (by simpa [PyData.showable] using h1) ⟨.str (toString i), H, I.tok _, ⟨_, rfl⟩, kk _ _ H w (Aft.refl om) .str q⟩
    | @tup a vs ds hx rl =>
      cases ru
      exact repr_data b h100 I (.tup hx rl) e h1 h2 h3 h4 fun u s' I' => ⟨.str p.shown, H, I', ⟨u, rfl⟩, kk _ _ H w (Aft.refl om) .str q⟩
    | @lst a vs ds hx rl =>
      cases ru
      exact repr_data b h100 I (.lst hx rl) e h1 h2 h3 h4 fun u s' I' => ⟨.str p.shown, H, I', ⟨u, rfl⟩, kk _ _ H w (Aft.refl om) .str q⟩
    | @rl a vs ds hx rl =>
      cases ru
      exact repr_data b h100 I (.rl hx rl) e h1 h2 h3 h4 fun u s' I' => ⟨.str p.shown, H, I', ⟨u, rfl⟩, kk _ _ H w (Aft.refl om) .str q⟩
    | _ => cases e
  · have hq := h
    obtain ⟨d, p, rfl, h⟩ := h
    cases rl with
    | cons rd r2 =>
      cases r2
      exact ⟨d, _, w, Q, rfl, rd, ok, hq, kk⟩
end DL
namespace DL
open PySem PySem.Spec PyProof.Rows L2 TL
theorem RpF.any {K : PySem.W.Frag} {H : Hp} {z : Str} : ∀ {fs : List (Str × Dt)} {gs : List (Str × V)}, RpF K H fs gs → (fs.any fun q => decide (q.1 = z)) = gs.any fun q => decide (q.1 = z)
  | _, _, .nil => rfl
  | _, _, .cons r t => by rw [List.any_cons, List.any_cons, RpF.any t]
end DL
namespace DL
open PySem PySem.Spec PyProof.Rows L2 TL
def stepD (most : Int) : Dt → Bool
  | .num q => decide (0 < q.num) && (match plc q.den with
    | .int n => decide (n ≤ most)
    | _ => false)
  | _ => false
def unitD : Dt → Bool
  | .tup [.str a, .str b] => (decide ((a.length : Int) ≤ 6) && decide ((b.length : Int) ≤ 6)) && (!Txt.startswith a " " && !Txt.endswith b " ")
  | _ => false
def wiF (a b c d e f g h : Dt) : List (Str × Dt) := [("places", a), ("figures", b), ("step", c), ("way", d), ("signs", e), ("grouped", f), ("scaled", g), ("unit", h)]
end DL
namespace DL
open PySem PySem.Spec PyProof.Rows L2 TL
structure Cst where
  p : Str
  g : Str
  sz : List Int
  l : Int
  m1 : Str
  m2 : Str
  p1 : Str
  p2 : Str
  f : Str
  ws : List (Int × Str)
  b : Str
  a : Str
def Cst.dt (C : Cst) (K : PySem.W.Frag) : Dt := .ins (He.ga K "Custom") (cuF (.str C.p) (.str C.g) (.tup (C.sz.map Dt.int)) (.int C.l) (.tup [.str C.m1, .str C.m2]) (.tup [.str C.p1, .str C.p2]) (.str C.f) (.tup (C.ws.map wd)) (.str C.b) (.str C.a))
structure Wsh where
  lo : Int
  hi : Int
  fig : Option Int
  st : Option Rat
  y : Wy
  all : Bool
  gr : Bool
  sc : Bool
  u1 : Str
  u2 : Str
def optZ : Option Int → Dt
  | none => .non
  | some n => .int n
def optRt : Option Rat → Dt
  | none => .non
  | some n => .num n
def sgnS (b : Bool) : Str := if b then "all" else "minus"
def Wsh.dt (W : Wsh) (K : PySem.W.Frag) : Dt := .ins (He.ga K "Wish") (wiF (.tup [.int W.lo, .int W.hi]) (optZ W.fig) (optRt W.st) (.str W.y.txt) (.str (sgnS W.all)) (.bl W.gr) (.bl W.sc) (.tup [.str W.u1, .str W.u2]))
structure Cst.Ok (C : Cst) : Prop where
  lp : C.p.length ≤ 20
  lg : C.g.length ≤ 20
  lm1 : C.m1.length ≤ 20
  lm2 : C.m2.length ≤ 20
  lp1 : C.p1.length ≤ 20
  lp2 : C.p2.length ≤ 20
  lf : C.f.length = 10
  lb : C.b.length ≤ 20
  la : C.a.length ≤ 20
  lw : C.ws.length ≤ 20
  hw : ∀ q ∈ C.ws, 1 ≤ q.1 ∧ q.1 ≤ 30 ∧ q.2.length ≤ 20
  up : C.ws.Pairwise fun a b => a.1 < b.1
  s0 : C.sz ≠ []
  s4 : C.sz.length ≤ 4
  hs : ∀ n ∈ C.sz, 1 ≤ n ∧ n ≤ 6
  l1 : 1 ≤ C.l
  l4 : C.l ≤ 4
structure Wsh.Ok (W : Wsh) : Prop where
  l0 : 0 ≤ W.lo
  lh : W.lo ≤ W.hi
  hh : W.hi ≤ 12
  fg : ∀ n, W.fig = some n → 1 ≤ n ∧ n ≤ 12
  st : ∀ p, W.st = some p → 0 < p ∧ SzR 100 p
  lu1 : W.u1.length ≤ 6
  lu2 : W.u2.length ≤ 6
end DL
namespace DL
open PySem PySem.Spec PyProof.Rows L2 TL
def dkF (c : Addr) (s n : Int) : List (Str × Dt) := [("cells", .ptr c), ("seed", .int s), ("at", .int n)]
def DkD (w : Om) (D c : Addr) : Prop := D ≠ c ∧ ∃ (cells : List Int) (s n : Int), w D = some (.dct (dkF c s n)) ∧ w c = some (.lst (cells.map Dt.int)) ∧ cells.length ≤ 63
theorem DkD.keep {w w' : Om} {D c : Addr} (h : DkD w D c) (e1 : w' D = w D) (e2 : w' c = w c) : DkD w' D c := by
  obtain ⟨ne, cells, seed, cnt, hD, hc, hl⟩ := h
  exact ⟨ne, cells, seed, cnt, by rw [e1]; exact hD, by rw [e2]; exact hc, hl⟩
theorem DkD.has {w : Om} {D c : Addr} (h : DkD w D c) : (∃ m, w D = some m) ∧ ∃ m, w c = some m := by
  obtain ⟨ne, cells, seed, cnt, hD, hc, hl⟩ := h
  exact ⟨⟨_, hD⟩, _, hc⟩
theorem DkD.off {w : Om} {D c p : Addr} {m : MO} (h : DkD w D c) (hp : w p = none) : DkD (put w p m) D c := by
  obtain ⟨⟨m1, h1⟩, m2, h2⟩ := h.has
  exact h.keep (put_ne fun e => by rw [e, hp] at h1; cases h1) (put_ne fun e => by rw [e, hp] at h2; cases h2)
theorem DkD.ne {w : Om} {D c p : Addr} (h : DkD w D c) (hp : w p = none) : p ≠ D ∧ p ≠ c := by
  obtain ⟨⟨m1, h1⟩, m2, h2⟩ := h.has
  exact ⟨(fun e => by rw [e, h1] at hp; cases hp), (fun e => by rw [e, h2] at hp; cases hp)⟩
theorem DkD.cut {w : Om} {D c p : Addr} (h : DkD w D c) (h1 : p ≠ D) (h2 : p ≠ c) : DkD (cut w p) D c := h.keep (cut_ne h1.symm) (cut_ne h2.symm)
def Cst.fs (C : Cst) : List (Str × Dt) := cuF (.str C.p) (.str C.g) (.tup (C.sz.map Dt.int)) (.int C.l) (.tup [.str C.m1, .str C.m2]) (.tup [.str C.p1, .str C.p2]) (.str C.f) (.tup (C.ws.map wd)) (.str C.b) (.str C.a)
def PGC : List Nat := [46, 44, 32, 39, 95, 59]
def RM : List Nat := [45, 40, 41, 60, 62]
def RPL : List Nat := [43, 42, 61]
def RF : List Nat := [48, 49, 50, 51, 52, 53, 54, 55, 56, 57, 97, 98, 99, 100, 101, 102, 103, 104, 105, 106, 79, 81]
def RW : List Nat := [75, 77, 84, 66, 72, 87, 89, 65, 67, 68, 69, 70]
def RB : List Nat := [126, 38]
def RA : List Nat := [64, 35]
def subB (a b : List Nat) : Bool := a.all fun x => b.contains x
def disB (a b : List Nat) : Bool := b.all fun x => !a.contains x
theorem subB_in {a b : List Nat} (h : subB a b = true) {x : Nat} (hx : x ∈ a) : x ∈ b := by
  have := List.all_eq_true.mp h x hx
  simpa using this
theorem disB_in {a b : List Nat} (h : disB a b = true) {x : Nat} (hx : x ∈ b) : x ∉ a := by
  have := List.all_eq_true.mp h x hx
  simpa using this
def PgP (q : Str × Str) : Prop := (rightD "point" (.str q.1) = true ∧ rightD "group" (.str q.2) = true ∧ disB q.1.cps.toList q.2.cps.toList = true ∧ subB q.1.cps.toList PGC = true ∧ subB q.2.cps.toList PGC = true ∧ q.1.length ≤ 20 ∧ q.2.length ≤ 20) ∧ (q.2 ≠ " " → 32 ∉ q.1.cps.toList ∧ 32 ∉ q.2.cps.toList)
theorem pg_ok : ∀ q, PgP q → rightD "point" (.str q.1) = true ∧ rightD "group" (.str q.2) = true ∧ disB q.1.cps.toList q.2.cps.toList = true ∧ subB q.1.cps.toList PGC = true ∧ subB q.2.cps.toList PGC = true ∧ q.1.length ≤ 20 ∧ q.2.length ≤ 20 := fun _ h => h.1
def SzP (q : List Int) : Prop := areSizesD (.tup (q.map Dt.int)) = true ∧ q ≠ [] ∧ q.length ≤ 4 ∧ ∀ n ∈ q, 1 ≤ n ∧ n ≤ 6
theorem sz_ok : ∀ q, SzP q → areSizesD (.tup (q.map Dt.int)) = true ∧ q ≠ [] ∧ q.length ≤ 4 ∧ ∀ n ∈ q, 1 ≤ n ∧ n ≤ 6 := fun _ h => h
def sd2 (q : Str × Str) : Dt := .tup [.str q.1, .str q.2]
def BelP (q : Str × Str) : Prop := rightD "minus" (sd2 q) = true ∧ subB (signsD "minus" (sd2 q)).cps.toList RM = true ∧ q.1.length ≤ 20 ∧ q.2.length ≤ 20 ∧ subB q.1.cps.toList RM = true ∧ subB q.2.cps.toList RM = true
theorem bel_ok : ∀ q, BelP q → rightD "minus" (sd2 q) = true ∧ subB (signsD "minus" (sd2 q)).cps.toList RM = true ∧ q.1.length ≤ 20 ∧ q.2.length ≤ 20 ∧ subB q.1.cps.toList RM = true ∧ subB q.2.cps.toList RM = true := fun _ h => h
def AbvP (q : Str × Str) : Prop := rightD "plus" (sd2 q) = true ∧ subB (signsD "plus" (sd2 q)).cps.toList RPL = true ∧ q.1.length ≤ 20 ∧ q.2.length ≤ 20 ∧ subB q.1.cps.toList RPL = true ∧ subB q.2.cps.toList RPL = true
theorem abv_ok : ∀ q, AbvP q → rightD "plus" (sd2 q) = true ∧ subB (signsD "plus" (sd2 q)).cps.toList RPL = true ∧ q.1.length ≤ 20 ∧ q.2.length ≤ 20 ∧ subB q.1.cps.toList RPL = true ∧ subB q.2.cps.toList RPL = true := fun _ h => h
def FgsP (q : Str) : Prop := rightD "figures" (.str q) = true ∧ subB q.cps.toList RF = true ∧ q.length = 10
theorem fgs_ok : ∀ q, FgsP q → rightD "figures" (.str q) = true ∧ subB q.cps.toList RF = true ∧ q.length = 10 := fun _ h => h
def upB : List (Int × Str) → Bool
  | [] => true
  | a :: l => (l.all fun b => decide (a.1 < b.1)) && upB l
theorem upB_ok : ∀ {l : List (Int × Str)}, upB l = true → l.Pairwise fun a b => a.1 < b.1
  | [], _ => .nil
  | a :: l, h => by
    unfold upB at h
    rw [Bool.and_eq_true] at h
    exact List.Pairwise.cons (fun b hb => of_decide_eq_true (List.all_eq_true.mp h.1 b hb)) (upB_ok h.2)
def WdsP (q : List (Int × Str)) : Prop := rightD "words" (.tup (q.map wd)) = true ∧ subB (signsD "words" (.tup (q.map wd))).cps.toList RW = true ∧ q.length ≤ 20 ∧ upB q = true ∧ ∀ x ∈ q, 1 ≤ x.1 ∧ x.1 ≤ 30 ∧ x.2.length ≤ 20 ∧ subB x.2.cps.toList RW = true
theorem wds_ok : ∀ q, WdsP q → rightD "words" (.tup (q.map wd)) = true ∧ subB (signsD "words" (.tup (q.map wd))).cps.toList RW = true ∧ q.length ≤ 20 ∧ upB q = true ∧ ∀ x ∈ q, 1 ≤ x.1 ∧ x.1 ≤ 30 ∧ x.2.length ≤ 20 ∧ subB x.2.cps.toList RW = true := fun _ h => h
def BtwP (q : Str) : Prop := rightD "between" (.str q) = true ∧ subB q.cps.toList RB = true ∧ q.length ≤ 20
theorem btw_ok : ∀ q, BtwP q → rightD "between" (.str q) = true ∧ subB q.cps.toList RB = true ∧ q.length ≤ 20 := fun _ h => h
def AbtP (q : Str) : Prop := rightD "about" (.str q) = true ∧ subB q.cps.toList RA = true ∧ q.length ≤ 20
theorem abt_ok : ∀ q, AbtP q → rightD "about" (.str q) = true ∧ subB q.cps.toList RA = true ∧ q.length ≤ 20 := fun _ h => h
structure Pool (C : Cst) : Prop where
  pg : PgP (C.p, C.g)
  sz : SzP C.sz
  l : 1 ≤ C.l ∧ C.l ≤ 4
  m : BelP (C.m1, C.m2)
  pl : AbvP (C.p1, C.p2)
  f : FgsP C.f
  ws : WdsP C.ws
  b : BtwP C.b
  a : AbtP C.a
theorem Pool.ok {C : Cst} (h : Pool C) : C.Ok := by
  obtain ⟨_, _, _, _, _, a1, a2⟩ := pg_ok _ h.pg
  obtain ⟨_, b1, b2, b3⟩ := sz_ok _ h.sz
  obtain ⟨_, _, c1, c2, _⟩ := bel_ok _ h.m
  obtain ⟨_, _, d1, d2, _⟩ := abv_ok _ h.pl
  obtain ⟨_, _, e1⟩ := fgs_ok _ h.f
  obtain ⟨_, _, f1, f2, f3⟩ := wds_ok _ h.ws
  obtain ⟨_, _, g1⟩ := btw_ok _ h.b
  obtain ⟨_, _, h1⟩ := abt_ok _ h.a
  have := h.l
  exact ⟨a1, a2, c1, c2, d1, d2, e1, g1, h1, f1, fun q hq => ⟨(f3 q hq).1, (f3 q hq).2.1, (f3 q hq).2.2.1⟩, upB_ok f2, b1, b2, b3, by omega, by omega⟩
theorem Pool.none {C : Cst} (h : Pool C) : faultC "" C.fs = none := by
  obtain ⟨a1, a2, a3, a4, a5, _⟩ := pg_ok _ h.pg
  obtain ⟨b0, _⟩ := sz_ok _ h.sz
  obtain ⟨c1, c2, _⟩ := bel_ok _ h.m
  obtain ⟨d1, d2, _⟩ := abv_ok _ h.pl
  obtain ⟨e1, e2, _⟩ := fgs_ok _ h.f
  obtain ⟨f1, f2, _⟩ := wds_ok _ h.ws
  obtain ⟨g1, g2, _⟩ := btw_ok _ h.b
  obtain ⟨h1, h2, _⟩ := abt_ok _ h.a
  have l1 := h.l
  refine fault_none [(("point", .str C.p), C.p.cps.toList), (("group", .str C.g), C.g.cps.toList), (("sizes", .tup (C.sz.map Dt.int)), []), (("least", .int C.l), []), (("minus", .tup [.str C.m1, .str C.m2]), RM), (("plus", .tup [.str C.p1, .str C.p2]), RPL), (("figures", .str C.f), RF), (("words", .tup (C.ws.map wd)), RW), (("between", .str C.b), RB), (("about", .str C.a), RA)] "" ?_ ?_
  · have nn : ∀ x : Nat, x ∉ ("" : Str).cps.toList := fun x hx => nomatch no_signs (R := []) x hx
    intro q hq
    simp only [List.mem_cons, List.not_mem_nil, or_false] at hq
    rcases hq with rfl | rfl | rfl | rfl | rfl | rfl | rfl | rfl | rfl | rfl
    · exact ⟨a1, fun x hx => hx, fun x _ => nn x⟩
    · exact ⟨a2, fun x hx => hx, fun x _ => nn x⟩
    · exact ⟨b0, no_signs, fun x _ => nn x⟩
    · refine ⟨?_, no_signs, fun x _ => nn x⟩
      show (decide (1 ≤ C.l) && decide (C.l ≤ 4)) = true
      rw [decide_eq_true l1.1, decide_eq_true (by omega)]; rfl
    · exact ⟨c1, fun x hx => subB_in c2 hx, fun x _ => nn x⟩
    · exact ⟨d1, fun x hx => subB_in d2 hx, fun x _ => nn x⟩
    · exact ⟨e1, fun x hx => subB_in e2 hx, fun x _ => nn x⟩
    · exact ⟨f1, fun x hx => subB_in f2 hx, fun x _ => nn x⟩
    · exact ⟨g1, fun x hx => subB_in g2 hx, fun x _ => nn x⟩
    · exact ⟨h1, fun x hx => subB_in h2 hx, fun x _ => nn x⟩
  · have pgd : ∀ (u : Str), subB u.cps.toList PGC = true → ∀ R : List Nat, disB PGC R = true → ∀ x ∈ R, x ∉ u.cps.toList := fun u hu R hR x hx hxu => disB_in hR hx (subB_in hu hxu)
    have dd : ∀ A B : List Nat, disB A B = true → ∀ x ∈ B, x ∉ A := fun A B h x hx => disB_in h hx
    simp only [List.pairwise_cons, List.mem_cons, List.not_mem_nil, forall_eq_or_imp, false_or, or_false, forall_eq, false_implies, implies_true, and_true, true_and, List.Pairwise.nil, not_false_eq_true]
    refine ⟨⟨dd _ _ a3, pgd _ a4 _ (by decide), pgd _ a4 _ (by decide), pgd _ a4 _ (by decide), pgd _ a4 _ (by decide), pgd _ a4 _ (by decide), pgd _ a4 _ (by decide)⟩,
      ⟨pgd _ a5 _ (by decide), pgd _ a5 _ (by decide), pgd _ a5 _ (by decide), pgd _ a5 _ (by decide), pgd _ a5 _ (by decide), pgd _ a5 _ (by decide)⟩, ?_⟩
    exact ⟨⟨dd _ _ (by decide), dd _ _ (by decide), dd _ _ (by decide), dd _ _ (by decide), dd _ _ (by decide)⟩, ⟨dd _ _ (by decide), dd _ _ (by decide), dd _ _ (by decide), dd _ _ (by decide)⟩,
      ⟨dd _ _ (by decide), dd _ _ (by decide), dd _ _ (by decide)⟩, ⟨dd _ _ (by decide), dd _ _ (by decide)⟩, dd _ _ (by decide)⟩
theorem th_all {z : Str} (h : subB z.cps.toList (PGC ++ RM ++ RPL ++ RF ++ RW ++ RB ++ RA) = true) (l : z.length ≤ 20) (n : Nat) : ThN n (.str z) := by
  refine th_str (by omega) (fun x hx => ?_) n
  have h1 := subB_in h hx
  have h2 : ∀ y ∈ PGC ++ RM ++ RPL ++ RF ++ RW ++ RB ++ RA, y < 1114112 := by decide
  exact h2 x h1
theorem subB_mono {a b c : List Nat} (h : subB a b = true) (k : ∀ x ∈ b, x ∈ c) : subB a c = true := by
  unfold subB
  rw [List.all_eq_true]
  intro x hx
  have := k x (subB_in h hx)
  simpa using this
def ALLS : List Nat := PGC ++ RM ++ RPL ++ RF ++ RW ++ RB ++ RA
theorem in_all {x : Nat} (h : x ∈ PGC ∨ x ∈ RM ∨ x ∈ RPL ∨ x ∈ RF ∨ x ∈ RW ∨ x ∈ RB ∨ x ∈ RA) : x ∈ ALLS := by
  unfold ALLS
  simp only [List.mem_append]
  rcases h with h | h | h | h | h | h | h <;> simp [h]
theorem Pool.th {C : Cst} (h : Pool C) : ∀ q ∈ C.fs, ThN 3 q.2 := by
  obtain ⟨_, _, _, a4, a5, a6, a7⟩ := pg_ok _ h.pg
  obtain ⟨_, b1, b2, b3⟩ := sz_ok _ h.sz
  obtain ⟨_, _, c1, c2, c3, c4⟩ := bel_ok _ h.m
  obtain ⟨_, _, d1, d2, d3, d4⟩ := abv_ok _ h.pl
  obtain ⟨_, e2, e3⟩ := fgs_ok _ h.f
  obtain ⟨_, _, f1, _, f3⟩ := wds_ok _ h.ws
  obtain ⟨_, g2, g3⟩ := btw_ok _ h.b
  obtain ⟨_, h2, h3⟩ := abt_ok _ h.a
  have S : ∀ {z : Str} {R : List Nat}, subB z.cps.toList R = true → (∀ x ∈ R, x ∈ ALLS) → z.length ≤ 20 → ∀ n, ThN n (.str z) := fun s k l n => th_all (subB_mono s k) l n
  have two : ∀ {y z : Str}, (∀ n, ThN n (.str y)) → (∀ n, ThN n (.str z)) → ThN 3 (.tup [.str y, .str z]) := fun hy hz => by
    refine th_tup (by show 2 ≤ 1000; decide) fun e he => ?_
    rcases List.mem_cons.mp he with rfl | he
    · exact hy _
    · rw [List.mem_singleton.mp he]; exact hz _
  intro q hq
  unfold Cst.fs cuF at hq
  simp only [List.mem_cons, List.not_mem_nil, or_false] at hq
  rcases hq with rfl | rfl | rfl | rfl | rfl | rfl | rfl | rfl | rfl | rfl
  · exact S a4 (fun x hx => in_all (.inl hx)) a6 _
  · exact S a5 (fun x hx => in_all (.inl hx)) a7 _
  · refine th_tup (by rw [List.length_map]; omega) fun e he => ?_
    obtain ⟨n, _, rfl⟩ := List.mem_map.mp he
    exact th_int _
  · exact th_int _
  · exact two (S c3 (fun x hx => in_all (.inr (.inl hx))) c1) (S c4 (fun x hx => in_all (.inr (.inl hx))) c2)
  · exact two (S d3 (fun x hx => in_all (.inr (.inr (.inl hx)))) d1) (S d4 (fun x hx => in_all (.inr (.inr (.inl hx)))) d2)
  · exact S e2 (fun x hx => in_all (.inr (.inr (.inr (.inl hx))))) (by show C.f.length ≤ 20; omega) _
  · refine th_tup (by rw [List.length_map]; omega) fun e he => ?_
    obtain ⟨q, hq, rfl⟩ := List.mem_map.mp he
    refine th_tup (by show 2 ≤ 1000; decide) fun e he => ?_
    rcases List.mem_cons.mp he with rfl | he
    · exact th_int _
    · rw [List.mem_singleton.mp he]
      exact S (f3 q hq).2.2.2 (fun x hx => in_all (.inr (.inr (.inr (.inr (.inl hx)))))) (f3 q hq).2.2.1 _
  · exact S g2 (fun x hx => in_all (.inr (.inr (.inr (.inr (.inr (.inl hx))))))) g3 _
  · exact S h2 (fun x hx => in_all (.inr (.inr (.inr (.inr (.inr (.inr hx))))))) h3 _
structure Ask where
  lo : Int
  hi : Int
  fig : Option Int
  st : Option (Int × Int)
  y : Wy
  all : Bool
  gr : Bool
  sc : Bool
  u1 : Str
  u2 : Str
def Ask.W (A : Ask) : Wsh := ⟨A.lo, A.hi, A.fig, A.st.map fun p => Rat.divInt p.1 p.2, A.y, A.all, A.gr, A.sc, A.u1, A.u2⟩
def optP : Option (Int × Int) → Dt
  | none => .non
  | some p => .tup [.int p.1, .int p.2]
def askF (a b c d e f g h : Dt) : List (Str × Dt) := wiF a b c d e f g h
def Ask.fs (A : Ask) : List (Str × Dt) := askF (.tup [.int A.lo, .int A.hi]) (optZ A.fig) (optP A.st) (.str A.y.txt) (.str (sgnS A.all)) (.bl A.gr) (.bl A.sc) (.tup [.str A.u1, .str A.u2])
def Ask.dt (A : Ask) : Dt := .dct A.fs
structure Ask.Good (A : Ask) : Prop where
  l0 : 0 ≤ A.lo
  lh : A.lo ≤ A.hi
  hh : A.hi ≤ 12
  fg : ∀ n, A.fig = some n → 1 ≤ n ∧ n ≤ 12
  st : ∀ p, A.st = some p → 0 < p.1 ∧ 0 < p.2 ∧ Sz 41 p.1 ∧ Sz 41 p.2 ∧ stepD A.hi (.num (Rat.divInt p.1 p.2)) = true
  x1 : A.st ≠ none → A.fig = none
  x2 : A.st ≠ none → A.sc = false
  un : unitD (.tup [.str A.u1, .str A.u2]) = true
  uc : (decide (A.u1.length ≤ 6) && decide (A.u2.length ≤ 6) && (A.u1.cps.toList ++ A.u2.cps.toList).all fun c => decide (c < 1114112)) = true
theorem Ask.Good.W {A : Ask} (h : A.Good) : A.W.Ok := by
  have u := h.uc
  rw [Bool.and_eq_true, Bool.and_eq_true, decide_eq_true_eq, decide_eq_true_eq] at u
  refine ⟨h.l0, h.lh, h.hh, h.fg, fun p hp => ?_, u.1.1, u.1.2⟩
  have hp : (A.st.map fun p => Rat.divInt p.1 p.2) = some p := hp
  obtain ⟨s, hs, rfl⟩ := Option.map_eq_some_iff.mp hp
  obtain ⟨a, b, c, d, _⟩ := h.st s hs
  exact ⟨divInt_pos a b, (szr_divInt c d (Int.ne_of_gt b)).mono (by decide)⟩
def InI (a b : Int) (d : Dt) : Prop := ∃ n : Int, d = .int n ∧ a ≤ n ∧ n ≤ b
theorem ini {a b n : Int} (h : a ≤ n) (h2 : n ≤ b) : InI a b (.int n) := ⟨n, rfl, h, h2⟩
end DL
namespace DL
open PySem PySem.Spec PyProof.Rows L2
theorem OmOk.fg {K : PySem.W.Frag} {w w2 : Om} {H : Hp} (ok : OmOk K w H) (h : ∀ a m, w2 a = some m → w a = some m) : Aft K w H w2 H := by
  have sm : Same (hm H w) (hm H w2) := fun b u hb => by
    obtain ⟨h1, h2⟩ := hm_some hb
    have : w2 b = none := by
      cases e : w2 b with
      | none => rfl
      | some m => rw [h b m e] at h1; cases h1
    rw [hm_no this]; exact h2
  refine ⟨sm, fun b m hb => ?_⟩
  obtain ⟨o, h1, h2⟩ := ok b m (h b m hb)
  exact ⟨o, h1, h2.mono sm⟩
end DL
namespace DL
open PySem PySem.Spec PyProof.Rows L2 TL
def sl (l : List Nat) : Str := ⟨l.toArray⟩
structure IsPl (few den n : Nat) : Prop where
  le : few ≤ n
  dv : den ∣ 10 ^ n
  ls : ∀ j, few ≤ j → den ∣ 10 ^ j → n ≤ j
theorem IsPl.one {few den n m : Nat} (a : IsPl few den n) (b : IsPl few den m) : n = m := Nat.le_antisymm (a.ls m b.le b.dv) (b.ls n a.le a.dv)
theorem IsPl.of {few den P : Nat} (h : plc den = .int P) : IsPl few den (max few P) := by
  have d := plc_dvd h
  refine ⟨Nat.le_max_left _ _, Nat.dvd_trans d (Nat.pow_dvd_pow 10 (Nat.le_max_right _ _)), fun j hf hj => ?_⟩
  refine Nat.max_le.mpr ⟨hf, ?_⟩
  cases P with
  | zero => exact Nat.zero_le _
  | succ P =>
    refine Classical.byContradiction fun z => ?_
    exact plc_least h (Nat.dvd_trans hj (Nat.pow_dvd_pow 10 (by omega)))
def GrpOn (g : Str) (s : List Int) (l : Int) (n : Nat) : Prop := ¬ (g = "" ∨ (n : Int) < s.headD 1 + l)
instance : Decidable (GrpOn g s l n) := by unfold GrpOn; infer_instance
end DL
namespace DL
open PySem PySem.Spec PyProof.Rows L2 TL
def z0 (C : Cst) : Nat := (tl C.f).getD 0 0
end DL
namespace DL
open PySem PySem.Spec PyProof.Rows L2 TL
def Ly (n : Nat) (d : Dt) : Prop := ∃ p, toPy d = some p ∧ p.canLay0 = true ∧ p.depth ≤ n
theorem Ly.mono {n m : Nat} {d : Dt} (h : Ly n d) (l : n ≤ m) : Ly m d := by
  obtain ⟨p, h1, h2, h3⟩ := h
  exact ⟨p, h1, h2, Nat.le_trans h3 l⟩
theorem Ly.shaped {n : Nat} {d : Dt} (h : Ly n d) (l : n ≤ 64) : ∃ p, toPy d = some p ∧ SeqAt.shaped p = true ∧ PyData.eqv p p = true := by
  obtain ⟨p, h1, h2, h3⟩ := h
  refine ⟨p, h1, ?_, SeqAt.eqv_refl p h2⟩
  unfold SeqAt.shaped
  rw [h2, decide_eq_true (by omega)]; rfl
theorem Ly.eqG {n : Nat} {d : Dt} (h : Ly n d) (l : n ≤ 64) {f : Bool → Bool} {w : Om} {Q : DK} (q : Q (.bl (f true)) w) : eqG f d d w Q := by
  obtain ⟨p, h1, h2, h3⟩ := h.shaped l
  exact ⟨p, p, h1, h1, h2, h2, by rw [h3]; exact q⟩
end DL
namespace DL
open PySem PySem.Spec PyProof.Rows L2 TL
theorem OmOk.dcz {K : PySem.W.Frag} {w : Om} {H : Hp} (ok : OmOk K w H) {p : Addr} {o : Obj} {gs : List (Str × V)} {fs : List (Str × Dt)} (h : w p = some (.dcz o gs fs)) : H p = some (.frz o (.dK (kyG gs))) ∧ RpF K (hm H w) fs gs := by
  obtain ⟨q, h1, h2⟩ := ok p _ h
  cases h2 with
  | dcz r => exact ⟨h1, r⟩
theorem RpF.at {K : PySem.W.Frag} {H : Hp} : ∀ {fs : List (Str × Dt)} {gs : List (Str × V)} {i : Nat} {n : Str} {v : V}, RpF K H fs gs → gs[i]? = some (n, v) → ∃ d, fs[i]? = some (n, d) ∧ Rp K H d v
  | _, _, _, _, _, .nil, e => by simp at e
  | _, _, 0, _, _, .cons r _, e => by simp at e; obtain ⟨rfl, rfl⟩ := e; exact ⟨_, rfl, r⟩
  | _, _, i + 1, n, v, .cons r t, e => by
    obtain ⟨d, h1, h2⟩ := RpF.at (i := i) (n := n) (v := v) t (by simpa using e)
    exact ⟨d, by simpa using h1, h2⟩
structure NeC (K : PySem.W.Frag) (C : Addr) : Prop where
  ne : PySem.W.findIn K (.ref C) "__ne__" = some (some (.builtin "object.__ne__"))
  ob : PySem.W.mroIn K C (.type "object") = some true
section
variable {Z : Dx} {e : Expr} {sp : DSp} {C : Addr} {m : Str} {n k : Nat} {l : List Dt} {gD : List Dt → List Dt → List Dt} {spC : Addr → DSp} {te : DTE} {ta tk : DTA}
theorem de_methNW (Wd : DWX) (hW : Z.Wd = Wd) (h : DE Z e (dMethN Z.Wd l sp te ta)) : DE Z e (dMethN Wd l sp te ta) := hW ▸ h
end
end DL
namespace DL
open PySem PySem.Spec PyProof.Rows L2 TL
def KIN7 : List String := ["NoneType", "bool", "int", "str", "tuple", "list", "dict"]
structure EqK (K : PySem.W.Frag) (C : Addr) (cs : List Str) : Prop where
  to : ∀ T ∈ KIN7, PySem.W.subIn K (.type T) (.ref C) = some false
  fr : ∀ T ∈ KIN7, PySem.W.subIn K (.ref C) (.type T) = some false
  ow : ∀ c ∈ cs, PySem.W.notFirst K C (.ref (He.ga K c)) = true
  ne : NeC K C
inductive TyD (K : PySem.W.Frag) (w : Om) : Dt → Value → Prop
  | non : TyD K w .non (.type "NoneType")
  | bl {b : Bool} : TyD K w (.bl b) (.type "bool")
  | int {i : Int} : TyD K w (.int i) (.type "int")
  | str {z : Str} : TyD K w (.str z) (.type "str")
  | tup {ds : List Dt} : TyD K w (.tup ds) (.type "tuple")
  | lst {ds : List Dt} : TyD K w (.lst ds) (.type "list")
  | rl {ds : List Dt} : TyD K w (.rl ds) (.type "list")
  | dct {fs : List (Str × Dt)} : TyD K w (.dct fs) (.type "dict")
  | ptr {p : Addr} {ds : List Dt} : w p = some (.lst ds) → TyD K w (.ptr p) (.type "list")
  | num {q : Rat} : TyD K w (.num q) (.ref (cN K))
  | ins {C : Addr} {fs : List (Str × Dt)} : TyD K w (.ins C fs) (.ref C)
theorem looks_at {P : Program} {w : World} {h : Heap} {a : Addr} {o : Obj} {T : String} (e : h.get? a = some o) (c : o.cls = .type T) : PySem.W.Looks (model P w) h (typeOf (.ref a)) (.type T) :=
  fun A Q E s k q => wpAny_typeOf ⟨o, k _ _ e, c⟩ q
section
variable {Z : Dx} {k j : Nat} {sp : DSp} {C : Addr} {cs : List Str} {pins : List (Addr × Obj)} {σ : L2.St} {H : Hp} {s : Shared} {w : Om} {d e : Dt} {x y : V} {u v : Value} {tb : Value}
theorem looks_ins {X : Cx} {pins : List (Addr × Obj)} {σ : L2.St} {H : Hp} {s : Shared} {a C dx : Addr} {gs : List (Str × V)} (I : Inv X pins σ H s) (h : H a = some (.ins C dx gs)) : ∃ (ob : Obj) (od : Option Obj), PySem.W.InstAt s.heap a ob C od ∧ s.heap.get? a = some ob ∧ ob.data = .plain := by
  obtain ⟨mA, J, _⟩ := ins_get I.hok h
  have J0 := J
  obtain ⟨od, J, _⟩ := J.look
  obtain ⟨ob, _, _⟩ := J0
  exact ⟨_, _, J, ob, rfl⟩
theorem looks_ty (I : Inv Z.X pins σ H s) (om : OmOk Z.X.K w H) (ry : Rp Z.X.K (hm H w) e y) (rv : RelV y v) (t : TyD Z.X.K w e tb) : PySem.W.Looks (model Z.X.prog Z.X.w) s.heap (typeOf v) tb := by
  cases t with
  | non => cases ry; cases rv; exact fun A Q E s k q => wpAny_typeOf rfl q
  | bl => cases ry; cases rv; exact fun A Q E s k q => wpAny_typeOf rfl q
  | int => cases ry; obtain ⟨t, rfl⟩ := rv; exact fun A Q E s k q => wpAny_typeOf rfl q
  | str => cases ry; obtain ⟨t, rfl⟩ := rv; exact fun A Q E s k q => wpAny_typeOf rfl q
  | tup => cases ry with
    | tup hx rl =>
      cases rv
      obtain ⟨its, rvs, ⟨o, ho, hc, n, hd⟩, hlen⟩ := I.tuple (up_t hx)
      exact looks_at ho hc
  | lst => cases ry with
    | lst hx rl =>
      cases rv
      obtain ⟨its, rvs, ⟨o, n, ho, hc, hd, hdat⟩, hlen⟩ := I.list (SqL.of (hm_some hx).2)
      exact looks_at ho hc
  | rl => cases ry with
    | rl hx rl =>
      cases rv
      obtain ⟨its, rvs, ⟨o, n, ho, hc, hd, hdat⟩, hlen⟩ := I.list (up_l hx)
      exact looks_at ho hc
  | dct => cases ry with
    | dct hx rf =>
      cases rv
      obtain ⟨z, y1, vs1, rel1, dd1⟩ := dk_of I.hok (hm_some hx).2
      obtain ⟨o, ho, hc⟩ := dd1.typeIs
      exact looks_at ho hc
  | ptr hp => cases ry with
    | ptr =>
      cases rv
      obtain ⟨vs, h1, rl⟩ := om.lst hp
      obtain ⟨its, rvs, ⟨o, n, ho, hc, hd, hdat⟩, hlen⟩ := I.list (SqL.of h1)
      exact looks_at ho hc
  | num => cases ry with
    | num hx =>
      cases rv
      obtain ⟨ob, od, J, _⟩ := looks_ins I (hm_some hx).2
      exact J.type
  | ins => cases ry with
    | ins hx rf =>
      cases rv
      obtain ⟨ob, od, J, _⟩ := looks_ins I (hm_some hx).2
      exact J.type
def OthT (K : PySem.W.Frag) (w : Om) (C : Addr) (cs : List Str) (e : Dt) : Prop := (∃ T ∈ KIN7, TyD K w e (.type T)) ∨ TyD K w e (.ref C) ∨ ∃ c ∈ cs, TyD K w e (.ref (He.ga K c))
theorem othT (N : EqK Z.X.K C cs) (h : OthT Z.X.K w C cs e) : ∃ tb, TyD Z.X.K w e tb ∧ PySem.W.notFirst Z.X.K C tb = true := by
  rcases h with ⟨T, hT, t⟩ | t | ⟨c, hc, t⟩
  · exact ⟨_, t, by unfold PySem.W.notFirst; rw [N.to T hT]; simp⟩
  · exact ⟨_, t, by simp [PySem.W.notFirst]⟩
  · exact ⟨_, t, N.ow c hc⟩
def OwnD (K : PySem.W.Frag) (C : Addr) : Dt → Prop
  | .num _ => C = cN K
  | .ins D _ => D = C
  | _ => False
theorem OwnD.at {K : PySem.W.Frag} (h : OwnD K C d) (r : Rp K H d x) : ∃ a dx gs, x = .ref a ∧ H a = some (.ins C dx gs) := by
  cases r with
  | num h2 => cases h; exact ⟨_, _, _, rfl, h2⟩
  | ins h2 _ => cases h; exact ⟨_, _, _, rfl, h2⟩
  | _ => exact h.elim
theorem own_run {f : Addr} {fd : FuncData} {ps : List Str} (F : FnG Z.X.prog Z.X.w Z.X.K Z.X.mg Z.X.base j f fd ps (lift Z.X.K sp)) (hb : Binds Z.X.K fd ps []) {A : Around} (fr : A.frames = Z.X.A.frames) (rm : Rm j A) (I : Inv Z.X pins σ H s) (om : OmOk Z.X.K w H)
    (rx : Rp Z.X.K (hm H w) d x) (ru : RelV x u) (ry : Rp Z.X.K (hm H w) e y) (rv : RelV y v) {r : Bool} (hs : sp [d, e] w (fun z w2 => z = .bl r ∧ w2 = w) fun _ _ _ => False) {Q : Value → Shared → Prop} (q : ∀ s' H', Inv Z.X pins σ H' s' → Aft Z.X.K w H w H' → Q (.bool r) s') :
    wpAny (model Z.X.prog Z.X.w) A (call (.ref f) [u, v]) Q Z.X.xe s := by
  have hsp : lift Z.X.K sp [x, y] H (fun v H' => v = .bl r ∧ Aft Z.X.K w H w H') (fun _ _ _ => False) :=
    ⟨[d, e], w, _, fun _ _ _ => False, .cons rx (.cons ry .nil), om, hs, fun v d H' w' A' rv ⟨e1, e2⟩ => by
      subst e1 e2
      cases rv
      exact ⟨rfl, A'⟩, fun _ _ _ _ _ _ _ _ _ z => z.elim⟩
  have hl := F.len _ _ _ _ hsp
  have e0 : Env0 Z.X.prog Z.X.w Z.X.K Z.X.mg Z.X.base A Z.X.stack s H := by
    have e := I.env0
    exact ⟨by rw [fr]; exact e.frames, e.mod, e.bs, e.bsz, e.funs, e.frf, e.hok, e.bare⟩
  refine wpAny_call (codeAny_mono (F.run A Z.X.stack s H ⟨[u, v], []⟩ [u, v] [x, y] _ _ rm e0 (by
    have := hb s [u, v] I.kIn (by simpa using hl)
    simpa using this) (.cons ru (.cons rv .nil)) hsp) fun r' s' hq => ?_)
  match r', hq with
  | .error e, hq => exact (no_esc hq).elim
  | .ok (.ret u), hq =>
    obtain ⟨z, H', I', rz, ez, A'⟩ := I.after hq
    subst ez
    cases rz
    exact q _ _ I' A'
theorem own_ne (c : CalM Z.X.prog Z.X.w Z.X.K Z.X.mg Z.X.base C "__eq__" j [] sp) (N : EqK Z.X.K C cs) (rm : Rm (j + 1) Z.X.A) (I : Inv Z.X pins σ H s) (om : OmOk Z.X.K w H) (ho : OwnD Z.X.K C d) (ht : OthT Z.X.K w C cs e)
    (rx : Rp Z.X.K (hm H w) d x) (ru : RelV x u) (ry : Rp Z.X.K (hm H w) e y) (rv : RelV y v) {r : Bool} (hs : sp [d, e] w (fun z w2 => z = .bl r ∧ w2 = w) fun _ _ _ => False) {Q : Value → Shared → Prop} (q : ∀ s' H', Inv Z.X pins σ H' s' → Aft Z.X.K w H w H' → Q (.bool (!r)) s') :
    wpAny (model Z.X.prog Z.X.w) Z.X.A (richCompare .NotEq u v) Q Z.X.xe s := by
  obtain ⟨f, fd, ps, dvs, ds, hc, hm', F, hb, hd, hr⟩ := c.ex
  obtain rfl := rpl_nil (hr (fun _ => none))
  obtain rfl := vals_nil rfl hd
  obtain ⟨a, dx, gs, rfl, ha⟩ := ho.at rx
  obtain ⟨ob, od, J, _⟩ := looks_ins I (hm_some ha).2
  obtain ⟨m, hF⟩ := I.fr
  obtain ⟨tb, ty, nf⟩ := othT N ht
  have ru0 := ru
  cases ru
  refine cmp_ne (by have := rm.room.units; omega) hF I.ok.mod.kin J (looks_ty I om ry rv ty) nf N.ne.ne N.ne.ob hm'.at_ hm'.fn ?_
  exact own_run (A := Z.X.A.in1) (Q := NeBack Q) F hb rfl (rm.in1 (k := j)) I om rx ru0 ry rv hs fun s' H' I' A' => q s' H' I' A'
end
end DL
namespace DL
open PySem PySem.Spec PyProof.Rows L2
structure XClsH (P : Program) (w : World) (K : PySem.W.Frag) (mg : Str → Option Value) (base : Heap) (x : Str) (k n : Nat) (flds : List V → List (Str × V)) : Prop where
  ex : ∃ (B newId initId : String) (tl : List Value) (fI : Addr) (fd : FuncData) (ps : List Str), EXG.Bas B newId initId tl ∧ OexG K (He.ga K x) newId tl ∧ PySem.W.findIn K (.ref (He.ga K x)) "__init__" = some (some (.ref fI)) ∧ PySem.W.typeIn K (.ref fI) = some (.type "function") ∧
    L2H.FnH P w K mg base (L2.CX P w) k fI fd ps (spX K newId tl n flds) ∧ Binds K fd ps [] ∧ (∀ ys, ys.length = n → ∀ f ∈ (flds ys).map (·.1), PySem.W.findIn K (.ref (He.ga K x)) f = some none) ∧ mg x = some (.ref (He.ga K x))
theorem XcK.clsH {P : Program} {w : World} {K : PySem.W.Frag} {mg : Str → Option Value} {base : Heap} {x : Str} {k : Nat} {B newId initId : String} {tl : List Value} {fs ps : List Str} {fd : FuncData} (X : XcK K x B newId initId tl fs) (Y : EXG.Bas B newId initId tl) (hg : mg x = some (.ref (He.ga K x)))
    (F : L2H.FnH P w K mg base (L2.CX P w) k (He.fAd K (x, some "__init__")) fd ps (spX K newId tl fs.length (fldsV fs))) (hb : Binds K fd ps []) : XClsH P w K mg base x k fs.length (fldsV fs) :=
  ⟨B, newId, initId, tl, _, fd, ps, Y, X.ox, X.ini, X.ity, F, hb, fun ys _ f hf => X.no f (fldsV_names hf), hg⟩
theorem l_fnH {P : Program} {w : World} {K : PySem.W.Frag} {mg : Str → Option Value} {base : Heap} {x qual : Str} {params : Arguments} {body : List Stmt} {scope : Scope} {dvs : List V} {kws : List (Str × V)} {f : Addr} {fd : FuncData} {N ps : List Str} {k : Nat} {sp : Sp}
    (F : FunD K x qual params body scope dvs kws f fd) (S : FnScope N ps scope) (len : ∀ vs H Q E, sp vs H Q E → vs.length = ps.length)
    (hbody : ∀ (cdv : Value) (A : Around) (outer : List Env) (s : Shared) (H : Hp) (E : XK) (p : Addr × Obj),
      ∃ t, PSs (L2H.cxH (L2.CX P w) P w K mg base N qual scope f cdv A outer s H E p) body t ∧ ∀ vs Q, sp vs H Q E → t { nx := fun _ H' => Q .non H', rt := Q } (start N vs) H) :
    L2H.FnH P w K mg base (L2.CX P w) (k + 1) f fd ps sp := by
  obtain ⟨oc, od, dV, kV, doc, pm, an, cdv, ct, osl, rfl, lk, hcd, _, _⟩ := F.ex
  refine L2H.fn_ofH lk hcd S len fun A outer s H vs Q E p _ _ h => ?_
  obtain ⟨t, q, r⟩ := hbody cdv A outer s H E p
  exact ⟨t, q, r vs Q h⟩
section
variable {X : Cx} {e : Expr} {es : List Expr} {ta : TA} {p pos : Pos}
theorem pmk5_gH {x : Str} {k n : Nat} {flds : List V → List (Str × V)} (c : XClsH X.prog X.w X.K X.mg X.base x k n flds) (hn : n ≤ 1000) (hr : L2H.RoomH (k + 1) X.A) (hc : L2H.HotC X) (hx : Passes (L2.CX X.prog X.w) X (fun _ _ _ => False)) (hg : Gl X x) (ha : PA X (e :: es) ta)
    (hdb : (x == ("__debug__" : Str)) = false := by decide) (he : starEach (e :: es) X.env = (false, eval e X.env) :: starEach es X.env := by rfl) (hpl : (backTo pos (starEach es X.env)).any (·.1) = false := by rfl) :
    L2H.PMk5 X (.Call (.Name x p) (e :: es) [] pos) (tMkG (He.ga X.K x) n flds ta) := by
  obtain ⟨B, newId, initId, tl, fI, fd, ps, Y, T, iC, tI, F1, hb, hf, hm⟩ := c.ex
  obtain ⟨nm, q, N, bs, bm, sn, sub, ab, col, dd, k0, k1, k2, k3, k5, hC, hbm⟩ := T.cls
  intro pins s σ H Q I h
  obtain ⟨pn, hot, hpn⟩ := hc
  refine wpAny_Call_Name_kw (ld_glob I hg hm ?_ hdb)
  refine PySem.W.callWith_K (h₀ := X.base) I.ok.mod.kin T.kC (thn (ha.run pos pins s σ H _ I h) fun us s1 ⟨vs, H1, I1, r1, hz, q1⟩ => ⟨I1.kIn, ?_⟩) he hpl
  show wpAny _ _ (call (.ref (He.ga X.K x)) us) _ _ _
  obtain ⟨hp, g, dr, tk, os⟩ := s1
  generalize hCC : He.ga X.K x = C at *
  obtain ⟨a, ea⟩ : ∃ a, a = hp.objs.size + 1 := ⟨_, rfl⟩
  have hsz : hp.objs.size ≤ a := by omega
  have hn1 : H1 a = none := I1.hok.fresh hsz
  have hus : us.length ≤ sizeLine := by rw [← Paired.length r1, sizeLine_eq]; omega
  obtain ⟨h2, eh2⟩ : ∃ h2, h2 = (hp.push (PySem.W.kdv_tup us)).push (PySem.HandSPX.excO C hp.objs.size) := ⟨_, rfl⟩
  have kk : ∀ b o, hp.get? b = some o → h2.get? b = some o := fun b o e => by rw [eh2]; exact Heap.get?_push_of_some _ (Heap.get?_push_of_some _ e)
  have hget : h2.get? a = some (PySem.HandSPX.excO C hp.objs.size) := by rw [eh2, ea]; heap_get
  have I2 : Inv X pins σ (upd H1 a (exo a C none)) ⟨h2, g, dr, tk, os⟩ := I1.laid (t' := tk) (a := a) (o := exo a C none) (h' := h2) kk hsz (exo_ok hget)
  have r2 : Vals (V.ref a :: vs) (Value.ref a :: us) := .cons rfl r1
  have hsp : spX X.K newId tl n flds (V.ref a :: vs) (upd H1 a (exo a C none)) (fun v H2 => v = .non ∧ ∃ (d : Addr) (fs : List (Str × V)), H2 a = some (exo a C (some d)) ∧ H2 d = some (exd d fs) ∧ H1 d = none ∧ Q (.ref C) (some d) (upd (del H2 a) d (.xd fs))) (fun _ _ _ => False) := by
    refine ⟨a, C, vs, rfl, hz, T, upd_same, hf vs hz, fun dx H' n1 n2 n3 n4 n5 => ⟨rfl, dx, flds vs, n4, n5, ?_, ?_⟩⟩
    · rw [upd_ne n2] at n1; exact n1
    · have e : upd (del H' a) dx (.xd (flds vs)) = upd H1 dx (.xd (flds vs)) := funext fun b => by
        by_cases e1 : b = dx
        · rw [e1, upd_same, upd_same]
        · rw [upd_ne e1, upd_ne e1]
          by_cases e2 : b = a
          · rw [e2, del_same, hn1]
          · rw [del_ne e2, n3 b e2 e1, upd_ne e2]
      rw [e]
      exact q1 dx (by rw [upd_ne n2] at n1; exact n1)
  have hl : (Value.ref a :: us ++ []).length = ps.length := by
    have e := r2.length
    rw [F1.len _ _ _ _ hsp] at e
    rw [List.append_nil]; exact e.symm
  have b2 := hb _ (Value.ref a :: us) I2.kIn hl
  rw [List.append_nil] at b2
  have P1 := I2.pin pn (List.mem_append_left _ hpn)
  have hpin : L2H.PinOk X.stack (upd H1 a (exo a C none)) ⟨h2, g, dr, tk, os⟩ pn :=
    ⟨P1.1, P1.2.1, fun hmm => (List.mem_cons.mp (I2.stkSub pn.1 hmm)).elim P1.2.2.1 P1.2.2.2.1, P1.2.2.2.2⟩
  refine wpAny_call (PySem.HandSPX.call_own Y.base (fun z => EXG.own_has Y z bm hbm) (I1.kIn _ _ hC) (PySem.W.looks_findIn I1.kIn iC) (fun self => PySem.W.bind_fn I1.kIn self tI) hus ?_)
  rw [← ea, ← eh2]
  refine codeAny_mono (F1.run _ X.stack _ _ ⟨Value.ref a :: us, []⟩ (Value.ref a :: us) _ _ (fun _ _ _ => False) pn (hr.make C us []) ⟨hot.1, hot.2⟩ hpin (I2.env0.make C us []) b2 r2 hsp) fun r s' hq' => ?_
  match r, hq' with
  | .error er, hq' => exact hx pins σ _ _ er s' I2 hq'
  | .ok (.ret u), ⟨v, H2, os2, bare2, un2, hok2, rv, ev, d, fs, e1, e2, hd1, q2⟩ =>
    subst ev
    obtain ⟨h3, g3, d3, t3, os3⟩ := s'
    obtain ⟨t0, G, J, kG, ge, hoe, na⟩ := mk_end0 (d2 := d3) (t2 := t3) I1 hsz kk un2 hok2 os2 bare2 e1 e2 hd1
    refine ⟨rv, ⟨a, _, _, ⟨G, g3, d3, t3, os3⟩, _, .ref C, some d, rfl, J, kG, ge, hoe, ⟨rfl, rfl, fun vs hv => ?_⟩, rfl, rfl, na, rfl, bare2, raises_own T.exC T.tyC, q2⟩, fun a' oe vs ea2 hg2 hd2 => ?_⟩
    · cases hv
      rfl
    · cases ea2
      have hg3 : h3.get? a = some oe := hg2
      rw [hoe] at hg3
      cases hg3
      cases hd2
      show (4 : Nat) < 6
      decide
end
section
variable {X : Cx} {W : WX} {a b : Expr} {ta tb : TE} {pos : Pos}
theorem pe_fdivZ (hc : X.calm = true) (tk : L2N.Takes X W) (ha : PE X a ta) (hb : PE X b tb) :
    PE X (.BinOp a .FloorDiv b pos) (fun σ H _ => ta σ H fun x H1 => tb σ H1 fun y H2 => ∃ i : Int, x = .int i ∧ y = .int 0 ∧ ∀ d, W (.type "ZeroDivisionError") d σ H2) := by
  refine ⟨fun pins s σ H Q I h => ?_⟩
  refine wpAny_BinOp (binT ha hb I h fun v u s2 x y H2 I2 rx ry q => ?_)
  obtain ⟨i, rfl, rfl, w⟩ := q
  obtain ⟨t, rfl⟩ := rx
  obtain ⟨t', rfl⟩ := ry
  exact PySem.AutoIntOps.floordiv_0 rfl ⟨I2.ok.hd hc, fun h' tk' e hx => L2N.takes_newN (t' := tk') tk I2 hx w⟩
end
def dTryZ (ia ib : Nat) (C : Addr) (fs : List Str) (ta : DTA) (t : DTS) (Wd : DWX) : DTS := fun D r w => ∃ i j : Int, nth r ia = some (.int i) ∧ nth r ib = some (.int j) ∧
  (j = 0 → ta r w fun ds w1 => ds.length = fs.length ∧ Wd C (fldsD fs ds) r w1) ∧ (j ≠ 0 → t D r w)
def suxZ (Z : Dx) (a : Addr) (pn : List (Addr × Obj)) : Dx := ⟨L2H.suiteX Z.X a pn, Z.W, Z.Wd, fun _ _ => True⟩
section
variable {Z : Dx} {x xa xb f : Str} {fs : List Str} {j k : Nat} {ta : DTA} {t : DTS} {e o : Expr} {es : List Expr} {rest : List Stmt} {p1 p2 p3 p4 np cpos cp pos pos' pos'' pos3 pos4 : Pos} {jj : Nat}
theorem ds_tryZ (ia ib : Nat) (b : Bd Z k) (c : XClsH Z.X.prog Z.X.w Z.X.K Z.X.mg Z.X.base x j fs.length (fldsV fs))
    (hbody : ∀ (pn : List (Addr × Obj)) (xe : Value → Shared → Prop) (W : WX) (Wd : DWX), Bd (trZ Z pn xe W Wd) k → DSs (trZ Z pn xe W Wd) (.Assign [.Attribute o f p1] (.BinOp (.Name xa p2) .FloorDiv (.Name xb p3) p4) pos3 :: rest) t)
    (hta : ∀ (a : Addr) (pn : List (Addr × Obj)), DA (suxZ Z a pn) (e :: es) ta)
    (hm : Z.X.mg "ZeroDivisionError" = none)
    (ho : ∀ (pn : List (Addr × Obj)) (xe : Value → Shared → Prop), ∃ to, PE (Z.X.tr pn xe) o to)
    (hpa : ∀ hd : Option Value, PassesOwnAt (model Z.X.prog Z.X.w) (Z.X.A.mark hd) Z.X.A Z.X.env Z.X.xe)
    (hj : j + 1 ≤ k := by decide) (hn : fs.length ≤ 1000 := by decide) (hg : Gl Z.X x := by rfl) (hgz : Gl Z.X "ZeroDivisionError" := by rfl) (hdb : (x == ("__debug__" : Str)) = false := by decide)
    (hz : PySem.W.exmOne Z.X.K (.type "ZeroDivisionError") (.type "ZeroDivisionError") = some true := by rfl)
    (hva : ∀ (pn : List (Addr × Obj)) (xe : Value → Shared → Prop), PE (Z.X.tr pn xe) (.Name xa p2) (tVar ia) := by exact fun _ _ => pe_var rfl (.inl rfl)) (hvb : ∀ (pn : List (Addr × Obj)) (xe : Value → Shared → Prop), PE (Z.X.tr pn xe) (.Name xb p3) (tVar ib) := by exact fun _ _ => pe_var rfl (.inl rfl))
    (hsw : swapsWith (.BinOp (.Name xa p2) .FloorDiv (.Name xb p3) p4) (some (.Attribute o f p1)) pos3.line Z.X.env = pure false := by rfl)
    (he : starEach (e :: es) Z.X.env = (false, eval e Z.X.env) :: starEach es Z.X.env := by rfl) (hpl : (backTo cp (starEach es Z.X.env)).any (·.1) = false := by rfl)
    (hs : Z.X.stack = Z.X.env :: Z.X.outer := by rfl) (hf : Z.X.env.frame = some Z.X.env.locals := by rfl) :
    DS Z (.Try (.Assign [.Attribute o f p1] (.BinOp (.Name xa p2) .FloorDiv (.Name xb p3) p4) pos3 :: rest) [.ExceptHandler (some (.Name "ZeroDivisionError" np)) none [.Raise (some (.Call (.Name x cpos) (e :: es) [] cp)) (some (.Constant .none jj pos4)) pos'] pos''] [] [] pos)
      (dTryZ ia ib (He.ga Z.X.K x) fs ta t Z.Wd) := by
  have c0 : Names Z.X "ZeroDivisionError" (.type "ZeroDivisionError") := ⟨hgz, by decide, .inr ⟨hm, by decide +kernel, by decide⟩⟩
  refine ⟨_, L2H.ps_try_onlyX (X := Z.X) (Wout := Z.W) (c := .type "ZeroDivisionError")
    (tb := fun W D σ H => (tVar ia σ H fun x H1 => tVar ib σ H1 fun y H2 => ∃ i : Int, x = .int i ∧ y = .int 0 ∧ ∀ d, W (.type "ZeroDivisionError") d σ H2) ∨
      ∀ pn xe, L2.Takes (Z.X.tr pn xe) (L2H.wPass Z.X.K (.type "ZeroDivisionError") Z.W) → PassesOwn (model Z.X.prog Z.X.w) Z.X.A Z.X.env xe → ∃ tL, PSs (Z.X.tr pn xe) (.Assign [.Attribute o f p1] (.BinOp (.Name xa p2) .FloorDiv (.Name xb p3) p4) pos3 :: rest) tL ∧ tL D σ H)
    (ts := fun a cls d D σ H => ∀ pn, ∃ tA, PA (L2H.suiteX Z.X a pn) (e :: es) tA ∧ tMkG (He.ga Z.X.K x) fs.length (fldsV fs) tA σ H fun cls d H' => Z.W cls d σ H') hs hf c0 hpa b.tk ?_ ?_, ?_⟩
  · intro W pn xe tk tk2 po
    refine ⟨fun pins s σ H D I h => ?_⟩
    rcases h with h | h
    · obtain ⟨to, po'⟩ := ho pn xe
      exact (pss_cons (ps_fld po' (pe_fdivZ (X := Z.X.tr pn xe) b.calm tk (hva pn xe) (hvb pn xe)) hsw) pss_never).run pins s σ H D I h
    · obtain ⟨tL, p, q⟩ := h pn xe tk2 po
      exact p.run pins s σ H D I q
  · intro a oe cls d pn hz hv tk hot
    refine ⟨fun pins s σ H D I h => ?_⟩
    obtain ⟨tA, pa, h⟩ := h ((a, oe) :: pn)
    have hx : Passes (L2.CX Z.X.prog Z.X.w) (L2H.suiteX Z.X a ((a, oe) :: pn)) (fun _ _ _ => False) := fun pins σ H s e s' I c => by
      obtain ⟨_, _, _, _, _, _, _, _, _, _, _, _, z⟩ := c
      exact z.elim
    exact (pss_one (L2H.ps_raiseHN hot tk (pmk5_gH (X := L2H.suiteX Z.X a ((a, oe) :: pn)) c hn (L2H.roomH_mark ((b.room.mono hj).room) _) hot hx hg pa hdb he hpl))).run pins s σ H D I h
  · intro D DL r w s H S h E
    obtain ⟨i, j', e1, e2, h1, h2⟩ := h
    have va := S.env
    by_cases z : j' = 0
    · subst z
      obtain ⟨v1, f1, r1⟩ := va.get e1
      obtain ⟨v2, f2, r2⟩ := va.get e2
      cases r1
      cases r2
      refine .inl ⟨_, f1, _, f2, i, rfl, rfl, fun d => ⟨true, hz, fun _ a ha pn => ?_, fun z => by cases z⟩⟩
      obtain ⟨tA, pa, l⟩ := (hta a pn).ex
      refine ⟨tA, pa, l r w s H _ _ ⟨S.env, S.om, ⟨S.xw.1, fun _ _ _ => trivial⟩⟩ (h1 rfl) fun vs ds H1 w1 A1 rl q => ?_⟩
      obtain ⟨q1, q2⟩ := q
      refine ⟨rl.length.symm.trans q1, fun d hd => ?_⟩
      have A2 := Aft.new (p := d) (o := .xd (fldsV fs vs)) A1.om hd
      exact S.xw.1 _ d _ (fldsD fs ds) r s _ w1 upd_same ((rpf_flds rl).mono A2.same) (S.env.mono (A1.same.trans A2.same)) (A1.trans A2) q2
    · refine .inr fun pn xe tk2 po => ?_
      obtain ⟨tL, p, l⟩ := (hbody pn xe _ (fun _ _ _ _ => False) ⟨tk2, po, b.calm, b.room, b.nd⟩).ex
      refine ⟨tL, p, l D DL r w s H ⟨S.env, S.om, ⟨fun _ _ _ _ _ _ _ _ _ _ _ _ z => z.elim, fun _ _ _ => trivial⟩⟩ (h2 z) ⟨E.nx, E.rt, E.bk, E.ct⟩⟩
end
end DL
namespace LW
open PySem PySem.Spec PyProof.Rows L2 DL TL
theorem beq_some {b : Option Bool} {c : Bool} (h : (b == some c) = true) : b = some c := by simpa using h
def sp_initB (K : PySem.W.Frag) : DSp := fun ds w Q E => ∃ (p : Addr) (a b : Int), ds = [.ptr p, .int a, .int b] ∧ w p = some (.ins (cN K) []) ∧ Sz 9000 a ∧ Sz 9000 b ∧ (b ≠ 0 → Q .non (put w p (.ins (cN K) (nF (Rat.divInt a b))))) ∧ (b = 0 → ∀ w', cut w' p = cut w p → E (He.ga K "NoBottom") [("top", .int a)] w')
def sp_numB (K : PySem.W.Frag) : DSp := fun ds w Q E => ∃ a b : Int, ds = [.int a, .int b] ∧ Sz 9000 a ∧ Sz 9000 b ∧ (b ≠ 0 → Q (.num (Rat.divInt a b)) w) ∧ (b = 0 → E (He.ga K "NoBottom") [("top", .int a)] w)
theorem made_numB {K : PySem.W.Frag} : ∀ ds w Q E, sp_numB K ds w Q E → ∀ p, w p = none → sp_initB K (.ptr p :: ds) (put w p (.ins (cN K) [])) (fun v w2 => v = .non ∧ ∃ m d, w2 p = some m ∧ Frz K m d ∧ Q d (cut w2 p)) (fun D fs w2 => E D fs (cut w2 p)) := by
  rintro ds w Q E ⟨a, b, rfl, s1, s2, q, e⟩ p hp
  refine ⟨p, a, b, rfl, put_same, s1, s2, fun hb => ⟨rfl, _, _, put_same, .num, ?_⟩, fun hb w' hw => ?_⟩
  · rw [put_put, cut_put hp]
    exact q hb
  · show E _ _ (cut w' p)
    rw [hw, cut_put hp]
    exact e hb
theorem cut_put2 {w : Om} {p : Addr} {m : MO} : cut (put w p m) p = cut w p := funext fun b => by
  by_cases e : b = p
  · rw [e, cut_same, cut_same]
  · rw [cut_ne e, cut_ne e, put_ne e]
theorem num_B {K : PySem.W.Frag} : ∀ ds w Q E, sp_num ds w Q E → sp_numB K ds w Q E := fun ds w Q E ⟨a, b, e, hb, s1, s2, q⟩ => ⟨a, b, e, s1, s2, fun _ => q, fun z => absurd z hb⟩
def sp_overB (K : PySem.W.Frag) : DSp := fun ds w Q E => ∃ q p : Rat, ds = [.num q, .num p] ∧ Fit q ∧ Fit p ∧ (p ≠ 0 → Q (.num (q / p)) w) ∧ (p = 0 → E (He.ga K "NoBottom") [("top", .int q.num)] w)
theorem sc_X_NoBottom : FnScope ["self", "top"] ["self", "top"] (defScope st_X_NoBottom) := ⟨rfl, rfl, rfl, by decide +kernel, rfl, by decide +kernel, by decide +kernel⟩
theorem sc_divisor_of : FnScope ["one", "other"] ["one", "other"] (defScope st_divisor_of) := ⟨rfl, rfl, rfl, by decide +kernel, rfl, by decide +kernel, by decide +kernel⟩
theorem sc_N___init__ : FnScope ["self", "top", "bottom", "by"] ["self", "top", "bottom"] (defScope st_N___init__) := ⟨rfl, rfl, rfl, by decide +kernel, rfl, by decide +kernel, by decide +kernel⟩
theorem sc_N_more : FnScope ["self", "other"] ["self", "other"] (defScope st_N_more) := ⟨rfl, rfl, rfl, by decide +kernel, rfl, by decide +kernel, by decide +kernel⟩
theorem sc_N_less : FnScope ["self", "other"] ["self", "other"] (defScope st_N_less) := ⟨rfl, rfl, rfl, by decide +kernel, rfl, by decide +kernel, by decide +kernel⟩
theorem sc_N_times : FnScope ["self", "other"] ["self", "other"] (defScope st_N_times) := ⟨rfl, rfl, rfl, by decide +kernel, rfl, by decide +kernel, by decide +kernel⟩
theorem sc_N_over : FnScope ["self", "other"] ["self", "other"] (defScope st_N_over) := ⟨rfl, rfl, rfl, by decide +kernel, rfl, by decide +kernel, by decide +kernel⟩
theorem sc_N_below : FnScope ["self", "other"] ["self", "other"] (defScope st_N_below) := ⟨rfl, rfl, rfl, by decide +kernel, rfl, by decide +kernel, by decide +kernel⟩
theorem sc_N_size : FnScope ["self"] ["self"] (defScope st_N_size) := ⟨rfl, rfl, rfl, by decide +kernel, rfl, by decide +kernel, by decide +kernel⟩
theorem sc_N_floor : FnScope ["self"] ["self"] (defScope st_N_floor) := ⟨rfl, rfl, rfl, by decide +kernel, rfl, by decide +kernel, by decide +kernel⟩
theorem sc__law_well : FnScope ["_law_script", "_law_k", "_law_cell"] ["_law_script", "_law_k"] (defScope st__law_well) := ⟨rfl, rfl, rfl, by decide +kernel, rfl, by decide +kernel, by decide +kernel⟩
theorem sc__law_take : FnScope ["_law_well_here", "_law_top", "_law_digit", "_law_number"] ["_law_well_here", "_law_top"] (defScope st__law_take) := ⟨rfl, rfl, rfl, by decide +kernel, rfl, by decide +kernel, by decide +kernel⟩
theorem sc__law_ten : FnScope ["_law_power", "_law_found", "_law_k"] ["_law_power"] (defScope st__law_ten) := ⟨rfl, rfl, rfl, by decide +kernel, rfl, by decide +kernel, by decide +kernel⟩
theorem sc__law_pair : FnScope ["_law_well_here", "_law_way", "_law_by", "_law_power", "_law_top", "_law_bottom", "_law_turn", "_law_signs"] ["_law_well_here"] (defScope st__law_pair) := ⟨rfl, rfl, rfl, by decide +kernel, rfl, by decide +kernel, by decide +kernel⟩
theorem sc__law_lowest : FnScope ["_law_top", "_law_bottom", "_law_one", "_law_other"] ["_law_top", "_law_bottom"] (defScope st__law_lowest) := ⟨rfl, rfl, rfl, by decide +kernel, rfl, by decide +kernel, by decide +kernel⟩
theorem sc__law_is : FnScope ["_law_found", "_law_top", "_law_bottom"] ["_law_found", "_law_top", "_law_bottom"] (defScope st__law_is) := ⟨rfl, rfl, rfl, by decide +kernel, rfl, by decide +kernel, by decide +kernel⟩
theorem sc__law_of_nought : FnScope ["_law_number", "_law_top", "_law_found", "_law_way", "e", "_law_others"] ["_law_number", "_law_top"] (defScope st__law_of_nought) := ⟨rfl, rfl, rfl, by decide +kernel, rfl, by decide +kernel, by decide +kernel⟩
theorem sc__law_two_right : FnScope ["_law_one", "_law_other", "_law_a", "_law_b", "_law_c", "_law_d", "_law_here", "_law_there", "_law_sign", "_law_found", "_law_due"] ["_law_one", "_law_other"] (defScope st__law_two_right) := ⟨rfl, rfl, rfl, by decide +kernel, rfl, by decide +kernel, by decide +kernel⟩
theorem sc_law : FnScope ["_law_script", "_law_k", "_law_well_here", "_law_alike", "_law_one", "_law_other", "_law_here", "_law_there", "_law_top"] ["_law_script"] (defScope st_law) := ⟨rfl, rfl, rfl, by decide +kernel, rfl, by decide +kernel, by decide +kernel⟩
structure Fx (K : PySem.W.Frag) (mg : Str → Option Value) (w : World) : Prop where
  g_FigureError : mg "FigureError" = some (.ref (He.ga K "FigureError"))
  g_NoBottom : mg "NoBottom" = some (.ref (He.ga K "NoBottom"))
  g_NoText : mg "NoText" = some (.ref (He.ga K "NoText"))
  g_Number : mg "Number" = some (.ref (He.ga K "Number"))
  g_Unsorted : mg "Unsorted" = some (.ref (He.ga K "Unsorted"))
  g__law_is : mg "_law_is" = some (.ref (He.ga K "_law_is"))
  g__law_lowest : mg "_law_lowest" = some (.ref (He.ga K "_law_lowest"))
  g__law_of_nought : mg "_law_of_nought" = some (.ref (He.ga K "_law_of_nought"))
  g__law_pair : mg "_law_pair" = some (.ref (He.ga K "_law_pair"))
  g__law_take : mg "_law_take" = some (.ref (He.ga K "_law_take"))
  g__law_ten : mg "_law_ten" = some (.ref (He.ga K "_law_ten"))
  g__law_two_right : mg "_law_two_right" = some (.ref (He.ga K "_law_two_right"))
  g__law_well : mg "_law_well" = some (.ref (He.ga K "_law_well"))
  g_divisor_of : mg "divisor_of" = some (.ref (He.ga K "divisor_of"))
  g_law : mg "law" = some (.ref (He.ga K "law"))
  f_ArithmeticError : mg "ArithmeticError" = none
  f_Exception : mg "Exception" = none
  f_ValueError : mg "ValueError" = none
  f_ZeroDivisionError : mg "ZeroDivisionError" = none
  f_abs : mg "abs" = none
  f_int : mg "int" = none
  f_isinstance : mg "isinstance" = none
  f_len : mg "len" = none
  f_max : mg "max" = none
  f_min : mg "min" = none
  f_range : mg "range" = none
  f_repr : mg "repr" = none
  cl : Cls K (cN K)
  na_top : NoAttr K (cN K) "top"
  na_bottom : NoAttr K (cN K) "bottom"
  mk_Number : Mk K (cN K) (He.fAd K ("Number", some "__init__"))
  mt_more : Meth K (cN K) "more" (He.fAd K ("Number", some "more"))
  mt_less : Meth K (cN K) "less" (He.fAd K ("Number", some "less"))
  mt_times : Meth K (cN K) "times" (He.fAd K ("Number", some "times"))
  mt_over : Meth K (cN K) "over" (He.fAd K ("Number", some "over"))
  mt_below : Meth K (cN K) "below" (He.fAd K ("Number", some "below"))
  mt_size : Meth K (cN K) "size" (He.fAd K ("Number", some "size"))
  mt_floor : Meth K (cN K) "floor" (He.fAd K ("Number", some "floor"))
  num : NumI K
  isi_Number : Isi K (.ref (cN K)) (isP [] true)
  isi_str : Isi K (.type "str") (isP ["str"] false)
  x_NoText : XcK K "NoText" "ValueError" "ValueError.__new__" "ValueError.__init__" [.type "ValueError", .type "Exception", .type "BaseException", .type "object"] ["at"]
  x_Unsorted : XcK K "Unsorted" "ValueError" "ValueError.__new__" "ValueError.__init__" [.type "ValueError", .type "Exception", .type "BaseException", .type "object"] ["low", "high"]
  x_NoBottom : XcK K "NoBottom" "ArithmeticError" "ArithmeticError.__new__" "ArithmeticError.__init__" [.type "ArithmeticError", .type "Exception", .type "BaseException", .type "object"] ["top"]
  x_FigureError : XcK K "FigureError" "Exception" "Exception.__new__" "Exception.__init__" [.type "Exception", .type "BaseException", .type "object"] ["thing"]
  isg_Number : IsG K (.ref (He.ga K "Number")) [] [("Number", true)]
  kx_own : PySem.W.exmOne K (.ref (He.ga K "NoBottom")) (.ref (He.ga K "NoBottom")) = some true
  kx_ar : PySem.W.kitOne K (.ref (He.ga K "NoBottom")) (.type "ArithmeticError") = some true
  kx_not : PySem.W.kitAny K (.ref (He.ga K "NoBottom")) [.type "ValueError", .ref (He.ga K "FigureError"), .ref (He.ga K "NoText"), .ref (He.ga K "Unsorted")] = some false
  d_X_NoText : ∃ fd, FunD K "__init__" "NoText.__init__" (defArgs st_X_NoText) (defBody st_X_NoText) (defScope st_X_NoText) (He.DefD.dvs K LW.d_X_NoText) (He.DefD.kws K LW.d_X_NoText) (He.fAd K ("NoText", some "__init__")) fd
  d_X_Unsorted : ∃ fd, FunD K "__init__" "Unsorted.__init__" (defArgs st_X_Unsorted) (defBody st_X_Unsorted) (defScope st_X_Unsorted) (He.DefD.dvs K LW.d_X_Unsorted) (He.DefD.kws K LW.d_X_Unsorted) (He.fAd K ("Unsorted", some "__init__")) fd
  d_X_NoBottom : ∃ fd, FunD K "__init__" "NoBottom.__init__" (defArgs st_X_NoBottom) (defBody st_X_NoBottom) (defScope st_X_NoBottom) (He.DefD.dvs K LW.d_X_NoBottom) (He.DefD.kws K LW.d_X_NoBottom) (He.fAd K ("NoBottom", some "__init__")) fd
  d_X_FigureError : ∃ fd, FunD K "__init__" "FigureError.__init__" (defArgs st_X_FigureError) (defBody st_X_FigureError) (defScope st_X_FigureError) (He.DefD.dvs K LW.d_X_FigureError) (He.DefD.kws K LW.d_X_FigureError) (He.fAd K ("FigureError", some "__init__")) fd
  d_divisor_of : ∃ fd, FunD K "divisor_of" "divisor_of" (defArgs st_divisor_of) (defBody st_divisor_of) (defScope st_divisor_of) (He.DefD.dvs K LW.d_divisor_of) (He.DefD.kws K LW.d_divisor_of) (He.fAd K ("divisor_of", none)) fd
  d_N___init__ : ∃ fd, FunD K "__init__" "Number.__init__" (defArgs st_N___init__) (defBody st_N___init__) (defScope st_N___init__) (He.DefD.dvs K LW.d_N___init__) (He.DefD.kws K LW.d_N___init__) (He.fAd K ("Number", some "__init__")) fd
  d_N_more : ∃ fd, FunD K "more" "Number.more" (defArgs st_N_more) (defBody st_N_more) (defScope st_N_more) (He.DefD.dvs K LW.d_N_more) (He.DefD.kws K LW.d_N_more) (He.fAd K ("Number", some "more")) fd
  d_N_less : ∃ fd, FunD K "less" "Number.less" (defArgs st_N_less) (defBody st_N_less) (defScope st_N_less) (He.DefD.dvs K LW.d_N_less) (He.DefD.kws K LW.d_N_less) (He.fAd K ("Number", some "less")) fd
  d_N_times : ∃ fd, FunD K "times" "Number.times" (defArgs st_N_times) (defBody st_N_times) (defScope st_N_times) (He.DefD.dvs K LW.d_N_times) (He.DefD.kws K LW.d_N_times) (He.fAd K ("Number", some "times")) fd
  d_N_over : ∃ fd, FunD K "over" "Number.over" (defArgs st_N_over) (defBody st_N_over) (defScope st_N_over) (He.DefD.dvs K LW.d_N_over) (He.DefD.kws K LW.d_N_over) (He.fAd K ("Number", some "over")) fd
  d_N_below : ∃ fd, FunD K "below" "Number.below" (defArgs st_N_below) (defBody st_N_below) (defScope st_N_below) (He.DefD.dvs K LW.d_N_below) (He.DefD.kws K LW.d_N_below) (He.fAd K ("Number", some "below")) fd
  d_N_size : ∃ fd, FunD K "size" "Number.size" (defArgs st_N_size) (defBody st_N_size) (defScope st_N_size) (He.DefD.dvs K LW.d_N_size) (He.DefD.kws K LW.d_N_size) (He.fAd K ("Number", some "size")) fd
  d_N_floor : ∃ fd, FunD K "floor" "Number.floor" (defArgs st_N_floor) (defBody st_N_floor) (defScope st_N_floor) (He.DefD.dvs K LW.d_N_floor) (He.DefD.kws K LW.d_N_floor) (He.fAd K ("Number", some "floor")) fd
  d__law_well : ∃ fd, FunD K "_law_well" "_law_well" (defArgs st__law_well) (defBody st__law_well) (defScope st__law_well) (He.DefD.dvs K LW.d__law_well) (He.DefD.kws K LW.d__law_well) (He.fAd K ("_law_well", none)) fd
  d__law_take : ∃ fd, FunD K "_law_take" "_law_take" (defArgs st__law_take) (defBody st__law_take) (defScope st__law_take) (He.DefD.dvs K LW.d__law_take) (He.DefD.kws K LW.d__law_take) (He.fAd K ("_law_take", none)) fd
  d__law_ten : ∃ fd, FunD K "_law_ten" "_law_ten" (defArgs st__law_ten) (defBody st__law_ten) (defScope st__law_ten) (He.DefD.dvs K LW.d__law_ten) (He.DefD.kws K LW.d__law_ten) (He.fAd K ("_law_ten", none)) fd
  d__law_pair : ∃ fd, FunD K "_law_pair" "_law_pair" (defArgs st__law_pair) (defBody st__law_pair) (defScope st__law_pair) (He.DefD.dvs K LW.d__law_pair) (He.DefD.kws K LW.d__law_pair) (He.fAd K ("_law_pair", none)) fd
  d__law_lowest : ∃ fd, FunD K "_law_lowest" "_law_lowest" (defArgs st__law_lowest) (defBody st__law_lowest) (defScope st__law_lowest) (He.DefD.dvs K LW.d__law_lowest) (He.DefD.kws K LW.d__law_lowest) (He.fAd K ("_law_lowest", none)) fd
  d__law_is : ∃ fd, FunD K "_law_is" "_law_is" (defArgs st__law_is) (defBody st__law_is) (defScope st__law_is) (He.DefD.dvs K LW.d__law_is) (He.DefD.kws K LW.d__law_is) (He.fAd K ("_law_is", none)) fd
  d__law_of_nought : ∃ fd, FunD K "_law_of_nought" "_law_of_nought" (defArgs st__law_of_nought) (defBody st__law_of_nought) (defScope st__law_of_nought) (He.DefD.dvs K LW.d__law_of_nought) (He.DefD.kws K LW.d__law_of_nought) (He.fAd K ("_law_of_nought", none)) fd
  d__law_two_right : ∃ fd, FunD K "_law_two_right" "_law_two_right" (defArgs st__law_two_right) (defBody st__law_two_right) (defScope st__law_two_right) (He.DefD.dvs K LW.d__law_two_right) (He.DefD.kws K LW.d__law_two_right) (He.fAd K ("_law_two_right", none)) fd
  d_law : ∃ fd, FunD K "law" "law" (defArgs st_law) (defBody st_law) (defScope st_law) (He.DefD.dvs K LW.d_law) (He.DefD.kws K LW.d_law) (He.fAd K ("law", none)) fd
section
variable {w : World} {K : PySem.W.Frag} {mg : Str → Option Value} {base : Heap}
theorem ok_X_NoBottom {fd : FuncData} (G : Fx K mg w) (F : FunD K "__init__" "NoBottom.__init__" (defArgs st_X_NoBottom) (defBody st_X_NoBottom) (defScope st_X_NoBottom) (He.DefD.dvs K d_X_NoBottom) (He.DefD.kws K d_X_NoBottom) (He.fAd K ("NoBottom", some "__init__")) fd) : FnG PR w K mg base 1 (He.fAd K ("NoBottom", some "__init__")) fd ["self", "top"] (spX K "ArithmeticError.__new__" [.type "ArithmeticError", .type "Exception", .type "BaseException", .type "object"] 1 (fldsV ["top"])) := by
  refine l_fn F sc_X_NoBottom (fun vs H Q E h => by obtain ⟨_, _, ys, rfl, hl, _⟩ := h; simp [hl]) (fun cdv A outer s H E => ⟨_, pss_cons (ps_expr (pe_binit EXG.bas_A rfl G.f_ArithmeticError rfl (by decide) rfl rfl (by decide +kernel) (by decide +kernel) G.x_NoBottom.bi (pa_cons (pe_var (i := 0) rfl (.inl rfl)) (pa_cons pe_str pa_nil)))) (pss_one (ps_stg EXG.bas_A (pe_var (i := 0) rfl (.inl rfl)) (pe_var (i := 1) rfl (.inl rfl)))), fun vs Q h => init1 h "self" "top"⟩)
theorem xc_NoBottom (G : Fx K mg w) : XCls PR w K mg base "NoBottom" 1 (["top"] : List Str).length (fldsV ["top"]) := by
  obtain ⟨fd, F⟩ := G.d_X_NoBottom
  exact G.x_NoBottom.cls EXG.bas_A G.g_NoBottom (ok_X_NoBottom G F) (fun s us _ hl => by rw [List.append_nil] at hl ⊢; exact FunD.bindsA (ps := ["self", "top"]) F (fun _ _ _ _ _ _ us hl => match us, hl with | [_, _], _ => rfl) s us hl)
theorem okH_X_NoBottom {fd : FuncData} (G : Fx K mg w) (F : FunD K "__init__" "NoBottom.__init__" (defArgs st_X_NoBottom) (defBody st_X_NoBottom) (defScope st_X_NoBottom) (He.DefD.dvs K d_X_NoBottom) (He.DefD.kws K d_X_NoBottom) (He.fAd K ("NoBottom", some "__init__")) fd) : L2H.FnH PR w K mg base (L2.CX PR w) 1 (He.fAd K ("NoBottom", some "__init__")) fd ["self", "top"] (spX K "ArithmeticError.__new__" [.type "ArithmeticError", .type "Exception", .type "BaseException", .type "object"] 1 (fldsV ["top"])) := by
  refine l_fnH F sc_X_NoBottom (fun vs H Q E h => by obtain ⟨_, _, ys, rfl, hl, _⟩ := h; simp [hl]) (fun cdv A outer s H E p => ⟨_, pss_cons (ps_expr (pe_binit EXG.bas_A rfl G.f_ArithmeticError rfl (by decide) rfl rfl (by decide +kernel) (by decide +kernel) G.x_NoBottom.bi (pa_cons (pe_var (i := 0) rfl (.inl rfl)) (pa_cons pe_str pa_nil)))) (pss_one (ps_stg EXG.bas_A (pe_var (i := 0) rfl (.inl rfl)) (pe_var (i := 1) rfl (.inl rfl)))), fun vs Q h => init1 h "self" "top"⟩)
theorem xch_NoBottom (G : Fx K mg w) : XClsH PR w K mg base "NoBottom" 1 (["top"] : List Str).length (fldsV ["top"]) := by
  obtain ⟨fd, F⟩ := G.d_X_NoBottom
  exact G.x_NoBottom.clsH EXG.bas_A G.g_NoBottom (okH_X_NoBottom G F) (fun s us _ hl => by rw [List.append_nil] at hl ⊢; exact FunD.bindsA (ps := ["self", "top"]) F (fun _ _ _ _ _ _ us hl => match us, hl with | [_, _], _ => rfl) s us hl)
theorem ok_divisor_of {fd : FuncData} (G : Fx K mg w) (F : FunD K "divisor_of" "divisor_of" (defArgs st_divisor_of) (defBody st_divisor_of) (defScope st_divisor_of) (He.DefD.dvs K d_divisor_of) (He.DefD.kws K d_divisor_of) (He.fAd K ("divisor_of", none)) fd) : FnG PR w K mg base 1 (He.fAd K ("divisor_of", none)) fd ["one", "other"] (lift K sp_gcd) := by
  refine d_fn F sc_divisor_of (fun ds w Q E h => by obtain ⟨_, _, rfl, _⟩ := h; rfl) (fun cdv A outer s H EL Ed bd => ⟨_, (dss_cons (ds_while bd.po (dt_cmp o_gt (de_var 1) de_int) (dss_one (ds_par 0 1 bd.calm bd.nd (da_cons (de_var 1) (da_cons (de_op o_mod (de_var 0) (de_var 1)) da_nil))))) (dss_one (ds_ret (de_var 0)))), fun ds w Q h => ?_⟩)
  obtain ⟨a, b, rfl, q⟩ := h
  refine ⟨fun m r w2 => ∃ x y : Nat, m = y ∧ r = [some (.int x), some (.int y)] ∧ w2 = w ∧ Nat.gcd x y = Nat.gcd a b, ⟨b, a, b, rfl, rfl, rfl, rfl⟩, ?_⟩
  rintro m r w2 ⟨x, y, rfl, rfl, rfl, e⟩
  refine br_dec (fun hc => ?_) (fun hc => ?_)
  · have hc : (0 : Int) < (m : Int) := hc
    have hm : 0 < m := by omega
    refine ⟨fun r' w' => ∃ x' y' : Nat, y' < m ∧ r' = [some (.int x'), some (.int y')] ∧ w' = w2 ∧ Nat.gcd x' y' = Nat.gcd a b, fun r' w' ⟨x', y', h1, h2, h3, h4⟩ => ⟨y', h1, x', y', rfl, h2, h3, h4⟩, hc, m, x % m, Nat.mod_lt _ hm, rfl, rfl, (gcd_step hm).trans e⟩
  · have hc : ¬ (0 : Int) < (m : Int) := hc
    have hm : m = 0 := by omega
    subst hm
    show Q (.int x) w2
    rw [← e, Nat.gcd_zero_right] at q
    exact q
theorem c_divisor_of (G : Fx K mg w) : Cal PR w K mg base "divisor_of" 1 [] sp_gcd := by
  obtain ⟨fd, F⟩ := G.d_divisor_of
  exact cal_plain F G.g_divisor_of (ok_divisor_of G F) (fun _ _ _ _ _ _ us hl => match us, hl with | [_, _], _ => rfl)
theorem ok_N___init__ {fd : FuncData} (G : Fx K mg w) (F : FunD K "__init__" "Number.__init__" (defArgs st_N___init__) (defBody st_N___init__) (defScope st_N___init__) (He.DefD.dvs K d_N___init__) (He.DefD.kws K d_N___init__) (He.fAd K ("Number", some "__init__")) fd) : FnG PR w K mg base 3 (He.fAd K ("Number", some "__init__")) fd ["self", "top", "bottom"] (lift K (sp_initB K)) := by
  refine d_fn F sc_N___init__ (fun ds w Q E h => by obtain ⟨_, _, _, rfl, _⟩ := h; rfl) (fun cdv A outer s H EL Ed bd => ⟨_, (dss_cons (ds_set 3 bd.nd (de_call bd (c_divisor_of G) (da_cons (de_fn f_abs G.f_abs (da_cons (de_var 1) da_nil)) (da_cons (de_fn f_abs G.f_abs (da_cons (de_var 2) da_nil)) da_nil)))) (dss_cons (ds_if (dt_cmp o_lt (de_var 2) de_int) (dss_one (ds_set 3 bd.nd (de_op o_sub de_int (de_var 3)))) dss_nil) (dss_cons (ds_tryZ 2 3 bd (xch_NoBottom G) (fun pn xe W Wd bd => (dss_cons (ds_setF (cN K) G.cl G.na_bottom (de_var 0) (de_op o_fdivN (de_var 2) (de_var 3))) (dss_one (ds_setF (cN K) G.cl G.na_top (de_var 0) (de_op o_fdivN (de_var 1) (de_var 3)))))) (fun a pn => (da_cons (de_var 1) da_nil)) G.f_ZeroDivisionError (fun _ _ => ⟨_, pe_var (i := 0) rfl (.inl rfl)⟩) (fun hd => L2H.passesAt_of rfl hd)) (dss_one (ds_if (dt_cmp (o_eq bd.room.room) (de_var 2) de_int) (dss_one (ds_raise bd (xc_NoBottom G) (da_cons (de_var 1) da_nil))) dss_nil))))), fun ds w Q h => ?_⟩)
  obtain ⟨p, a, b, rfl, hp, s1, s2, q, e0⟩ := h
  by_cases hb : b = 0
  · subst hb
    have sg : Sz 9000 (Nat.gcd a.natAbs (0 : Int).natAbs : Nat) := by
      have e : Nat.gcd a.natAbs (0 : Int).natAbs = a.natAbs := Nat.gcd_zero_right _
      rw [e]
      unfold Sz at *
      rw [Int.natAbs_natCast]
      exact s1
    refine ⟨a.natAbs, (0 : Int).natAbs, by show [Dt.int _, Dt.int _] = _; rw [abs_if, abs_if], ?_⟩
    generalize Nat.gcd a.natAbs (0 : Int).natAbs = g at *
    refine ⟨_, _, rfl, rfl, fun _ => ⟨rfl, e0 rfl _ rfl⟩, fun z => ?_⟩
    have dv : DivN ((g : Nat) : Int) := Sz.divN (n := 9000) sg z (Nat.le_refl _)
    refine ⟨dv, [], hp, by decide, dv, _, put_same, by show 1 < 1000; decide, ?_⟩
    refine ⟨rfl, e0 rfl _ ?_⟩
    rw [cut_put2, cut_put2]
  · have q := q hb
    refine ⟨a.natAbs, b.natAbs, by show [Dt.int _, Dt.int _] = _; rw [abs_if, abs_if], ?_⟩
    have sg : Sz 9000 (Nat.gcd a.natAbs b.natAbs : Nat) := s2.of_le (by rw [Int.natAbs_natCast]; exact Nat.gcd_le_right _ (Int.natAbs_pos.mpr hb))
    have by0 := byOf_ne (a := a) hb
    have e1 := bot_of (a := a) hb
    have e2 := top_of (a := a) hb
    refine br_dec (fun hc => ?_) (fun hc => ?_)
    · have hc : b < 0 := hc
      have eb : byOf a b = 0 - ((Nat.gcd a.natAbs b.natAbs : Nat) : Int) := if_pos hc
      have dv : DivN (byOf a b) := by
        refine Sz.divN (n := 9000) ?_ by0 (Nat.le_refl _)
        rw [eb, Int.zero_sub]
        exact sg.neg
      rw [eb] at dv e1 e2
      refine ⟨_, _, rfl, rfl, fun z => absurd (eb.trans z) by0, fun _ => ?_⟩
      refine ⟨dv, [], hp, by decide, dv, _, put_same, by show 1 < 1000; decide, ?_⟩
      refine br_dec (fun hc2 => absurd hc2 hb) (fun _ => ?_)
      show Q .non (put (put w p _) p (.ins (cN K) [("bottom", .int (b.fdiv (0 - ((Nat.gcd a.natAbs b.natAbs : Nat) : Int)))), ("top", .int (a.fdiv (0 - ((Nat.gcd a.natAbs b.natAbs : Nat) : Int))))]))
      rw [e1, e2, put_put]
      exact q
    · have hc : ¬ b < 0 := hc
      have eb : byOf a b = ((Nat.gcd a.natAbs b.natAbs : Nat) : Int) := if_neg hc
      have dv : DivN (byOf a b) := by
        refine Sz.divN (n := 9000) ?_ by0 (Nat.le_refl _)
        rw [eb]
        exact sg
      rw [eb] at dv e1 e2
      refine ⟨_, _, rfl, rfl, fun z => absurd (eb.trans z) by0, fun _ => ?_⟩
      refine ⟨dv, [], hp, by decide, dv, _, put_same, by show 1 < 1000; decide, ?_⟩
      refine br_dec (fun hc2 => absurd hc2 hb) (fun _ => ?_)
      show Q .non (put (put w p _) p (.ins (cN K) [("bottom", .int (b.fdiv ((Nat.gcd a.natAbs b.natAbs : Nat) : Int))), ("top", .int (a.fdiv ((Nat.gcd a.natAbs b.natAbs : Nat) : Int)))]))
      rw [e1, e2, put_put]
      exact q
theorem k_Number_0 (G : Fx K mg w) : CalC PR w K mg base "Number" 3 [] sp_num := by
  obtain ⟨fd, F⟩ := G.d_N___init__
  obtain ⟨ds, hv, hb⟩ := FunD.binds1 (ps := ["self", "top", "bottom"]) F 3 1 (fun z => nomatch z) rfl (fun T kV doc pm an cdv ct us its l1 l2 => match us, its, l1, l2 with | [a0, a1, a2], [b0], _, _ => ⟨_, rfl, rfl⟩)
  exact ⟨_, _, fd, _, _, ds, _, G.g_Number, G.mk_Number, ok_N___init__ G F, hb, hv, fun H => .nil, fun ds w Q E h p hp => made_numB ds w Q E (num_B ds w Q E h) p hp⟩
theorem k_Number_1 (G : Fx K mg w) : CalC PR w K mg base "Number" 3 [.int 1] sp_num := by
  obtain ⟨fd, F⟩ := G.d_N___init__
  obtain ⟨ds, hv, hb⟩ := FunD.binds1 (ps := ["self", "top", "bottom"]) F 2 0 (fun z => nomatch z) rfl (fun T kV doc pm an cdv ct us its l1 l2 => match us, its, l1, l2 with | [a0, a1], [b0], _, _ => ⟨_, rfl, rfl⟩)
  exact ⟨_, _, fd, _, _, ds, _, G.g_Number, G.mk_Number, ok_N___init__ G F, hb, hv, fun H => .cons .int .nil, fun ds w Q E h p hp => made_numB ds w Q E (num_B ds w Q E h) p hp⟩
theorem k_Number_B (G : Fx K mg w) : CalC PR w K mg base "Number" 3 [] (sp_numB K) := by
  obtain ⟨fd, F⟩ := G.d_N___init__
  obtain ⟨ds, hv, hb⟩ := FunD.binds1 (ps := ["self", "top", "bottom"]) F 3 1 (fun z => nomatch z) rfl (fun T kV doc pm an cdv ct us its l1 l2 => match us, its, l1, l2 with | [a0, a1, a2], [b0], _, _ => ⟨_, rfl, rfl⟩)
  exact ⟨_, _, fd, _, _, ds, _, G.g_Number, G.mk_Number, ok_N___init__ G F, hb, hv, fun H => .nil, fun ds w Q E h p hp => made_numB ds w Q E h p hp⟩
theorem ok_N_more {fd : FuncData} (G : Fx K mg w) (F : FunD K "more" "Number.more" (defArgs st_N_more) (defBody st_N_more) (defScope st_N_more) (He.DefD.dvs K d_N_more) (He.DefD.kws K d_N_more) (He.fAd K ("Number", some "more")) fd) : FnG PR w K mg base 5 (He.fAd K ("Number", some "more")) fd ["self", "other"] (lift K sp_more) := by
  refine d_fn F sc_N_more (fun ds w Q E h => by obtain ⟨_, _, rfl, _⟩ := h; rfl) (fun cdv A outer s H EL Ed bd => ⟨_, (dss_one (ds_ret (de_make bd (k_Number_0 G) (da_cons (de_op o_add (de_op o_mul (de_top G.cl G.na_top (de_var 0)) (de_bot G.cl G.na_bottom (de_var 1))) (de_op o_mul (de_top G.cl G.na_top (de_var 1)) (de_bot G.cl G.na_bottom (de_var 0)))) (da_cons (de_op o_mul (de_bot G.cl G.na_bottom (de_var 0)) (de_bot G.cl G.na_bottom (de_var 1))) da_nil))))), fun ds w Q h => ?_⟩)
  obtain ⟨q, p, rfl, sq, sp, h⟩ := h
  have c1 := sq.1.mulC sp.2 (by decide) (by decide) (by decide)
  have c2 := sp.1.mulC sq.2 (by decide) (by decide) (by decide)
  have c3 := sq.2.mulC sp.2 (by decide) (by decide) (by decide)
  refine ⟨c1, c2, c3, _, _, rfl, Int.ne_of_gt (Int.mul_pos (den_pos q) (den_pos p)), ?_, (sq.2.mul sp.2).mono (by decide), ?_⟩
  · exact ((sq.1.mul sp.2).add (sp.1.mul sq.2)).mono (by decide)
  · rw [add_txt]; exact h
theorem m_more (G : Fx K mg w) : CalM PR w K mg base (cN K) "more" 5 [] sp_more := by
  obtain ⟨fd, F⟩ := G.d_N_more
  exact calm_plain F G.cl G.mt_more (ok_N_more G F) (fun _ _ _ _ _ _ us hl => match us, hl with | [_, _], _ => rfl)
theorem ok_N_less {fd : FuncData} (G : Fx K mg w) (F : FunD K "less" "Number.less" (defArgs st_N_less) (defBody st_N_less) (defScope st_N_less) (He.DefD.dvs K d_N_less) (He.DefD.kws K d_N_less) (He.fAd K ("Number", some "less")) fd) : FnG PR w K mg base 5 (He.fAd K ("Number", some "less")) fd ["self", "other"] (lift K sp_less) := by
  refine d_fn F sc_N_less (fun ds w Q E h => by obtain ⟨_, _, rfl, _⟩ := h; rfl) (fun cdv A outer s H EL Ed bd => ⟨_, (dss_one (ds_ret (de_make bd (k_Number_0 G) (da_cons (de_op o_sub (de_op o_mul (de_top G.cl G.na_top (de_var 0)) (de_bot G.cl G.na_bottom (de_var 1))) (de_op o_mul (de_top G.cl G.na_top (de_var 1)) (de_bot G.cl G.na_bottom (de_var 0)))) (da_cons (de_op o_mul (de_bot G.cl G.na_bottom (de_var 0)) (de_bot G.cl G.na_bottom (de_var 1))) da_nil))))), fun ds w Q h => ?_⟩)
  obtain ⟨q, p, rfl, sq, sp, h⟩ := h
  have c1 := sq.1.mulC sp.2 (by decide) (by decide) (by decide)
  have c2 := sp.1.mulC sq.2 (by decide) (by decide) (by decide)
  have c3 := sq.2.mulC sp.2 (by decide) (by decide) (by decide)
  refine ⟨c1, c2, c3, _, _, rfl, Int.ne_of_gt (Int.mul_pos (den_pos q) (den_pos p)), ?_, (sq.2.mul sp.2).mono (by decide), ?_⟩
  · exact ((sq.1.mul sp.2).sub (sp.1.mul sq.2)).mono (by decide)
  · rw [sub_txt]; exact h
theorem m_less (G : Fx K mg w) : CalM PR w K mg base (cN K) "less" 5 [] sp_less := by
  obtain ⟨fd, F⟩ := G.d_N_less
  exact calm_plain F G.cl G.mt_less (ok_N_less G F) (fun _ _ _ _ _ _ us hl => match us, hl with | [_, _], _ => rfl)
theorem ok_N_times {fd : FuncData} (G : Fx K mg w) (F : FunD K "times" "Number.times" (defArgs st_N_times) (defBody st_N_times) (defScope st_N_times) (He.DefD.dvs K d_N_times) (He.DefD.kws K d_N_times) (He.fAd K ("Number", some "times")) fd) : FnG PR w K mg base 5 (He.fAd K ("Number", some "times")) fd ["self", "other"] (lift K sp_times) := by
  refine d_fn F sc_N_times (fun ds w Q E h => by obtain ⟨_, _, rfl, _⟩ := h; rfl) (fun cdv A outer s H EL Ed bd => ⟨_, (dss_one (ds_ret (de_make bd (k_Number_0 G) (da_cons (de_op o_mul (de_top G.cl G.na_top (de_var 0)) (de_top G.cl G.na_top (de_var 1))) (da_cons (de_op o_mul (de_bot G.cl G.na_bottom (de_var 0)) (de_bot G.cl G.na_bottom (de_var 1))) da_nil))))), fun ds w Q h => ?_⟩)
  obtain ⟨q, p, rfl, sq, sp, h⟩ := h
  refine ⟨sq.1.mulC sp.1 (by decide) (by decide) (by decide), sq.2.mulC sp.2 (by decide) (by decide) (by decide), _, _, rfl, Int.ne_of_gt (Int.mul_pos (den_pos q) (den_pos p)), (sq.1.mul sp.1).mono (by decide), (sq.2.mul sp.2).mono (by decide), ?_⟩
  rw [mul_txt]; exact h
theorem m_times (G : Fx K mg w) : CalM PR w K mg base (cN K) "times" 5 [] sp_times := by
  obtain ⟨fd, F⟩ := G.d_N_times
  exact calm_plain F G.cl G.mt_times (ok_N_times G F) (fun _ _ _ _ _ _ us hl => match us, hl with | [_, _], _ => rfl)
theorem ok_N_over {fd : FuncData} (G : Fx K mg w) (F : FunD K "over" "Number.over" (defArgs st_N_over) (defBody st_N_over) (defScope st_N_over) (He.DefD.dvs K d_N_over) (He.DefD.kws K d_N_over) (He.fAd K ("Number", some "over")) fd) : FnG PR w K mg base 5 (He.fAd K ("Number", some "over")) fd ["self", "other"] (lift K (sp_overB K)) := by
  refine d_fn F sc_N_over (fun ds w Q E h => by obtain ⟨_, _, rfl, _⟩ := h; rfl) (fun cdv A outer s H EL Ed bd => ⟨_, (dss_cons (ds_if (dt_cmp (o_eq bd.room.room) (de_top G.cl G.na_top (de_var 1)) de_int) (dss_one (ds_raise bd (xc_NoBottom G) (da_cons (de_top G.cl G.na_top (de_var 0)) da_nil))) dss_nil) (dss_one (ds_ret (de_make bd (k_Number_0 G) (da_cons (de_op o_mul (de_top G.cl G.na_top (de_var 0)) (de_bot G.cl G.na_bottom (de_var 1))) (da_cons (de_op o_mul (de_bot G.cl G.na_bottom (de_var 0)) (de_top G.cl G.na_top (de_var 1))) da_nil)))))), fun ds w Q h => ?_⟩)
  obtain ⟨q, p, rfl, fq, fp, h, e0⟩ := h
  refine br_dec (fun e => ?_) (fun e => ?_)
  · exact ⟨rfl, e0 (Rat.num_eq_zero.mp e)⟩
  · have n0 : p.num ≠ 0 := e
    refine ⟨fq.1.mulC fp.2 (by decide) (by decide) (by decide), fq.2.mulC fp.1 (by decide) (by decide) (by decide), _, _, rfl, Int.mul_ne_zero (Int.ne_of_gt (den_pos q)) n0, (fq.1.mul fp.2).mono (by decide), (fq.2.mul fp.1).mono (by decide), ?_⟩
    rw [div_txt]; exact h fun z => n0 (Rat.num_eq_zero.mpr z)
theorem m_over (G : Fx K mg w) : CalM PR w K mg base (cN K) "over" 5 [] (sp_overB K) := by
  obtain ⟨fd, F⟩ := G.d_N_over
  exact calm_plain F G.cl G.mt_over (ok_N_over G F) (fun _ _ _ _ _ _ us hl => match us, hl with | [_, _], _ => rfl)
theorem ok_N_below {fd : FuncData} (G : Fx K mg w) (F : FunD K "below" "Number.below" (defArgs st_N_below) (defBody st_N_below) (defScope st_N_below) (He.DefD.dvs K d_N_below) (He.DefD.kws K d_N_below) (He.fAd K ("Number", some "below")) fd) : FnG PR w K mg base 1 (He.fAd K ("Number", some "below")) fd ["self", "other"] (lift K sp_below) := by
  refine d_fn F sc_N_below (fun ds w Q E h => by obtain ⟨_, _, rfl, _⟩ := h; rfl) (fun cdv A outer s H EL Ed bd => ⟨_, (dss_one (ds_ret (de_cmp o_lt (de_op o_mul (de_top G.cl G.na_top (de_var 0)) (de_bot G.cl G.na_bottom (de_var 1))) (de_op o_mul (de_top G.cl G.na_top (de_var 1)) (de_bot G.cl G.na_bottom (de_var 0)))))), fun ds w Q h => ?_⟩)
  obtain ⟨q, p, rfl, sq, sp, h⟩ := h
  refine ⟨sq.1.mulC sp.2 (by decide) (by decide) (by decide), sp.1.mulC sq.2 (by decide) (by decide) (by decide), ?_⟩
  rw [← lt_txt] at h; exact h
theorem m_below (G : Fx K mg w) : CalM PR w K mg base (cN K) "below" 1 [] sp_below := by
  obtain ⟨fd, F⟩ := G.d_N_below
  exact calm_plain F G.cl G.mt_below (ok_N_below G F) (fun _ _ _ _ _ _ us hl => match us, hl with | [_, _], _ => rfl)
theorem ok_N_size {fd : FuncData} (G : Fx K mg w) (F : FunD K "size" "Number.size" (defArgs st_N_size) (defBody st_N_size) (defScope st_N_size) (He.DefD.dvs K d_N_size) (He.DefD.kws K d_N_size) (He.fAd K ("Number", some "size")) fd) : FnG PR w K mg base 5 (He.fAd K ("Number", some "size")) fd ["self"] (lift K sp_size) := by
  refine d_fn F sc_N_size (fun ds w Q E h => by obtain ⟨_, rfl, _⟩ := h; rfl) (fun cdv A outer s H EL Ed bd => ⟨_, (dss_one (ds_ret (de_make bd (k_Number_0 G) (da_cons (de_fn f_abs G.f_abs (da_cons (de_top G.cl G.na_top (de_var 0)) da_nil)) (da_cons (de_bot G.cl G.na_bottom (de_var 0)) da_nil))))), fun ds w Q h => ?_⟩)
  obtain ⟨q, rfl, sq, h⟩ := h
  refine ⟨_, _, rfl, Int.ne_of_gt (den_pos q), ?_, sq.2.mono (by decide), ?_⟩
  · rw [abs_if]; exact sq.1.abs.mono (by decide)
  · rw [abs_if, abs_txt]; exact h
theorem m_size (G : Fx K mg w) : CalM PR w K mg base (cN K) "size" 5 [] sp_size := by
  obtain ⟨fd, F⟩ := G.d_N_size
  exact calm_plain F G.cl G.mt_size (ok_N_size G F) (fun _ _ _ _ _ _ us hl => match us, hl with | [_], _ => rfl)
theorem ok_N_floor {fd : FuncData} (G : Fx K mg w) (F : FunD K "floor" "Number.floor" (defArgs st_N_floor) (defBody st_N_floor) (defScope st_N_floor) (He.DefD.dvs K d_N_floor) (He.DefD.kws K d_N_floor) (He.fAd K ("Number", some "floor")) fd) : FnG PR w K mg base 1 (He.fAd K ("Number", some "floor")) fd ["self"] (lift K sp_floor) := by
  refine d_fn F sc_N_floor (fun ds w Q E h => by obtain ⟨_, rfl, _⟩ := h; rfl) (fun cdv A outer s H EL Ed bd => ⟨_, (dss_one (ds_ret (de_op o_fdiv (de_top G.cl G.na_top (de_var 0)) (de_bot G.cl G.na_bottom (de_var 0))))), fun ds w Q h => ?_⟩)
  obtain ⟨q, rfl, sq, h⟩ := h
  exact ⟨sq.2.divP (den_pos q) (by decide), h⟩
theorem m_floor (G : Fx K mg w) : CalM PR w K mg base (cN K) "floor" 1 [] sp_floor := by
  obtain ⟨fd, F⟩ := G.d_N_floor
  exact calm_plain F G.cl G.mt_floor (ok_N_floor G F) (fun _ _ _ _ _ _ us hl => match us, hl with | [_], _ => rfl)
end
end LW
namespace LW
open PySem PySem.Spec PyProof.Rows L2 DL TL
section
variable {w : World} {K : PySem.W.Frag} {mg : Str → Option Value} {base : Heap}
theorem ok__law_well {fd : FuncData} (G : Fx K mg w) (F : FunD K "_law_well" "_law_well" (defArgs st__law_well) (defBody st__law_well) (defScope st__law_well) (He.DefD.dvs K d__law_well) (He.DefD.kws K d__law_well) (He.fAd K ("_law_well", none)) fd) : FnG PR w K mg base 1 (He.fAd K ("_law_well", none)) fd ["_law_script", "_law_k"] (lift K sp_well) := by
  refine d_fn F sc__law_well (fun ds w Q E h => by obtain ⟨_, _, rfl, _⟩ := h; rfl) (fun cdv A outer s H EL Ed bd => ⟨_, (dss_cons (ds_set 2 bd.nd de_int) (dss_cons (ds_if (dt_cmp o_lt (de_var 1) (de_fn f_len G.f_len (da_cons (de_var 0) da_nil))) (dss_one (ds_set 2 bd.nd (de_ix (de_var 0) (de_var 1)))) dss_nil) (dss_one (ds_ret (de_lstM (da_cons (de_op o_mul (de_var 2) (de_fnTy f_int G.f_int (da_cons (de_cmp o_ge (de_var 2) (de_op o_pow de_int de_int)) da_nil))) (da_cons (de_op o_add (de_op o_mod (de_var 2) de_int) (de_op o_mul de_int (de_var 1))) (da_cons de_int da_nil)))))))), fun ds w Q h => ?_⟩)
  obtain ⟨ns, k, rfl, k0, k1, q⟩ := h
  have fin : ∀ (a b : Int) (p : Addr), w p = none → Q (.ptr p) (put w p (.lst [.int a, .int b, .int 0])) := fun a b p hp => q p _ hp ⟨a, b, 0, put_same⟩ fun p h => put_ne h
  have two : ∀ (b : Bool), -(2 ^ 64) < (if b = true then (1 : Int) else 0) ∧ (if b = true then (1 : Int) else 0) < 2 ^ 64 := fun b => by cases b <;> decide
  refine br_dec (fun z => ?_) (fun z => ?_)
  · have z : k < ((ns.map Dt.int).length : Int) := z
    obtain ⟨d, hd⟩ : ∃ d, (ns.map Dt.int)[k.toNat]? = some d := ⟨_, List.getElem?_eq_getElem (by omega)⟩
    obtain ⟨n, rfl⟩ := int_of_mem hd
    refine ⟨.int n, by unfold L2.atI ixN; rw [if_pos k0, if_pos (by omega)]; exact hd, pow18, mulS' (two _), pB, mulS ⟨by decide, by decide⟩, sz3, fun p hp => fin _ _ p hp⟩
  · exact ⟨pow18, mulS' (two _), pB, mulS ⟨by decide, by decide⟩, sz3, fun p hp => fin _ _ p hp⟩
theorem c__law_well (G : Fx K mg w) : Cal PR w K mg base "_law_well" 1 [] sp_well := by
  obtain ⟨fd, F⟩ := G.d__law_well
  exact cal_plain F G.g__law_well (ok__law_well G F) (fun _ _ _ _ _ _ us hl => match us, hl with | [_, _], _ => rfl)
theorem ok__law_take {fd : FuncData} (G : Fx K mg w) (F : FunD K "_law_take" "_law_take" (defArgs st__law_take) (defBody st__law_take) (defScope st__law_take) (He.DefD.dvs K d__law_take) (He.DefD.kws K d__law_take) (He.fAd K ("_law_take", none)) fd) : FnG PR w K mg base 1 (He.fAd K ("_law_take", none)) fd ["_law_well_here", "_law_top"] (lift K sp_take) := by
  refine d_fn F sc__law_take (fun ds w Q E h => by obtain ⟨_, _, rfl, _⟩ := h; rfl) (fun cdv A outer s H EL Ed bd => ⟨_, (dss_cons (ds_if (dt_cmp o_gt (de_ix (de_var 0) de_int) de_int) (dss_cons (ds_set 2 bd.nd (de_op o_mod (de_ix (de_var 0) de_int) (de_var 1))) (dss_cons (ds_asg (de_op o_fdiv (de_ix (de_var 0) de_int) (de_var 1)) (dg_sub (de_var 0) de_int)) (dss_one (ds_ret (de_var 2))))) dss_nil) (dss_cons (ds_asg (de_op o_add (de_ix (de_var 0) de_int) de_int) (dg_sub (de_var 0) de_int)) (dss_cons (ds_set 3 bd.nd (de_op o_mod (de_op o_mul (de_op o_add (de_op o_add (de_ix (de_var 0) de_int) (de_op o_mul de_int (de_ix (de_var 0) de_int))) de_int) de_int) de_int)) (dss_cons (ds_set 3 bd.nd (de_op o_mod (de_op o_add (de_op o_mul (de_var 3) (de_var 3)) (de_op o_mul de_int (de_ix (de_var 0) de_int))) de_int)) (dss_cons (ds_set 3 bd.nd (de_op o_add (de_op o_mul (de_op o_mod (de_op o_mul (de_var 3) (de_op o_add (de_var 3) de_int)) de_int) de_int) (de_var 3))) (dss_one (ds_ret (de_op o_mod (de_op o_fdiv (de_op o_mod (de_op o_mul (de_var 3) de_int) de_int) de_int) (de_var 1))))))))), fun ds w Q h => ?_⟩)
  obtain ⟨W, n, rfl, n0, sn, ⟨a, b, c, hW⟩, q⟩ := h
  have fin : ∀ (x : Int) (a b c : Int) (w' : Om), w' = put w W (.lst [.int a, .int b, .int c]) → Q (.int (x % n)) w' := fun x a b c w' e => by
    subst e
    exact q _ _ (Int.emod_nonneg _ (Int.ne_of_gt n0)) (Int.emod_lt_of_pos _ n0) ⟨a, b, c, put_same⟩ fun p h => put_ne h
  refine ⟨_, hW, _, rfl, br_dec (fun z => ?_) (fun z => ?_)⟩
  · refine ⟨_, hW, _, rfl, n0, _, hW, _, rfl, wsz_take n0 sn, _, 0, hW, rfl, ?_⟩
    exact fin _ _ _ _ _ rfl
  · have pM : (0 : Int) < 2305843009213693951 := by decide
    refine ⟨_, hW, _, rfl, _, 2, hW, rfl, ?_⟩
    refine ⟨_, put_same, _, rfl, _, put_same, _, rfl, mulS ⟨by decide, by decide⟩, mulS' ⟨by decide, by decide⟩, pC, mC, _, put_same, _, rfl, mulS ⟨by decide, by decide⟩, pA, ?_⟩
    refine ⟨mA, pD, mulS' ⟨by decide, by decide⟩, mulS' ⟨by decide, by decide⟩, pM, d64, n0, ?_⟩
    exact fin _ _ _ _ _ rfl
theorem c__law_take (G : Fx K mg w) : Cal PR w K mg base "_law_take" 1 [] sp_take := by
  obtain ⟨fd, F⟩ := G.d__law_take
  exact cal_plain F G.g__law_take (ok__law_take G F) (fun _ _ _ _ _ _ us hl => match us, hl with | [_, _], _ => rfl)
theorem ok__law_ten {fd : FuncData} (G : Fx K mg w) (F : FunD K "_law_ten" "_law_ten" (defArgs st__law_ten) (defBody st__law_ten) (defScope st__law_ten) (He.DefD.dvs K d__law_ten) (He.DefD.kws K d__law_ten) (He.fAd K ("_law_ten", none)) fd) : FnG PR w K mg base 1 (He.fAd K ("_law_ten", none)) fd ["_law_power"] (lift K sp_lten) := by
  refine d_fn F sc__law_ten (fun ds w Q E h => by obtain ⟨_, rfl, _⟩ := h; rfl) (fun cdv A outer s H EL Ed bd => ⟨_, (dss_cons (ds_set 1 bd.nd de_int) (dss_cons (ds_for bd.po bd.calm (di_rng1 G.f_range (da_cons (de_var 0) da_nil)) (dg_name 2 bd.nd) (dss_one (ds_set 1 bd.nd (de_op o_mul (de_var 1) de_int)))) (dss_one (ds_ret (de_var 1))))), fun ds w Q h => ?_⟩)
  obtain ⟨k, rfl, k0, k1, h⟩ := h
  refine ⟨⟨by omega, by omega⟩, fun i r w' => w' = w ∧ ∃ x2, r = [some (.int k), some (.int ((10 : Int) ^ i)), x2], ⟨rfl, _, rfl⟩, ?_, ?_⟩
  · rintro i r w' hi ⟨rfl, x2, rfl⟩
    refine ⟨trivial, fun d hd => ?_⟩
    refine ⟨mulS' ⟨by decide, by decide⟩, rfl, some d, ?_⟩
    show [some (Dt.int k), some (Dt.int ((10 : Int) ^ i * 10)), some d] = _
    rw [Int.pow_succ]
  · rintro r w' ⟨rfl, x2, rfl⟩
    rw [iota_len]
    exact h
theorem c__law_ten (G : Fx K mg w) : Cal PR w K mg base "_law_ten" 1 [] sp_lten := by
  obtain ⟨fd, F⟩ := G.d__law_ten
  exact cal_plain F G.g__law_ten (ok__law_ten G F) (fun _ _ _ _ _ _ us hl => match us, hl with | [_], _ => rfl)
theorem ok__law_pair {fd : FuncData} (G : Fx K mg w) (F : FunD K "_law_pair" "_law_pair" (defArgs st__law_pair) (defBody st__law_pair) (defScope st__law_pair) (He.DefD.dvs K d__law_pair) (He.DefD.kws K d__law_pair) (He.fAd K ("_law_pair", none)) fd) : FnG PR w K mg base 2 (He.fAd K ("_law_pair", none)) fd ["_law_well_here"] (lift K sp_pair) := by
  refine d_fn F sc__law_pair (fun ds w Q E h => by obtain ⟨_, rfl, _⟩ := h; rfl) (fun cdv A outer s H EL Ed bd => ⟨_, (dss_cons (ds_set 1 bd.nd (de_call bd (c__law_take G) (da_cons (de_var 0) (da_cons de_int da_nil)))) (dss_cons (ds_set 2 bd.nd (de_op o_add de_int (de_call bd (c__law_take G) (da_cons (de_var 0) (da_cons de_int da_nil))))) (dss_cons (ds_set 3 bd.nd (de_call bd (c__law_take G) (da_cons (de_var 0) (da_cons de_int da_nil)))) (dss_cons (ds_set 4 bd.nd (de_ix (de_lst (da_cons (de_call bd (c__law_take G) (da_cons (de_var 0) (da_cons de_int da_nil))) (da_cons (de_call bd (c__law_take G) (da_cons (de_var 0) (da_cons (de_op o_pow de_int de_int) da_nil))) (da_cons (de_call bd (c__law_take G) (da_cons (de_var 0) (da_cons de_int da_nil))) (da_cons (de_call bd (c__law_take G) (da_cons (de_var 0) (da_cons (de_op o_pow de_int de_int) da_nil))) (da_cons de_int (da_cons de_int da_nil))))))) (de_var 1))) (dss_cons (ds_set 5 bd.nd (de_ix (de_lst (da_cons (de_var 2) (da_cons (de_call bd (c__law_ten G) (da_cons (de_var 3) da_nil)) (da_cons de_int (da_cons (de_op o_add de_int (de_call bd (c__law_take G) (da_cons (de_var 0) (da_cons (de_op o_pow de_int de_int) da_nil)))) (da_cons (de_var 2) (da_cons (de_var 2) da_nil))))))) (de_var 1))) (dss_cons (ds_if (dt_cmp (o_eq bd.room.room) (de_var 1) de_int) (dss_cons (ds_for bd.po bd.calm (di_rng1 G.f_range (da_cons (de_call bd (c__law_take G) (da_cons (de_var 0) (da_cons de_int da_nil))) da_nil)) (dg_name 6 bd.nd) (dss_one (ds_set 5 bd.nd (de_op o_mul (de_var 5) (de_ix (de_lst (da_cons de_int (da_cons de_int da_nil))) (de_call bd (c__law_take G) (da_cons (de_var 0) (da_cons de_int da_nil)))))))) (dss_one (ds_set 5 bd.nd (de_fn (f_min2 bd.calm) G.f_min (da_cons (de_var 5) (da_cons (de_op o_pow de_int de_int) da_nil)))))) dss_nil) (dss_cons (ds_if (dt_cmp (o_eq bd.room.room) (de_var 1) de_int) (dss_one (ds_set 4 bd.nd (de_op o_sub (de_op o_add (de_call bd (c__law_ten G) (da_cons (de_call bd (c__law_take G) (da_cons (de_var 0) (da_cons de_int da_nil))) da_nil)) (de_call bd (c__law_take G) (da_cons (de_var 0) (da_cons de_int da_nil)))) de_int))) dss_nil) (dss_cons (ds_if (dt_cmp o_lt (de_var 1) de_int) (dss_one (ds_par 4 5 bd.calm bd.nd (da_cons (de_op o_mul (de_var 4) (de_var 2)) (da_cons (de_fn (f_min2 bd.calm) G.f_min (da_cons (de_op o_pow de_int de_int) (da_cons (de_op o_mul (de_var 5) (de_var 2)) da_nil))) da_nil)))) dss_nil) (dss_cons (ds_set 7 bd.nd (de_lst (da_cons (de_call bd (c__law_take G) (da_cons (de_var 0) (da_cons de_int da_nil))) (da_cons (de_fnTy f_int G.f_int (da_cons (de_cmp (o_eq bd.room.room) (de_call bd (c__law_take G) (da_cons (de_var 0) (da_cons de_int da_nil))) de_int) da_nil)) da_nil)))) (dss_one (ds_ret (de_tup (da_cons (de_op o_mul (de_var 4) (de_ix (de_lst (da_cons de_int (da_cons (de_neg de_int) da_nil))) (de_ix (de_var 7) de_int))) (da_cons (de_op o_mul (de_var 5) (de_ix (de_lst (da_cons de_int (da_cons (de_neg de_int) da_nil))) (de_ix (de_var 7) de_int))) da_nil)))))))))))))), fun ds w Q h => ?_⟩)
  obtain ⟨W, rfl, wl, q⟩ := h
  have s200 : ∀ {i : Int}, -(2 ^ 64) < i ∧ i < 2 ^ 64 → Sz 200 i := fun h => (sz64 (by omega)).mono (by decide)
  refine ⟨W, 6, rfl, by decide, s200 (by decide), wl, fun r1 w1 a1 b1 wl1 o1 => ?_⟩
  refine ⟨W, 12, rfl, by decide, s200 (by decide), wl1, fun r2 w2 a2 b2 wl2 o2 => ?_⟩
  refine ⟨W, 13, rfl, by decide, s200 (by decide), wl2, fun r3 w3 a3 b3 wl3 o3 => ?_⟩
  refine ⟨W, 40, rfl, by decide, s200 (by decide), wl3, fun r4 w4 a4 b4 wl4 o4 => ?_⟩
  refine ⟨pw, W, (10 : Int) ^ (6 : Nat), rfl, by decide, s200 (by decide), wl4, fun r5 w5 a5 b5 wl5 o5 => ?_⟩
  refine ⟨W, 2000, rfl, by decide, s200 (by decide), wl5, fun r6 w6 a6 b6 wl6 o6 => ?_⟩
  refine ⟨pw, W, (10 : Int) ^ (30 : Nat), rfl, ten_pos 30, (sz_ten (m := 30) (Nat.le_refl _)).mono (by decide), wl6, fun r7 w7 a7 b7 wl7 o7 => ?_⟩
  rw [pow6] at b5
  rw [p30'] at b7
  obtain ⟨_, f1, T, rfl, T0, T1⟩ := at_all (P := TpD) (xs := [.int r4, .int r5, .int r6, .int r7, .int 0, .int 0]) a1 b1
    (all2 (tpI a4 (by omega)) (all2 (tpI a5 (by omega)) (all2 (tpI a6 (by omega)) (all2 (tpI a7 (by omega)) (all2 (tpI (by decide) (by decide)) (all2 (tpI (by decide) (by decide)) all0))))))
  refine ⟨sz6, _, f1, r3, rfl, a3, by omega, ?_⟩
  refine ⟨pw, W, (10 : Int) ^ (12 : Nat), rfl, by decide +kernel, s200 (by decide +kernel), wl7, fun r8 w8 a8 b8 wl8 o8 => ?_⟩
  rw [p12''] at b8
  have ht12 : (10 : Int) ^ r3.toNat ≤ 1000000000000 := by have := ten_le (k := r3.toNat) (m := 12) (by omega); rwa [p12''] at this
  obtain ⟨_, f2, B, rfl, B0, B1⟩ := at_all (P := BpD) (xs := [.int (1 + r2), .int ((10 : Int) ^ r3.toNat), .int 1, .int (1 + r8), .int (1 + r2), .int (1 + r2)]) a1 b1
    (all2 (bpI (by omega) (by omega)) (all2 (bpI (ten_pos _) ht12) (all2 (bpI (by decide) (by decide)) (all2 (bpI (by omega) (by omega)) (all2 (bpI (by omega) (by omega)) (all2 (bpI (by omega) (by omega)) all0))))))
  refine ⟨sz6, _, f2, ?_⟩
  have of8 : OffW w w8 W := o1.trans (o2.trans (o3.trans (o4.trans (o5.trans (o6.trans (o7.trans o8))))))
  dsimp only
  refine gif_join (fun r w' => Wl w' W ∧ OffW w w' W ∧ ∃ (B : Int) (x6 : Option Dt), 0 < B ∧ B ≤ 1000000000000 ∧ r = [some (.ptr W), some (.int r1), some (.int (1 + r2)), some (.int r3), some (.int T), some (.int B), x6, none]) ?_ (fun K hK => ?_)
  rotate_left
  · refine br_dec (fun e => ?_) (fun e => ?_)
    · refine ⟨W, 20, rfl, by decide, s200 (by decide), wl8, fun r9 w9 a9 b9 wl9 o9 => ?_⟩
      refine ⟨⟨by omega, by omega⟩, fun i r w' => Wl w' W ∧ OffW w w' W ∧ ∃ (B : Int) (x6 : Option Dt), 0 < B ∧ B ≤ 1000000000000 * (5 : Int) ^ i ∧ r = [some (.ptr W), some (.int r1), some (.int (1 + r2)), some (.int r3), some (.int T), some (.int B), x6, none], ⟨wl9, of8.trans o9, B, none, B0, by rw [Int.pow_zero]; omega, rfl⟩, ?_, ?_⟩
      · rintro i r w' hi ⟨wl', of', B, x6, B0, B1, rfl⟩
        refine ⟨trivial, fun d hd => ?_⟩
        refine ⟨sz2, W, 2, rfl, by decide, s200 (by decide), wl', fun r10 w10 a10 b10 wl10 o10 => ?_⟩
        obtain ⟨_, f3, t, rfl, ht⟩ := at_all (P := T25) (xs := [.int 2, .int 5]) a10 b10 (all2 ⟨2, rfl, .inl rfl⟩ (all2 ⟨5, rfl, .inr rfl⟩ all0))
        have p5 : (0 : Int) < 5 ^ i := Int.pow_pos (by decide)
        refine ⟨_, f3, mulS' (by omega), wl10, of'.trans o10, B * t, some d, by rcases ht with rfl | rfl <;> omega, ?_, rfl⟩
        rw [Int.pow_succ]
        rcases ht with rfl | rfl <;> omega
      · rintro r w' ⟨wl', of', B, x6, B0, B1, rfl⟩
        rw [iota_len] at B1
        refine ⟨pw, ?_⟩
        refine hK _ _ ⟨wl', of', _, x6, ?_, ?_, rfl⟩
        · show 0 < if (10 : Int) ^ (12 : Int).toNat < B then (10 : Int) ^ (12 : Int).toNat else B
          rw [show (10 : Int) ^ (12 : Int).toNat = 1000000000000 from p12'']; split <;> omega
        · show (if (10 : Int) ^ (12 : Int).toNat < B then (10 : Int) ^ (12 : Int).toNat else B) ≤ _
          rw [show (10 : Int) ^ (12 : Int).toNat = 1000000000000 from p12'']; split <;> omega
    · exact hK _ _ ⟨wl8, of8, B, none, B0, B1, rfl⟩
  rintro r w' ⟨wl', of', B, x6, B0, B1, rfl⟩
  have T1 : T ≤ 1000000000000000000000000000000 := by rw [← p30']; exact T1
  try dsimp only
  refine if_join (fun r w' => Wl w' W ∧ OffW w w' W ∧ ∃ (T : Int), 0 ≤ T ∧ T ≤ 1000000000000000000000000000000 ∧ r = [some (.ptr W), some (.int r1), some (.int (1 + r2)), some (.int r3), some (.int T), some (.int B), x6, none]) ?_ (fun K hK => ?_)
  rotate_left
  · refine br_dec (fun e => ?_) (fun e => ?_)
    · refine ⟨W, 29, rfl, by decide, s200 (by decide), wl', fun r9 w9 a9 b9 wl9 o9 => ?_⟩
      refine ⟨r9, rfl, a9, by omega, W, 3, rfl, by decide, s200 (by decide), wl9, fun r10 w10 a10 b10 wl10 o10 => ?_⟩
      have h1 := ten_pos r9.toNat
      have h2 := ten_le (k := r9.toNat) (m := 29) (by omega)
      have e29 : (10 : Int) ^ 29 = 100000000000000000000000000000 := by decide +kernel
      rw [e29] at h2
      exact hK _ _ ⟨wl10, (of'.trans o9).trans o10, (10 : Int) ^ r9.toNat + r10 - 1, by omega, by omega, rfl⟩
    · exact hK _ _ ⟨wl', of', T, T0, T1, rfl⟩
  rintro r w' ⟨wl', of', T, T0, T1, rfl⟩
  try dsimp only
  refine if_join (fun r w' => Wl w' W ∧ OffW w w' W ∧ ∃ (T B : Int), 0 ≤ T ∧ T ≤ 12000000000000000000000000000000 ∧ 0 < B ∧ B ≤ 1000000000000 ∧ r = [some (.ptr W), some (.int r1), some (.int (1 + r2)), some (.int r3), some (.int T), some (.int B), x6, none]) ?_ (fun K hK => ?_)
  rotate_left
  · refine br_dec (fun e => ?_) (fun e => ?_)
    · refine ⟨mulS' (by omega), pw, mulS' (by omega), ?_⟩
      have h1 : T * (1 + r2) ≤ 1000000000000000000000000000000 * 12 := Int.mul_le_mul T1 (by omega) (by omega) (by decide)
      have h2 : 0 ≤ T * (1 + r2) := Int.mul_nonneg T0 (by omega)
      have h3 : 0 < B * (1 + r2) := Int.mul_pos B0 (by omega)
      refine hK _ _ ⟨wl', of', T * (1 + r2), _, h2, by omega, ?_, ?_, rfl⟩
      · show 0 < if B * (1 + r2) < (10 : Int) ^ (12 : Int).toNat then B * (1 + r2) else (10 : Int) ^ (12 : Int).toNat
        rw [show (10 : Int) ^ (12 : Int).toNat = 1000000000000 from p12'']; split <;> omega
      · show (if B * (1 + r2) < (10 : Int) ^ (12 : Int).toNat then B * (1 + r2) else (10 : Int) ^ (12 : Int).toNat) ≤ _
        rw [show (10 : Int) ^ (12 : Int).toNat = 1000000000000 from p12'']; split <;> omega
    · exact hK _ _ ⟨wl', of', T, B, T0, by omega, B0, B1, rfl⟩
  rintro r w' ⟨wl', of', T, B, T0, T1, B0, B1, rfl⟩
  refine ⟨W, 2, rfl, by decide, s200 (by decide), wl', fun r9 w9 a9 b9 wl9 o9 => ?_⟩
  refine ⟨W, 4, rfl, by decide, s200 (by decide), wl9, fun r10 w10 a10 b10 wl10 o10 => ?_⟩
  refine ⟨sz2, sz2, _, rfl, ?_⟩
  obtain ⟨_, f3, sg, rfl, hs⟩ := at_all (P := SgnD) (xs := [.int 1, .int (-1)]) a9 b9 (all2 ⟨1, rfl, .inl rfl⟩ (all2 ⟨-1, rfl, .inr rfl⟩ all0))
  refine ⟨_, f3, mulS' ⟨by omega, by omega⟩, sz2, _, rfl, _, at2 (decide (r10 = 1)), ?_⟩
  have hs2 : (if decide (r10 = 1) = true then (-1 : Int) else 1) = 1 ∨ (if decide (r10 = 1) = true then (-1 : Int) else 1) = -1 := by split <;> simp
  generalize (if decide (r10 = 1) = true then (-1 : Int) else 1) = sb at *
  refine ⟨mulS' (by omega), sz2, ?_⟩
  refine q _ _ _ ⟨?_, ?_, ?_⟩ wl10 ((of'.trans o9).trans o10)
  · rcases hs2 with rfl | rfl <;> omega
  · rcases hs with rfl | rfl <;> exact sz110' (by omega)
  · rcases hs2 with rfl | rfl <;> exact sz41 (by omega)
theorem c__law_pair (G : Fx K mg w) : Cal PR w K mg base "_law_pair" 2 [] sp_pair := by
  obtain ⟨fd, F⟩ := G.d__law_pair
  exact cal_plain F G.g__law_pair (ok__law_pair G F) (fun _ _ _ _ _ _ us hl => match us, hl with | [_], _ => rfl)
theorem ok__law_lowest {fd : FuncData} (G : Fx K mg w) (F : FunD K "_law_lowest" "_law_lowest" (defArgs st__law_lowest) (defBody st__law_lowest) (defScope st__law_lowest) (He.DefD.dvs K d__law_lowest) (He.DefD.kws K d__law_lowest) (He.fAd K ("_law_lowest", none)) fd) : FnG PR w K mg base 1 (He.fAd K ("_law_lowest", none)) fd ["_law_top", "_law_bottom"] (lift K sp_lowest) := by
  refine d_fn F sc__law_lowest (fun ds w Q E h => by obtain ⟨_, _, rfl, _⟩ := h; rfl) (fun cdv A outer s H EL Ed bd => ⟨_, (dss_cons (ds_par 2 3 bd.calm bd.nd (da_cons (de_fn f_abs G.f_abs (da_cons (de_var 0) da_nil)) (da_cons (de_fn f_abs G.f_abs (da_cons (de_var 1) da_nil)) da_nil))) (dss_cons (ds_while bd.po (dt_cmp o_gt (de_var 3) de_int) (dss_one (ds_par 2 3 bd.calm bd.nd (da_cons (de_var 3) (da_cons (de_op o_mod (de_var 2) (de_var 3)) da_nil))))) (dss_cons (ds_if (dt_cmp o_lt (de_var 1) de_int) (dss_one (ds_set 2 bd.nd (de_op o_sub de_int (de_var 2)))) dss_nil) (dss_one (ds_ret (de_tup (da_cons (de_op o_fdivN (de_var 0) (de_var 2)) (da_cons (de_op o_fdivN (de_var 1) (de_var 2)) da_nil)))))))), fun ds w Q h => ?_⟩)
  obtain ⟨a, b, rfl, hb, sb, q⟩ := h
  refine ⟨fun m r w2 => ∃ x y : Nat, m = y ∧ r = [some (.int a), some (.int b), some (.int x), some (.int y)] ∧ w2 = w ∧ Nat.gcd x y = Nat.gcd a.natAbs b.natAbs, ⟨b.natAbs, a.natAbs, b.natAbs, rfl, ?_, rfl, rfl⟩, ?_⟩
  · show [some (Dt.int a), some (Dt.int b), some (Dt.int (if a < 0 then -a else a)), some (Dt.int (if b < 0 then -b else b))] = _
    rw [abs_if, abs_if]
  rintro m r w2 ⟨x, y, rfl, rfl, rfl, e⟩
  refine br_dec (fun hc => ?_) (fun hc => ?_)
  · have hc : (0 : Int) < (m : Int) := hc
    have hm : 0 < m := by omega
    exact ⟨fun r' w' => ∃ x' y' : Nat, y' < m ∧ r' = [some (.int a), some (.int b), some (.int x'), some (.int y')] ∧ w' = w2 ∧ Nat.gcd x' y' = Nat.gcd a.natAbs b.natAbs, fun r' w' ⟨x', y', h1, h2, h3, h4⟩ => ⟨y', h1, x', y', rfl, h2, h3, h4⟩, hc, m, x % m, Nat.mod_lt _ hm, rfl, rfl, (gcd_step hm).trans e⟩
  · have hc : ¬ (0 : Int) < (m : Int) := hc
    have hm : m = 0 := by omega
    subst hm
    rw [Nat.gcd_zero_right] at e
    subst e
    have by0 := byOf_ne (a := a) hb
    have e1 := bot_of (a := a) hb
    have e2 := top_of (a := a) hb
    have sg : Sz 9000 (Nat.gcd a.natAbs b.natAbs : Nat) := sb.of_le (by rw [Int.natAbs_natCast]; exact Nat.gcd_le_right _ (Int.natAbs_pos.mpr hb))
    refine br_dec (fun z => ?_) (fun z => ?_)
    · have z : b < 0 := z
      have eb : byOf a b = 0 - ((Nat.gcd a.natAbs b.natAbs : Nat) : Int) := if_pos z
      have dv : DivN (byOf a b) := by
        refine Sz.divN (n := 9000) ?_ by0 (Nat.le_refl _)
        rw [eb, Int.zero_sub]
        exact sg.neg
      rw [eb] at dv e1 e2
      refine ⟨dv, dv, sz2, ?_⟩
      show Q (.tup [.int (a.fdiv (0 - ((Nat.gcd a.natAbs b.natAbs : Nat) : Int))), .int (b.fdiv (0 - ((Nat.gcd a.natAbs b.natAbs : Nat) : Int)))]) w2
      rw [e1, e2]
      exact q
    · have z : ¬ b < 0 := z
      have eb : byOf a b = ((Nat.gcd a.natAbs b.natAbs : Nat) : Int) := if_neg z
      have dv : DivN (byOf a b) := by
        refine Sz.divN (n := 9000) ?_ by0 (Nat.le_refl _)
        rw [eb]
        exact sg
      rw [eb] at dv e1 e2
      refine ⟨dv, dv, sz2, ?_⟩
      show Q (.tup [.int (a.fdiv ((Nat.gcd a.natAbs b.natAbs : Nat) : Int)), .int (b.fdiv ((Nat.gcd a.natAbs b.natAbs : Nat) : Int))]) w2
      rw [e1, e2]
      exact q
theorem c__law_lowest (G : Fx K mg w) : Cal PR w K mg base "_law_lowest" 1 [] sp_lowest := by
  obtain ⟨fd, F⟩ := G.d__law_lowest
  exact cal_plain F G.g__law_lowest (ok__law_lowest G F) (fun _ _ _ _ _ _ us hl => match us, hl with | [_, _], _ => rfl)
end
end LW
namespace LW
open PySem PySem.Spec PyProof.Rows L2 DL TL
def PrB (T B : Int) : Prop := B ≠ 0 ∧ Sz 120 T ∧ Sz 45 B
theorem PrI.b {T B : Int} (h : PrI T B) : PrB T B := ⟨h.1, h.2.1.mono (by decide), h.2.2.mono (by decide)⟩
def sp_is2 : DSp := fun ds w Q _ => ∃ (q : Rat) (T B : Int), ds = [.num q, .int T, .int B] ∧ q = Rat.divInt T B ∧ B ≠ 0 ∧ Sz 1900 T ∧ Sz 1900 B ∧ Q (.bl true) w
def ngD (q : Rat) (T : Int) : List Dt := [.tup [.int q.num, .bl true], .tup [.int T, .bl true]]
def sp_ng : DSp := fun ds w Q _ => ∃ (q : Rat) (T : Int), ds = [.num q, .int T] ∧ SzR 300 q ∧ Sz 300 T ∧ Q (.lst (ngD q T)) w
def sp_two : DSp := fun ds w Q _ => ∃ T B T2 B2 : Int, ds = [.tup [.int T, .int B], .tup [.int T2, .int B2]] ∧ PrB T B ∧ PrB T2 B2 ∧ Q (.bl true) w
section
variable {w : World} {K : PySem.W.Frag} {mg : Str → Option Value} {base : Heap}
theorem ok__law_is {fd : FuncData} (G : Fx K mg w) (F : FunD K "_law_is" "_law_is" (defArgs st__law_is) (defBody st__law_is) (defScope st__law_is) (He.DefD.dvs K d__law_is) (He.DefD.kws K d__law_is) (He.fAd K ("_law_is", none)) fd) : FnG PR w K mg base 102 (He.fAd K ("_law_is", none)) fd ["_law_found", "_law_top", "_law_bottom"] (lift K sp_is2) := by
  refine d_fn F sc__law_is (fun ds w Q E h => by obtain ⟨_, _, _, rfl, _⟩ := h; rfl) (fun cdv A outer s H EL Ed bd => ⟨_, (dss_one (ds_ret (de_and (de_fn (f_isK G.isg_Number (.own _) cdr_ptr) G.f_isinstance (da_cons (de_var 0) (da_cons (de_gref G.g_Number) da_nil))) (de_one (de_cmp (o_eq bd.room.room) (de_fn (f_reprP bd) G.f_repr (da_cons (de_tup (da_cons (de_top G.cl G.na_top (de_var 0)) (da_cons (de_bot G.cl G.na_bottom (de_var 0)) da_nil))) da_nil)) (de_fn (f_reprP bd) G.f_repr (da_cons (de_call bd (c__law_lowest G) (da_cons (de_var 1) (da_cons (de_var 2) da_nil))) da_nil))))))), fun ds w Q h => ?_⟩)
  obtain ⟨q, T, B, rfl, eq, B0, sT, sB, h⟩ := h
  have sq : SzR 1900 q := by rw [eq]; exact szr_divInt sT sB B0
  have sq' : SzR 1920 q := sq.mono (by decide)
  simp only [startD, List.length_cons, List.length_nil, List.map_cons, List.map_nil, List.cons_append, List.nil_append, Nat.reduceAdd, Nat.reduceSub, List.replicate_succ, List.replicate_zero, List.replicate]
  (try dsimp only [dAsg, dOp, dVar, nth, dC, dB, dIfS, dIf, dOr, dAnd, dNot, dAndV, dOrV, dNotV, dNil, dCons, dTup, dLst, dLstM, dCall, dFn, gNm, pus, dNext, dRet, dRetN, dDrop, dPar, dAug, dSl, dNo, dPt, dNeg, dMt, dStr, dChain, DL.isNon, br_T, br_F, s1R, splitPR, splitR, joinR, startsR, endsR, catM, catL, gSubM, appendR, popR, dRevS, dFmt, dJoin, dJs, gTp_1, gTp_2, gTp_3, gTp_4, gTp_5, gTp_6, gTp_7, gTp_8, gsCons, gsNil, dFor_eq, dLcK_eq, dRng1, dRng2, dItL, dItS, dZip, dEnum, dEnumS, wipeD, dYes, eqR_i, neR_i, eqR_s, neR_s, eqR_b, neR_b, eqR_n, neR_n, itemR_t, itemR_l, itemR_r, itemR_p, itemR_s, addR_i, addR_b, addR_s, addR_l, addR_t, mulR_i, dI_i, dI0_i, isR_n, isR_b, lenR_t, listR_t, tupleR_t, sliceR_t, lenR_l, listR_l, tupleR_l, sliceR_l, lenR_r, listR_r, tupleR_r, sliceR_r, lenR_s, lenR_p, listR_p, tupleR_p, sliceR_p, sliceR_s, absR_i, max2R_i, min2R_i, intR_i, intR_b, strR_i, strR_s, mulSR_s, mulLR_l, inCR, dMethN, dXf, isXR, clsOs, clsO, dDrop, dMt, appendR, List.cons_append, List.nil_append, List.append_nil])
  refine ⟨⟨_, rfl⟩, _, List.mem_cons_self, rfl, ?_⟩
  (try dsimp only [dAsg, dOp, dVar, nth, dC, dB, dIfS, dIf, dOr, dAnd, dNot, dAndV, dOrV, dNotV, dNil, dCons, dTup, dLst, dLstM, dCall, dFn, gNm, pus, dNext, dRet, dRetN, dDrop, dPar, dAug, dSl, dNo, dPt, dNeg, dMt, dStr, dChain, DL.isNon, br_T, br_F, s1R, splitPR, splitR, joinR, startsR, endsR, catM, catL, gSubM, appendR, popR, dRevS, dFmt, dJoin, dJs, gTp_1, gTp_2, gTp_3, gTp_4, gTp_5, gTp_6, gTp_7, gTp_8, gsCons, gsNil, dFor_eq, dLcK_eq, dRng1, dRng2, dItL, dItS, dZip, dEnum, dEnumS, wipeD, dYes, eqR_i, neR_i, eqR_s, neR_s, eqR_b, neR_b, eqR_n, neR_n, itemR_t, itemR_l, itemR_r, itemR_p, itemR_s, addR_i, addR_b, addR_s, addR_l, addR_t, mulR_i, dI_i, dI0_i, isR_n, isR_b, lenR_t, listR_t, tupleR_t, sliceR_t, lenR_l, listR_l, tupleR_l, sliceR_l, lenR_r, listR_r, tupleR_r, sliceR_r, lenR_s, lenR_p, listR_p, tupleR_p, sliceR_p, sliceR_s, absR_i, max2R_i, min2R_i, intR_i, intR_b, strR_i, strR_s, mulSR_s, mulLR_l, inCR, dMethN, dXf, isXR, clsOs, clsO, dDrop, dMt, appendR, List.cons_append, List.nil_append, List.append_nil])
  obtain ⟨t, rp⟩ := repr_p (sw_tup (DL.all2 (sw_int (i := q.num) (Sz.log (n := 1920) sq'.1 (by decide))) (DL.all2 (sw_int (i := (q.den : Int)) (Sz.log (n := 1920) (by unfold Sz; exact sq'.2) (by decide))) all0))) (by decide) (by show 2 ≤ 8000; decide)
  refine ⟨sz2, rp _ _ ?_⟩
  refine ⟨T, B, rfl, B0, sB.mono (by decide), ?_⟩
  rw [← eq]
  refine rp _ _ ?_
  show Q (.bl (decide (t = t))) w
  rw [decide_eq_true rfl]
  exact h
theorem c__law_is (G : Fx K mg w) : Cal PR w K mg base "_law_is" 102 [] sp_is2 := by
  obtain ⟨fd, F⟩ := G.d__law_is
  exact cal_plain F G.g__law_is (ok__law_is G F) (fun _ _ _ _ _ _ us hl => match us, hl with | [_, _, _], _ => rfl)
end
end LW
namespace LW
open PySem PySem.Spec PyProof.Rows L2 DL TL
section
variable {w : World} {K : PySem.W.Frag} {mg : Str → Option Value} {base : Heap}
theorem ok__law_of_nought {fd : FuncData} (G : Fx K mg w) (F : FunD K "_law_of_nought" "_law_of_nought" (defArgs st__law_of_nought) (defBody st__law_of_nought) (defScope st__law_of_nought) (He.DefD.dvs K d__law_of_nought) (He.DefD.kws K d__law_of_nought) (He.fAd K ("_law_of_nought", none)) fd) : FnG PR w K mg base 102 (He.fAd K ("_law_of_nought", none)) fd ["_law_number", "_law_top"] (lift K sp_ng) := by
  refine d_fn F sc__law_of_nought (fun ds w Q E h => by obtain ⟨_, _, rfl, _⟩ := h; rfl) (fun cdv A outer s H EL Ed bd => ⟨_, (dss_cons (ds_set 2 bd.nd (de_lstM da_nil)) (dss_cons (ds_for bd.po bd.calm (di_rng1 G.f_range (da_cons de_int da_nil)) (dg_name 3 bd.nd) (dss_one (ds_tryAsS 4 bd G.g_NoBottom (fun pn xe W Wd bd => (dss_one (ds_if (dt_cmp (o_eq bd.room.room) (de_var 3) de_int) (dss_one (ds_expr (de_methNW Wd rfl (de_methN bd (m_over G) (de_var 0) (da_cons (de_callW Wd rfl (de_make bd (k_Number_0 G) (da_cons de_int (da_cons (de_op o_add de_int (de_op o_mod (de_fn f_abs G.f_abs (da_cons (de_var 1) da_nil)) de_int)) da_nil)))) da_nil))))) (dss_one (ds_expr (de_callW Wd rfl (de_make bd (k_Number_B G) (da_cons (de_var 1) (da_cons de_int da_nil))))))))) (fun a C dd oe pn fs su => (dss_cons (ds_set 5 bd.nd (de_isXS su G.f_isinstance (da_cons (de_var 4) (da_cons (de_tup (da_cons (de_gty G.f_ValueError rfl) (da_cons (de_gref G.g_FigureError) (da_cons (de_gref G.g_NoText) (da_cons (de_gref G.g_Unsorted) da_nil))))) da_nil)))) (dss_one (ds_expr (de_mt m_append PySem.F.slot_list_append rfl (de_var 2) (da_cons (de_tup (da_cons (de_xfS su (de_var 4)) (da_cons (de_and (de_isXS su G.f_isinstance (da_cons (de_var 4) (da_cons (de_gty G.f_ArithmeticError rfl) da_nil))) (de_one (de_not (de_var 5)))) da_nil))) da_nil))))))))) (dss_one (ds_ret (de_frz (de_var 2)))))), fun ds w Q h => ?_⟩)
  obtain ⟨q, T, rfl, sq, sT, h⟩ := h
  simp only [startD, List.length_cons, List.length_nil, List.map_cons, List.map_nil, List.cons_append, List.nil_append, Nat.reduceAdd, Nat.reduceSub, List.replicate_succ, List.replicate_zero, List.replicate]
  refine seq_op (fun N hN => ?_); (try dsimp only [dAsg, dOp, dVar, nth, dC, dB, dIfS, dIf, dOr, dAnd, dNot, dAndV, dOrV, dNotV, dNil, dCons, dTup, dLst, dLstM, dCall, dFn, gNm, pus, dNext, dRet, dRetN, dDrop, dPar, dAug, dSl, dNo, dPt, dNeg, dMt, dStr, dChain, DL.isNon, br_T, br_F, s1R, splitPR, splitR, joinR, startsR, endsR, catM, catL, gSubM, appendR, popR, dRevS, dFmt, dJoin, dJs, gTp_1, gTp_2, gTp_3, gTp_4, gTp_5, gTp_6, gTp_7, gTp_8, gsCons, gsNil, dFor_eq, dLcK_eq, dRng1, dRng2, dItL, dItS, dZip, dEnum, dEnumS, wipeD, dYes, eqR_i, neR_i, eqR_s, neR_s, eqR_b, neR_b, eqR_n, neR_n, itemR_t, itemR_l, itemR_r, itemR_p, itemR_s, addR_i, addR_b, addR_s, addR_l, addR_t, mulR_i, dI_i, dI0_i, isR_n, isR_b, lenR_t, listR_t, tupleR_t, sliceR_t, lenR_l, listR_l, tupleR_l, sliceR_l, lenR_r, listR_r, tupleR_r, sliceR_r, lenR_s, lenR_p, listR_p, tupleR_p, sliceR_p, sliceR_s, absR_i, max2R_i, min2R_i, intR_i, intR_b, strR_i, strR_s, mulSR_s, mulLR_l, inCR, dMethN, dXf, isXR, clsOs, clsO, dDrop, dMt, appendR, List.cons_append, List.nil_append, List.append_nil])
  refine ⟨(Nat.le_of_ble_eq_true rfl), fun D hD => ?_⟩
  refine hN _ _ ?_; clear hN N
  refine seq_op (fun N hN => ?_); (try dsimp only [dAsg, dOp, dVar, nth, dC, dB, dIfS, dIf, dOr, dAnd, dNot, dAndV, dOrV, dNotV, dNil, dCons, dTup, dLst, dLstM, dCall, dFn, gNm, pus, dNext, dRet, dRetN, dDrop, dPar, dAug, dSl, dNo, dPt, dNeg, dMt, dStr, dChain, DL.isNon, br_T, br_F, s1R, splitPR, splitR, joinR, startsR, endsR, catM, catL, gSubM, appendR, popR, dRevS, dFmt, dJoin, dJs, gTp_1, gTp_2, gTp_3, gTp_4, gTp_5, gTp_6, gTp_7, gTp_8, gsCons, gsNil, dFor_eq, dLcK_eq, dRng1, dRng2, dItL, dItS, dZip, dEnum, dEnumS, wipeD, dYes, eqR_i, neR_i, eqR_s, neR_s, eqR_b, neR_b, eqR_n, neR_n, itemR_t, itemR_l, itemR_r, itemR_p, itemR_s, addR_i, addR_b, addR_s, addR_l, addR_t, mulR_i, dI_i, dI0_i, isR_n, isR_b, lenR_t, listR_t, tupleR_t, sliceR_t, lenR_l, listR_l, tupleR_l, sliceR_l, lenR_r, listR_r, tupleR_r, sliceR_r, lenR_s, lenR_p, listR_p, tupleR_p, sliceR_p, sliceR_s, absR_i, max2R_i, min2R_i, intR_i, intR_b, strR_i, strR_s, mulSR_s, mulLR_l, inCR, dMethN, dXf, isXR, clsOs, clsO, dDrop, dMt, appendR, List.cons_append, List.nil_append, List.append_nil])
  refine ⟨⟨by decide, by decide⟩, ?_⟩
  refine for_i (fun j r w' => ∃ x3 x4 x5, w' = put w D (.lst ((ngD q T).take j)) ∧ r = [some (.num q), some (.int T), some (.ptr D), x3, x4, x5]) ⟨_, _, _, rfl, rfl⟩ ?_ (fun _ _ _ => trivial) ?_
  · rintro j r w' d N2 hj ⟨x3, x4, x5, rfl, rfl⟩ hN2
    refine ⟨trivial, ?_⟩
    obtain ⟨lj, rfl⟩ := iota_nat hj
    have lj : j < 2 := lj
    rcases (show j = 0 ∨ j = 1 by omega) with rfl | rfl
    · (try dsimp only [dAsg, dOp, dVar, nth, dC, dB, dIfS, dIf, dOr, dAnd, dNot, dAndV, dOrV, dNotV, dNil, dCons, dTup, dLst, dLstM, dCall, dFn, gNm, pus, dNext, dRet, dRetN, dDrop, dPar, dAug, dSl, dNo, dPt, dNeg, dMt, dStr, dChain, DL.isNon, br_T, br_F, s1R, splitPR, splitR, joinR, startsR, endsR, catM, catL, gSubM, appendR, popR, dRevS, dFmt, dJoin, dJs, gTp_1, gTp_2, gTp_3, gTp_4, gTp_5, gTp_6, gTp_7, gTp_8, gsCons, gsNil, dFor_eq, dLcK_eq, dRng1, dRng2, dItL, dItS, dZip, dEnum, dEnumS, wipeD, dYes, eqR_i, neR_i, eqR_s, neR_s, eqR_b, neR_b, eqR_n, neR_n, itemR_t, itemR_l, itemR_r, itemR_p, itemR_s, addR_i, addR_b, addR_s, addR_l, addR_t, mulR_i, dI_i, dI0_i, isR_n, isR_b, lenR_t, listR_t, tupleR_t, sliceR_t, lenR_l, listR_l, tupleR_l, sliceR_l, lenR_r, listR_r, tupleR_r, sliceR_r, lenR_s, lenR_p, listR_p, tupleR_p, sliceR_p, sliceR_s, absR_i, max2R_i, min2R_i, intR_i, intR_b, strR_i, strR_s, mulSR_s, mulLR_l, inCR, dMethN, dXf, isXR, clsOs, clsO, dDrop, dMt, appendR, List.cons_append, List.nil_append, List.append_nil])
      refine br_t rfl ?_
      (try dsimp only [dAsg, dOp, dVar, nth, dC, dB, dIfS, dIf, dOr, dAnd, dNot, dAndV, dOrV, dNotV, dNil, dCons, dTup, dLst, dLstM, dCall, dFn, gNm, pus, dNext, dRet, dRetN, dDrop, dPar, dAug, dSl, dNo, dPt, dNeg, dMt, dStr, dChain, DL.isNon, br_T, br_F, s1R, splitPR, splitR, joinR, startsR, endsR, catM, catL, gSubM, appendR, popR, dRevS, dFmt, dJoin, dJs, gTp_1, gTp_2, gTp_3, gTp_4, gTp_5, gTp_6, gTp_7, gTp_8, gsCons, gsNil, dFor_eq, dLcK_eq, dRng1, dRng2, dItL, dItS, dZip, dEnum, dEnumS, wipeD, dYes, eqR_i, neR_i, eqR_s, neR_s, eqR_b, neR_b, eqR_n, neR_n, itemR_t, itemR_l, itemR_r, itemR_p, itemR_s, addR_i, addR_b, addR_s, addR_l, addR_t, mulR_i, dI_i, dI0_i, isR_n, isR_b, lenR_t, listR_t, tupleR_t, sliceR_t, lenR_l, listR_l, tupleR_l, sliceR_l, lenR_r, listR_r, tupleR_r, sliceR_r, lenR_s, lenR_p, listR_p, tupleR_p, sliceR_p, sliceR_s, absR_i, max2R_i, min2R_i, intR_i, intR_b, strR_i, strR_s, mulSR_s, mulLR_l, inCR, dMethN, dXf, isXR, clsOs, clsO, dDrop, dMt, appendR, List.cons_append, List.nil_append, List.append_nil])
      have m0 : 0 ≤ (if T < 0 then -T else T) % 97 := Int.emod_nonneg _ (by decide)
      have m1 : (if T < 0 then -T else T) % 97 < 97 := Int.emod_lt_of_pos _ (by decide)
      generalize (if T < 0 then -T else T) % 97 = m at *
      refine ⟨by decide, 0, _, rfl, by omega, sz_zero, (show Sz 10 (1 + m) by unfold Sz; omega).mono (by decide), ?_⟩
      refine ⟨q, _, rfl, sq.mono (by decide), (szr_divInt (n := 10) sz_zero (by unfold Sz; omega) (by omega)).mono (by decide), fun z => absurd (Rat.zero_divInt _) z, fun _ => ?_⟩
      refine ⟨true, G.kx_own, fun a => ?_⟩
      refine ⟨sz4, rfl, G.x_NoBottom.xc, _, false, rfl, G.kx_not, ?_⟩
      dsimp only [gNm, pus, dNext]
      (try dsimp only [dAsg, dOp, dVar, nth, dC, dB, dIfS, dIf, dOr, dAnd, dNot, dAndV, dOrV, dNotV, dNil, dCons, dTup, dLst, dLstM, dCall, dFn, gNm, pus, dNext, dRet, dRetN, dDrop, dPar, dAug, dSl, dNo, dPt, dNeg, dMt, dStr, dChain, DL.isNon, br_T, br_F, s1R, splitPR, splitR, joinR, startsR, endsR, catM, catL, gSubM, appendR, popR, dRevS, dFmt, dJoin, dJs, gTp_1, gTp_2, gTp_3, gTp_4, gTp_5, gTp_6, gTp_7, gTp_8, gsCons, gsNil, dFor_eq, dLcK_eq, dRng1, dRng2, dItL, dItS, dZip, dEnum, dEnumS, wipeD, dYes, eqR_i, neR_i, eqR_s, neR_s, eqR_b, neR_b, eqR_n, neR_n, itemR_t, itemR_l, itemR_r, itemR_p, itemR_s, addR_i, addR_b, addR_s, addR_l, addR_t, mulR_i, dI_i, dI0_i, isR_n, isR_b, lenR_t, listR_t, tupleR_t, sliceR_t, lenR_l, listR_l, tupleR_l, sliceR_l, lenR_r, listR_r, tupleR_r, sliceR_r, lenR_s, lenR_p, listR_p, tupleR_p, sliceR_p, sliceR_s, absR_i, max2R_i, min2R_i, intR_i, intR_b, strR_i, strR_s, mulSR_s, mulLR_l, inCR, dMethN, dXf, isXR, clsOs, clsO, dDrop, dMt, appendR, List.cons_append, List.nil_append, List.append_nil])
      refine ⟨⟨_, put_same⟩, G.x_NoBottom.xf, G.x_NoBottom.no "top" (by simp), rfl, _, rfl, rfl, G.x_NoBottom.xc, _, true, rfl, G.kx_ar, ?_⟩
      refine ⟨sz2, ⟨_, put_same⟩, _, put_same, show (0 : Nat) < sizeLine by rw [sizeLine_eq]; decide, ?_⟩
      exact hN2 _ _ ⟨_, _, _, by rw [put_put]; rfl, rfl⟩
    · (try dsimp only [dAsg, dOp, dVar, nth, dC, dB, dIfS, dIf, dOr, dAnd, dNot, dAndV, dOrV, dNotV, dNil, dCons, dTup, dLst, dLstM, dCall, dFn, gNm, pus, dNext, dRet, dRetN, dDrop, dPar, dAug, dSl, dNo, dPt, dNeg, dMt, dStr, dChain, DL.isNon, br_T, br_F, s1R, splitPR, splitR, joinR, startsR, endsR, catM, catL, gSubM, appendR, popR, dRevS, dFmt, dJoin, dJs, gTp_1, gTp_2, gTp_3, gTp_4, gTp_5, gTp_6, gTp_7, gTp_8, gsCons, gsNil, dFor_eq, dLcK_eq, dRng1, dRng2, dItL, dItS, dZip, dEnum, dEnumS, wipeD, dYes, eqR_i, neR_i, eqR_s, neR_s, eqR_b, neR_b, eqR_n, neR_n, itemR_t, itemR_l, itemR_r, itemR_p, itemR_s, addR_i, addR_b, addR_s, addR_l, addR_t, mulR_i, dI_i, dI0_i, isR_n, isR_b, lenR_t, listR_t, tupleR_t, sliceR_t, lenR_l, listR_l, tupleR_l, sliceR_l, lenR_r, listR_r, tupleR_r, sliceR_r, lenR_s, lenR_p, listR_p, tupleR_p, sliceR_p, sliceR_s, absR_i, max2R_i, min2R_i, intR_i, intR_b, strR_i, strR_s, mulSR_s, mulLR_l, inCR, dMethN, dXf, isXR, clsOs, clsO, dDrop, dMt, appendR, List.cons_append, List.nil_append, List.append_nil])
      refine ⟨_, _, rfl, sT.mono (by decide), sz_zero, fun z => absurd rfl z, fun _ => ?_⟩
      refine ⟨true, G.kx_own, fun a => ?_⟩
      refine ⟨sz4, rfl, G.x_NoBottom.xc, _, false, rfl, G.kx_not, ?_⟩
      dsimp only [gNm, pus, dNext]
      (try dsimp only [dAsg, dOp, dVar, nth, dC, dB, dIfS, dIf, dOr, dAnd, dNot, dAndV, dOrV, dNotV, dNil, dCons, dTup, dLst, dLstM, dCall, dFn, gNm, pus, dNext, dRet, dRetN, dDrop, dPar, dAug, dSl, dNo, dPt, dNeg, dMt, dStr, dChain, DL.isNon, br_T, br_F, s1R, splitPR, splitR, joinR, startsR, endsR, catM, catL, gSubM, appendR, popR, dRevS, dFmt, dJoin, dJs, gTp_1, gTp_2, gTp_3, gTp_4, gTp_5, gTp_6, gTp_7, gTp_8, gsCons, gsNil, dFor_eq, dLcK_eq, dRng1, dRng2, dItL, dItS, dZip, dEnum, dEnumS, wipeD, dYes, eqR_i, neR_i, eqR_s, neR_s, eqR_b, neR_b, eqR_n, neR_n, itemR_t, itemR_l, itemR_r, itemR_p, itemR_s, addR_i, addR_b, addR_s, addR_l, addR_t, mulR_i, dI_i, dI0_i, isR_n, isR_b, lenR_t, listR_t, tupleR_t, sliceR_t, lenR_l, listR_l, tupleR_l, sliceR_l, lenR_r, listR_r, tupleR_r, sliceR_r, lenR_s, lenR_p, listR_p, tupleR_p, sliceR_p, sliceR_s, absR_i, max2R_i, min2R_i, intR_i, intR_b, strR_i, strR_s, mulSR_s, mulLR_l, inCR, dMethN, dXf, isXR, clsOs, clsO, dDrop, dMt, appendR, List.cons_append, List.nil_append, List.append_nil])
      refine ⟨⟨_, put_same⟩, G.x_NoBottom.xf, G.x_NoBottom.no "top" (by simp), rfl, _, rfl, rfl, G.x_NoBottom.xc, _, true, rfl, G.kx_ar, ?_⟩
      refine ⟨sz2, ⟨_, put_same⟩, _, put_same, show (1 : Nat) < sizeLine by rw [sizeLine_eq]; decide, ?_⟩
      exact hN2 _ _ ⟨_, _, _, by rw [put_put]; rfl, rfl⟩
  · rintro r w' ⟨x3, x4, x5, rfl, rfl⟩
    refine hN _ _ ?_; clear hN N
    (try dsimp only [dAsg, dOp, dVar, nth, dC, dB, dIfS, dIf, dOr, dAnd, dNot, dAndV, dOrV, dNotV, dNil, dCons, dTup, dLst, dLstM, dCall, dFn, gNm, pus, dNext, dRet, dRetN, dDrop, dPar, dAug, dSl, dNo, dPt, dNeg, dMt, dStr, dChain, DL.isNon, br_T, br_F, s1R, splitPR, splitR, joinR, startsR, endsR, catM, catL, gSubM, appendR, popR, dRevS, dFmt, dJoin, dJs, gTp_1, gTp_2, gTp_3, gTp_4, gTp_5, gTp_6, gTp_7, gTp_8, gsCons, gsNil, dFor_eq, dLcK_eq, dRng1, dRng2, dItL, dItS, dZip, dEnum, dEnumS, wipeD, dYes, eqR_i, neR_i, eqR_s, neR_s, eqR_b, neR_b, eqR_n, neR_n, itemR_t, itemR_l, itemR_r, itemR_p, itemR_s, addR_i, addR_b, addR_s, addR_l, addR_t, mulR_i, dI_i, dI0_i, isR_n, isR_b, lenR_t, listR_t, tupleR_t, sliceR_t, lenR_l, listR_l, tupleR_l, sliceR_l, lenR_r, listR_r, tupleR_r, sliceR_r, lenR_s, lenR_p, listR_p, tupleR_p, sliceR_p, sliceR_s, absR_i, max2R_i, min2R_i, intR_i, intR_b, strR_i, strR_s, mulSR_s, mulLR_l, inCR, dMethN, dXf, isXR, clsOs, clsO, dDrop, dMt, appendR, List.cons_append, List.nil_append, List.append_nil])
    refine ⟨_, put_same, ?_⟩
    rw [cut_put hD]
    exact h
theorem c__law_of_nought (G : Fx K mg w) : Cal PR w K mg base "_law_of_nought" 102 [] sp_ng := by
  obtain ⟨fd, F⟩ := G.d__law_of_nought
  exact cal_plain F G.g__law_of_nought (ok__law_of_nought G F) (fun _ _ _ _ _ _ us hl => match us, hl with | [_, _], _ => rfl)
end
end LW
namespace LW
open PySem PySem.Spec PyProof.Rows L2 DL TL
theorem dI_ltS {T B T2 B2 : Int} (hb : B ≠ 0) (hd : B2 ≠ 0) : decide (Rat.divInt T B < Rat.divInt T2 B2) = decide (T * B2 * (if B * B2 < 0 then -1 else 1) < T2 * B * (if B * B2 < 0 then -1 else 1)) := by
  apply decide_eq_decide.mpr
  rcases Int.lt_or_gt_of_ne hb with h | h <;> rcases Int.lt_or_gt_of_ne hd with h2 | h2
  · have p : 0 < B * B2 := Int.mul_pos_of_neg_of_neg h h2
    rw [if_neg (by omega), ← Rat.neg_divInt_neg T B, ← Rat.neg_divInt_neg T2 B2, dI_lt (by omega) (by omega), Int.neg_mul_neg, Int.neg_mul_neg]
    omega
  · have p : B * B2 < 0 := Int.mul_neg_of_neg_of_pos h h2
    rw [if_pos p, ← Rat.neg_divInt_neg T B, dI_lt (by omega) (by omega), Int.neg_mul, Int.mul_neg]
    omega
  · have p : B * B2 < 0 := Int.mul_neg_of_pos_of_neg h h2
    rw [if_pos p, ← Rat.neg_divInt_neg T2 B2, dI_lt (by omega) (by omega), Int.neg_mul, Int.mul_neg]
    omega
  · have p : 0 < B * B2 := Int.mul_pos h h2
    rw [if_neg (by omega), dI_lt h h2]
    omega
theorem abs_dI {T B : Int} (hb : B ≠ 0) : (Rat.divInt T B).abs = Rat.divInt (T.natAbs : Int) (B.natAbs : Int) := by
  have pos : ∀ {T B : Int}, 0 < B → (Rat.divInt T B).abs = Rat.divInt (T.natAbs : Int) B := fun {T B} h => by
    by_cases z : 0 ≤ T
    · rw [Rat.abs_of_nonneg (Rat.divInt_nonneg z (Int.le_of_lt h)), Int.natAbs_of_nonneg z]
    · have e : Rat.divInt T B = -(Rat.divInt (-T) B) := by rw [Rat.neg_divInt, Int.neg_neg]
      rw [e, Rat.abs_neg, Rat.abs_of_nonneg (Rat.divInt_nonneg (by omega) (Int.le_of_lt h))]
      congr 1
      omega
  rcases Int.lt_or_gt_of_ne hb with h | h
  · rw [← Rat.neg_divInt_neg, pos (by omega), Int.natAbs_neg]
    congr 1
    omega
  · rw [pos h]
    congr 1
    omega
theorem div_dI {T B T2 B2 : Int} : Rat.divInt T B / Rat.divInt T2 B2 = Rat.divInt (T * B2) (B * T2) := by
  rw [Rat.div_def, Rat.inv_divInt, Rat.divInt_mul_divInt]
section
variable {w : World} {K : PySem.W.Frag} {mg : Str → Option Value} {base : Heap}
theorem ok__law_two_right {fd : FuncData} (G : Fx K mg w) (F : FunD K "_law_two_right" "_law_two_right" (defArgs st__law_two_right) (defBody st__law_two_right) (defScope st__law_two_right) (He.DefD.dvs K d__law_two_right) (He.DefD.kws K d__law_two_right) (He.fAd K ("_law_two_right", none)) fd) : FnG PR w K mg base 103 (He.fAd K ("_law_two_right", none)) fd ["_law_one", "_law_other"] (lift K sp_two) := by
  refine d_fn F sc__law_two_right (fun ds w Q E h => by obtain ⟨_, _, _, _, rfl, _⟩ := h; rfl) (fun cdv A outer s H EL Ed bd => ⟨_, (dss_cons (ds_asg (de_var 0) (dg_tup (n := 2) bd.calm (dgs_cons (dg_name 2 bd.nd) (dgs_cons (dg_name 3 bd.nd) dgs_nil)))) (dss_cons (ds_asg (de_var 1) (dg_tup (n := 2) bd.calm (dgs_cons (dg_name 4 bd.nd) (dgs_cons (dg_name 5 bd.nd) dgs_nil)))) (dss_cons (ds_par 6 7 bd.calm bd.nd (da_cons (de_make bd (k_Number_0 G) (da_cons (de_var 2) (da_cons (de_var 3) da_nil))) (da_cons (de_make bd (k_Number_0 G) (da_cons (de_var 4) (da_cons (de_var 5) da_nil))) da_nil))) (dss_cons (ds_if (dw_or (dt_not (dt_val (de_call bd (c__law_is G) (da_cons (de_methN bd (m_more G) (de_var 6) (da_cons (de_var 7) da_nil)) (da_cons (de_op o_add (de_op o_mul (de_var 2) (de_var 5)) (de_op o_mul (de_var 4) (de_var 3))) (da_cons (de_op o_mul (de_var 3) (de_var 5)) da_nil)))))) (dw_or1 (dt_not (dt_val (de_call bd (c__law_is G) (da_cons (de_methN bd (m_less G) (de_var 6) (da_cons (de_var 7) da_nil)) (da_cons (de_op o_sub (de_op o_mul (de_var 2) (de_var 5)) (de_op o_mul (de_var 4) (de_var 3))) (da_cons (de_op o_mul (de_var 3) (de_var 5)) da_nil)))))))).dt (dss_one (ds_ret de_bl)) dss_nil) (dss_cons (ds_if (dw_or (dt_not (dt_val (de_call bd (c__law_is G) (da_cons (de_methN bd (m_times G) (de_var 6) (da_cons (de_var 7) da_nil)) (da_cons (de_op o_mul (de_var 2) (de_var 4)) (da_cons (de_op o_mul (de_var 3) (de_var 5)) da_nil)))))) (dw_or1 (dw_and (dt_cmp (o_ne bd.room.room) (de_var 4) de_int) (dw_and1 (dt_not (dt_val (de_call bd (c__law_is G) (da_cons (de_methN bd (m_over G) (de_var 6) (da_cons (de_var 7) da_nil)) (da_cons (de_op o_mul (de_var 2) (de_var 5)) (da_cons (de_op o_mul (de_var 3) (de_var 4)) da_nil)))))))).dt)).dt (dss_one (ds_ret de_bl)) dss_nil) (dss_cons (ds_set 8 bd.nd (de_ix (de_lst (da_cons de_int (da_cons (de_neg de_int) da_nil))) (de_fnTy f_int G.f_int (da_cons (de_cmp o_lt (de_op o_mul (de_var 3) (de_var 5)) de_int) da_nil)))) (dss_cons (ds_set 9 bd.nd (de_lst (da_cons (de_methN bd (m_below G) (de_var 6) (da_cons (de_var 7) da_nil)) (da_cons (de_methN bd (m_below G) (de_var 7) (da_cons (de_var 6) da_nil)) (da_cons (de_methN0 bd (m_floor G) (de_var 6)) da_nil))))) (dss_cons (ds_set 10 bd.nd (de_lst (da_cons (de_cmp o_lt (de_op o_mul (de_op o_mul (de_var 2) (de_var 5)) (de_var 8)) (de_op o_mul (de_op o_mul (de_var 4) (de_var 3)) (de_var 8))) (da_cons (de_cmp o_lt (de_op o_mul (de_op o_mul (de_var 4) (de_var 3)) (de_var 8)) (de_op o_mul (de_op o_mul (de_var 2) (de_var 5)) (de_var 8))) (da_cons (de_op o_fdiv (de_ix (de_call bd (c__law_lowest G) (da_cons (de_var 2) (da_cons (de_var 3) da_nil))) de_int) (de_ix (de_call bd (c__law_lowest G) (da_cons (de_var 2) (da_cons (de_var 3) da_nil))) de_int)) da_nil))))) (dss_cons (ds_if (dw_or (dt_cmp (o_ne bd.room.room) (de_fn (f_reprP bd) G.f_repr (da_cons (de_var 9) da_nil)) (de_fn (f_reprP bd) G.f_repr (da_cons (de_var 10) da_nil))) (dw_or1 (dt_not (dt_val (de_call bd (c__law_is G) (da_cons (de_methN0 bd (m_size G) (de_var 6)) (da_cons (de_fn f_abs G.f_abs (da_cons (de_var 2) da_nil)) (da_cons (de_fn f_abs G.f_abs (da_cons (de_var 3) da_nil)) da_nil)))))))).dt (dss_one (ds_ret de_bl)) dss_nil) (dss_one (ds_ret (de_and (de_call bd (c__law_is G) (da_cons (de_var 6) (da_cons (de_var 2) (da_cons (de_var 3) da_nil)))) (de_one (de_call bd (c__law_is G) (da_cons (de_var 7) (da_cons (de_var 4) (da_cons (de_var 5) da_nil))))))))))))))))), fun ds w Q h => ?_⟩)
  obtain ⟨T, B, T2, B2, rfl, p1, p2, h⟩ := h
  simp only [startD, List.length_cons, List.length_nil, List.map_cons, List.map_nil, List.cons_append, List.nil_append, Nat.reduceAdd, Nat.reduceSub, List.replicate_succ, List.replicate_zero, List.replicate]
  refine seq_op (fun N hN => ?_); (try dsimp only [dAsg, dOp, dVar, nth, dC, dB, dIfS, dIf, dOr, dAnd, dNot, dAndV, dOrV, dNotV, dNil, dCons, dTup, dLst, dLstM, dCall, dFn, gNm, pus, dNext, dRet, dRetN, dDrop, dPar, dAug, dSl, dNo, dPt, dNeg, dMt, dStr, dChain, DL.isNon, br_T, br_F, s1R, splitPR, splitR, joinR, startsR, endsR, catM, catL, gSubM, appendR, popR, dRevS, dFmt, dJoin, dJs, gTp_1, gTp_2, gTp_3, gTp_4, gTp_5, gTp_6, gTp_7, gTp_8, gsCons, gsNil, dFor_eq, dLcK_eq, dRng1, dRng2, dItL, dItS, dZip, dEnum, dEnumS, wipeD, dYes, eqR_i, neR_i, eqR_s, neR_s, eqR_b, neR_b, eqR_n, neR_n, itemR_t, itemR_l, itemR_r, itemR_p, itemR_s, addR_i, addR_b, addR_s, addR_l, addR_t, mulR_i, dI_i, dI0_i, isR_n, isR_b, lenR_t, listR_t, tupleR_t, sliceR_t, lenR_l, listR_l, tupleR_l, sliceR_l, lenR_r, listR_r, tupleR_r, sliceR_r, lenR_s, lenR_p, listR_p, tupleR_p, sliceR_p, sliceR_s, absR_i, max2R_i, min2R_i, intR_i, intR_b, strR_i, strR_s, mulSR_s, mulLR_l, inCR, dMethN, dXf, isXR, clsOs, clsO, dDrop, dMt, appendR, List.cons_append, List.nil_append, List.append_nil])
  refine hN _ _ ?_; clear hN N
  refine seq_op (fun N hN => ?_); (try dsimp only [dAsg, dOp, dVar, nth, dC, dB, dIfS, dIf, dOr, dAnd, dNot, dAndV, dOrV, dNotV, dNil, dCons, dTup, dLst, dLstM, dCall, dFn, gNm, pus, dNext, dRet, dRetN, dDrop, dPar, dAug, dSl, dNo, dPt, dNeg, dMt, dStr, dChain, DL.isNon, br_T, br_F, s1R, splitPR, splitR, joinR, startsR, endsR, catM, catL, gSubM, appendR, popR, dRevS, dFmt, dJoin, dJs, gTp_1, gTp_2, gTp_3, gTp_4, gTp_5, gTp_6, gTp_7, gTp_8, gsCons, gsNil, dFor_eq, dLcK_eq, dRng1, dRng2, dItL, dItS, dZip, dEnum, dEnumS, wipeD, dYes, eqR_i, neR_i, eqR_s, neR_s, eqR_b, neR_b, eqR_n, neR_n, itemR_t, itemR_l, itemR_r, itemR_p, itemR_s, addR_i, addR_b, addR_s, addR_l, addR_t, mulR_i, dI_i, dI0_i, isR_n, isR_b, lenR_t, listR_t, tupleR_t, sliceR_t, lenR_l, listR_l, tupleR_l, sliceR_l, lenR_r, listR_r, tupleR_r, sliceR_r, lenR_s, lenR_p, listR_p, tupleR_p, sliceR_p, sliceR_s, absR_i, max2R_i, min2R_i, intR_i, intR_b, strR_i, strR_s, mulSR_s, mulLR_l, inCR, dMethN, dXf, isXR, clsOs, clsO, dDrop, dMt, appendR, List.cons_append, List.nil_append, List.append_nil])
  refine hN _ _ ?_; clear hN N
  refine seq_op (fun N hN => ?_); (try dsimp only [dAsg, dOp, dVar, nth, dC, dB, dIfS, dIf, dOr, dAnd, dNot, dAndV, dOrV, dNotV, dNil, dCons, dTup, dLst, dLstM, dCall, dFn, gNm, pus, dNext, dRet, dRetN, dDrop, dPar, dAug, dSl, dNo, dPt, dNeg, dMt, dStr, dChain, DL.isNon, br_T, br_F, s1R, splitPR, splitR, joinR, startsR, endsR, catM, catL, gSubM, appendR, popR, dRevS, dFmt, dJoin, dJs, gTp_1, gTp_2, gTp_3, gTp_4, gTp_5, gTp_6, gTp_7, gTp_8, gsCons, gsNil, dFor_eq, dLcK_eq, dRng1, dRng2, dItL, dItS, dZip, dEnum, dEnumS, wipeD, dYes, eqR_i, neR_i, eqR_s, neR_s, eqR_b, neR_b, eqR_n, neR_n, itemR_t, itemR_l, itemR_r, itemR_p, itemR_s, addR_i, addR_b, addR_s, addR_l, addR_t, mulR_i, dI_i, dI0_i, isR_n, isR_b, lenR_t, listR_t, tupleR_t, sliceR_t, lenR_l, listR_l, tupleR_l, sliceR_l, lenR_r, listR_r, tupleR_r, sliceR_r, lenR_s, lenR_p, listR_p, tupleR_p, sliceR_p, sliceR_s, absR_i, max2R_i, min2R_i, intR_i, intR_b, strR_i, strR_s, mulSR_s, mulLR_l, inCR, dMethN, dXf, isXR, clsOs, clsO, dDrop, dMt, appendR, List.cons_append, List.nil_append, List.append_nil])
  obtain ⟨B0, sT, sB⟩ := p1
  obtain ⟨B20, sT2, sB2⟩ := p2
  have fq : SzR 130 (Rat.divInt T B) := szr_divInt (sT.mono (by decide)) (sB.mono (by decide)) B0
  have fp : SzR 130 (Rat.divInt T2 B2) := szr_divInt (sT2.mono (by decide)) (sB2.mono (by decide)) B20
  have eA : Rat.divInt T B + Rat.divInt T2 B2 = Rat.divInt (T * B2 + T2 * B) (B * B2) := Rat.divInt_add_divInt _ _ B0 B20
  have eS : Rat.divInt T B - Rat.divInt T2 B2 = Rat.divInt (T * B2 - T2 * B) (B * B2) := Rat.divInt_sub_divInt _ _ B0 B20
  have eM : Rat.divInt T B * Rat.divInt T2 B2 = Rat.divInt (T * T2) (B * B2) := Rat.divInt_mul_divInt ..
  have eD : Rat.divInt T B / Rat.divInt T2 B2 = Rat.divInt (T * B2) (B * T2) := div_dI
  have eL := dI_ltS (T := T) (B := B) (T2 := T2) (B2 := B2) B0 B20
  have eL2 := dI_ltS (T := T2) (B := B2) (T2 := T) (B2 := B) B20 B0
  rw [Int.mul_comm B2 B] at eL2
  have eB := abs_dI (T := T) (B := B) B0
  have eN : Rat.divInt T2 B2 ≠ 0 ↔ T2 ≠ 0 := not_congr (divInt_zero_iff B20)
  refine ⟨T, B, rfl, B0, sT.mono (by decide), sB.mono (by decide), T2, B2, rfl, B20, sT2.mono (by decide), sB2.mono (by decide), ?_⟩
  generalize hq : Rat.divInt T B = q at *
  generalize hp : Rat.divInt T2 B2 = p at *
  have m1 : MulC T B2 := sT.mulC sB2 (by decide) (by decide) (by decide)
  have m2 : MulC T2 B := sT2.mulC sB (by decide) (by decide) (by decide)
  have m3 : MulC B B2 := sB.mulC sB2 (by decide) (by decide) (by decide)
  have m4 : MulC T T2 := sT.mulC sT2 (by decide) (by decide) (by decide)
  have m5 : MulC B T2 := sB.mulC sT2 (by decide) (by decide) (by decide)
  have k1 : Sz 200 (T * B2) := (sT.mul sB2).mono (by decide)
  have k2 : Sz 200 (T2 * B) := (sT2.mul sB).mono (by decide)
  have k3 : Sz 1900 (B * B2) := (sB.mul sB2).mono (by decide)
  have k4 : Sz 1900 (T * T2) := (sT.mul sT2).mono (by decide)
  have k5 : Sz 1900 (B * T2) := (sB.mul sT2).mono (by decide)
  have k6 : Sz 1900 (T * B2 + T2 * B) := (k1.add k2).mono (by decide)
  have k7 : Sz 1900 (T * B2 - T2 * B) := (k1.sub k2).mono (by decide)
  have b0 : B * B2 ≠ 0 := Int.mul_ne_zero B0 B20
  have gq : Fit q := fq.mono (by decide)
  have gp : Fit p := fp.mono (by decide)
  refine hN _ _ ?_; clear hN N
  refine seq_op (fun N hN => ?_); (try dsimp only [dAsg, dOp, dVar, nth, dC, dB, dIfS, dIf, dOr, dAnd, dNot, dAndV, dOrV, dNotV, dNil, dCons, dTup, dLst, dLstM, dCall, dFn, gNm, pus, dNext, dRet, dRetN, dDrop, dPar, dAug, dSl, dNo, dPt, dNeg, dMt, dStr, dChain, DL.isNon, br_T, br_F, s1R, splitPR, splitR, joinR, startsR, endsR, catM, catL, gSubM, appendR, popR, dRevS, dFmt, dJoin, dJs, gTp_1, gTp_2, gTp_3, gTp_4, gTp_5, gTp_6, gTp_7, gTp_8, gsCons, gsNil, dFor_eq, dLcK_eq, dRng1, dRng2, dItL, dItS, dZip, dEnum, dEnumS, wipeD, dYes, eqR_i, neR_i, eqR_s, neR_s, eqR_b, neR_b, eqR_n, neR_n, itemR_t, itemR_l, itemR_r, itemR_p, itemR_s, addR_i, addR_b, addR_s, addR_l, addR_t, mulR_i, dI_i, dI0_i, isR_n, isR_b, lenR_t, listR_t, tupleR_t, sliceR_t, lenR_l, listR_l, tupleR_l, sliceR_l, lenR_r, listR_r, tupleR_r, sliceR_r, lenR_s, lenR_p, listR_p, tupleR_p, sliceR_p, sliceR_s, absR_i, max2R_i, min2R_i, intR_i, intR_b, strR_i, strR_s, mulSR_s, mulLR_l, inCR, dMethN, dXf, isXR, clsOs, clsO, dDrop, dMt, appendR, List.cons_append, List.nil_append, List.append_nil])
  refine ⟨q, p, rfl, gq, gp, m1, m2, m3, _, _, _, rfl, eA, b0, k6, k3, br_f rfl ⟨q, p, rfl, gq, gp, m1, m2, m3, _, _, _, rfl, eS, b0, k7, k3, br_f rfl ?_⟩⟩
  refine hN _ _ ?_; clear hN N
  refine seq_op (fun N hN => ?_); (try dsimp only [dAsg, dOp, dVar, nth, dC, dB, dIfS, dIf, dOr, dAnd, dNot, dAndV, dOrV, dNotV, dNil, dCons, dTup, dLst, dLstM, dCall, dFn, gNm, pus, dNext, dRet, dRetN, dDrop, dPar, dAug, dSl, dNo, dPt, dNeg, dMt, dStr, dChain, DL.isNon, br_T, br_F, s1R, splitPR, splitR, joinR, startsR, endsR, catM, catL, gSubM, appendR, popR, dRevS, dFmt, dJoin, dJs, gTp_1, gTp_2, gTp_3, gTp_4, gTp_5, gTp_6, gTp_7, gTp_8, gsCons, gsNil, dFor_eq, dLcK_eq, dRng1, dRng2, dItL, dItS, dZip, dEnum, dEnumS, wipeD, dYes, eqR_i, neR_i, eqR_s, neR_s, eqR_b, neR_b, eqR_n, neR_n, itemR_t, itemR_l, itemR_r, itemR_p, itemR_s, addR_i, addR_b, addR_s, addR_l, addR_t, mulR_i, dI_i, dI0_i, isR_n, isR_b, lenR_t, listR_t, tupleR_t, sliceR_t, lenR_l, listR_l, tupleR_l, sliceR_l, lenR_r, listR_r, tupleR_r, sliceR_r, lenR_s, lenR_p, listR_p, tupleR_p, sliceR_p, sliceR_s, absR_i, max2R_i, min2R_i, intR_i, intR_b, strR_i, strR_s, mulSR_s, mulLR_l, inCR, dMethN, dXf, isXR, clsOs, clsO, dDrop, dMt, appendR, List.cons_append, List.nil_append, List.append_nil])
  suffices key : N [some (.tup [.int T, .int B]), some (.tup [.int T2, .int B2]), some (.int T), some (.int B), some (.int T2), some (.int B2), some (.num q), some (.num p), none, none, none] w by
    refine ⟨q, p, rfl, gq, gp, m4, m3, _, _, _, rfl, eM, b0, k4, k3, br_f rfl ?_⟩
    refine br_of (fun z => ?_) (fun _ => key)
    have z : T2 ≠ 0 := by simpa using z
    exact ⟨q, p, rfl, gq, gp, fun _ => ⟨m1, m5, _, _, _, rfl, eD, Int.mul_ne_zero B0 z, k1.mono (by decide), k5, br_f rfl key⟩, fun y => absurd y (eN.mpr z)⟩
  refine hN _ _ ?_; clear hN N
  refine seq_op (fun N hN => ?_); (try dsimp only [dAsg, dOp, dVar, nth, dC, dB, dIfS, dIf, dOr, dAnd, dNot, dAndV, dOrV, dNotV, dNil, dCons, dTup, dLst, dLstM, dCall, dFn, gNm, pus, dNext, dRet, dRetN, dDrop, dPar, dAug, dSl, dNo, dPt, dNeg, dMt, dStr, dChain, DL.isNon, br_T, br_F, s1R, splitPR, splitR, joinR, startsR, endsR, catM, catL, gSubM, appendR, popR, dRevS, dFmt, dJoin, dJs, gTp_1, gTp_2, gTp_3, gTp_4, gTp_5, gTp_6, gTp_7, gTp_8, gsCons, gsNil, dFor_eq, dLcK_eq, dRng1, dRng2, dItL, dItS, dZip, dEnum, dEnumS, wipeD, dYes, eqR_i, neR_i, eqR_s, neR_s, eqR_b, neR_b, eqR_n, neR_n, itemR_t, itemR_l, itemR_r, itemR_p, itemR_s, addR_i, addR_b, addR_s, addR_l, addR_t, mulR_i, dI_i, dI0_i, isR_n, isR_b, lenR_t, listR_t, tupleR_t, sliceR_t, lenR_l, listR_l, tupleR_l, sliceR_l, lenR_r, listR_r, tupleR_r, sliceR_r, lenR_s, lenR_p, listR_p, tupleR_p, sliceR_p, sliceR_s, absR_i, max2R_i, min2R_i, intR_i, intR_b, strR_i, strR_s, mulSR_s, mulLR_l, inCR, dMethN, dXf, isXR, clsOs, clsO, dDrop, dMt, appendR, List.cons_append, List.nil_append, List.append_nil])
  suffices key : ∀ sg : Int, sg = (if B * B2 < 0 then -1 else 1) → N [some (.tup [.int T, .int B]), some (.tup [.int T2, .int B2]), some (.int T), some (.int B), some (.int T2), some (.int B2), some (.num q), some (.num p), some (.int sg), none, none] w by
    refine ⟨sz2, m3, ?_⟩
    by_cases z : B * B2 < 0
    · rw [if_pos (decide_eq_true z)]
      exact ⟨_, at1, key _ (by rw [if_pos z])⟩
    · rw [if_neg (by rw [decide_eq_false z]; decide)]
      exact ⟨_, at0, key _ (by rw [if_neg z])⟩
  intro sg eg
  rw [← eg] at eL eL2
  have ss : Sz 2 sg := by rw [eg]; split <;> (unfold Sz; decide)
  refine hN _ _ ?_; clear hN N
  refine seq_op (fun N hN => ?_); (try dsimp only [dAsg, dOp, dVar, nth, dC, dB, dIfS, dIf, dOr, dAnd, dNot, dAndV, dOrV, dNotV, dNil, dCons, dTup, dLst, dLstM, dCall, dFn, gNm, pus, dNext, dRet, dRetN, dDrop, dPar, dAug, dSl, dNo, dPt, dNeg, dMt, dStr, dChain, DL.isNon, br_T, br_F, s1R, splitPR, splitR, joinR, startsR, endsR, catM, catL, gSubM, appendR, popR, dRevS, dFmt, dJoin, dJs, gTp_1, gTp_2, gTp_3, gTp_4, gTp_5, gTp_6, gTp_7, gTp_8, gsCons, gsNil, dFor_eq, dLcK_eq, dRng1, dRng2, dItL, dItS, dZip, dEnum, dEnumS, wipeD, dYes, eqR_i, neR_i, eqR_s, neR_s, eqR_b, neR_b, eqR_n, neR_n, itemR_t, itemR_l, itemR_r, itemR_p, itemR_s, addR_i, addR_b, addR_s, addR_l, addR_t, mulR_i, dI_i, dI0_i, isR_n, isR_b, lenR_t, listR_t, tupleR_t, sliceR_t, lenR_l, listR_l, tupleR_l, sliceR_l, lenR_r, listR_r, tupleR_r, sliceR_r, lenR_s, lenR_p, listR_p, tupleR_p, sliceR_p, sliceR_s, absR_i, max2R_i, min2R_i, intR_i, intR_b, strR_i, strR_s, mulSR_s, mulLR_l, inCR, dMethN, dXf, isXR, clsOs, clsO, dDrop, dMt, appendR, List.cons_append, List.nil_append, List.append_nil])
  refine ⟨q, p, rfl, gq, gp, p, q, rfl, gp, gq, q, rfl, fq.mono (by decide), sz3, ?_⟩
  refine hN _ _ ?_; clear hN N
  refine seq_op (fun N hN => ?_); (try dsimp only [dAsg, dOp, dVar, nth, dC, dB, dIfS, dIf, dOr, dAnd, dNot, dAndV, dOrV, dNotV, dNil, dCons, dTup, dLst, dLstM, dCall, dFn, gNm, pus, dNext, dRet, dRetN, dDrop, dPar, dAug, dSl, dNo, dPt, dNeg, dMt, dStr, dChain, DL.isNon, br_T, br_F, s1R, splitPR, splitR, joinR, startsR, endsR, catM, catL, gSubM, appendR, popR, dRevS, dFmt, dJoin, dJs, gTp_1, gTp_2, gTp_3, gTp_4, gTp_5, gTp_6, gTp_7, gTp_8, gsCons, gsNil, dFor_eq, dLcK_eq, dRng1, dRng2, dItL, dItS, dZip, dEnum, dEnumS, wipeD, dYes, eqR_i, neR_i, eqR_s, neR_s, eqR_b, neR_b, eqR_n, neR_n, itemR_t, itemR_l, itemR_r, itemR_p, itemR_s, addR_i, addR_b, addR_s, addR_l, addR_t, mulR_i, dI_i, dI0_i, isR_n, isR_b, lenR_t, listR_t, tupleR_t, sliceR_t, lenR_l, listR_l, tupleR_l, sliceR_l, lenR_r, listR_r, tupleR_r, sliceR_r, lenR_s, lenR_p, listR_p, tupleR_p, sliceR_p, sliceR_s, absR_i, max2R_i, min2R_i, intR_i, intR_b, strR_i, strR_s, mulSR_s, mulLR_l, inCR, dMethN, dXf, isXR, clsOs, clsO, dDrop, dMt, appendR, List.cons_append, List.nil_append, List.append_nil])
  have n1 : MulC (T * B2) sg := k1.mulC ss (by decide) (by decide) (by decide)
  have n2 : MulC (T2 * B) sg := k2.mulC ss (by decide) (by decide) (by decide)
  refine ⟨m1, n1, m2, n2, m2, n2, m1, n1, T, B, rfl, B0, sB.mono (by decide), ?_⟩
  rw [hq]
  refine ⟨_, at0, T, B, rfl, B0, sB.mono (by decide), ?_⟩
  rw [hq]
  refine ⟨_, at1, (show Sz 130 (q.den : Int) by unfold Sz; exact fq.2).divP (den_pos q) (by decide), sz3, ?_⟩
  rw [← eL, ← eL2]
  refine hN _ _ ?_; clear hN N
  refine seq_op (fun N hN => ?_); (try dsimp only [dAsg, dOp, dVar, nth, dC, dB, dIfS, dIf, dOr, dAnd, dNot, dAndV, dOrV, dNotV, dNil, dCons, dTup, dLst, dLstM, dCall, dFn, gNm, pus, dNext, dRet, dRetN, dDrop, dPar, dAug, dSl, dNo, dPt, dNeg, dMt, dStr, dChain, DL.isNon, br_T, br_F, s1R, splitPR, splitR, joinR, startsR, endsR, catM, catL, gSubM, appendR, popR, dRevS, dFmt, dJoin, dJs, gTp_1, gTp_2, gTp_3, gTp_4, gTp_5, gTp_6, gTp_7, gTp_8, gsCons, gsNil, dFor_eq, dLcK_eq, dRng1, dRng2, dItL, dItS, dZip, dEnum, dEnumS, wipeD, dYes, eqR_i, neR_i, eqR_s, neR_s, eqR_b, neR_b, eqR_n, neR_n, itemR_t, itemR_l, itemR_r, itemR_p, itemR_s, addR_i, addR_b, addR_s, addR_l, addR_t, mulR_i, dI_i, dI0_i, isR_n, isR_b, lenR_t, listR_t, tupleR_t, sliceR_t, lenR_l, listR_l, tupleR_l, sliceR_l, lenR_r, listR_r, tupleR_r, sliceR_r, lenR_s, lenR_p, listR_p, tupleR_p, sliceR_p, sliceR_s, absR_i, max2R_i, min2R_i, intR_i, intR_b, strR_i, strR_s, mulSR_s, mulLR_l, inCR, dMethN, dXf, isXR, clsOs, clsO, dDrop, dMt, appendR, List.cons_append, List.nil_append, List.append_nil])
  obtain ⟨t, rp⟩ := repr_p (sw_lst (DL.all2 (sw_bl (b := decide (q < p))) (DL.all2 (sw_bl (b := decide (p < q))) (DL.all2 (sw_int (i := flr q) (Sz.log (n := 1920) ((Sz.flr fq).mono (by decide)) (by decide))) all0)))) (by decide) (by show 3 ≤ 8000; decide)
  have ab : ∀ i : Int, (if i < 0 then -i else i) = (i.natAbs : Int) := fun i => by split <;> omega
  refine rp _ _ ?_
  refine rp _ _ ?_
  refine br_f (by show (!decide (t = t)) = false; rw [decide_eq_true rfl]; rfl) ?_
  refine ⟨q, rfl, gq, _, _, _, rfl, by rw [ab, ab]; exact eB, ?_, ?_, ?_, br_f rfl ?_⟩
  · rw [ab]; omega
  · rw [ab]; exact sT.abs.mono (by decide)
  · rw [ab]; exact sB.abs.mono (by decide)
  refine hN _ _ ?_; clear hN N
  (try dsimp only [dAsg, dOp, dVar, nth, dC, dB, dIfS, dIf, dOr, dAnd, dNot, dAndV, dOrV, dNotV, dNil, dCons, dTup, dLst, dLstM, dCall, dFn, gNm, pus, dNext, dRet, dRetN, dDrop, dPar, dAug, dSl, dNo, dPt, dNeg, dMt, dStr, dChain, DL.isNon, br_T, br_F, s1R, splitPR, splitR, joinR, startsR, endsR, catM, catL, gSubM, appendR, popR, dRevS, dFmt, dJoin, dJs, gTp_1, gTp_2, gTp_3, gTp_4, gTp_5, gTp_6, gTp_7, gTp_8, gsCons, gsNil, dFor_eq, dLcK_eq, dRng1, dRng2, dItL, dItS, dZip, dEnum, dEnumS, wipeD, dYes, eqR_i, neR_i, eqR_s, neR_s, eqR_b, neR_b, eqR_n, neR_n, itemR_t, itemR_l, itemR_r, itemR_p, itemR_s, addR_i, addR_b, addR_s, addR_l, addR_t, mulR_i, dI_i, dI0_i, isR_n, isR_b, lenR_t, listR_t, tupleR_t, sliceR_t, lenR_l, listR_l, tupleR_l, sliceR_l, lenR_r, listR_r, tupleR_r, sliceR_r, lenR_s, lenR_p, listR_p, tupleR_p, sliceR_p, sliceR_s, absR_i, max2R_i, min2R_i, intR_i, intR_b, strR_i, strR_s, mulSR_s, mulLR_l, inCR, dMethN, dXf, isXR, clsOs, clsO, dDrop, dMt, appendR, List.cons_append, List.nil_append, List.append_nil])
  exact ⟨q, T, B, rfl, hq.symm, B0, sT.mono (by decide), sB.mono (by decide), br_t rfl ⟨p, T2, B2, rfl, hp.symm, B20, sT2.mono (by decide), sB2.mono (by decide), h⟩⟩
theorem c__law_two_right (G : Fx K mg w) : Cal PR w K mg base "_law_two_right" 103 [] sp_two := by
  obtain ⟨fd, F⟩ := G.d__law_two_right
  exact cal_plain F G.g__law_two_right (ok__law_two_right G F) (fun _ _ _ _ _ _ us hl => match us, hl with | [_, _], _ => rfl)
end
end LW
namespace LW
open PySem PySem.Spec PyProof.Rows L2 DL TL
def RowP (d : Dt) : Prop := ∃ T B T2 B2 : Int, d = .tup [.tup [.int T, .int B], .tup [.int T2, .int B2]] ∧ PrB T B ∧ PrB T2 B2
theorem ng_rp {q : Rat} (h : SzR 130 q) : ∃ t : Str, ∀ (w : Om) (Q : DK), Q (.str t) w → reprP [.lst [.tup [.int q.num, .bl true], .tup [.int q.num, .bl true]]] w Q := by
  have a : Sw 1 2 (.tup [.int q.num, .bl true]) := sw_tup (n := 0) (b := 0) (DL.all2 (sw_int (Sz.log (n := 1920) (h.1.mono (by decide)) (by decide))) (DL.all2 sw_bl all0))
  exact repr_p (sw_lst (n := 1) (b := 2) (DL.all2 a (DL.all2 a all0))) (by decide) (by show 3 * 2 ≤ 8000; decide)
def sp_law : DSp := fun ds w Q _ => ∃ ns : List Int, ds = [.rl (ns.map Dt.int)] ∧ ns.length ≤ 63 ∧ ∀ w', Q (.bl true) w'
theorem law_sp : LawSp 63 sp_law := fun ns hl _ => ⟨ns, rfl, hl, fun _ => rfl⟩
section
variable {w : World} {K : PySem.W.Frag} {mg : Str → Option Value} {base : Heap}
theorem ok_law {fd : FuncData} (G : Fx K mg w) (F : FunD K "law" "law" (defArgs st_law) (defBody st_law) (defScope st_law) (He.DefD.dvs K d_law) (He.DefD.kws K d_law) (He.fAd K ("law", none)) fd) : FnG PR w K mg base 104 (He.fAd K ("law", none)) fd ["_law_script"] (lift K sp_law) := by
  refine d_fn F sc_law (fun ds w Q E h => by obtain ⟨_, rfl, _⟩ := h; rfl) (fun cdv A outer s H EL Ed bd => ⟨_, (dss_cons (ds_for bd.po bd.calm (di_rng1 G.f_range (da_cons (de_fn (f_max2 bd.calm) G.f_max (da_cons de_int (da_cons (de_fn (f_min2 bd.calm) G.f_min (da_cons (de_fn f_len G.f_len (da_cons (de_var 0) da_nil)) (da_cons de_int da_nil))) da_nil))) da_nil)) (dg_name 1 bd.nd) (dss_cons (ds_set 2 bd.nd (de_call bd (c__law_well G) (da_cons (de_var 0) (da_cons (de_var 1) da_nil)))) (dss_cons (ds_set 3 bd.nd (de_cmp (o_eq bd.room.room) (de_call bd (c__law_take G) (da_cons (de_var 2) (da_cons de_int da_nil))) de_int)) (dss_cons (ds_par 4 5 bd.calm bd.nd (da_cons (de_call bd (c__law_pair G) (da_cons (de_var 2) da_nil)) (da_cons (de_call bd (c__law_pair G) (da_cons (de_var 2) da_nil)) da_nil))) (dss_cons (ds_if (dt_val (de_var 3)) (dss_one (ds_set 5 bd.nd (de_if (dt_cmp o_lt (de_fn (f_max2 bd.calm) G.f_max (da_cons (de_fn f_abs G.f_abs (da_cons (de_ix (de_var 4) de_int) da_nil)) (da_cons (de_fn f_abs G.f_abs (da_cons (de_ix (de_var 4) de_int) da_nil)) da_nil))) (de_op o_pow de_int de_int)) (de_tup (da_cons (de_op o_mul (de_ix (de_var 4) de_int) de_int) (da_cons (de_op o_mul (de_ix (de_var 4) de_int) de_int) da_nil))) (de_var 4)))) dss_nil) (dss_cons (ds_for bd.po bd.calm (di_list (de_lst (da_cons (de_tup (da_cons (de_var 4) (da_cons (de_var 5) da_nil))) (da_cons (de_tup (da_cons (de_var 5) (da_cons (de_var 4) da_nil))) (da_cons (de_tup (da_cons (de_var 4) (da_cons (de_var 4) da_nil))) (da_cons (de_tup (da_cons (de_var 4) (da_cons (de_var 5) da_nil))) da_nil)))))) (dg_tup (n := 2) bd.calm (dgs_cons (dg_name 6 bd.nd) (dgs_cons (dg_name 7 bd.nd) dgs_nil))) (dss_one (ds_if (dt_not (dt_val (de_call bd (c__law_two_right G) (da_cons (de_var 6) (da_cons (de_var 7) da_nil))))) (dss_one (ds_ret de_bl)) dss_nil))) (dss_cons (ds_set 8 bd.nd (de_ix (de_call bd (c__law_lowest G) (da_cons (de_ix (de_var 4) de_int) (da_cons (de_ix (de_var 4) de_int) da_nil))) de_int)) (dss_one (ds_if (dt_cmp (o_ne bd.room.room) (de_fn (f_reprP bd) G.f_repr (da_cons (de_call bd (c__law_of_nought G) (da_cons (de_make bd (k_Number_0 G) (da_cons (de_ix (de_var 4) de_int) (da_cons (de_ix (de_var 4) de_int) da_nil))) (da_cons (de_var 8) da_nil))) da_nil)) (de_fn (f_reprP bd) G.f_repr (da_cons (de_lst (da_cons (de_tup (da_cons (de_var 8) (da_cons de_bl da_nil))) (da_cons (de_tup (da_cons (de_var 8) (da_cons de_bl da_nil))) da_nil))) da_nil))) (dss_one (ds_ret de_bl)) dss_nil))))))))) (dss_one (ds_ret (de_cmp (o_eq bd.room.room) (de_fn (f_reprP bd) G.f_repr (da_cons (de_call bd (c__law_of_nought G) (da_cons (de_make bd (k_Number_1 G) (da_cons de_int da_nil)) (da_cons de_int da_nil))) da_nil)) (de_fn (f_reprP bd) G.f_repr (da_cons (de_lst (da_cons (de_tup (da_cons de_int (da_cons de_bl da_nil))) (da_cons (de_tup (da_cons de_int (da_cons de_bl da_nil))) da_nil))) da_nil)))))), fun ds w Q h => ?_⟩)
  obtain ⟨ns, rfl, hl, h⟩ := h
  simp only [startD, List.length_cons, List.length_nil, List.map_cons, List.map_nil, List.cons_append, List.nil_append, Nat.reduceAdd, Nat.reduceSub, List.replicate_succ, List.replicate_zero, List.replicate]
  refine seq_op (fun N hN => ?_); (try dsimp only [dAsg, dOp, dVar, nth, dC, dB, dIfS, dIf, dOr, dAnd, dNot, dAndV, dOrV, dNotV, dNil, dCons, dTup, dLst, dLstM, dCall, dFn, gNm, pus, dNext, dRet, dRetN, dDrop, dPar, dAug, dSl, dNo, dPt, dNeg, dMt, dStr, dChain, DL.isNon, br_T, br_F, s1R, splitPR, splitR, joinR, startsR, endsR, catM, catL, gSubM, appendR, popR, dRevS, dFmt, dJoin, dJs, gTp_1, gTp_2, gTp_3, gTp_4, gTp_5, gTp_6, gTp_7, gTp_8, gsCons, gsNil, dFor_eq, dLcK_eq, dRng1, dRng2, dItL, dItS, dZip, dEnum, dEnumS, wipeD, dYes, eqR_i, neR_i, eqR_s, neR_s, eqR_b, neR_b, eqR_n, neR_n, itemR_t, itemR_l, itemR_r, itemR_p, itemR_s, addR_i, addR_b, addR_s, addR_l, addR_t, mulR_i, dI_i, dI0_i, isR_n, isR_b, lenR_t, listR_t, tupleR_t, sliceR_t, lenR_l, listR_l, tupleR_l, sliceR_l, lenR_r, listR_r, tupleR_r, sliceR_r, lenR_s, lenR_p, listR_p, tupleR_p, sliceR_p, sliceR_s, absR_i, max2R_i, min2R_i, intR_i, intR_b, strR_i, strR_s, mulSR_s, mulLR_l, inCR, dMethN, dXf, isXR, clsOs, clsO, dDrop, dMt, appendR, List.cons_append, List.nil_append, List.append_nil])
  have s200 : ∀ {i : Int}, -(2 ^ 64) < i ∧ i < 2 ^ 64 → Sz 200 i := fun h => (sz64 (by omega)).mono (by decide)
  refine ⟨⟨by repeat' split
              all_goals omega, by repeat' split
                                  all_goals omega⟩, for_i (fun i r w' => ∃ x1 x2 x3 x4 x5 x6 x7 x8, r = [some (.rl (ns.map Dt.int)), x1, x2, x3, x4, x5, x6, x7, x8]) ⟨_, _, _, _, _, _, _, _, rfl⟩ ?_ (fun _ _ _ => trivial) ?_⟩
  · rintro i r w' d N1 hd ⟨x1, x2, x3, x4, x5, x6, x7, x8, rfl⟩ hN1
    obtain ⟨li, rfl⟩ := iota_nat hd
    have i6 : i < 6 := by
      have : ∀ z : Int, i < (if (if 6 < z then 6 else z) > 1 then (if 6 < z then 6 else z) else 1).toNat → i < 6 := fun z hz => by
        split at hz <;> (try split at hz) <;> omega
      exact this _ li
    refine ⟨trivial, ?_⟩
    refine seq_op (fun N hN => ?_); (try dsimp only [dAsg, dOp, dVar, nth, dC, dB, dIfS, dIf, dOr, dAnd, dNot, dAndV, dOrV, dNotV, dNil, dCons, dTup, dLst, dLstM, dCall, dFn, gNm, pus, dNext, dRet, dRetN, dDrop, dPar, dAug, dSl, dNo, dPt, dNeg, dMt, dStr, dChain, DL.isNon, br_T, br_F, s1R, splitPR, splitR, joinR, startsR, endsR, catM, catL, gSubM, appendR, popR, dRevS, dFmt, dJoin, dJs, gTp_1, gTp_2, gTp_3, gTp_4, gTp_5, gTp_6, gTp_7, gTp_8, gsCons, gsNil, dFor_eq, dLcK_eq, dRng1, dRng2, dItL, dItS, dZip, dEnum, dEnumS, wipeD, dYes, eqR_i, neR_i, eqR_s, neR_s, eqR_b, neR_b, eqR_n, neR_n, itemR_t, itemR_l, itemR_r, itemR_p, itemR_s, addR_i, addR_b, addR_s, addR_l, addR_t, mulR_i, dI_i, dI0_i, isR_n, isR_b, lenR_t, listR_t, tupleR_t, sliceR_t, lenR_l, listR_l, tupleR_l, sliceR_l, lenR_r, listR_r, tupleR_r, sliceR_r, lenR_s, lenR_p, listR_p, tupleR_p, sliceR_p, sliceR_s, absR_i, max2R_i, min2R_i, intR_i, intR_b, strR_i, strR_s, mulSR_s, mulLR_l, inCR, dMethN, dXf, isXR, clsOs, clsO, dDrop, dMt, appendR, List.cons_append, List.nil_append, List.append_nil])
    refine ⟨ns, _, rfl, by omega, by omega, fun W w1 hW wl o1 => ?_⟩
    refine hN _ _ ?_; clear hN N
    refine seq_op (fun N hN => ?_); (try dsimp only [dAsg, dOp, dVar, nth, dC, dB, dIfS, dIf, dOr, dAnd, dNot, dAndV, dOrV, dNotV, dNil, dCons, dTup, dLst, dLstM, dCall, dFn, gNm, pus, dNext, dRet, dRetN, dDrop, dPar, dAug, dSl, dNo, dPt, dNeg, dMt, dStr, dChain, DL.isNon, br_T, br_F, s1R, splitPR, splitR, joinR, startsR, endsR, catM, catL, gSubM, appendR, popR, dRevS, dFmt, dJoin, dJs, gTp_1, gTp_2, gTp_3, gTp_4, gTp_5, gTp_6, gTp_7, gTp_8, gsCons, gsNil, dFor_eq, dLcK_eq, dRng1, dRng2, dItL, dItS, dZip, dEnum, dEnumS, wipeD, dYes, eqR_i, neR_i, eqR_s, neR_s, eqR_b, neR_b, eqR_n, neR_n, itemR_t, itemR_l, itemR_r, itemR_p, itemR_s, addR_i, addR_b, addR_s, addR_l, addR_t, mulR_i, dI_i, dI0_i, isR_n, isR_b, lenR_t, listR_t, tupleR_t, sliceR_t, lenR_l, listR_l, tupleR_l, sliceR_l, lenR_r, listR_r, tupleR_r, sliceR_r, lenR_s, lenR_p, listR_p, tupleR_p, sliceR_p, sliceR_s, absR_i, max2R_i, min2R_i, intR_i, intR_b, strR_i, strR_s, mulSR_s, mulLR_l, inCR, dMethN, dXf, isXR, clsOs, clsO, dDrop, dMt, appendR, List.cons_append, List.nil_append, List.append_nil])
    refine ⟨W, 6, rfl, by decide, s200 (by decide), wl, fun way w2 way0 way1 wl2 o2 => ?_⟩
    refine hN _ _ ?_; clear hN N
    refine seq_op (fun N hN => ?_); (try dsimp only [dAsg, dOp, dVar, nth, dC, dB, dIfS, dIf, dOr, dAnd, dNot, dAndV, dOrV, dNotV, dNil, dCons, dTup, dLst, dLstM, dCall, dFn, gNm, pus, dNext, dRet, dRetN, dDrop, dPar, dAug, dSl, dNo, dPt, dNeg, dMt, dStr, dChain, DL.isNon, br_T, br_F, s1R, splitPR, splitR, joinR, startsR, endsR, catM, catL, gSubM, appendR, popR, dRevS, dFmt, dJoin, dJs, gTp_1, gTp_2, gTp_3, gTp_4, gTp_5, gTp_6, gTp_7, gTp_8, gsCons, gsNil, dFor_eq, dLcK_eq, dRng1, dRng2, dItL, dItS, dZip, dEnum, dEnumS, wipeD, dYes, eqR_i, neR_i, eqR_s, neR_s, eqR_b, neR_b, eqR_n, neR_n, itemR_t, itemR_l, itemR_r, itemR_p, itemR_s, addR_i, addR_b, addR_s, addR_l, addR_t, mulR_i, dI_i, dI0_i, isR_n, isR_b, lenR_t, listR_t, tupleR_t, sliceR_t, lenR_l, listR_l, tupleR_l, sliceR_l, lenR_r, listR_r, tupleR_r, sliceR_r, lenR_s, lenR_p, listR_p, tupleR_p, sliceR_p, sliceR_s, absR_i, max2R_i, min2R_i, intR_i, intR_b, strR_i, strR_s, mulSR_s, mulLR_l, inCR, dMethN, dXf, isXR, clsOs, clsO, dDrop, dMt, appendR, List.cons_append, List.nil_append, List.append_nil])
    refine ⟨W, rfl, wl2, fun T B w3 pr wl3 o3 => ?_⟩
    refine ⟨W, rfl, wl3, fun T2 B2 w4 pr2 wl4 o4 => ?_⟩
    have pb := PrI.b pr
    refine hN _ _ ?_; clear hN N
    refine seq_op (fun N hN => ?_); (try dsimp only [dAsg, dOp, dVar, nth, dC, dB, dIfS, dIf, dOr, dAnd, dNot, dAndV, dOrV, dNotV, dNil, dCons, dTup, dLst, dLstM, dCall, dFn, gNm, pus, dNext, dRet, dRetN, dDrop, dPar, dAug, dSl, dNo, dPt, dNeg, dMt, dStr, dChain, DL.isNon, br_T, br_F, s1R, splitPR, splitR, joinR, startsR, endsR, catM, catL, gSubM, appendR, popR, dRevS, dFmt, dJoin, dJs, gTp_1, gTp_2, gTp_3, gTp_4, gTp_5, gTp_6, gTp_7, gTp_8, gsCons, gsNil, dFor_eq, dLcK_eq, dRng1, dRng2, dItL, dItS, dZip, dEnum, dEnumS, wipeD, dYes, eqR_i, neR_i, eqR_s, neR_s, eqR_b, neR_b, eqR_n, neR_n, itemR_t, itemR_l, itemR_r, itemR_p, itemR_s, addR_i, addR_b, addR_s, addR_l, addR_t, mulR_i, dI_i, dI0_i, isR_n, isR_b, lenR_t, listR_t, tupleR_t, sliceR_t, lenR_l, listR_l, tupleR_l, sliceR_l, lenR_r, listR_r, tupleR_r, sliceR_r, lenR_s, lenR_p, listR_p, tupleR_p, sliceR_p, sliceR_s, absR_i, max2R_i, min2R_i, intR_i, intR_b, strR_i, strR_s, mulSR_s, mulLR_l, inCR, dMethN, dXf, isXR, clsOs, clsO, dDrop, dMt, appendR, List.cons_append, List.nil_append, List.append_nil])
    suffices key : ∀ T' B' : Int, PrB T' B' → N [some (.rl (ns.map Dt.int)), some (.int i), some (.ptr W), some (.bl (decide (way = 1))), some (.tup [.int T, .int B]), some (.tup [.int T', .int B']), x6, x7, x8] w4 by
      refine br_dec (fun _ => ?_) (fun _ => key _ _ (PrI.b pr2))
      refine ⟨_, at0, ?_⟩
      (try dsimp only [dAsg, dOp, dVar, nth, dC, dB, dIfS, dIf, dOr, dAnd, dNot, dAndV, dOrV, dNotV, dNil, dCons, dTup, dLst, dLstM, dCall, dFn, gNm, pus, dNext, dRet, dRetN, dDrop, dPar, dAug, dSl, dNo, dPt, dNeg, dMt, dStr, dChain, DL.isNon, br_T, br_F, s1R, splitPR, splitR, joinR, startsR, endsR, catM, catL, gSubM, appendR, popR, dRevS, dFmt, dJoin, dJs, gTp_1, gTp_2, gTp_3, gTp_4, gTp_5, gTp_6, gTp_7, gTp_8, gsCons, gsNil, dFor_eq, dLcK_eq, dRng1, dRng2, dItL, dItS, dZip, dEnum, dEnumS, wipeD, dYes, eqR_i, neR_i, eqR_s, neR_s, eqR_b, neR_b, eqR_n, neR_n, itemR_t, itemR_l, itemR_r, itemR_p, itemR_s, addR_i, addR_b, addR_s, addR_l, addR_t, mulR_i, dI_i, dI0_i, isR_n, isR_b, lenR_t, listR_t, tupleR_t, sliceR_t, lenR_l, listR_l, tupleR_l, sliceR_l, lenR_r, listR_r, tupleR_r, sliceR_r, lenR_s, lenR_p, listR_p, tupleR_p, sliceR_p, sliceR_s, absR_i, max2R_i, min2R_i, intR_i, intR_b, strR_i, strR_s, mulSR_s, mulLR_l, inCR, dMethN, dXf, isXR, clsOs, clsO, dDrop, dMt, appendR, List.cons_append, List.nil_append, List.append_nil])
      refine ⟨_, at1, ?_⟩
      (try dsimp only [dAsg, dOp, dVar, nth, dC, dB, dIfS, dIf, dOr, dAnd, dNot, dAndV, dOrV, dNotV, dNil, dCons, dTup, dLst, dLstM, dCall, dFn, gNm, pus, dNext, dRet, dRetN, dDrop, dPar, dAug, dSl, dNo, dPt, dNeg, dMt, dStr, dChain, DL.isNon, br_T, br_F, s1R, splitPR, splitR, joinR, startsR, endsR, catM, catL, gSubM, appendR, popR, dRevS, dFmt, dJoin, dJs, gTp_1, gTp_2, gTp_3, gTp_4, gTp_5, gTp_6, gTp_7, gTp_8, gsCons, gsNil, dFor_eq, dLcK_eq, dRng1, dRng2, dItL, dItS, dZip, dEnum, dEnumS, wipeD, dYes, eqR_i, neR_i, eqR_s, neR_s, eqR_b, neR_b, eqR_n, neR_n, itemR_t, itemR_l, itemR_r, itemR_p, itemR_s, addR_i, addR_b, addR_s, addR_l, addR_t, mulR_i, dI_i, dI0_i, isR_n, isR_b, lenR_t, listR_t, tupleR_t, sliceR_t, lenR_l, listR_l, tupleR_l, sliceR_l, lenR_r, listR_r, tupleR_r, sliceR_r, lenR_s, lenR_p, listR_p, tupleR_p, sliceR_p, sliceR_s, absR_i, max2R_i, min2R_i, intR_i, intR_b, strR_i, strR_s, mulSR_s, mulLR_l, inCR, dMethN, dXf, isXR, clsOs, clsO, dDrop, dMt, appendR, List.cons_append, List.nil_append, List.append_nil])
      have p11 : (10 : Int) ^ Int.toNat 11 = 100000000000 := by decide
      refine ⟨⟨by decide, by decide, by decide⟩, br_dec (fun e => ?_) (fun _ => key T B pb)⟩
      rw [p11] at e
      have eT : T.natAbs < 100000000000 ∧ B.natAbs < 100000000000 := by
        split at e <;> split at e <;> split at e <;> omega
      have s3 : Sz 3 (3 : Int) := by unfold Sz; decide
      have b3 := pb.1
      exact ⟨_, at0, Sz.mulC pr.2.1 s3 (by decide) (by decide) (by decide), _, at1, Sz.mulC pr.2.2 s3 (by decide) (by decide) (by decide), sz2, key _ _ ⟨by omega, by unfold Sz; omega, by unfold Sz; omega⟩⟩
    intro T' B' pc
    refine hN _ _ ?_; clear hN N
    refine seq_op (fun N hN => ?_); (try dsimp only [dAsg, dOp, dVar, nth, dC, dB, dIfS, dIf, dOr, dAnd, dNot, dAndV, dOrV, dNotV, dNil, dCons, dTup, dLst, dLstM, dCall, dFn, gNm, pus, dNext, dRet, dRetN, dDrop, dPar, dAug, dSl, dNo, dPt, dNeg, dMt, dStr, dChain, DL.isNon, br_T, br_F, s1R, splitPR, splitR, joinR, startsR, endsR, catM, catL, gSubM, appendR, popR, dRevS, dFmt, dJoin, dJs, gTp_1, gTp_2, gTp_3, gTp_4, gTp_5, gTp_6, gTp_7, gTp_8, gsCons, gsNil, dFor_eq, dLcK_eq, dRng1, dRng2, dItL, dItS, dZip, dEnum, dEnumS, wipeD, dYes, eqR_i, neR_i, eqR_s, neR_s, eqR_b, neR_b, eqR_n, neR_n, itemR_t, itemR_l, itemR_r, itemR_p, itemR_s, addR_i, addR_b, addR_s, addR_l, addR_t, mulR_i, dI_i, dI0_i, isR_n, isR_b, lenR_t, listR_t, tupleR_t, sliceR_t, lenR_l, listR_l, tupleR_l, sliceR_l, lenR_r, listR_r, tupleR_r, sliceR_r, lenR_s, lenR_p, listR_p, tupleR_p, sliceR_p, sliceR_s, absR_i, max2R_i, min2R_i, intR_i, intR_b, strR_i, strR_s, mulSR_s, mulLR_l, inCR, dMethN, dXf, isXR, clsOs, clsO, dDrop, dMt, appendR, List.cons_append, List.nil_append, List.append_nil])
    refine ⟨sz2, sz2, sz2, sz2, sz4, ?_⟩
    have rows : ∀ z ∈ ([.tup [.tup [.int T, .int B], .tup [.int T', .int B']], .tup [.tup [.int T', .int B'], .tup [.int T, .int B]], .tup [.tup [.int T, .int B], .tup [.int T, .int B]], .tup [.tup [.int T, .int B], .tup [.int T', .int B']]] : List Dt), RowP z := DL.all2 ⟨_, _, _, _, rfl, pb, pc⟩ (DL.all2 ⟨_, _, _, _, rfl, pc, pb⟩ (DL.all2 ⟨_, _, _, _, rfl, pb, pb⟩ (DL.all2 ⟨_, _, _, _, rfl, pb, pc⟩ all0)))
    refine for_i (fun j r w' => ∃ x6 x7 x8, r = [some (.rl (ns.map Dt.int)), some (.int i), some (.ptr W), some (.bl (decide (way = 1))), some (.tup [.int T, .int B]), some (.tup [.int T', .int B']), x6, x7, x8]) ⟨_, _, _, rfl⟩ ?_ (fun _ _ _ => trivial) ?_
    · rintro j r w6 e N2 hj ⟨x6, x7, x8, rfl⟩ hN2
      obtain ⟨T5, B5, T6, B6, rfl, p5, p6⟩ := rows e (List.mem_of_getElem? hj)
      refine ⟨trivial, ?_⟩
      (try dsimp only [dAsg, dOp, dVar, nth, dC, dB, dIfS, dIf, dOr, dAnd, dNot, dAndV, dOrV, dNotV, dNil, dCons, dTup, dLst, dLstM, dCall, dFn, gNm, pus, dNext, dRet, dRetN, dDrop, dPar, dAug, dSl, dNo, dPt, dNeg, dMt, dStr, dChain, DL.isNon, br_T, br_F, s1R, splitPR, splitR, joinR, startsR, endsR, catM, catL, gSubM, appendR, popR, dRevS, dFmt, dJoin, dJs, gTp_1, gTp_2, gTp_3, gTp_4, gTp_5, gTp_6, gTp_7, gTp_8, gsCons, gsNil, dFor_eq, dLcK_eq, dRng1, dRng2, dItL, dItS, dZip, dEnum, dEnumS, wipeD, dYes, eqR_i, neR_i, eqR_s, neR_s, eqR_b, neR_b, eqR_n, neR_n, itemR_t, itemR_l, itemR_r, itemR_p, itemR_s, addR_i, addR_b, addR_s, addR_l, addR_t, mulR_i, dI_i, dI0_i, isR_n, isR_b, lenR_t, listR_t, tupleR_t, sliceR_t, lenR_l, listR_l, tupleR_l, sliceR_l, lenR_r, listR_r, tupleR_r, sliceR_r, lenR_s, lenR_p, listR_p, tupleR_p, sliceR_p, sliceR_s, absR_i, max2R_i, min2R_i, intR_i, intR_b, strR_i, strR_s, mulSR_s, mulLR_l, inCR, dMethN, dXf, isXR, clsOs, clsO, dDrop, dMt, appendR, List.cons_append, List.nil_append, List.append_nil])
      exact ⟨_, _, _, _, rfl, p5, p6, br_f rfl (hN2 _ _ ⟨_, _, _, rfl⟩)⟩
    · rintro r w6 ⟨x6, x7, x8, rfl⟩
      refine hN _ _ ?_; clear hN N
      refine seq_op (fun N hN => ?_); (try dsimp only [dAsg, dOp, dVar, nth, dC, dB, dIfS, dIf, dOr, dAnd, dNot, dAndV, dOrV, dNotV, dNil, dCons, dTup, dLst, dLstM, dCall, dFn, gNm, pus, dNext, dRet, dRetN, dDrop, dPar, dAug, dSl, dNo, dPt, dNeg, dMt, dStr, dChain, DL.isNon, br_T, br_F, s1R, splitPR, splitR, joinR, startsR, endsR, catM, catL, gSubM, appendR, popR, dRevS, dFmt, dJoin, dJs, gTp_1, gTp_2, gTp_3, gTp_4, gTp_5, gTp_6, gTp_7, gTp_8, gsCons, gsNil, dFor_eq, dLcK_eq, dRng1, dRng2, dItL, dItS, dZip, dEnum, dEnumS, wipeD, dYes, eqR_i, neR_i, eqR_s, neR_s, eqR_b, neR_b, eqR_n, neR_n, itemR_t, itemR_l, itemR_r, itemR_p, itemR_s, addR_i, addR_b, addR_s, addR_l, addR_t, mulR_i, dI_i, dI0_i, isR_n, isR_b, lenR_t, listR_t, tupleR_t, sliceR_t, lenR_l, listR_l, tupleR_l, sliceR_l, lenR_r, listR_r, tupleR_r, sliceR_r, lenR_s, lenR_p, listR_p, tupleR_p, sliceR_p, sliceR_s, absR_i, max2R_i, min2R_i, intR_i, intR_b, strR_i, strR_s, mulSR_s, mulLR_l, inCR, dMethN, dXf, isXR, clsOs, clsO, dDrop, dMt, appendR, List.cons_append, List.nil_append, List.append_nil])
      have sq : SzR 130 (Rat.divInt T B) := szr_divInt (pb.2.1.mono (by decide)) (pb.2.2.mono (by decide)) pb.1
      refine ⟨_, at0, _, at1, T, B, rfl, pb.1, pb.2.2.mono (by decide), _, at0, ?_⟩
      refine hN _ _ ?_; clear hN N
      (try dsimp only [dAsg, dOp, dVar, nth, dC, dB, dIfS, dIf, dOr, dAnd, dNot, dAndV, dOrV, dNotV, dNil, dCons, dTup, dLst, dLstM, dCall, dFn, gNm, pus, dNext, dRet, dRetN, dDrop, dPar, dAug, dSl, dNo, dPt, dNeg, dMt, dStr, dChain, DL.isNon, br_T, br_F, s1R, splitPR, splitR, joinR, startsR, endsR, catM, catL, gSubM, appendR, popR, dRevS, dFmt, dJoin, dJs, gTp_1, gTp_2, gTp_3, gTp_4, gTp_5, gTp_6, gTp_7, gTp_8, gsCons, gsNil, dFor_eq, dLcK_eq, dRng1, dRng2, dItL, dItS, dZip, dEnum, dEnumS, wipeD, dYes, eqR_i, neR_i, eqR_s, neR_s, eqR_b, neR_b, eqR_n, neR_n, itemR_t, itemR_l, itemR_r, itemR_p, itemR_s, addR_i, addR_b, addR_s, addR_l, addR_t, mulR_i, dI_i, dI0_i, isR_n, isR_b, lenR_t, listR_t, tupleR_t, sliceR_t, lenR_l, listR_l, tupleR_l, sliceR_l, lenR_r, listR_r, tupleR_r, sliceR_r, lenR_s, lenR_p, listR_p, tupleR_p, sliceR_p, sliceR_s, absR_i, max2R_i, min2R_i, intR_i, intR_b, strR_i, strR_s, mulSR_s, mulLR_l, inCR, dMethN, dXf, isXR, clsOs, clsO, dDrop, dMt, appendR, List.cons_append, List.nil_append, List.append_nil])
      refine ⟨_, at0, _, at1, T, B, rfl, pb.1, pb.2.1.mono (by decide), pb.2.2.mono (by decide), ?_⟩
      generalize hq : Rat.divInt T B = q at *
      refine ⟨q, _, rfl, sq.mono (by decide), sq.1.mono (by decide), ?_⟩
      obtain ⟨t, rp⟩ := ng_rp sq
      refine rp _ _ ⟨sz2, sz2, sz2, rp _ _ ?_⟩
      refine br_f (by show (!decide (t = t)) = false; rw [decide_eq_true rfl]; rfl) ?_
      exact hN1 _ _ ⟨_, _, _, _, _, _, _, _, rfl⟩
  · rintro r w' ⟨x1, x2, x3, x4, x5, x6, x7, x8, rfl⟩
    refine hN _ _ ?_; clear hN N
    (try dsimp only [dAsg, dOp, dVar, nth, dC, dB, dIfS, dIf, dOr, dAnd, dNot, dAndV, dOrV, dNotV, dNil, dCons, dTup, dLst, dLstM, dCall, dFn, gNm, pus, dNext, dRet, dRetN, dDrop, dPar, dAug, dSl, dNo, dPt, dNeg, dMt, dStr, dChain, DL.isNon, br_T, br_F, s1R, splitPR, splitR, joinR, startsR, endsR, catM, catL, gSubM, appendR, popR, dRevS, dFmt, dJoin, dJs, gTp_1, gTp_2, gTp_3, gTp_4, gTp_5, gTp_6, gTp_7, gTp_8, gsCons, gsNil, dFor_eq, dLcK_eq, dRng1, dRng2, dItL, dItS, dZip, dEnum, dEnumS, wipeD, dYes, eqR_i, neR_i, eqR_s, neR_s, eqR_b, neR_b, eqR_n, neR_n, itemR_t, itemR_l, itemR_r, itemR_p, itemR_s, addR_i, addR_b, addR_s, addR_l, addR_t, mulR_i, dI_i, dI0_i, isR_n, isR_b, lenR_t, listR_t, tupleR_t, sliceR_t, lenR_l, listR_l, tupleR_l, sliceR_l, lenR_r, listR_r, tupleR_r, sliceR_r, lenR_s, lenR_p, listR_p, tupleR_p, sliceR_p, sliceR_s, absR_i, max2R_i, min2R_i, intR_i, intR_b, strR_i, strR_s, mulSR_s, mulLR_l, inCR, dMethN, dXf, isXR, clsOs, clsO, dDrop, dMt, appendR, List.cons_append, List.nil_append, List.append_nil])
    have e0 : Rat.divInt 0 1 = 0 := Rat.zero_divInt 1
    have sq : SzR 130 (Rat.divInt 0 1) := szr_divInt (n := 130) sz_zero (by unfold Sz; decide) (by decide)
    have n0 : (Rat.divInt 0 1).num = 0 := by rw [e0]; rfl
    obtain ⟨t, rp⟩ := ng_rp sq
    refine ⟨0, 1, rfl, by decide, sz_zero, (show Sz 2 (1 : Int) by unfold Sz; decide).mono (by decide), ?_⟩
    refine ⟨_, 0, rfl, sq.mono (by decide), sz_zero, ?_⟩
    rw [n0] at rp
    have eg : ngD (Rat.divInt 0 1) 0 = [.tup [.int 0, .bl true], .tup [.int 0, .bl true]] := by unfold ngD; rw [n0]
    rw [eg]
    refine rp _ _ ⟨sz2, sz2, sz2, rp _ _ ?_⟩
    show Q (.bl (decide (t = t))) w'
    rw [decide_eq_true rfl]
    exact h _
end
end LW
namespace LW
open PySem PySem.Spec PyProof.Rows L2 DL
theorem fx_of {K : PySem.W.Frag} {h : Heap} {mg : Str → Option Value} {w : World} (X : K.In h) (Gn : h.Ns mainGlobals mg) (c : SaysY ex fa fn ts w K) : Fx K mg w := by
  have e0 : ex K = true := c.x.ex
  unfold ex at e0
  obtain ⟨e0, x10⟩ := He.ba e0
  obtain ⟨e0, x9⟩ := He.ba e0
  obtain ⟨e0, x8⟩ := He.ba e0
  obtain ⟨e0, x7⟩ := He.ba e0
  obtain ⟨e0, x6⟩ := He.ba e0
  obtain ⟨e0, x5⟩ := He.ba e0
  obtain ⟨e0, x4⟩ := He.ba e0
  obtain ⟨e0, x3⟩ := He.ba e0
  obtain ⟨e0, x2⟩ := He.ba e0
  obtain ⟨e0, x1⟩ := He.ba e0
  obtain ⟨e0, x0⟩ := He.ba e0
  exact ⟨(He.glo_ok X Gn (c.x.d.fact 0 rfl)), (He.glo_ok X Gn (c.x.d.fact 1 rfl)), (He.glo_ok X Gn (c.x.d.fact 2 rfl)), (He.glo_ok X Gn (c.x.d.fact 3 rfl)), (He.glo_ok X Gn (c.x.d.fact 4 rfl)), (He.glo_ok X Gn (c.x.d.fact 5 rfl)), (He.glo_ok X Gn (c.x.d.fact 6 rfl)), (He.glo_ok X Gn (c.x.d.fact 7 rfl)), (He.glo_ok X Gn (c.x.d.fact 8 rfl)), (He.glo_ok X Gn (c.x.d.fact 9 rfl)), (He.glo_ok X Gn (c.x.d.fact 10 rfl)), (He.glo_ok X Gn (c.x.d.fact 11 rfl)), (He.glo_ok X Gn (c.x.d.fact 12 rfl)), (He.glo_ok X Gn (c.x.d.fact 13 rfl)), (He.glo_ok X Gn (c.x.d.fact 14 rfl)), (He.free_ok X Gn (c.x.d.fact 15 rfl)), (He.free_ok X Gn (c.x.d.fact 16 rfl)), (He.free_ok X Gn (c.x.d.fact 17 rfl)), (He.free_ok X Gn (c.x.d.fact 18 rfl)), (He.free_ok X Gn (c.x.d.fact 19 rfl)), (He.free_ok X Gn (c.x.d.fact 20 rfl)), (He.free_ok X Gn (c.x.d.fact 21 rfl)), (He.free_ok X Gn (c.x.d.fact 22 rfl)), (He.free_ok X Gn (c.x.d.fact 23 rfl)), (He.free_ok X Gn (c.x.d.fact 24 rfl)), (He.free_ok X Gn (c.x.d.fact 25 rfl)), (He.free_ok X Gn (c.x.d.fact 26 rfl)), (He.cls_ok (c.x.d.fact 27 rfl)), (He.noat_ok (c.x.d.fact 28 rfl)), (He.noat_ok (c.x.d.fact 29 rfl)), (He.mkr_ok (c.x.d.fact 30 rfl)), (He.meth_ok (c.x.d.fact 31 rfl)), (He.meth_ok (c.x.d.fact 32 rfl)), (He.meth_ok (c.x.d.fact 33 rfl)), (He.meth_ok (c.x.d.fact 34 rfl)), (He.meth_ok (c.x.d.fact 35 rfl)), (He.meth_ok (c.x.d.fact 36 rfl)), (He.meth_ok (c.x.d.fact 37 rfl)), (num_of x0), (isi_of x1), (isi_of x2), (xk_of x3), (xk_of x4), (xk_of x5), (xk_of x6), (isg_of x7), (beq_some x8), (beq_some x9), (beq_some x10), (c.x.d.def_ 0 rfl), (c.x.d.def_ 1 rfl), (c.x.d.def_ 2 rfl), (c.x.d.def_ 3 rfl), (c.x.d.def_ 4 rfl), (c.x.d.def_ 5 rfl), (c.x.d.def_ 6 rfl), (c.x.d.def_ 7 rfl), (c.x.d.def_ 8 rfl), (c.x.d.def_ 9 rfl), (c.x.d.def_ 10 rfl), (c.x.d.def_ 11 rfl), (c.x.d.def_ 12 rfl), (c.x.d.def_ 13 rfl), (c.x.d.def_ 14 rfl), (c.x.d.def_ 15 rfl), (c.x.d.def_ 16 rfl), (c.x.d.def_ 17 rfl), (c.x.d.def_ 18 rfl), (c.x.d.def_ 19 rfl), (c.x.d.def_ 20 rfl), (c.x.d.def_ 21 rfl)⟩
theorem facts {K : PySem.W.Frag} {h : Heap} {mg : Str → Option Value} {w : World} {f : Addr} (X : K.In h) (Gn : h.Ns mainGlobals mg) (hf : mg ("law" : Str) = some (.ref f)) (c : SaysY ex fa fn ts w K) :
    ∃ (fd : FuncData) (sp : DSp), (∀ (s : Shared) (u : Value), BindsTo s fd ⟨[u], []⟩ [("_law_script", u)]) ∧ LawSp 63 sp ∧ ∀ base : Heap, K.In base → base.Ns mainGlobals mg → FnG PR w K mg base 104 f fd ["_law_script"] (lift K sp) := by
  have G := fx_of X Gn c
  obtain ⟨fd, F⟩ := G.d_law
  have e := hf.symm.trans G.g_law
  cases e
  have b := FunD.bindsA (ps := ["_law_script"]) F fun _ _ _ _ _ _ us hl => match us, hl with | [_], _ => rfl
  exact ⟨fd, sp_law, fun s v => b s [v] rfl, law_sp, fun base _ _ => ok_law G F⟩
end LW
open PySem PySem.W PySem.Calls PyProof.Rows
theorem PySem.Challenge.cw_figuretexts_k02_numbers_reckoned_holds : PySem.Challenge.rw_figuretexts_k02_numbers_reckoned.Holds := by
  w_on; o_law
  refine HandSHeadRun.head_any (r := OpenLaw.row PySem.Challenge.rw_figuretexts_k02_numbers_reckoned) (q := view (OpenLaw.row PySem.Challenge.rw_figuretexts_k02_numbers_reckoned).prog [17]) (H := LW.hk) (ob := LW.ob) (M := 20000) (loose := LW.names) (d := HandSHeadRun.topDef (OpenLaw.row PySem.Challenge.rw_figuretexts_k02_numbers_reckoned).prog 17) (kwd := []) LW.ob_eq
    (by kernel_rfl) (fun s => by kernel_rfl) LW.run (by kernel_rfl) (by kernel_rfl) (by kernel_rfl) (by rfl) (by first | assumption | decide +kernel) (by decide +kernel) ⟨rfl, rfl, rfl, rfl, rfl, by decide +kernel⟩ ?hw ?hc
  case hw => w_witness2
  case hc =>
    refine DL.walk_law (l := PySem.Challenge.rw_figuretexts_k02_numbers_reckoned) (n := 63) (k := 104) (x := "_law_script") rfl (by decide) (by kernel_rfl) ⟨rfl, by decide, by decide⟩ ?F
    intro w mg fa h Y Gn hmg0
    obtain ⟨K, KX, c⟩ := Y
    have hmg : mg ("law" : PySem.Str) = some (.ref fa) := by
      have e : (HandSHeadRun.topDef (OpenLaw.row PySem.Challenge.rw_figuretexts_k02_numbers_reckoned).prog 17).name = ("law" : PySem.Str) := by kernel_rfl
      rw [← e]
      exact hmg0
    obtain ⟨fd, sp, hb, g, hF⟩ := LW.facts KX Gn hmg c
    exact ⟨K, fd, sp, KX, hb, g, hF⟩
