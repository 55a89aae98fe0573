import PyProof.Rows.All
import Wide.All
import OpenK.AllK
import Wide.FinOn
import HandS.ForMost
import HandS.ForExc
import HandS.Wide
import HandS.Defaults
import HandS.CallSlots
import HandS.HeadHook1
import HandS.TupAny
import HandS.Style
import HandS.ExcOwn
import HandS.IsInst
import HandS.Text
import HandS.HeadHook2
import HandS.Head2
import HandS.EndBits
import HandS.OwnEq
import HandS.FStr
import HandS.Comp
import HandS.MakeKwOnly
import HandS.HeadHook3
import HandS.More
import HandS.TupLe
import HandS.Dict
import HandS.WordsDict
import PyProof.ReprNest
import PyProof.ReprRoads
import PyProof.ReprLen
import HandS.RaiseMore
import HandS.WideMore
import KE.KUnpackStar
import HandS.Conv
import KE.GoesEnumKw
import HandS.Zip
import HandS.SetFor
import HandS.SortKw
import HandS.SortRule
import KE.KCallOwn
import PyProof.LongRange
import PyProof.ListRange
import HandS.StrMore
import HandS.StrSplit
import HandS.Replace
import HandS.Codes
import HandS.ExcInit
import HandS.ExcInitHot
import HandS.SuiteRaise
import HandS.RaiseFrom
import PyProof.ExcBaseAll.Exception
import PyProof.ExcBaseAll.ArithmeticError
import PyProof.InstStoreFacts
import KE.KExcInit
import HandS.ExcField
import HandS.ExcIs
import PyProof.SliceStr2
import PyProof.Draws
import PyProof.EnumMake
import HandS.SetBool
import HandS.SetKeys
import HandS.DictComp
import HandS.Small
import HandS.ListItems
import KE.KMinBuiltin
import PyProof.Rows.ReprOcc
import PyProof.DictUpdate
import PyProof.EqKinds
import PySem.Challenge.RW_figuretexts_k01_numbers_equal_and_shown
set_option Elab.async false
set_option linter.all false
set_option maxRecDepth 100000
set_option maxHeartbeats 4000000
section
set_option Elab.async false
set_option linter.all false
set_option maxRecDepth 100000
set_option maxHeartbeats 4000000
namespace DL
open PySem PySem.Spec PyProof.Rows L2
def cN (K : PySem.W.Frag) : Addr := He.ga K "Number"
end DL
namespace DL
open PySem PySem.Spec PyProof.Rows L2
section
open He
def obsX (ex : PySem.W.Frag → Bool) (fa : List Fa) (fn : List DefD) (K : PySem.W.Frag) : AlD := (ex K && (obsD fa fn K).1, (obsD fa fn K).2)
structure SaysX (ex : PySem.W.Frag → Bool) (fa : List Fa) (fn : List DefD) (K : PySem.W.Frag) : Prop where
  ex : ex K = true
  d : SaysD fa fn K
theorem says_x {ex : PySem.W.Frag → Bool} {fa : List Fa} {fn : List DefD} {K : PySem.W.Frag} (h : obsX ex fa fn K = valD fn) : SaysX ex fa fn K := by
  have h1 : (ex K && (obsD fa fn K).1) = true := congrArg (fun z : AlD => z.1) h
  have h2 : (obsD fa fn K).2 = fn.map DefD.val := congrArg (fun z : AlD => z.2) h
  obtain ⟨a, b⟩ := ba h1
  exact ⟨a, Prod.ext b h2⟩
variable {P : Program} {w : World} {K : PySem.W.Frag} {mg : Str → Option Value} {base : Heap} {x m qual : Str} {params : Arguments} {body : List Stmt} {scope : Scope} {fd : FuncData} {ps : List Str} {k : Nat} {sp : DSp} {f C : Addr} {dvs : List V} {kws : List (Str × V)}
end
end DL
namespace DL
open PySem PySem.Spec PyProof.Rows L2
def kinds : List String := ["NoneType", "bool", "int", "str", "list", "tuple"]
def isiB (K : PySem.W.Frag) (u : Value) (l : List String) (num : Bool) : Bool := (kinds.all fun n => PySem.W.kitOne K (.type n) u == some (l.contains n)) && PySem.W.kitOne K (.ref (cN K)) u == some num
def numB (K : PySem.W.Frag) : Bool := (He.Fa.cls "Number").ok K && (He.eqO (PySem.W.findIn K (.ref (cN K)) "__class__") (some (some (.builtin "object.__class__"))) && (He.eqO (PySem.W.specialIn K (.builtin "object.__class__") "__get__") (some (some (.builtin "getset_descriptor.__get__"))) &&
  (PySem.W.takesIn K (.builtin "object.__class__") == some true && PySem.W.mroIn K (cN K) (.type "object") == some true)))
end DL
namespace DL
open PySem PySem.Spec PyProof.Rows L2 He
def obsY (ex : PySem.W.Frag → Bool) (fa : List Fa) (fn : List DefD) (ts : List Tab) (K : PySem.W.Frag) : AlT := (obsX ex fa fn K, ts.map fun t => dicW (K) (t.1 K))
structure SaysY (ex : PySem.W.Frag → Bool) (fa : List Fa) (fn : List DefD) (ts : List Tab) (w : World) (K : PySem.W.Frag) : Prop where
  x : SaysX ex fa fn K
  t : ∀ t ∈ ts, ∃ es n, KDict K w (t.1 K) es n
theorem says_y {ex : PySem.W.Frag → Bool} {fa : List Fa} {fn : List DefD} {ts : List Tab} {w : World} {K : PySem.W.Frag} (h : obsY ex fa fn ts K = valT fn ts w) : SaysY ex fa fn ts w K := by
  have h1 : obsX ex fa fn K = valD fn := congrArg (fun z : AlT => z.1) h
  have h2 : ts.map (fun t => dicW K (t.1 K)) = ts.map fun t => some (keysIn w.params t.2) := congrArg (fun z : AlT => z.2) h
  refine ⟨says_x h1, fun t ht => ?_⟩
  exact dicW_ok (List.map_inj_left.mp h2 t ht)
end DL
namespace DL
open PySem PySem.Spec PyProof.Rows L2
def neB (K : PySem.W.Frag) : Bool := He.eqO (PySem.W.findIn K (.ref (cN K)) "__ne__") (some (some (.builtin "object.__ne__"))) && PySem.W.mroIn K (cN K) (.type "object") == some true
end DL
namespace DL
open PySem PySem.Spec PyProof.Rows L2 TL
def insB (K : PySem.W.Frag) (c : Str) : Bool := (He.Fa.cls c).ok K && (He.eqO (PySem.W.findIn K (.ref (He.ga K c)) "__class__") (some (some (.builtin "object.__class__"))) && (He.eqO (PySem.W.specialIn K (.builtin "object.__class__") "__get__") (some (some (.builtin "getset_descriptor.__get__"))) &&
  (PySem.W.takesIn K (.builtin "object.__class__") == some true && PySem.W.mroIn K (He.ga K c) (.type "object") == some true)))
def isGB (K : PySem.W.Frag) (u : Value) (l : List String) (own : List (Str × Bool)) : Bool := (("dict" :: kinds).all fun n => PySem.W.kitOne K (.type n) u == some (l.contains n)) && own.all fun c => PySem.W.kitOne K (.ref (He.ga K c.1)) u == some c.2 && insB K c.1
end DL
namespace DL
open PySem PySem.Spec PyProof.Rows L2 He
def refsAt (g : Addr → Option Obj) (as : List Addr) : List Addr := (as.flatMap fun a => match g a with
  | some o => refsD o
  | none => []).eraseDups
def isCl (o : Obj) : Bool := match o.cls with
  | .type t => t == "type"
  | _ => false
def clsAt (g : Addr → Option Obj) (as : List Addr) : List Addr := as.filter fun a => match g a with
  | some o => isCl o
  | none => false
def asZ (g : Addr → Option Obj) : List Addr :=
  let a1 := asD g 1
  let a2 := growD g a1
  let c2 := refsAt g (clsAt g a1)
  let c3 := refsAt g c2
  let c4 := refsAt g c3
  (a2 ++ c3 ++ c4 ++ refsAt g c4).eraseDups
def obsZG (ex : PySem.W.Frag → Bool) (fa : List Fa) (fn : List DefD) (ts : List Tab) (g : Addr → Option Obj) : AlT := obsY ex fa fn ts (frG g (asZ g))
def hookZ (ex : PySem.W.Frag → Bool) (fa : List Fa) (fn : List DefD) (ts : List Tab) : PySem.W.Hook where
  α := AlT
  obs := fun s => obsZG ex fa fn ts s.heap.get?
  val := fun w => valT fn ts w
  says := fun w h => ∃ K : PySem.W.Frag, K.In h ∧ SaysY ex fa fn ts w K
  of := fun _ _ e => ⟨_, frG_in, says_y e⟩
  keeps := fun _ _ _ ⟨K, hK, c⟩ k => ⟨K, PySem.W.Frag.In.keeps hK k, c⟩
theorem obsZG_eq {ex : PySem.W.Frag → Bool} {fa : List Fa} {fn : List DefD} {ts : List Tab} {g : Addr → Option Obj} {s : Shared} (h : ∀ a, g a = s.heap.get? a) : obsZG ex fa fn ts g = (hookZ ex fa fn ts).obs s := by
  have e : g = s.heap.get? := funext h
  rw [e] <;> rfl
end DL
namespace DL
open PySem PySem.Spec PyProof.Rows L2 TL
def neCB (K : PySem.W.Frag) (C : Addr) : Bool := He.eqO (PySem.W.findIn K (.ref C) "__ne__") (some (some (.builtin "object.__ne__"))) && PySem.W.mroIn K C (.type "object") == some true
end DL
namespace DL
open PySem PySem.Spec PyProof.Rows L2 TL
def KIN7 : List String := ["NoneType", "bool", "int", "str", "tuple", "list", "dict"]
def eqKB (K : PySem.W.Frag) (C : Addr) (cs : List Str) : Bool := (KIN7.all fun T => PySem.W.subIn K (.type T) (.ref C) == some false) && ((KIN7.all fun T => PySem.W.subIn K (.ref C) (.type T) == some false) && ((cs.all fun c => PySem.W.notFirst K C (.ref (He.ga K c))) && neCB K C))
end DL
namespace DL
open PySem PySem.Spec PyProof.Rows L2
def fmtKB (K : PySem.W.Frag) : Bool := He.eqO (PySem.W.findIn K (.ref (cN K)) "__format__") (some (some (.builtin "object.__format__"))) && PySem.W.mroIn K (cN K) (.type "object") == some true
end DL
namespace LW
open PySem PySem.Spec PyProof.Rows L2 DL TL
abbrev PR : Program := PySem.Challenge.pw_figuretexts_k01_numbers_equal_and_shown
def topS (i : Nat) : Stmt := PR.main.body.getD i (.Pass ⟨0, 0, 0, 0⟩)
abbrev st_divisor_of : Stmt := topS 4
def d_divisor_of : He.DefD := ⟨("divisor_of", none), "divisor_of", "divisor_of", defArgs st_divisor_of, defBody st_divisor_of, defScope st_divisor_of, [], []⟩
abbrev st_N___init__ : Stmt := inClass (topS 5) 0
def d_N___init__ : He.DefD := ⟨("Number", some "__init__"), "__init__", "Number.__init__", defArgs st_N___init__, defBody st_N___init__, defScope st_N___init__, [.int 1], []⟩
abbrev st_N___eq__ : Stmt := inClass (topS 5) 1
def d_N___eq__ : He.DefD := ⟨("Number", some "__eq__"), "__eq__", "Number.__eq__", defArgs st_N___eq__, defBody st_N___eq__, defScope st_N___eq__, [], []⟩
abbrev st_N___str__ : Stmt := inClass (topS 5) 2
def d_N___str__ : He.DefD := ⟨("Number", some "__str__"), "__str__", "Number.__str__", defArgs st_N___str__, defBody st_N___str__, defScope st_N___str__, [], []⟩
abbrev st_N___repr__ : Stmt := inClass (topS 5) 3
def d_N___repr__ : He.DefD := ⟨("Number", some "__repr__"), "__repr__", "Number.__repr__", defArgs st_N___repr__, defBody st_N___repr__, defScope st_N___repr__, [], []⟩
abbrev st__law_well : Stmt := topS 7
def d__law_well : He.DefD := ⟨("_law_well", none), "_law_well", "_law_well", defArgs st__law_well, defBody st__law_well, defScope st__law_well, [], []⟩
abbrev st__law_take : Stmt := topS 8
def d__law_take : He.DefD := ⟨("_law_take", none), "_law_take", "_law_take", defArgs st__law_take, defBody st__law_take, defScope st__law_take, [], []⟩
abbrev st__law_ten : Stmt := topS 9
def d__law_ten : He.DefD := ⟨("_law_ten", none), "_law_ten", "_law_ten", defArgs st__law_ten, defBody st__law_ten, defScope st__law_ten, [], []⟩
abbrev st__law_pair : Stmt := topS 10
def d__law_pair : He.DefD := ⟨("_law_pair", none), "_law_pair", "_law_pair", defArgs st__law_pair, defBody st__law_pair, defScope st__law_pair, [], []⟩
abbrev st__law_lowest : Stmt := topS 11
def d__law_lowest : He.DefD := ⟨("_law_lowest", none), "_law_lowest", "_law_lowest", defArgs st__law_lowest, defBody st__law_lowest, defScope st__law_lowest, [], []⟩
abbrev st__law_shown_right : Stmt := topS 12
def d__law_shown_right : He.DefD := ⟨("_law_shown_right", none), "_law_shown_right", "_law_shown_right", defArgs st__law_shown_right, defBody st__law_shown_right, defScope st__law_shown_right, [], []⟩
abbrev st__law_equal_right : Stmt := topS 13
def d__law_equal_right : He.DefD := ⟨("_law_equal_right", none), "_law_equal_right", "_law_equal_right", defArgs st__law_equal_right, defBody st__law_equal_right, defScope st__law_equal_right, [], []⟩
abbrev st__law_unlike_right : Stmt := topS 14
def d__law_unlike_right : He.DefD := ⟨("_law_unlike_right", none), "_law_unlike_right", "_law_unlike_right", defArgs st__law_unlike_right, defBody st__law_unlike_right, defScope st__law_unlike_right, [], []⟩
abbrev st_law : Stmt := topS 15
def d_law : He.DefD := ⟨("law", none), "law", "law", defArgs st_law, defBody st_law, defScope st_law, [], []⟩
end LW
namespace LW
open PySem PySem.Spec PyProof.Rows L2 DL TL
def fn : List He.DefD := [d_divisor_of, d_N___init__, d_N___eq__, d_N___str__, d_N___repr__, d__law_well, d__law_take, d__law_ten, d__law_pair, d__law_lowest, d__law_shown_right, d__law_equal_right, d__law_unlike_right, d_law]
def fa : List He.Fa := [.glo "Number", .glo "_law_equal_right", .glo "_law_lowest", .glo "_law_pair", .glo "_law_shown_right", .glo "_law_take", .glo "_law_ten", .glo "_law_unlike_right", .glo "_law_well", .glo "divisor_of", .glo "law", .free "abs", .free "int", .free "isinstance", .free "len", .free "list", .free "max", .free "min", .free "range", .free "repr", .free "str", .cls "Number", .noat "Number" "top", .noat "Number" "bottom", .mkr "Number", .meth "Number" "__eq__", .meth "Number" "__str__", .meth "Number" "__repr__"]
def ex (K : PySem.W.Frag) : Bool := true && (numB K) && (isiB K (.ref (cN K)) [] true) && (isiB K (.type "str") ["str"] false) && (neB K) && (isGB K (.ref (He.ga K "Number")) [] [("Number", true)]) && (eqKB K (cN K) []) && (fmtKB K)
end LW
namespace LW
open PySem PySem.Spec PyProof.Rows L2 DL
def ts : List He.Tab := []
abbrev R : PySem.W.OpenRow := PySem.W.OpenLaw.row PySem.Challenge.rw_figuretexts_k01_numbers_equal_and_shown
abbrev hk : PySem.W.Hook := hookZ ex fa fn ts
def ob (s : PySem.W.SharedT) : He.AlT := obsZG ex fa fn ts (HandSHeadRun.getT s)
theorem ob_eq (s : PySem.W.SharedT) : ob s = hk.obs s.abs := obsZG_eq (HandSHeadRun.getT_eq s)
def names : List Str := (["_wall", "NoBottom", "divisor_of", "Number", "_law_well", "_law_take", "_law_ten", "_law_pair", "_law_lowest", "_law_shown_right", "_law_equal_right", "_law_unlike_right"] : List Str)
theorem runA (w : World) : HandSHeadRun.RunEq R (PySem.W.view R.prog [15]) hk ob 20000 names (w.withFollow "special-get-raises" false) := fun os => by kernel_rfl
theorem runB (w : World) : HandSHeadRun.RunEq R (PySem.W.view R.prog [15]) hk ob 20000 names (w.withFollow "special-get-raises" true) := fun os => by kernel_rfl
theorem run (w : World) : HandSHeadRun.RunEq R (PySem.W.view R.prog [15]) hk ob 20000 names w :=
  PySem.W.byRow2 "special-get-raises" (P := fun w => HandSHeadRun.RunEq R (PySem.W.view R.prog [15]) hk ob 20000 names w) runA runB w
end LW
open PySem PySem.W PySem.Calls PyProof.Rows
end
set_option Elab.async false
set_option linter.all false
set_option maxRecDepth 100000
set_option maxHeartbeats 4000000
namespace DL
open PySem PySem.Spec PyProof.Rows L2
inductive Dt where
  | non | bl (b : Bool) | int (i : Int) | str (x : Str) | ty (n : String) | ptr (a : Addr)
  | tup (xs : List Dt) | lst (xs : List Dt) | rl (xs : List Dt) | num (q : Rat) | ins (C : Addr) (fs : List (Str × Dt)) | dct (kvs : List (Str × Dt))
inductive MO where
  | lst (xs : List Dt) | ins (C : Addr) (fs : List (Str × Dt)) | dct (kvs : List (Str × Dt)) | raw (φ : Heap → Prop) | dki (ks : List Key) (ds : List Dt) | dcz (o : Obj) (gs : List (Str × V)) (fs : List (Str × Dt))
abbrev Om := Addr → Option MO
abbrev Rho := List (Option Dt)
def put (w : Om) (a : Addr) (m : MO) : Om := fun b => if b = a then some m else w b
def cut (w : Om) (a : Addr) : Om := fun b => if b = a then none else w b
theorem put_same {w : Om} {a : Addr} {m : MO} : put w a m a = some m := if_pos rfl
theorem put_ne {w : Om} {a b : Addr} {m : MO} (h : b ≠ a) : put w a m b = w b := if_neg h
theorem put_put {w : Om} {a : Addr} {m n : MO} : put (put w a m) a n = put w a n := by
  funext b; unfold put; split <;> rfl
theorem cut_same {w : Om} {a : Addr} : cut w a a = none := if_pos rfl
theorem cut_ne {w : Om} {a b : Addr} (h : b ≠ a) : cut w a b = w b := if_neg h
theorem cut_put {w : Om} {a : Addr} {m : MO} (h : w a = none) : cut (put w a m) a = w := by
  funext b; unfold cut put; split
  · rename_i e; rw [e, h]
  · rfl
theorem om_ne {w : Om} {a b : Addr} {m : MO} (h : w a = some m) (g : w b = none) : a ≠ b := fun e => by
  rw [e, g] at h; cases h
def hm (H : Hp) (w : Om) : Hp := fun a => match w a with
  | some _ => none
  | none => H a
theorem hm_no {H : Hp} {w : Om} {a : Addr} (h : w a = none) : hm H w a = H a := by unfold hm; rw [h]
theorem hm_yes {H : Hp} {w : Om} {a : Addr} {m : MO} (h : w a = some m) : hm H w a = none := by unfold hm; rw [h]
theorem hm_some {H : Hp} {w : Om} {a : Addr} {o : HO} (h : hm H w a = some o) : w a = none ∧ H a = some o := by
  unfold hm at h
  cases e : w a with
  | some m => rw [e] at h; cases h
  | none => rw [e] at h; exact ⟨rfl, h⟩
def kyG (gs : List (Str × V)) : List (Key × V) := gs.map fun q => ((Sum.inr q.1 : Key), q.2)
section
variable (K : PySem.W.Frag) (H : Hp)
mutual
inductive Rp : Dt → V → Prop
  | non : Rp .non .non
  | bl {b : Bool} : Rp (.bl b) (.bl b)
  | int {i : Int} : Rp (.int i) (.int i)
  | str {x : Str} : Rp (.str x) (.str x)
  | ty {n : String} : Rp (.ty n) (.ty n)
  | ptr {a : Addr} : Rp (.ptr a) (.ref a)
  | tup {a : Addr} {vs : List V} {ds : List Dt} : SqT K H a vs → RpL ds vs → Rp (.tup ds) (.ref a)
  | lst {a : Addr} {vs : List V} {ds : List Dt} : H a = some (.lst vs) → RpL ds vs → Rp (.lst ds) (.ref a)
  | rl {a : Addr} {vs : List V} {ds : List Dt} : SqL K H a vs → RpL ds vs → Rp (.rl ds) (.ref a)
  | num {a dx : Addr} {q : Rat} : H a = some (.ins (cN K) dx [("bottom", .int q.den), ("top", .int q.num)]) → Rp (.num q) (.ref a)
  | ins {a C dx : Addr} {gs : List (Str × V)} {fs : List (Str × Dt)} : H a = some (.ins C dx gs) → RpF fs gs → Rp (.ins C fs) (.ref a)
  | dct {a : Addr} {gs : List (Str × V)} {fs : List (Str × Dt)} : H a = some (.dK (kyG gs)) → RpF fs gs → Rp (.dct fs) (.ref a)
inductive RpL : List Dt → List V → Prop
  | nil : RpL [] []
  | cons {d : Dt} {v : V} {ds : List Dt} {vs : List V} : Rp d v → RpL ds vs → RpL (d :: ds) (v :: vs)
inductive RpF : List (Str × Dt) → List (Str × V) → Prop
  | nil : RpF [] []
  | cons {f : Str} {d : Dt} {v : V} {fs : List (Str × Dt)} {gs : List (Str × V)} : Rp d v → RpF fs gs → RpF ((f, d) :: fs) ((f, v) :: gs)
end
end
theorem same_t {K : PySem.W.Frag} {H H' : Hp} {a : Addr} {xs : List V} (e : Same H H') (h : SqT K H a xs) : SqT K H' a xs := by
  rcases h with (h | ⟨o, h⟩) | h
  · exact .inl (.inl (e _ _ h))
  · exact .inl (.inr ⟨o, e _ _ h⟩)
  · exact .inr h
section
variable {K : PySem.W.Frag} {H H' : Hp}
mutual
theorem Rp.mono (e : Same H H') : ∀ {d : Dt} {v : V}, Rp K H d v → Rp K H' d v
  | _, _, .non => .non
  | _, _, .bl => .bl
  | _, _, .int => .int
  | _, _, .str => .str
  | _, _, .ty => .ty
  | _, _, .ptr => .ptr
  | _, _, .tup h r => .tup (same_t e h) (RpL.mono e r)
  | _, _, .lst h r => .lst (e _ _ h) (RpL.mono e r)
  | _, _, .rl h r => .rl (e.seq h) (RpL.mono e r)
  | _, _, .num h => .num (e _ _ h)
  | _, _, .ins h r => .ins (e _ _ h) (RpF.mono e r)
  | _, _, .dct h r => .dct (e _ _ h) (RpF.mono e r)
theorem RpL.mono (e : Same H H') : ∀ {ds : List Dt} {vs : List V}, RpL K H ds vs → RpL K H' ds vs
  | _, _, .nil => .nil
  | _, _, .cons r t => .cons (Rp.mono e r) (RpL.mono e t)
theorem RpF.mono (e : Same H H') : ∀ {fs : List (Str × Dt)} {gs : List (Str × V)}, RpF K H fs gs → RpF K H' fs gs
  | _, _, .nil => .nil
  | _, _, .cons r t => .cons (Rp.mono e r) (RpF.mono e t)
end
theorem RpL.length : ∀ {ds : List Dt} {vs : List V}, RpL K H ds vs → ds.length = vs.length
  | _, _, .nil => rfl
  | _, _, .cons _ t => congrArg Nat.succ (RpL.length t)
theorem RpL.get : ∀ {ds : List Dt} {vs : List V} {i : Nat} {d : Dt}, RpL K H ds vs → ds[i]? = some d → ∃ v, vs[i]? = some v ∧ Rp K H d v
  | _, _, _, _, .nil, e => by simp at e
  | _, _, 0, _, .cons r _, e => by simp at e; subst e; exact ⟨_, rfl, r⟩
  | _, _, i + 1, d, .cons _ t, e => by
    obtain ⟨v, h1, h2⟩ := RpL.get (i := i) (d := d) t (by simpa using e)
    exact ⟨v, by simpa using h1, h2⟩
theorem RpL.append : ∀ {ds es : List Dt} {vs us : List V}, RpL K H ds vs → RpL K H es us → RpL K H (ds ++ es) (vs ++ us)
  | _, _, _, _, .nil, s => s
  | _, _, _, _, .cons r t, s => .cons r (RpL.append t s)
theorem RpL.take : ∀ {ds : List Dt} {vs : List V} (n : Nat), RpL K H ds vs → RpL K H (ds.take n) (vs.take n)
  | _, _, 0, _ => .nil
  | _, _, _ + 1, .nil => .nil
  | _, _, n + 1, .cons r t => .cons r (RpL.take n t)
theorem RpL.drop : ∀ {ds : List Dt} {vs : List V} (n : Nat), RpL K H ds vs → RpL K H (ds.drop n) (vs.drop n)
  | _, _, 0, r => r
  | _, _, _ + 1, .nil => .nil
  | _, _, n + 1, .cons _ t => RpL.drop n t
theorem RpL.set {d : Dt} {v : V} (r : Rp K H d v) : ∀ {ds : List Dt} {vs : List V} (i : Nat), RpL K H ds vs → RpL K H (ds.set i d) (vs.set i v)
  | _, _, _, .nil => .nil
  | _, _, 0, .cons _ t => .cons r t
  | _, _, i + 1, .cons q t => .cons q (RpL.set r i t)
theorem RpL.ofInts : ∀ (ns : List Int), RpL K H (ns.map Dt.int) (ns.map V.int)
  | [] => .nil
  | n :: ns => .cons .int (RpL.ofInts ns)
theorem RpF.look {f : Str} : ∀ {fs : List (Str × Dt)} {gs : List (Str × V)}, RpF K H fs gs → (fs.lookup f = none ∧ gs.lookup f = none) ∨ ∃ d v, fs.lookup f = some d ∧ gs.lookup f = some v ∧ Rp K H d v
  | _, _, .nil => .inl ⟨rfl, rfl⟩
  | _, _, .cons (f := g) (d := d) (v := v) r t => by
    rw [List.lookup_cons, List.lookup_cons]
    cases e : f == g with
    | true => exact .inr ⟨d, v, rfl, rfl, r⟩
    | false => exact RpF.look t
theorem RpF.length : ∀ {fs : List (Str × Dt)} {gs : List (Str × V)}, RpF K H fs gs → fs.length = gs.length
  | _, _, .nil => rfl
  | _, _, .cons _ t => congrArg Nat.succ (RpF.length t)
end
def putD (f : Str) (d : Dt) : List (Str × Dt) → List (Str × Dt)
  | [] => [(f, d)]
  | (g, x) :: r => if g = f then (g, d) :: r else (g, x) :: putD f d r
inductive MoR (K : PySem.W.Frag) (H : Hp) : MO → HO → Prop
  | lst {ds : List Dt} {vs : List V} : RpL K H ds vs → MoR K H (.lst ds) (.lst vs)
  | ins {C dx : Addr} {fs : List (Str × Dt)} {gs : List (Str × V)} : RpF K H fs gs → MoR K H (.ins C fs) (.ins C dx gs)
  | dct {fs : List (Str × Dt)} {gs : List (Str × V)} : RpF K H fs gs → MoR K H (.dct fs) (.dK (kyG gs))
  | raw {φ : Heap → Prop} : MoR K H (.raw φ) (.ext φ)
  | dki {ks : List Key} {ds : List Dt} {vs : List V} : RpL K H ds vs → ks.length = ds.length → MoR K H (.dki ks ds) (.dK (ks.zip vs))
  | dcz {o : Obj} {gs : List (Str × V)} {fs : List (Str × Dt)} : RpF K H fs gs → MoR K H (.dcz o gs fs) (.frz o (.dK (kyG gs)))
theorem MoR.mono {K : PySem.W.Frag} {H H' : Hp} (e : Same H H') {m : MO} {o : HO} (h : MoR K H m o) : MoR K H' m o := by
  cases h with
  | lst r => exact .lst (r.mono e)
  | ins r => exact .ins (r.mono e)
  | dct r => exact .dct (r.mono e)
  | raw => exact .raw
  | dki r h => exact .dki (r.mono e) h
  | dcz r => exact .dcz (r.mono e)
def OmOk (K : PySem.W.Frag) (w : Om) (H : Hp) : Prop := ∀ a m, w a = some m → ∃ o, H a = some o ∧ MoR K (hm H w) m o
theorem OmOk.fresh {K : PySem.W.Frag} {w : Om} {H : Hp} (k : OmOk K w H) {p : Addr} (h : H p = none) : w p = none := by
  cases e : w p with
  | none => rfl
  | some m =>
    obtain ⟨o, q, _⟩ := k p m e
    rw [h] at q; cases q
inductive EnvR (K : PySem.W.Frag) (H : Hp) : Rho → L2.St → Prop
  | nil : EnvR K H [] []
  | no {x : Option V} {r : Rho} {s : L2.St} : EnvR K H r s → EnvR K H (none :: r) (x :: s)
  | yes {d : Dt} {v : V} {r : Rho} {s : L2.St} : Rp K H d v → EnvR K H r s → EnvR K H (some d :: r) (some v :: s)
def nth : Rho → Nat → Option Dt
  | [], _ => none
  | x :: _, 0 => x
  | _ :: r, n + 1 => nth r n
def pus : Rho → Nat → Option Dt → Rho
  | [], _, _ => []
  | _ :: r, 0, d => d :: r
  | x :: r, n + 1, d => x :: pus r n d
section
variable {K : PySem.W.Frag} {H H' : Hp}
theorem EnvR.mono (e : Same H H') : ∀ {r : Rho} {s : L2.St}, EnvR K H r s → EnvR K H' r s
  | _, _, .nil => .nil
  | _, _, .no t => .no (EnvR.mono e t)
  | _, _, .yes q t => .yes (q.mono e) (EnvR.mono e t)
theorem EnvR.get : ∀ {r : Rho} {s : L2.St} {i : Nat} {d : Dt}, EnvR K H r s → nth r i = some d → ∃ v, s[i]? = some (some v) ∧ Rp K H d v
  | _, _, _, _, .nil, e => by cases e
  | _, _, 0, _, .no _, e => by cases e
  | _, _, 0, _, .yes q _, e => by cases e; exact ⟨_, rfl, q⟩
  | _, _, i + 1, d, .no t, e => by
    obtain ⟨v, h1, h2⟩ := EnvR.get (i := i) (d := d) t e
    exact ⟨v, by simpa using h1, h2⟩
  | _, _, i + 1, d, .yes _ t, e => by
    obtain ⟨v, h1, h2⟩ := EnvR.get (i := i) (d := d) t e
    exact ⟨v, by simpa using h1, h2⟩
theorem EnvR.put {d : Dt} {v : V} (q : Rp K H d v) : ∀ {r : Rho} {s : L2.St} (i : Nat), EnvR K H r s → EnvR K H (pus r i (some d)) (s.set i (some v))
  | _, _, _, .nil => .nil
  | _, _, 0, .no t => .yes q t
  | _, _, 0, .yes _ t => .yes q t
  | _, _, i + 1, .no t => .no (EnvR.put q i t)
  | _, _, i + 1, .yes p t => .yes p (EnvR.put q i t)
def startD (n : Nat) (ds : List Dt) : Rho := ds.map some ++ List.replicate (n - ds.length) none
theorem EnvR.nones : ∀ (n : Nat), EnvR K H (List.replicate n none) (List.replicate n none)
  | 0 => .nil
  | n + 1 => .no (EnvR.nones n)
theorem EnvR.start {N : List Str} {ds : List Dt} {vs : List V} (r : RpL K H ds vs) : EnvR K H (startD N.length ds) (start N vs) := by
  unfold startD L2.start
  rw [r.length]
  generalize N.length - vs.length = n
  induction ds generalizing vs with
  | nil => cases r; exact EnvR.nones n
  | cons d ds ih =>
    cases r with
    | cons q t => exact .yes q (ih t)
end
end DL
namespace DL
open PySem PySem.Spec PyProof.Rows L2
abbrev DK := Dt → Om → Prop
abbrev DTE := Rho → Om → DK → Prop
abbrev DTT := Rho → Om → (Bool → Om → Prop) → Prop
abbrev DTA := Rho → Om → (List Dt → Om → Prop) → Prop
abbrev DWX := Addr → List (Str × Dt) → Rho → Om → Prop
structure DEnds where
  nx : Rho → Om → Prop
  rt : DK
  bk : Rho → Om → Prop := fun _ _ => False
  ct : Rho → Om → Prop := fun _ _ => False
abbrev DTS := DEnds → Rho → Om → Prop
structure Dx where
  X : Cx
  W : WX
  Wd : DWX
  I : Om → Hp → Prop
structure Aft (K : PySem.W.Frag) (w : Om) (H : Hp) (w' : Om) (H' : Hp) : Prop where
  same : Same (hm H w) (hm H' w')
  om : OmOk K w' H'
theorem Aft.trans {K : PySem.W.Frag} {w w1 w2 : Om} {H H1 H2 : Hp} (a : Aft K w H w1 H1) (b : Aft K w1 H1 w2 H2) : Aft K w H w2 H2 := ⟨a.same.trans b.same, b.om⟩
theorem Aft.refl {K : PySem.W.Frag} {w : Om} {H : Hp} (o : OmOk K w H) : Aft K w H w H := ⟨Same.refl _, o⟩
def Xw (Z : Dx) (w : Om) (H : Hp) : Prop := (∀ (C dx : Addr) (gs : List (Str × V)) (fs : List (Str × Dt)) (r : Rho) (s : L2.St) (H' : Hp) (w' : Om),
  H' dx = some (.xd gs) → RpF Z.X.K (hm H' w') fs gs → EnvR Z.X.K (hm H' w') r s → Aft Z.X.K w H w' H' → Z.Wd C fs r w' → Z.W (.ref C) (some dx) s H') ∧
  ∀ (H' : Hp) (w' : Om), Aft Z.X.K w H w' H' → Z.I w' H'
theorem Xw.next {Z : Dx} {w w' : Om} {H H' : Hp} (x : Xw Z w H) (a : Aft Z.X.K w H w' H') : Xw Z w' H' :=
  ⟨fun C dx gs fs r s H2 w2 h1 h2 h3 h4 h5 => x.1 C dx gs fs r s H2 w2 h1 h2 h3 (a.trans h4) h5, fun H2 w2 h => x.2 H2 w2 (a.trans h)⟩
structure Sok (Z : Dx) (r : Rho) (w : Om) (s : L2.St) (H : Hp) : Prop where
  env : EnvR Z.X.K (hm H w) r s
  om : OmOk Z.X.K w H
  xw : Xw Z w H
theorem Sok.next {Z : Dx} {r : Rho} {w w' : Om} {s : L2.St} {H H' : Hp} (S : Sok Z r w s H) (a : Aft Z.X.K w H w' H') : Sok Z r w' s H' :=
  ⟨S.env.mono a.same, a.om, S.xw.next a⟩
def LkE (Z : Dx) (tL : TE) (t : DTE) : Prop := ∀ (r : Rho) (w : Om) (s : L2.St) (H : Hp) (Q : DK) (QL : VK), Sok Z r w s H → t r w Q →
  (∀ v d H' w', Aft Z.X.K w H w' H' → Rp Z.X.K (hm H' w') d v → Q d w' → QL v H') → tL s H QL
def LkT (Z : Dx) (tL : TT) (t : DTT) : Prop := ∀ (r : Rho) (w : Om) (s : L2.St) (H : Hp) (Q : Bool → Om → Prop) (QL : Bool → Hp → Prop), Sok Z r w s H → t r w Q →
  (∀ b H' w', Aft Z.X.K w H w' H' → Q b w' → QL b H') → tL s H QL
def LkA (Z : Dx) (tL : TA) (t : DTA) : Prop := ∀ (r : Rho) (w : Om) (s : L2.St) (H : Hp) (Q : List Dt → Om → Prop) (QL : List V → Hp → Prop), Sok Z r w s H → t r w Q →
  (∀ vs ds H' w', Aft Z.X.K w H w' H' → RpL Z.X.K (hm H' w') ds vs → Q ds w' → QL vs H') → tL s H QL
structure DE (Z : Dx) (e : Expr) (t : DTE) : Prop where
  ex : ∃ tL, PE Z.X e tL ∧ LkE Z tL t
structure DT (Z : Dx) (e : Expr) (t : DTT) : Prop where
  ex : ∃ tL, PT Z.X e tL ∧ LkT Z tL t
structure DWt (Z : Dx) (e : Expr) (t : DTT) : Prop where
  ex : ∃ tL, PW Z.X e tL ∧ LkT Z tL t
structure DA (Z : Dx) (es : List Expr) (t : DTA) : Prop where
  ex : ∃ tL, PA Z.X es tL ∧ LkA Z tL t
abbrev DR2 := Dt → Dt → Om → DK → Prop
def LkR (Z : Dx) (rL : R2) (rd : DR2) : Prop := ∀ (dx dy : Dt) (x y : V) (w : Om) (H : Hp) (Q : DK) (QL : VK), OmOk Z.X.K w H → Rp Z.X.K (hm H w) dx x → Rp Z.X.K (hm H w) dy y → rd dx dy w Q →
  (∀ v d H' w', Aft Z.X.K w H w' H' → Rp Z.X.K (hm H' w') d v → Q d w' → QL v H') → rL x y H QL
structure DOp (Z : Dx) (f : Value → Value → Sem Value) (rd : DR2) : Prop where
  ex : ∃ rL, OpR Z.X f rL ∧ LkR Z rL rd
def dVar (i : Nat) : DTE := fun r w Q => match nth r i with
  | some d => Q d w
  | none => False
def dC (d : Dt) : DTE := fun _ w Q => Q d w
def dOp (rd : DR2) (ta tb : DTE) : DTE := fun r w Q => ta r w fun x w1 => tb r w1 fun y w2 => rd x y w2 Q
def br (b : Bool) (A B : Prop) : Prop := match b with
  | true => A
  | false => B
theorem br_of {b : Bool} {A B : Prop} (h : b = true → A) (h' : b = false → B) : br b A B := by
  cases b with
  | true => exact h rfl
  | false => exact h' rfl
theorem br_t {b : Bool} {A B : Prop} (e : b = true) (h : A) : br b A B := by subst e; exact h
theorem br_f {b : Bool} {A B : Prop} (e : b = false) (h : B) : br b A B := by subst e; exact h
theorem br_dec {p : Prop} [Decidable p] {A B : Prop} (h : p → A) (h' : ¬ p → B) : br (decide p) A B := br_of (fun e => h (of_decide_eq_true e)) fun e => h' (of_decide_eq_false e)
theorem ite_br {b : Bool} {A B A' B' : Prop} (h : br b A B) (ha : A → A') (hb : B → B') : if b = true then A' else B' := by
  cases b with
  | true => exact ha h
  | false => exact hb h
def dIf (t : DTT) (ta tb : DTE) : DTE := fun r w Q => t r w fun b w1 => br b (ta r w1 Q) (tb r w1 Q)
def dB (t : DTE) : DTT := fun r w Q => t r w fun x w1 => match x with
  | .bl c => Q c w1
  | _ => False
def dAnd (t u : DTT) : DTT := fun r w Q => t r w fun c w1 => br c (u r w1 Q) (Q false w1)
def dOr (t u : DTT) : DTT := fun r w Q => t r w fun c w1 => br c (Q true w1) (u r w1 Q)
def dNot (t : DTT) : DTT := fun r w Q => t r w fun c w1 => Q (!c) w1
def dAndV (ta tb : DTE) : DTE := fun r w Q => ta r w fun x w1 => match x with
  | .bl c => br c (tb r w1 Q) (Q (.bl false) w1)
  | _ => False
def dOrV (ta tb : DTE) : DTE := fun r w Q => ta r w fun x w1 => match x with
  | .bl c => br c (Q (.bl true) w1) (tb r w1 Q)
  | _ => False
def dNotV (ta : DTE) : DTE := fun r w Q => ta r w fun x w1 => match x with
  | .bl c => Q (.bl (!c)) w1
  | _ => False
def dNil : DTA := fun _ w Q => Q [] w
def dCons (ta : DTE) (tr : DTA) : DTA := fun r w Q => ta r w fun x w1 => tr r w1 fun xs w2 => Q (x :: xs) w2
def dTup (ta : DTA) : DTE := fun r w Q => ta r w fun xs w1 => xs.length ≤ sizeLine ∧ Q (.tup xs) w1
def dLst (ta : DTA) : DTE := fun r w Q => ta r w fun xs w1 => xs.length ≤ sizeLine ∧ Q (.lst xs) w1
def dLstM (ta : DTA) : DTE := fun r w Q => ta r w fun xs w1 => xs.length ≤ sizeLine ∧ ∀ p, w1 p = none → Q (.ptr p) (put w1 p (.lst xs))
section
variable {Z : Dx} {e a b c : Expr} {ta tb te : DTE} {t u : DTT} {pos : Pos}
theorem de_var (i : Nat) {x : Str} (hN : Z.X.N[i]? = some x := by rfl) (hv : Vis Z.X.env.scope x := by first | exact Or.inl rfl | exact Or.inr (Or.inl rfl) | exact Or.inr (Or.inr rfl)) (hd : (x == ("__debug__" : Str)) = false := by decide)
    (hcd : (x == ("__classdict__" : Str)) = false := by decide) : DE Z (.Name x pos) (dVar i) := by
  refine ⟨_, pe_var hN hv hd hcd, fun r w s H Q QL S h k => ?_⟩
  unfold dVar at h
  cases e : nth r i with
  | none => rw [e] at h; exact h.elim
  | some d =>
    rw [e] at h
    obtain ⟨v, h1, h2⟩ := S.env.get e
    exact ⟨v, h1, k v d H w (Aft.refl S.om) h2 h⟩
theorem de_c {d : Dt} {v : V} {e : Expr} (h : PE Z.X e (tC v)) (r : ∀ K H, Rp K H d v) : DE Z e (dC d) :=
  ⟨_, h, fun ρ w s H Q QL S h k => k v d H w (Aft.refl S.om) (r _ _) h⟩
theorem de_int {i : Int} {j : Nat} : DE Z (.Constant (.int i) j pos) (dC (.int i)) := de_c pe_int fun _ _ => .int
theorem de_bl {i : Bool} {j : Nat} : DE Z (.Constant (.bool i) j pos) (dC (.bl i)) := de_c pe_bl fun _ _ => .bl
theorem de_non {j : Nat} : DE Z (.Constant .none j pos) (dC .non) := de_c pe_non fun _ _ => .non
theorem de_str {x : Str} {j : Nat} : DE Z (.Constant (.str x) j pos) (dC (.str x)) := de_c pe_str fun _ _ => .str
theorem de_gref {x : Str} {p : Addr} (hm : Z.X.mg x = some (.ref p)) (hg : Gl Z.X x := by rfl) (hd : (x == ("__debug__" : Str)) = false := by decide) : DE Z (.Name x pos) (dC (.ptr p)) :=
  de_c (pe_glob (v := .ref p) hg hm rfl hd) fun _ _ => .ptr
theorem lk_op {rL : R2} {rd : DR2} {tLa tLb : TE} (lo : LkR Z rL rd) (la : LkE Z tLa ta) (lb : LkE Z tLb tb) : LkE Z (tOp rL tLa tLb) (dOp rd ta tb) := fun r w s H Q QL S h k => by
  refine la r w s H _ _ S h fun v d H1 w1 A1 r1 q1 => ?_
  refine lb r w1 s H1 _ _ (S.next A1) q1 fun v2 d2 H2 w2 A2 r2 q2 => ?_
  exact lo d d2 v v2 w2 H2 Q QL A2.om (r1.mono A2.same) r2 q2 fun v3 d3 H3 w3 A3 r3 q3 => k v3 d3 H3 w3 (A1.trans (A2.trans A3)) r3 q3
theorem de_op {op : Operator} {rd : DR2} (ho : DOp Z (binaryOp op) rd) (ha : DE Z a ta) (hb : DE Z b tb) : DE Z (.BinOp a op b pos) (dOp rd ta tb) := by
  obtain ⟨rL, oL, lo⟩ := ho.ex
  obtain ⟨tLa, pa, la⟩ := ha.ex
  obtain ⟨tLb, pb, lb⟩ := hb.ex
  exact ⟨_, pe_op oL pa pb, lk_op lo la lb⟩
theorem de_cmp {op : CmpOp} {rd : DR2} (ho : DOp Z (compareOp op) rd) (ha : DE Z a ta) (hb : DE Z b tb) (hmk : behindInMarks op b = false := by first | exact nomark _ | rfl | with_unfolding_all rfl) : DE Z (.Compare a [op] [b] pos) (dOp rd ta tb) := by
  obtain ⟨rL, oL, lo⟩ := ho.ex
  obtain ⟨tLa, pa, la⟩ := ha.ex
  obtain ⟨tLb, pb, lb⟩ := hb.ex
  exact ⟨_, pe_cmpR oL pa pb hmk, lk_op lo la lb⟩
theorem lk_B {tL : TE} (l : LkE Z tL te) : LkT Z (tB tL) (dB te) := fun r w s H Q QL S h k => by
  refine l r w s H _ _ S h fun v d H1 w1 A1 r1 q1 => ?_
  cases r1 with
  | bl => exact ⟨_, rfl, k _ H1 w1 A1 q1⟩
  | _ => exact (show False from q1).elim
theorem lk_Test {tL : TE} (l : LkE Z tL te) : LkT Z (tTest tL) (dB te) := lk_B l
theorem dt_cmp {op : CmpOp} {rd : DR2} (ho : DOp Z (compareOp op) rd) (ha : DE Z a ta) (hb : DE Z b tb) (hmk : behindInMarks op b = false := by first | exact nomark _ | rfl | with_unfolding_all rfl) : DT Z (.Compare a [op] [b] pos) (dB (dOp rd ta tb)) := by
  obtain ⟨rL, oL, lo⟩ := ho.ex
  obtain ⟨tLa, pa, la⟩ := ha.ex
  obtain ⟨tLb, pb, lb⟩ := hb.ex
  exact ⟨_, pt_cmpR oL pa pb hmk, lk_Test (lk_op lo la lb)⟩
theorem dt_val (h : DE Z e te) (he : ∀ whole, isTrue e Z.X.env whole = (do let v ← whole; standAt e.pos; holding [v] (truthy v)) := by intro _; rfl) : DT Z e (dB te) := by
  obtain ⟨tL, p, l⟩ := h.ex
  exact ⟨_, pt_val p he, lk_B l⟩
theorem DWt.dt (h : DWt Z e t) : DT Z e t := let ⟨tL, p, l⟩ := h.ex; ⟨_, p.pt, l⟩
theorem lk_or {tL uL : TT} (l : LkT Z tL t) (l' : LkT Z uL u) : LkT Z (tOr tL uL) (dOr t u) := fun r w s H Q QL S h k => by
  refine l r w s H _ _ S h fun c H1 w1 A1 q1 => ?_
  exact ite_br q1 (fun q => k true H1 w1 A1 q) fun q => l' r w1 s H1 Q QL (S.next A1) q fun c2 H2 w2 A2 q2 => k c2 H2 w2 (A1.trans A2) q2
theorem dw_or1 (ha : DT Z a t) : DWt Z (.BoolOp .Or [a] pos) t := let ⟨_, p, l⟩ := ha.ex; ⟨_, pw_or1 p, l⟩
theorem dw_or {rest : List Expr} (ha : DT Z a t) (hb : DWt Z (.BoolOp .Or (b :: rest) pos) u) : DWt Z (.BoolOp .Or (a :: b :: rest) pos) (dOr t u) :=
  let ⟨_, p, l⟩ := ha.ex; let ⟨_, q, l'⟩ := hb.ex; ⟨_, pw_or p q, lk_or l l'⟩
theorem dt_not (ha : DT Z a t) : DT Z (.UnaryOp .Not a pos) (dNot t) :=
  let ⟨_, p, l⟩ := ha.ex; ⟨_, pt_not p, fun r w s H Q QL S h k => l r w s H _ _ S h fun c H1 w1 A1 q1 => k (!c) H1 w1 A1 q1⟩
theorem de_one {op : BoolOp} (h : DE Z a ta) : DE Z (.BoolOp op [a] pos) ta := let ⟨_, p, l⟩ := h.ex; ⟨_, pe_one p, l⟩
theorem de_and {rest : List Expr} (ha : DE Z a ta) (hb : DE Z (.BoolOp .And (b :: rest) pos) tb) : DE Z (.BoolOp .And (a :: b :: rest) pos) (dAndV ta tb) := by
  obtain ⟨_, p, l⟩ := ha.ex
  obtain ⟨_, q, l'⟩ := hb.ex
  refine ⟨_, pe_and p q, fun r w s H Q QL S h k => ?_⟩
  refine l r w s H _ _ S h fun v d H1 w1 A1 r1 q1 => ?_
  cases r1 with
  | bl => exact ⟨_, rfl, ite_br q1 (fun q => l' r w1 s H1 Q QL (S.next A1) q fun v2 d2 H2 w2 A2 r2 q2 => k v2 d2 H2 w2 (A1.trans A2) r2 q2) fun q => k _ _ H1 w1 A1 .bl q⟩
  | _ => exact (show False from q1).elim
theorem de_not (ha : DE Z a ta) : DE Z (.UnaryOp .Not a pos) (dNotV ta) := by
  obtain ⟨_, p, l⟩ := ha.ex
  refine ⟨_, pe_not p, fun r w s H Q QL S h k => ?_⟩
  refine l r w s H _ _ S h fun v d H1 w1 A1 r1 q1 => ?_
  cases r1 with
  | bl => exact ⟨_, rfl, k _ _ H1 w1 A1 .bl q1⟩
  | _ => exact (show False from q1).elim
theorem de_if (hc : DT Z c t) (ha : DE Z a ta) (hb : DE Z b tb) : DE Z (.IfExp c a b pos) (dIf t ta tb) := by
  obtain ⟨_, p, l⟩ := hc.ex
  obtain ⟨_, pa, la⟩ := ha.ex
  obtain ⟨_, pb, lb⟩ := hb.ex
  refine ⟨_, pe_ifExp p pa pb, fun r w s H Q QL S h k => ?_⟩
  refine l r w s H _ _ S h fun d H1 w1 A1 q1 => ?_
  exact ite_br q1 (fun q => la r w1 s H1 Q QL (S.next A1) q fun v2 d2 H2 w2 A2 r2 q2 => k v2 d2 H2 w2 (A1.trans A2) r2 q2)
    fun q => lb r w1 s H1 Q QL (S.next A1) q fun v2 d2 H2 w2 A2 r2 q2 => k v2 d2 H2 w2 (A1.trans A2) r2 q2
theorem da_nil : DA Z [] dNil := ⟨_, pa_nil, fun r w s H Q QL S h k => k [] [] H w (Aft.refl S.om) .nil h⟩
theorem da_cons {es : List Expr} {tr : DTA} (ha : DE Z e te) (hr : DA Z es tr) (hs : starEach (e :: es) Z.X.env = (false, eval e Z.X.env) :: starEach es Z.X.env := by rfl) : DA Z (e :: es) (dCons te tr) := by
  obtain ⟨_, p, l⟩ := ha.ex
  obtain ⟨_, q, l'⟩ := hr.ex
  refine ⟨_, pa_cons p q hs, fun r w s H Q QL S h k => ?_⟩
  refine l r w s H _ _ S h fun v d H1 w1 A1 r1 q1 => ?_
  exact l' r w1 s H1 _ _ (S.next A1) q1 fun vs ds H2 w2 A2 r2 q2 => k (v :: vs) (d :: ds) H2 w2 (A1.trans A2) (.cons (r1.mono A2.same) r2) q2
theorem Aft.new {K : PySem.W.Frag} {w : Om} {H : Hp} {p : Addr} {o : HO} (ok : OmOk K w H) (hp : H p = none) : Aft K w H w (upd H p o) := by
  have wp : w p = none := ok.fresh hp
  have sm : Same (hm H w) (hm (upd H p o) w) := fun b u hb => by
    obtain ⟨h1, h2⟩ := hm_some hb
    rw [hm_no h1, upd_ne (ne_of_none h2 hp)]
    exact h2
  refine ⟨sm, fun b m hb => ?_⟩
  obtain ⟨u, h1, h2⟩ := ok b m hb
  exact ⟨u, by rw [upd_ne (ne_of_none h1 hp)]; exact h1, h2.mono sm⟩
theorem Aft.newM {K : PySem.W.Frag} {w : Om} {H : Hp} {p : Addr} {o : HO} {m : MO} (ok : OmOk K w H) (hp : H p = none) (r : MoR K (hm H w) m o) : Aft K w H (put w p m) (upd H p o) := by
  have wp : w p = none := ok.fresh hp
  have sm : Same (hm H w) (hm (upd H p o) (put w p m)) := fun b u hb => by
    obtain ⟨h1, h2⟩ := hm_some hb
    have nb := ne_of_none h2 hp
    rw [hm_no (by rw [put_ne nb]; exact h1), upd_ne nb]
    exact h2
  refine ⟨sm, fun b n hb => ?_⟩
  by_cases e : b = p
  · subst e
    rw [put_same] at hb
    cases hb
    exact ⟨o, upd_same, r.mono sm⟩
  · rw [put_ne e] at hb
    obtain ⟨u, h1, h2⟩ := ok b n hb
    exact ⟨u, by rw [upd_ne e]; exact h1, h2.mono sm⟩
theorem Aft.chg {K : PySem.W.Frag} {w : Om} {H : Hp} {p : Addr} {o : HO} {m n : MO} (ok : OmOk K w H) (hp : w p = some n) (r : MoR K (hm H w) m o) : Aft K w H (put w p m) (upd H p o) := by
  have e0 : hm (upd H p o) (put w p m) = hm H w := by
    funext b
    by_cases e : b = p
    · subst e; rw [hm_yes put_same, hm_yes hp]
    · unfold hm; rw [put_ne e, upd_ne e]
  refine ⟨by rw [e0]; exact Same.refl _, fun b k hb => ?_⟩
  rw [e0]
  by_cases e : b = p
  · subst e
    rw [put_same] at hb
    cases hb
    exact ⟨o, upd_same, r⟩
  · rw [put_ne e] at hb
    obtain ⟨u, h1, h2⟩ := ok b k hb
    exact ⟨u, by rw [upd_ne e]; exact h1, h2⟩
theorem de_tup {es : List Expr} {t : DTA} {x1 : Nat} (h : DA Z es t) : DE Z (.Tuple es x1 pos) (dTup t) := by
  obtain ⟨_, p, l⟩ := h.ex
  refine ⟨_, pe_tup p, fun r w s H Q QL S h k => ?_⟩
  refine l r w s H _ _ S h fun vs ds H1 w1 A1 r1 q1 => ⟨by rw [← r1.length]; exact q1.1, fun p hp => ?_⟩
  have A2 := Aft.new (p := p) (o := .tup vs) A1.om hp
  refine k _ (.tup ds) _ w1 (A1.trans A2) (.tup (.inl (.inl ?_)) (r1.mono A2.same)) q1.2
  rw [hm_no (A1.om.fresh hp), upd_same]
theorem de_lst {es : List Expr} {t : DTA} (h : DA Z es t) : DE Z (.List es pos) (dLst t) := by
  obtain ⟨_, p, l⟩ := h.ex
  refine ⟨_, pe_lst p, fun r w s H Q QL S h k => ?_⟩
  refine l r w s H _ _ S h fun vs ds H1 w1 A1 r1 q1 => ⟨by rw [← r1.length]; exact q1.1, fun p hp => ?_⟩
  have A2 := Aft.new (p := p) (o := .lst vs) A1.om hp
  refine k _ (.lst ds) _ w1 (A1.trans A2) (.lst ?_ (r1.mono A2.same)) q1.2
  rw [hm_no (A1.om.fresh hp), upd_same]
theorem de_lstM {es : List Expr} {t : DTA} (h : DA Z es t) : DE Z (.List es pos) (dLstM t) := by
  obtain ⟨_, p, l⟩ := h.ex
  refine ⟨_, pe_lst p, fun r w s H Q QL S h k => ?_⟩
  refine l r w s H _ _ S h fun vs ds H1 w1 A1 r1 q1 => ⟨by rw [← r1.length]; exact q1.1, fun p hp => ?_⟩
  exact k _ (.ptr p) _ _ (A1.trans (Aft.newM A1.om hp (.lst r1))) .ptr (q1.2 p (A1.om.fresh hp))
end
end DL
namespace DL
open PySem PySem.Spec PyProof.Rows L2
def MulC (i j : Int) : Prop := CMulW i j ∨ CMul i j
theorem MulC.ok {i j : Int} (h : MulC i j) : IntMulOk i j := h.elim CMulW.ok CMul.ok
def DivN (j : Int) : Prop := j ≠ 0 ∧ j.natAbs.log2 < 9000
def DivP (j : Int) : Prop := 0 < j ∧ j.natAbs.log2 < 9000
section
variable {X : Cx}
theorem op_mulC : OpR X (binaryOp .Mult) (rI MulC fun i j => .int (i * j)) := opI fun _ _ _ _ _ _ _ hc q => mul_int q hc.ok
theorem op_fdivZ : OpR X (binaryOp .FloorDiv) (rI (fun _ j => DivN j) fun i j => .int (i.fdiv j)) := opI fun i j _ _ _ _ _ hc q => floordiv_int hc.1 q (.inl (PyProof.noPylong_of_log2 hc.2))
theorem op_fdivP : OpR X (binaryOp .FloorDiv) (rI (fun _ j => DivP j) fun i j => .int (i / j)) := opI fun i j _ _ _ _ _ hc q => by
  have h1 : (0 : Int) < j := hc.1
  exact floordiv_int (by omega) (by rw [Int.fdiv_eq_ediv_of_nonneg i (by omega)]; exact q) (.inl (PyProof.noPylong_of_log2 hc.2))
end
def dI (C : Int → Int → Prop) (g : Int → Int → Dt) : DR2 := fun x y w Q => match x, y with
  | .int i, .int j => C i j ∧ Q (g i j) w
  | _, _ => False
def dI0 (g : Int → Int → Dt) : DR2 := fun x y w Q => match x, y with
  | .int i, .int j => Q (g i j) w
  | _, _ => False
section
variable {Z : Dx}
theorem lkI {C : Int → Int → Prop} {g : Int → Int → V} {gd : Int → Int → Dt} (hg : ∀ K H i j, Rp K H (gd i j) (g i j)) : LkR Z (rI C g) (dI C gd) := fun dx dy x y w H Q QL ok rx ry h k => by
  cases rx with
  | int => cases ry with
    | int => exact ⟨_, _, rfl, rfl, h.1, k _ _ H w (Aft.refl ok) (hg _ _ _ _) h.2⟩
    | _ => exact (show False from h).elim
  | _ => exact (show False from h).elim
theorem lkI0 {g : Int → Int → V} {gd : Int → Int → Dt} (hg : ∀ K H i j, Rp K H (gd i j) (g i j)) : LkR Z (rI0 g) (dI0 gd) := fun dx dy x y w H Q QL ok rx ry h k => by
  cases rx with
  | int => cases ry with
    | int => exact ⟨_, _, rfl, rfl, k _ _ H w (Aft.refl ok) (hg _ _ _ _) h⟩
    | _ => exact (show False from h).elim
  | _ => exact (show False from h).elim
theorem o_sub : DOp Z (binaryOp .Sub) (dI0 fun i j => .int (i - j)) := ⟨_, op_sub, lkI0 fun _ _ _ _ => .int⟩
theorem o_fdiv : DOp Z (binaryOp .FloorDiv) (dI (fun _ j => DivP j) fun i j => .int (i / j)) := ⟨_, op_fdivP, lkI fun _ _ _ _ => .int⟩
theorem o_fdivN : DOp Z (binaryOp .FloorDiv) (dI (fun _ j => DivN j) fun i j => .int (i.fdiv j)) := ⟨_, op_fdivZ, lkI fun _ _ _ _ => .int⟩
theorem o_mod : DOp Z (binaryOp .Mod) (dI (fun _ j => 0 < j) fun i j => .int (i % j)) := ⟨_, op_mod, lkI fun _ _ _ _ => .int⟩
theorem o_pow : DOp Z (binaryOp .Pow) (dI CPow fun i j => .int (i ^ j.toNat)) := ⟨_, op_pow, lkI fun _ _ _ _ => .int⟩
theorem o_lt : DOp Z (compareOp .Lt) (dI0 fun i j => .bl (decide (i < j))) := ⟨_, op_lt, lkI0 fun _ _ _ _ => .bl⟩
theorem o_gt : DOp Z (compareOp .Gt) (dI0 fun i j => .bl (decide (j < i))) := ⟨_, op_gt, lkI0 fun _ _ _ _ => .bl⟩
theorem o_ge : DOp Z (compareOp .GtE) (dI0 fun i j => .bl (decide (j ≤ i))) := ⟨_, op_ge, lkI0 fun _ _ _ _ => .bl⟩
theorem newL {K : PySem.W.Frag} {w : Om} {H : Hp} {p : Addr} {ds : List Dt} {vs : List V} (ok : OmOk K w H) (hp : H p = none) (r : RpL K (hm H w) ds vs) : Aft K w H w (upd H p (.lst vs)) ∧ Rp K (hm (upd H p (.lst vs)) w) (.lst ds) (.ref p) := by
  have A := Aft.new (p := p) (o := .lst vs) ok hp
  exact ⟨A, .lst (by rw [hm_no (ok.fresh hp), upd_same]) (r.mono A.same)⟩
theorem newT {K : PySem.W.Frag} {w : Om} {H : Hp} {p : Addr} {ds : List Dt} {vs : List V} (ok : OmOk K w H) (hp : H p = none) (r : RpL K (hm H w) ds vs) : Aft K w H w (upd H p (.tup vs)) ∧ Rp K (hm (upd H p (.tup vs)) w) (.tup ds) (.ref p) := by
  have A := Aft.new (p := p) (o := .tup vs) ok hp
  exact ⟨A, .tup (.inl (.inl (by rw [hm_no (ok.fresh hp), upd_same]))) (r.mono A.same)⟩
def addR : DR2 := fun x y w Q => match x, y with
  | .int i, .int j => Q (.int (i + j)) w
  | .int i, .bl k => Q (.int (i + b2i k)) w
  | .str a, .str b => a.length + b.length ≤ sizeLine ∧ Q (.str (a ++ b)) w
  | .lst a, .lst b => a.length + b.length ≤ sizeLine ∧ Q (.lst (a ++ b)) w
  | .tup a, .tup b => a.length + b.length ≤ sizeLine ∧ Q (.tup (a ++ b)) w
  | _, _ => False
theorem RpL.nil_iff {K : PySem.W.Frag} {H : Hp} {ds : List Dt} {vs : List V} (r : RpL K H ds vs) : vs = [] ↔ ds = [] := by
  cases r <;> simp
theorem o_add : DOp Z (binaryOp .Add) addR := by
  refine ⟨_, op_add.or (op_add_ib.or (op_add_str.or (op_cat.or op_catA))), fun dx dy x y w H Q QL ok rx ry h k => ?_⟩
  cases rx with
  | int => cases ry with
    | int => exact .inl ⟨_, _, rfl, rfl, k _ _ H w (Aft.refl ok) .int h⟩
    | bl => exact .inr (.inl ⟨_, _, rfl, rfl, k _ _ H w (Aft.refl ok) .int h⟩)
    | _ => exact (show False from h).elim
  | str => cases ry with
    | str => exact .inr (.inr (.inl ⟨_, _, rfl, rfl, h.1, k _ _ H w (Aft.refl ok) .str h.2⟩))
    | _ => exact (show False from h).elim
  | lst hx r => cases ry with
    | lst hy r' =>
      obtain ⟨_, hx'⟩ := hm_some hx
      obtain ⟨_, hy'⟩ := hm_some hy
      refine .inr (.inr (.inr (.inl ⟨_, _, _, _, rfl, rfl, hx', hy', by rw [← r.length, ← r'.length]; exact h.1, fun p hp => ?_⟩)))
      obtain ⟨A, R⟩ := newL ok hp (r.append r')
      exact k _ _ _ w A R h.2
    | _ => exact (show False from h).elim
  | tup hx r => cases ry with
    | tup hy r' =>
      rename_i a vs ds a' vs' ds'
      have up : ∀ {b : Addr} {xs : List V}, SqT Z.X.K (hm H w) b xs → SqT Z.X.K H b xs := fun q => same_t (fun b o e => (hm_some e).2) q
      refine .inr (.inr (.inr (.inr ⟨_, _, _, _, rfl, rfl, up hx, up hy, by rw [← r.length, ← r'.length]; exact h.1, fun e => ?_, fun _ e => ?_, fun _ _ p hp => ?_⟩)))
      · have e' := r.nil_iff.mp e
        subst e'
        exact k _ _ H w (Aft.refl ok) (.tup hy r') h.2
      · have e' := r'.nil_iff.mp e
        subst e'
        have q := h.2
        rw [List.append_nil] at q
        exact k _ _ H w (Aft.refl ok) (.tup hx r) q
      · obtain ⟨A, R⟩ := newT ok hp (r.append r')
        exact k _ _ _ w A R h.2
    | _ => exact (show False from h).elim
  | _ => exact (show False from h).elim
def mulR : DR2 := dI MulC fun i j => .int (i * j)
theorem o_mul : DOp Z (binaryOp .Mult) mulR := ⟨_, op_mulC, lkI fun _ _ _ _ => .int⟩
mutual
def toPy : Dt → Option PyData
  | .non => some .none
  | .bl b => some (.bool b)
  | .int i => some (.int i)
  | .str x => some (.str x)
  | .tup xs => (toPyL xs).map .tuple
  | .lst xs => (toPyL xs).map .list
  | .rl xs => (toPyL xs).map .list
  | .ty _ => none
  | .ptr _ => none
  | .num _ => none
  | .ins _ _ => none
  | .dct _ => none
def toPyL : List Dt → Option (List PyData)
  | [] => some []
  | x :: xs => match toPy x, toPyL xs with
    | some a, some b => some (a :: b)
    | _, _ => none
end
theorem up_t {K : PySem.W.Frag} {H : Hp} {w : Om} {b : Addr} {xs : List V} (q : SqT K (hm H w) b xs) : SqT K H b xs := same_t (fun b o e => (hm_some e).2) q
theorem up_l {K : PySem.W.Frag} {H : Hp} {w : Om} {b : Addr} {xs : List V} (q : SqL K (hm H w) b xs) : SqL K H b xs := Same.seq (H := hm H w) (fun b o e => (hm_some e).2) q
theorem up_same {H : Hp} {w : Om} : Same (hm H w) H := fun b o e => (hm_some e).2
mutual
theorem Rp.dp {K : PySem.W.Frag} {H : Hp} : ∀ {d : Dt} {v : V} {p : PyData}, Rp K H d v → toPy d = some p → Dp K H v p
  | _, _, _, .non, e => by cases e; exact .non
  | _, _, _, .bl, e => by cases e; exact .bl _
  | _, _, _, .int, e => by cases e; exact .int _
  | _, _, _, .str, e => by cases e; exact .str _
  | .tup ds, _, p, .tup h r, e => by
    have e' : (toPyL ds).map PyData.tuple = some p := by rw [toPy.eq_def] at e; exact e
    obtain ⟨l, e1, e2⟩ := Option.map_eq_some_iff.mp e'
    subst e2
    exact .tup h (RpL.dp r e1)
  | .lst ds, _, p, .lst h r, e => by
    have e' : (toPyL ds).map PyData.list = some p := by rw [toPy.eq_def] at e; exact e
    obtain ⟨l, e1, e2⟩ := Option.map_eq_some_iff.mp e'
    subst e2
    exact .lst (SqL.of h) (RpL.dp r e1)
  | .rl ds, _, p, .rl h r, e => by
    have e' : (toPyL ds).map PyData.list = some p := by rw [toPy.eq_def] at e; exact e
    obtain ⟨l, e1, e2⟩ := Option.map_eq_some_iff.mp e'
    subst e2
    exact .lst h (RpL.dp r e1)
  | _, _, _, .ty, e => by rw [toPy.eq_def] at e; cases e
  | _, _, _, .ptr, e => by rw [toPy.eq_def] at e; cases e
  | _, _, _, .num _, e => by rw [toPy.eq_def] at e; cases e
  | _, _, _, .ins _ _, e => by rw [toPy.eq_def] at e; cases e
theorem RpL.dp {K : PySem.W.Frag} {H : Hp} : ∀ {ds : List Dt} {vs : List V} {ps : List PyData}, RpL K H ds vs → toPyL ds = some ps → DpAll K H vs ps
  | _, _, _, .nil, e => by rw [toPyL.eq_def] at e; cases e; exact .nil
  | d :: ds, _, ps, .cons r t, e => by
    rw [toPyL.eq_def] at e
    have e' : (match toPy d, toPyL ds with
      | some a, some b => some (a :: b)
      | _, _ => none) = some ps := e
    cases h1 : toPy d with
    | none => rw [h1] at e'; cases e'
    | some a =>
      cases h2 : toPyL ds with
      | none => rw [h1, h2] at e'; cases e'
      | some b =>
        rw [h1, h2] at e'
        cases e'
        exact .cons (Rp.dp r h1) (RpL.dp t h2)
end
def eqG (f : Bool → Bool) : DR2 := fun x y w Q => ∃ a b, toPy x = some a ∧ toPy y = some b ∧ SeqAt.shaped a = true ∧ SeqAt.shaped b = true ∧ Q (.bl (f (PyData.eqv a b))) w
def eqR : DR2 := fun x y w Q => match x, y with
  | .int i, .int j => Q (.bl (decide (i = j))) w
  | .str i, .str j => Q (.bl (decide (i = j))) w
  | .bl i, .bl j => Q (.bl (decide (i = j))) w
  | .non, .non => Q (.bl true) w
  | x, y => eqG id x y w Q
def neR : DR2 := fun x y w Q => match x, y with
  | .int i, .int j => Q (.bl (!decide (i = j))) w
  | .str i, .str j => Q (.bl (!decide (i = j))) w
  | .bl i, .bl j => Q (.bl (!decide (i = j))) w
  | .non, .non => Q (.bl false) w
  | x, y => eqG not x y w Q
theorem dec_vi {i j : Int} : decide (V.int i = V.int j) = decide (i = j) := by simp
theorem dec_vs {i j : Str} : decide (V.str i = V.str j) = decide (i = j) := by simp
theorem dec_vb {i j : Bool} : decide (V.bl i = V.bl j) = decide (i = j) := by simp
theorem Rp.up {K : PySem.W.Frag} {H : Hp} {w : Om} {d : Dt} {v : V} (r : Rp K (hm H w) d v) : Rp K H d v := r.mono up_same
theorem lk_eqG (Q : DK) (QL : VK) (dx dy : Dt) (x y : V) (w : Om) (H : Hp) (ok : OmOk Z.X.K w H) (rx : Rp Z.X.K (hm H w) dx x) (ry : Rp Z.X.K (hm H w) dy y) (h : eqG id dx dy w Q)
    (k : ∀ v d H' w', Aft Z.X.K w H w' H' → Rp Z.X.K (hm H' w') d v → Q d w' → QL v H') : rEqD Z.X.K x y H QL := by
  obtain ⟨a, b, e1, e2, s1, s2, q⟩ := h
  exact ⟨a, b, rx.up.dp e1, ry.up.dp e2, s1, s2, k _ _ H w (Aft.refl ok) .bl q⟩
theorem lk_neG (Q : DK) (QL : VK) (dx dy : Dt) (x y : V) (w : Om) (H : Hp) (ok : OmOk Z.X.K w H) (rx : Rp Z.X.K (hm H w) dx x) (ry : Rp Z.X.K (hm H w) dy y) (h : eqG not dx dy w Q)
    (k : ∀ v d H' w', Aft Z.X.K w H w' H' → Rp Z.X.K (hm H' w') d v → Q d w' → QL v H') : rNeD Z.X.K x y H QL := by
  obtain ⟨a, b, e1, e2, s1, s2, q⟩ := h
  exact ⟨a, b, rx.up.dp e1, ry.up.dp e2, s1, s2, k _ _ H w (Aft.refl ok) .bl q⟩
theorem o_eq {n : Nat} (hr : Room n Z.X.A) : DOp Z (compareOp .Eq) eqR := by
  refine ⟨_, op_eq.or (op_eqD hr.units), fun dx dy x y w H Q QL ok rx ry h k => ?_⟩
  have gen : eqG id dx dy w Q → rEq x y H QL ∨ rEqD Z.X.K x y H QL := fun h => .inr (lk_eqG Q QL dx dy x y w H ok rx ry h k)
  cases rx with
  | int => cases ry with
    | int => exact .inl ⟨rfl, by rw [dec_vi]; exact k _ _ H w (Aft.refl ok) .bl h⟩
    | _ => exact gen h
  | str => cases ry with
    | str => exact .inl ⟨rfl, by rw [dec_vs]; exact k _ _ H w (Aft.refl ok) .bl h⟩
    | _ => exact gen h
  | bl => cases ry with
    | bl => exact .inl ⟨rfl, by rw [dec_vb]; exact k _ _ H w (Aft.refl ok) .bl h⟩
    | _ => exact gen h
  | non => cases ry with
    | non => exact .inl ⟨rfl, by rw [decide_eq_true rfl]; exact k _ _ H w (Aft.refl ok) .bl h⟩
    | _ => exact gen h
  | _ => exact gen h
theorem o_ne {n : Nat} (hr : Room n Z.X.A) : DOp Z (compareOp .NotEq) neR := by
  refine ⟨_, op_ne.or (op_neD hr.units), fun dx dy x y w H Q QL ok rx ry h k => ?_⟩
  have gen : eqG not dx dy w Q → rNe x y H QL ∨ rNeD Z.X.K x y H QL := fun h => .inr (lk_neG Q QL dx dy x y w H ok rx ry h k)
  cases rx with
  | int => cases ry with
    | int => exact .inl ⟨rfl, by rw [dec_vi]; exact k _ _ H w (Aft.refl ok) .bl h⟩
    | _ => exact gen h
  | str => cases ry with
    | str => exact .inl ⟨rfl, by rw [dec_vs]; exact k _ _ H w (Aft.refl ok) .bl h⟩
    | _ => exact gen h
  | bl => cases ry with
    | bl => exact .inl ⟨rfl, by rw [dec_vb]; exact k _ _ H w (Aft.refl ok) .bl h⟩
    | _ => exact gen h
  | non => cases ry with
    | non => exact .inl ⟨rfl, by rw [decide_eq_true rfl]; exact k _ _ H w (Aft.refl ok) .bl h⟩
    | _ => exact gen h
  | _ => exact gen h
theorem OmOk.lst {K : PySem.W.Frag} {w : Om} {H : Hp} (ok : OmOk K w H) {p : Addr} {xs : List Dt} (h : w p = some (.lst xs)) : ∃ vs, H p = some (.lst vs) ∧ RpL K (hm H w) xs vs := by
  obtain ⟨o, h1, h2⟩ := ok p _ h
  cases h2 with
  | lst r => exact ⟨_, h1, r⟩
theorem OmOk.ins {K : PySem.W.Frag} {w : Om} {H : Hp} (ok : OmOk K w H) {p C : Addr} {fs : List (Str × Dt)} (h : w p = some (.ins C fs)) : ∃ dx gs, H p = some (.ins C dx gs) ∧ RpF K (hm H w) fs gs := by
  obtain ⟨o, h1, h2⟩ := ok p _ h
  cases h2 with
  | ins r => exact ⟨_, _, h1, r⟩
end
end DL
namespace DL
open PySem PySem.Spec PyProof.Rows L2
structure EndsOk (Z : Dx) (D : DEnds) (DL : Ends) (w : Om) (H : Hp) : Prop where
  nx : ∀ r s H' w', Aft Z.X.K w H w' H' → EnvR Z.X.K (hm H' w') r s → D.nx r w' → DL.nx s H'
  rt : ∀ v d H' w', Aft Z.X.K w H w' H' → Rp Z.X.K (hm H' w') d v → D.rt d w' → DL.rt v H'
  bk : ∀ r s H' w', Aft Z.X.K w H w' H' → EnvR Z.X.K (hm H' w') r s → D.bk r w' → DL.bk s H'
  ct : ∀ r s H' w', Aft Z.X.K w H w' H' → EnvR Z.X.K (hm H' w') r s → D.ct r w' → DL.ct s H'
theorem EndsOk.next {Z : Dx} {D : DEnds} {DL : Ends} {w w' : Om} {H H' : Hp} (E : EndsOk Z D DL w H) (a : Aft Z.X.K w H w' H') : EndsOk Z D DL w' H' :=
  ⟨fun r s H2 w2 b => E.nx r s H2 w2 (a.trans b), fun v d H2 w2 b => E.rt v d H2 w2 (a.trans b), fun r s H2 w2 b => E.bk r s H2 w2 (a.trans b), fun r s H2 w2 b => E.ct r s H2 w2 (a.trans b)⟩
def LkS (Z : Dx) (tL : TS) (t : DTS) : Prop := ∀ (D : DEnds) (DL : Ends) (r : Rho) (w : Om) (s : L2.St) (H : Hp), Sok Z r w s H → t D r w → EndsOk Z D DL w H → tL DL s H
structure DS (Z : Dx) (st : Stmt) (t : DTS) : Prop where
  ex : ∃ tL, PS Z.X st tL ∧ LkS Z tL t
structure DSs (Z : Dx) (st : List Stmt) (t : DTS) : Prop where
  ex : ∃ tL, PSs Z.X st tL ∧ LkS Z tL t
def dNext : DTS := fun D r w => D.nx r w
def dSeq (t u : DTS) : DTS := fun D r w => t { D with nx := u D } r w
def dDrop (te : DTE) : DTS := fun D r w => te r w fun _ w1 => D.nx r w1
def dRet (te : DTE) : DTS := fun D r w => te r w D.rt
def dRetN : DTS := fun D _ w => D.rt .non w
def dIfS (c : DTT) (t u : DTS) : DTS := fun D r w => c r w fun b w1 => br b (t D r w1) (u D r w1)
def dNever : DTS := fun _ _ _ => False
abbrev DTG := Dt → Rho → Om → (Rho → Om → Prop) → Prop
abbrev DTGs := List Dt → Rho → Om → (Rho → Om → Prop) → Prop
def gNm (i : Nat) : DTG := fun d r w Q => Q (pus r i (some d)) w
def gsNil : DTGs := fun ds r w Q => match ds with
  | [] => Q r w
  | _ :: _ => False
def gsCons (g : DTG) (gs : DTGs) : DTGs := fun ds r w Q => match ds with
  | [] => False
  | d :: ds => g d r w fun r1 w1 => gs ds r1 w1 Q
def gTp (n : Nat) (gs : DTGs) : DTG := fun d r w Q => match d with
  | .tup ds => br (Nat.beq ds.length n) (gs ds r w Q) False
  | _ => False
theorem br_beq {a b : Nat} {A : Prop} (h : br (Nat.beq a b) A False) : a = b ∧ A := by
  cases e : Nat.beq a b with
  | true => rw [e] at h; exact ⟨Nat.eq_of_beq_eq_true e, h⟩
  | false => rw [e] at h; exact h.elim
def dAsg (te : DTE) (g : DTG) : DTS := fun D r w => te r w fun x w1 => g x r w1 D.nx
def dPar (i j : Nat) (ta : DTA) : DTS := fun D r w => ta r w fun ds w1 => match ds with
  | [a, b] => D.nx (pus (pus r i (some a)) j (some b)) w1
  | _ => False
def dAug (i : Nat) (te : DTE) (rd : DR2) : DTS := fun D r w => match nth r i with
  | some x => te r w fun y w1 => rd x y w1 fun z w2 => D.nx (pus r i (some z)) w2
  | none => False
def dWhile (c : DTT) (tb : DTS) : DTS := fun D r w => ∃ W : Nat → Rho → Om → Prop, (∃ m, W m r w) ∧ ∀ m r w, W m r w →
  c r w fun b w1 => br b (∃ N : Rho → Om → Prop, (∀ r' w', N r' w' → ∃ m', m' < m ∧ W m' r' w') ∧ tb { D with nx := N, ct := N, bk := D.nx } r w1) (D.nx r w1)
abbrev DTI := Rho → Om → (List Dt → (Om → Prop) → Om → Prop) → Prop
def dFor (wi : DTI) (g : DTG) (tb : DTS) : DTS := fun D r w => wi r w fun xs St w1 => ∃ P : Nat → Rho → Om → Prop, P 0 r w1 ∧
  (∀ i r' w', i ≤ xs.length → P i r' w' → St w' ∧ ∀ d, xs[i]? = some d → g d r' w' fun r2 w2 => tb { D with nx := P (i + 1), ct := P (i + 1), bk := D.nx } r2 w2) ∧
  ∀ r' w', P xs.length r' w' → D.nx r' w'
def LkG (Z : Dx) (gL : TG) (g : DTG) : Prop := ∀ (d : Dt) (v : V) (r : Rho) (w : Om) (s : L2.St) (H : Hp) (Q : Rho → Om → Prop) (QL : L2.St → Hp → Prop), Sok Z r w s H → Rp Z.X.K (hm H w) d v → g d r w Q →
  (∀ r' s' H' w', Aft Z.X.K w H w' H' → EnvR Z.X.K (hm H' w') r' s' → Q r' w' → QL s' H') → gL v s H QL
def LkGs (Z : Dx) (gL : TGs) (g : DTGs) : Prop := ∀ (ds : List Dt) (vs : List V) (r : Rho) (w : Om) (s : L2.St) (H : Hp) (Q : Rho → Om → Prop) (QL : L2.St → Hp → Prop), Sok Z r w s H → RpL Z.X.K (hm H w) ds vs → g ds r w Q →
  (∀ r' s' H' w', Aft Z.X.K w H w' H' → EnvR Z.X.K (hm H' w') r' s' → Q r' w' → QL s' H') → gL vs s H QL
structure DG (Z : Dx) (e : Expr) (t : DTG) : Prop where
  ex : ∃ tL, PG Z.X e tL ∧ LkG Z tL t
structure DGs (Z : Dx) (es : List Expr) (t : DTGs) : Prop where
  ex : ∃ tL, PGs Z.X es tL ∧ LkGs Z tL t
section
variable {Z : Dx} {e a b c : Expr} {ta tb te : DTE} {t u : DTT} {ts us : DTS} {pos : Pos} {st : Stmt} {rest : List Stmt}
theorem dss_nil : DSs Z [] dNext := ⟨_, pss_nil, fun D DL r w s H S h E => E.nx r s H w (Aft.refl S.om) S.env h⟩
theorem lk_seq {tL uL : TS} (l : LkS Z tL ts) (l' : LkS Z uL us) : LkS Z (tSeq tL uL) (dSeq ts us) := fun D DL r w s H S h E =>
  l { D with nx := us D } { DL with nx := uL DL } r w s H S h ⟨fun r' s' H' w' A e q => l' D DL r' w' s' H' ⟨e, A.om, S.xw.next A⟩ q (E.next A), E.rt, E.bk, E.ct⟩
theorem dss_cons (h : DS Z st ts) (h' : DSs Z rest us) : DSs Z (st :: rest) (dSeq ts us) :=
  let ⟨_, p, l⟩ := h.ex; let ⟨_, q, l'⟩ := h'.ex; ⟨_, pss_cons p q, lk_seq l l'⟩
theorem dss_one (h : DS Z st ts) : DSs Z [st] ts := let ⟨_, p, l⟩ := h.ex; ⟨_, pss_one p, l⟩
theorem ds_never : DS Z st dNever := ⟨_, ps_never, fun _ _ _ _ _ _ _ h _ => h.elim⟩
theorem ds_ret (he : DE Z e te) : DS Z (.Return (some e) pos) (dRet te) :=
  let ⟨_, p, l⟩ := he.ex
  ⟨_, ps_ret p, fun D DL r w s H S h E => l r w s H _ _ S h E.rt⟩
theorem ds_if {xs ys : List Stmt} (hc : DT Z c t) (ha : DSs Z xs ts) (hb : DSs Z ys us) : DS Z (.If c xs ys pos) (dIfS t ts us) := by
  obtain ⟨_, p, l⟩ := hc.ex
  obtain ⟨_, pa, la⟩ := ha.ex
  obtain ⟨_, pb, lb⟩ := hb.ex
  refine ⟨_, ps_if p pa pb, fun D DL r w s H S h E => ?_⟩
  refine l r w s H _ _ S h fun b H1 w1 A1 q1 => ?_
  exact ite_br q1 (fun q => la D DL r w1 s H1 (S.next A1) q (E.next A1)) fun q => lb D DL r w1 s H1 (S.next A1) q (E.next A1)
theorem dg_name (i : Nat) {x : Str} (hN : Z.X.N.Nodup) (hi : Z.X.N[i]? = some x := by rfl) (hx : Loc Z.X.env.scope x := by first | exact Or.inl rfl | exact Or.inr rfl) (hf : Z.X.fn x = true ∨ Z.X.env.scope.names.lookup x = some .local := by first | exact .inl rfl | exact .inr rfl | assumption) :
    DG Z (.Name x pos) (gNm i) := ⟨_, pg_name hN hi hx hf, fun d v r w s H Q QL S rv h k => k _ _ H w (Aft.refl S.om) (S.env.put rv i) h⟩
theorem dgs_nil : DGs Z [] gsNil := by
  refine ⟨_, pgs_nil, fun ds vs r w s H Q QL S rv h k => ?_⟩
  cases rv with
  | nil => exact ⟨rfl, k _ _ H w (Aft.refl S.om) S.env h⟩
  | cons _ _ => exact (show False from h).elim
theorem dgs_cons {es : List Expr} {g : DTG} {gs : DTGs} (h1 : DG Z e g) (h2 : DGs Z es gs) (hs : (assignEach (e :: es) Z.X.env).map (·.2) = assign e Z.X.env :: (assignEach es Z.X.env).map (·.2) := by rfl) : DGs Z (e :: es) (gsCons g gs) := by
  obtain ⟨_, p, l⟩ := h1.ex
  obtain ⟨_, q, l'⟩ := h2.ex
  refine ⟨_, pgs_cons p q hs, fun ds vs r w s H Q QL S rv h k => ?_⟩
  cases rv with
  | nil => exact (show False from h).elim
  | cons r1 r2 =>
    refine ⟨_, _, rfl, ?_⟩
    refine l _ _ r w s H _ _ S r1 h fun r' s' H' w' A e q1 => ?_
    exact l' _ _ r' w' s' H' Q QL ⟨e, A.om, S.xw.next A⟩ (r2.mono A.same) q1 fun r2' s2' H2 w2 A2 e2 q2 => k r2' s2' H2 w2 (A.trans A2) e2 q2
theorem dg_tup {es : List Expr} {k n : Nat} {gs : DTGs} (hc : Z.X.calm = true) (h : DGs Z es gs) (hn : (assignEach es Z.X.env).length = n := by rfl) (hst : (assignEach es Z.X.env).findIdx? (·.1) = none := by rfl) : DG Z (.Tuple es k pos) (gTp n gs) := by
  obtain ⟨_, p, l⟩ := h.ex
  refine ⟨_, pg_tup hc p hn hst, fun d v r w s H Q QL S rv hg k => ?_⟩
  cases rv with
  | tup hx rl =>
    obtain ⟨e, hg⟩ := br_beq hg
    exact ⟨_, _, rfl, up_t hx, by rw [← rl.length]; exact e, l _ _ r w s H Q QL S rl hg k⟩
  | _ => exact (show False from hg).elim
theorem ds_asg {tg : Expr} {g : DTG} (he : DE Z e te) (hg : DG Z tg g) (hs : swapsWithSole [tg] e pos.line Z.X.env = pure false := by rfl) (hw : swappedStores [tg] e Z.X.env = pure none := by rfl)
    (h1 : (assignEach [tg] Z.X.env).map (·.2) = [assign tg Z.X.env] := by rfl) : DS Z (.Assign [tg] e pos) (dAsg te g) := by
  obtain ⟨_, p, l⟩ := he.ex
  obtain ⟨_, q, l'⟩ := hg.ex
  refine ⟨_, ps_asg p q hs hw h1, fun D DL r w s H S h E => ?_⟩
  refine l r w s H _ _ S h fun v d H1 w1 A1 r1 q1 => ?_
  exact l' d v r w1 s H1 _ _ (S.next A1) r1 q1 fun r' s' H' w' A e q2 => E.nx r' s' H' w' (A1.trans A) e q2
theorem ds_set (i : Nat) {x : Str} {pos' : Pos} (hN : Z.X.N.Nodup) (he : DE Z e te) (hi : Z.X.N[i]? = some x := by rfl) (hx : Loc Z.X.env.scope x := by first | exact Or.inl rfl | exact Or.inr rfl) (hs : swapsWith e (some (.Name x pos')) pos.line Z.X.env = pure false := by rfl)
    (hf : Z.X.fn x = true ∨ Z.X.env.scope.names.lookup x = some .local := by first | exact .inl rfl | exact .inr rfl | assumption) : DS Z (.Assign [.Name x pos'] e pos) (dAsg te (gNm i)) := by
  obtain ⟨_, p, l⟩ := he.ex
  refine ⟨_, ps_set hN hi hx p hs hf, fun D DL r w s H S h E => ?_⟩
  refine l r w s H _ _ S h fun v d H1 w1 A1 r1 q1 => ?_
  exact E.nx _ _ H1 w1 A1 ((S.env.mono A1.same).put r1 i) q1
theorem ds_par (i j : Nat) {x y : Str} {ta : DTA} {px py pt : Pos} {kt k2 : Nat} {pt2 : Pos} (hc : Z.X.calm = true) (hN : Z.X.N.Nodup) (ha : DA Z [a, b] ta) (hi : Z.X.N[i]? = some x := by rfl) (hj : Z.X.N[j]? = some y := by rfl) (hij : i ≠ j := by decide)
    (hx : Z.X.env.scope.names.lookup x = some .local := by rfl) (hy : Z.X.env.scope.names.lookup y = some .local := by rfl)
    (hw : swappedStores [.Tuple [.Name x px, .Name y py] kt pt] (.Tuple [a, b] k2 pt2) Z.X.env = pure (some [x, y]) := by rfl)
    (hs : swapsWithSole [.Tuple [.Name x px, .Name y py] kt pt] (.Tuple [a, b] k2 pt2) pos.line Z.X.env = pure false := by rfl) :
    DS Z (.Assign [.Tuple [.Name x px, .Name y py] kt pt] (.Tuple [a, b] k2 pt2) pos) (dPar i j ta) := by
  obtain ⟨_, p, l⟩ := ha.ex
  refine ⟨_, ps_par hc hN hi hj hij hx hy p hw hs, fun D DL r w s H S h E => ?_⟩
  refine l r w s H _ _ S h fun vs ds H1 w1 A1 r1 q1 => ?_
  cases r1 with
  | nil => exact (show False from q1).elim
  | cons a1 r1 => cases r1 with
    | nil => exact (show False from q1).elim
    | cons a2 r1 => cases r1 with
      | nil => exact ⟨_, _, rfl, E.nx _ _ H1 w1 A1 (((S.env.mono A1.same).put a1 i).put a2 j) q1⟩
      | cons _ _ => exact (show False from q1).elim
theorem ds_while {body : List Stmt} (hp : PassesOwn (model Z.X.prog Z.X.w) Z.X.A Z.X.env Z.X.xe) (hc : DT Z c t) (hb : DSs Z body ts) : DS Z (.While c body [] pos) (dWhile t ts) := by
  obtain ⟨_, p, l⟩ := hc.ex
  obtain ⟨_, q, l'⟩ := hb.ex
  refine ⟨_, ps_while hp p q, fun D DL r w s H S h E => ?_⟩
  obtain ⟨W, ⟨m0, w0⟩, turn⟩ := h
  refine ⟨fun m s' H' => ∃ r' w', W m r' w' ∧ EnvR Z.X.K (hm H' w') r' s' ∧ Aft Z.X.K w H w' H', ⟨m0, r, w, w0, S.env, Aft.refl S.om⟩, ?_⟩
  rintro m s1 H1 ⟨r1, w1, h1, e1, A1⟩
  have S1 : Sok Z r1 w1 s1 H1 := ⟨e1, A1.om, S.xw.next A1⟩
  refine l r1 w1 s1 H1 _ _ S1 (turn m r1 w1 h1) fun b H2 w2 A2 q2 => ?_
  refine ite_br q2 (fun q => ?_) fun q => E.nx r1 s1 H2 w2 (A1.trans A2) (e1.mono A2.same) q
  obtain ⟨N, hN, q⟩ := q
  refine ⟨fun s' H' => ∃ r' w', N r' w' ∧ EnvR Z.X.K (hm H' w') r' s' ∧ Aft Z.X.K w H w' H', fun s' H' ⟨r', w', n', e', A'⟩ => ?_, ?_⟩
  · obtain ⟨m', hl, hW⟩ := hN r' w' n'
    exact ⟨m', hl, r', w', hW, e', A'⟩
  · refine l' _ _ r1 w2 s1 H2 (S1.next A2) q ⟨fun r' s' H' w' A e n => ⟨r', w', n, e, (A1.trans A2).trans A⟩, fun v d H' w' A => E.rt v d H' w' ((A1.trans A2).trans A), fun r' s' H' w' A e n => E.nx r' s' H' w' ((A1.trans A2).trans A) e n, fun r' s' H' w' A e n => ⟨r', w', n, e, (A1.trans A2).trans A⟩⟩
def Serves (K : PySem.W.Frag) (J : It) (xs : List Dt) (St : Om → Prop) (w0 : Om) (H0 : Hp) : Prop := ∀ w H, Aft K w0 H0 w H → St w →
  (∀ i, i < xs.length → J.go i H ∧ ∀ x H', J.yld i H x H' → ∃ d, xs[i]? = some d ∧ Aft K w H w H' ∧ Rp K (hm H' w) d x) ∧ ∀ i, xs.length ≤ i → J.stop i H
def LkI (Z : Dx) (wi : TI) (t : DTI) : Prop := ∀ (r : Rho) (w : Om) (s : L2.St) (H : Hp) (R : List Dt → (Om → Prop) → Om → Prop) (RL : It → Hp → Prop), Sok Z r w s H → t r w R →
  (∀ xs St w' H' J, Aft Z.X.K w H w' H' → R xs St w' → Serves Z.X.K J xs St w' H' → RL J H') → wi s H RL
structure DI (Z : Dx) (tg iter : Expr) (t : DTI) : Prop where
  ex : ∃ tL, PI Z.X tg iter tL ∧ LkI Z tL t
theorem ds_for {tg iter : Expr} {body : List Stmt} {wi : DTI} {g : DTG} (hp : PassesOwn (model Z.X.prog Z.X.w) Z.X.A Z.X.env Z.X.xe) (hc : Z.X.calm = true) (hi : DI Z tg iter wi) (hg : DG Z tg g) (hb : DSs Z body ts)
    (hs : ∀ x, foldedSetIterable iter Z.X.env x = pure x := by intro _; rfl) : DS Z (.For tg iter body [] pos) (dFor wi g ts) := by
  obtain ⟨_, p, l⟩ := hi.ex
  obtain ⟨_, pg, lg⟩ := hg.ex
  obtain ⟨_, q, l'⟩ := hb.ex
  refine ⟨_, ps_for hp hc p pg q hs, fun D DL r w s H S h E => ?_⟩
  refine l r w s H _ _ S h fun xs St w1 H1 J A1 q1 sv => ?_
  obtain ⟨P, p0, turn, fin⟩ := q1
  refine ⟨fun i m s' H' => m = xs.length - i ∧ i ≤ xs.length ∧ ∃ r' w', P i r' w' ∧ EnvR Z.X.K (hm H' w') r' s' ∧ Aft Z.X.K w1 H1 w' H', ⟨_, rfl, Nat.zero_le _, r, w1, p0, S.env.mono A1.same, Aft.refl A1.om⟩, ?_⟩
  rintro i m s2 H2 ⟨rfl, hi, r2, w2, p2, e2, A2⟩
  obtain ⟨st2, step⟩ := turn i r2 w2 hi p2
  obtain ⟨go, stop⟩ := sv w2 H2 A2 st2
  by_cases hlt : i < xs.length
  · obtain ⟨g1, g2⟩ := go i hlt
    refine .inr ⟨g1, fun s' H' => ∃ r' w', P (i + 1) r' w' ∧ EnvR Z.X.K (hm H' w') r' s' ∧ Aft Z.X.K w1 H1 w' H', fun s' H' hN => ⟨_, by omega, rfl, hlt, hN⟩, fun x H3 y => ?_⟩
    obtain ⟨d, hd, A3, r3⟩ := g2 x H3 y
    have S3 : Sok Z r2 w2 s2 H3 := ⟨e2.mono A3.same, A3.om, S.xw.next (A1.trans (A2.trans A3))⟩
    refine lg d x r2 w2 s2 H3 _ _ S3 r3 (step d hd) fun r4 s4 H4 w4 A4 e4 q4 => ?_
    have A24 := A2.trans (A3.trans A4)
    refine l' _ _ r4 w4 s4 H4 ⟨e4, A4.om, S3.xw.next A4⟩ q4 ⟨fun r' s' H' w' A e n => ⟨r', w', n, e, A24.trans A⟩, fun v d H' w' A => E.rt v d H' w' (A1.trans (A24.trans A)), fun r' s' H' w' A e n => E.nx r' s' H' w' (A1.trans (A24.trans A)) e n, fun r' s' H' w' A e n => ⟨r', w', n, e, A24.trans A⟩⟩
  · have e : i = xs.length := by omega
    subst e
    exact .inl ⟨stop _ (Nat.le_refl _), E.nx r2 s2 H2 w2 (A1.trans A2) e2 (fin r2 w2 p2)⟩
def dItL (te : DTE) : DTI := fun r w R => te r w fun x w1 => match x with
  | .lst xs => R xs (fun _ => True) w1
  | .rl xs => R xs (fun _ => True) w1
  | .tup xs => R xs (fun _ => True) w1
  | .ptr p => ∃ xs, w1 p = some (.lst xs) ∧ R xs (fun w => w p = some (.lst xs)) w1
  | _ => False
theorem serves_l {K : PySem.W.Frag} {a : Addr} {vs : List V} {xs : List Dt} {St : Om → Prop} {w0 : Om} {H0 : Hp} (h : ∀ w H, Aft K w0 H0 w H → St w → ∃ vs, SqL K H a vs ∧ RpL K (hm H w) xs vs) : Serves K (Itl K a) xs St w0 H0 := fun w H A st => by
  obtain ⟨vs, hs, rl⟩ := h w H A st
  refine ⟨fun i hi => ?_, fun i hi => ⟨vs, hs, by rw [← rl.length]; exact hi⟩⟩
  have hd : xs[i]? = some xs[i] := List.getElem?_eq_getElem hi
  obtain ⟨v, h1, h2⟩ := rl.get hd
  refine ⟨⟨vs, v, hs, h1⟩, fun x H' y => ?_⟩
  obtain ⟨rfl, y⟩ := y
  have e := y vs hs
  rw [h1] at e
  cases e
  exact ⟨_, hd, Aft.refl A.om, h2⟩
theorem serves_t {K : PySem.W.Frag} {a : Addr} {vs : List V} {xs : List Dt} {St : Om → Prop} {w0 : Om} {H0 : Hp} (hs0 : SqT K (hm H0 w0) a vs) (rl0 : RpL K (hm H0 w0) xs vs) : Serves K (Itt K a) xs St w0 H0 := fun w H A st => by
  have hs : SqT K H a vs := up_t (same_t A.same hs0)
  have rl := rl0.mono A.same
  refine ⟨fun i hi => ?_, fun i hi => ⟨vs, hs, by rw [← rl.length]; exact hi⟩⟩
  have hd : xs[i]? = some xs[i] := List.getElem?_eq_getElem hi
  obtain ⟨v, h1, h2⟩ := rl.get hd
  refine ⟨⟨vs, v, hs, h1⟩, fun x H' y => ?_⟩
  obtain ⟨rfl, y⟩ := y
  have e := y vs hs
  rw [h1] at e
  cases e
  exact ⟨_, hd, Aft.refl A.om, h2⟩
theorem di_list {tg : Expr} (he : DE Z e te) : DI Z tg e (fun r w R => te r w fun x w1 => match x with
  | .lst xs => R xs (fun _ => True) w1
  | .rl xs => R xs (fun _ => True) w1
  | .ptr p => ∃ xs, w1 p = some (.lst xs) ∧ R xs (fun w => w p = some (.lst xs)) w1
  | _ => False) := by
  obtain ⟨_, p, l⟩ := he.ex
  refine ⟨_, pi_list p, fun r w s H R RL S h k => ?_⟩
  refine l r w s H _ _ S h fun v d H1 w1 A1 r1 q1 => ?_
  cases r1 with
  | lst hx rl =>
    refine ⟨_, rfl, ⟨_, SqL.of (hm_some hx).2⟩, k _ _ w1 H1 _ A1 q1 (serves_l (vs := []) fun w H A _ => ⟨_, SqL.of (hm_some (A.same _ _ hx)).2, rl.mono A.same⟩)⟩
  | rl hx rl => exact ⟨_, rfl, ⟨_, up_l hx⟩, k _ _ w1 H1 _ A1 q1 (serves_l (vs := []) fun w H A _ => ⟨_, up_l (A.same.seq hx), rl.mono A.same⟩)⟩
  | ptr =>
    obtain ⟨xs, hp, q1⟩ := q1
    obtain ⟨vs, h1, rl⟩ := A1.om.lst hp
    refine ⟨_, rfl, ⟨_, SqL.of h1⟩, k _ _ w1 H1 _ A1 q1 (serves_l (vs := []) fun w H A st => ?_)⟩
    obtain ⟨vs', h1', rl'⟩ := A.om.lst st
    exact ⟨vs', SqL.of h1', rl'⟩
  | _ => exact (show False from q1).elim
theorem di_tup {tg : Expr} (he : DE Z e te) : DI Z tg e (fun r w R => te r w fun x w1 => match x with
  | .tup xs => R xs (fun _ => True) w1
  | _ => False) := by
  obtain ⟨_, p, l⟩ := he.ex
  refine ⟨_, pi_tup p, fun r w s H R RL S h k => ?_⟩
  refine l r w s H _ _ S h fun v d H1 w1 A1 r1 q1 => ?_
  cases r1 with
  | tup hx rl => exact ⟨_, rfl, ⟨_, up_t hx⟩, k _ _ w1 H1 _ A1 q1 (serves_t hx rl)⟩
  | _ => exact (show False from q1).elim
def iota (lo : Int) (n : Nat) : List Dt := (List.range n).map fun (i : Nat) => .int (lo + i)
theorem iota_len {lo : Int} {n : Nat} : (iota lo n).length = n := by unfold iota; rw [List.length_map, List.length_range]
theorem iota_get {lo : Int} {n i : Nat} (h : i < n) : (iota lo n)[i]? = some (.int (lo + i)) := by
  unfold iota
  rw [List.getElem?_map, List.getElem?_range h] <;> rfl
theorem serves_r {K : PySem.W.Frag} {lo : Int} {n : Nat} {St : Om → Prop} {w0 : Om} {H0 : Hp} : Serves K (Itr lo n) (iota lo n) St w0 H0 := fun w H A st => by
  refine ⟨fun i hi => ?_, fun i hi => by rw [iota_len] at hi; exact hi⟩
  rw [iota_len] at hi
  refine ⟨hi, fun x H' y => ?_⟩
  obtain ⟨rfl, rfl⟩ := y
  exact ⟨_, iota_get hi, Aft.refl A.om, .int⟩
def dRng1 (ta : DTA) : DTI := fun r w R => ta r w fun ds w1 => match ds with
  | [.int j] => (-(2 ^ 62) ≤ j ∧ j < 2 ^ 62) ∧ R (iota 0 j.toNat) (fun _ => True) w1
  | _ => False
def dRng2 (ta : DTA) : DTI := fun r w R => ta r w fun ds w1 => match ds with
  | [.int i, .int j] => (-(2 ^ 62) ≤ i ∧ i < 2 ^ 62 ∧ -(2 ^ 62) ≤ j ∧ j < 2 ^ 62) ∧ R (iota i (j - i).toNat) (fun _ => True) w1
  | _ => False
theorem di_rng1 {tg : Expr} {ta : DTA} {p : Pos} (hm : Z.X.mg "range" = none) (ha : DA Z [a] ta) (hg : Gl Z.X "range" := by rfl) (hs : starEach [a] Z.X.env = [(false, eval a Z.X.env)] := by rfl) : DI Z tg (.Call (.Name "range" p) [a] [] pos) (dRng1 ta) := by
  obtain ⟨_, pa, l⟩ := ha.ex
  refine ⟨_, pi_range1 hg hm pa hs, fun r w s H R RL S h k => ?_⟩
  refine l r w s H _ _ S h fun vs ds H1 w1 A1 r1 q1 => ?_
  cases r1 with
  | nil => exact (show False from q1).elim
  | cons a1 r1 =>
    cases a1 with
    | int => cases r1 with
      | nil => exact ⟨_, rfl, q1.1.1, q1.1.2, k _ _ w1 H1 _ A1 q1.2 serves_r⟩
      | cons _ _ => exact (show False from q1).elim
    | _ => cases r1 <;> exact (show False from q1).elim
end
end DL
namespace DL
open PySem PySem.Spec PyProof.Rows L2
abbrev DXK := Addr → List (Str × Dt) → Om → Prop
abbrev DSp := List Dt → Om → DK → DXK → Prop
def lift (K : PySem.W.Frag) (sp : DSp) : Sp := fun vs H Q E => ∃ (ds : List Dt) (w : Om) (Qd : DK) (Ed : DXK), RpL K (hm H w) ds vs ∧ OmOk K w H ∧ sp ds w Qd Ed ∧
  (∀ v d H' w', Aft K w H w' H' → Rp K (hm H' w') d v → Qd d w' → Q v H') ∧
  ∀ C dx gs fs H' w', Aft K w H w' H' → H' dx = some (.xd gs) → RpF K (hm H' w') fs gs → Ed C fs w' → E (.ref C) (some dx) H'
structure Rm (k : Nat) (A : Around) : Prop where
  room : Room k A
  gd : 100 ≤ k → A.guards = some []
theorem Rm.mono {j k : Nat} {A : Around} (r : Rm k A) (h : j ≤ k) : Rm j A := ⟨r.room.mono h, fun q => r.gd (Nat.le_trans q h)⟩
theorem Rm.deeper {k : Nat} {A : Around} (r : Rm (k + 1) A) (env : Env) : Rm k (A.deeper env) := ⟨r.room.deeper env, fun q => r.gd (Nat.le_succ_of_le q)⟩
theorem Rm.in1 {k : Nat} {A : Around} (r : Rm (k + 1) A) : Rm k A.in1 := ⟨r.room.in1, fun q => r.gd (Nat.le_succ_of_le q)⟩
theorem Rm.make {k : Nat} {A : Around} (r : Rm (k + 1) A) (C : Addr) (us : List Value) (kw : List (Str × Value)) : Rm k (A.under (.builtin "type.__call__" ⟨.ref C :: us, kw⟩)) :=
  ⟨r.room.make C us kw, fun q => by
    have h := r.gd (Nat.le_succ_of_le q)
    first
      | (rw [Around.under]; simp [Code.guards, Code.isGuard, guardIds, pushGuards, h]; done)
      | simp [Around.under, Code.guards, Code.isGuard, guardIds, pushGuards, h]⟩
structure FnG (P : Program) (w : World) (K : PySem.W.Frag) (mg : Str → Option Value) (base : Heap) (k : Nat) (f : Addr) (fd : FuncData) (ps : List Str) (sp : Sp) : Prop where
  len : ∀ vs H Q E, sp vs H Q E → vs.length = ps.length
  run : ∀ (A : Around) (outer : List Env) (s : Shared) (H : Hp) (args : Args) (us : List Value) (vs : List V) (Q : VK) (E : XK), Rm k A → Env0 P w K mg base A outer s H → BindsTo s fd args (ps.zip us) → Vals vs us → sp vs H Q E →
    codeAny (model P w) A (.call (.ref f) args) (CR (L2.CX P w) outer P w H s Q E) s
abbrev zOf (P : Program) (w : World) (K : PySem.W.Frag) (mg : Str → Option Value) (base : Heap) (N : List Str) (qual : Str) (scope : Scope) (f : Addr) (cd : Value) (A : Around) (outer : List Env) (s : Shared) (H : Hp) (E : XK) (Ed : DXK) : Dx :=
  ⟨cxOf (L2.CX P w) P w K mg base N qual scope f cd A outer s H E, fun cls d _ H => E cls d H, fun C fs _ w => Ed C fs w, fun _ _ => True⟩
structure Bd (Z : Dx) (k : Nat) : Prop where
  tk : Takes Z.X Z.W
  po : PassesOwn (model Z.X.prog Z.X.w) Z.X.A Z.X.env Z.X.xe
  calm : Z.X.calm = true
  room : Rm k Z.X.A
  nd : Z.X.N.Nodup
theorem Bd.mono {Z : Dx} {j k : Nat} (b : Bd Z k) (h : j ≤ k) : Bd Z j := ⟨b.tk, b.po, b.calm, b.room.mono h, b.nd⟩
section
variable {P : Program} {w : World} {K : PySem.W.Frag} {mg : Str → Option Value} {base : Heap} {x qual : Str} {params : Arguments} {body : List Stmt} {scope : Scope} {dvs : List V} {kws : List (Str × V)} {f : Addr} {fd : FuncData}
theorem d_fn {N ps : List Str} {k : Nat} {sp : DSp} (F : FunD K x qual params body scope dvs kws f fd) (S : FnScope N ps scope) (len : ∀ ds w Q E, sp ds w Q E → ds.length = ps.length)
    (hbody : ∀ (cdv : Value) (A : Around) (outer : List Env) (s : Shared) (H : Hp) (EL : XK) (Ed : DXK), Bd (zOf P w K mg base N qual scope f cdv A outer s H EL Ed) k →
      ∃ t, DSs (zOf P w K mg base N qual scope f cdv A outer s H EL Ed) body t ∧ ∀ ds w' Q, sp ds w' Q Ed → t { nx := fun _ w => Q .non w, rt := Q } (startD N.length ds) w') :
    FnG P w K mg base (k + 1) f fd ps (lift K sp) := by
  have len' : ∀ vs H Q E, lift K sp vs H Q E → vs.length = ps.length := fun vs H Q E h => by
    obtain ⟨ds, w', Qd, Ed, r, _, h, _⟩ := h
    rw [← r.length]
    exact len _ _ _ _ h
  obtain ⟨oc, od, dV, kV, doc, pm, an, cdv, ct, osl, rfl, lk, hcd, _, _⟩ := F.ex
  refine ⟨len', fun A outer s H args us vs Q E hr e0 hb rv h => ?_⟩
  have hl := len' _ _ _ _ h
  have keeps : ∀ b o, base.get? b = some o → s.heap.get? b = some o := fun b o e => (e0.bs b o e).1
  have KX : K.In s.heap := e0.mod.kin.keeps keeps
  have cells : ∀ y ∈ ps.zip us, scope.names.lookup y.1 = some .local ∨ (scope.names.lookup y.1 = some .cell ∧ ((cellsFrom (s.heap.objs.size + 1) scope.names []).lookup y.1).isSome = true) := fun y hy =>
    (S.par y.1 (List.of_mem_zip hy).1).imp id fun q => ⟨q, PySem.W.cellsFrom_some _ _ _ (.inl q)⟩
  refine codeAny_call_function hr.room.depth (KX _ _ lk) rfl S.co S.gen rfl (PySem.W.codeRec_of KX hcd) (hb _ _ _ _ ?_)
  refine wpAny_newFunctionEnv_cells S.kind cells fun env he s1 x => ?_
  subst he
  refine ⟨(e0.mod.nolimit.keeps keeps).keeps x.toInCall.keep, codeAny_func ?_⟩
  obtain ⟨ds, w', Qd, Ed, r, ok, h, k1, k2⟩ := h
  have bd : Bd (zOf P w K mg base N qual scope f cdv A outer s H E Ed) k := ⟨takes_of rfl rfl rfl rfl, passes_of rfl, rfl, hr.deeper _, S.nd⟩
  obtain ⟨t, d, q⟩ := hbody cdv A outer s H E Ed bd
  obtain ⟨tL, p, l⟩ := d.ex
  have I := inv_start (CX := L2.CX P w) (E := E) S hr.room.hd e0 hl rv x
  have go := l { nx := fun _ w => Qd .non w, rt := Qd } { nx := fun _ H' => Q .non H', rt := Q } (startD N.length ds) w' (start N vs) H ⟨EnvR.start r, ok, fun C dx gs fs r s H' w2 h1 h2 _ A e => k2 C dx gs fs H' w2 A h1 h2 e, fun _ _ _ => trivial⟩ (q ds w' Qd h)
    ⟨fun r s H' w2 A _ q => k1 .non .non H' w2 A .non q, fun v d H' w2 A rv q => k1 v d H' w2 A rv q, fun _ _ _ _ _ _ q => q.elim, fun _ _ _ _ _ _ q => q.elim⟩
  refine wpAny_mono (p.run [] s1 (start N vs) H _ I go) (fun fl s' hs => ?_) fun e s' hs => hs
  match fl, hs with
  | .ret u, ⟨v, σ', H', J, rv, q⟩ => exact ⟨v, H', J.os, J.bare, J.base, J.hok, rv, q⟩
  | .next, ⟨σ', H', J, q⟩ => exact ⟨V.non, H', J.os, J.bare, J.base, J.hok, rfl, q⟩
  | .brk, ⟨_, _, _, q⟩ => exact q.elim
  | .cont, ⟨_, _, _, q⟩ => exact q.elim
end
structure Cal (P : Program) (w : World) (K : PySem.W.Frag) (mg : Str → Option Value) (base : Heap) (x : Str) (k : Nat) (dd : List Dt) (sp : DSp) : Prop where
  ex : ∃ (f : Addr) (fd : FuncData) (ps : List Str) (dvs : List V) (ds : List Value), mg x = some (.ref f) ∧ PySem.W.keepIn K (.ref f) = true ∧ FnG P w K mg base k f fd ps (lift K sp) ∧ Binds K fd ps ds ∧ Vals dvs ds ∧ ∀ H, RpL K H dd dvs
structure CalM (P : Program) (w : World) (K : PySem.W.Frag) (mg : Str → Option Value) (base : Heap) (C : Addr) (m : Str) (k : Nat) (dd : List Dt) (sp : DSp) : Prop where
  ex : ∃ (f : Addr) (fd : FuncData) (ps : List Str) (dvs : List V) (ds : List Value), Cls K C ∧ Meth K C m f ∧ FnG P w K mg base k f fd ps (lift K sp) ∧ Binds K fd ps ds ∧ Vals dvs ds ∧ ∀ H, RpL K H dd dvs
inductive Frz (K : PySem.W.Frag) : MO → Dt → Prop
  | lst {xs : List Dt} : Frz K (.lst xs) (.lst xs)
  | ins {C : Addr} {fs : List (Str × Dt)} : Frz K (.ins C fs) (.ins C fs)
  | dct {fs : List (Str × Dt)} : Frz K (.dct fs) (.dct fs)
  | num {q : Rat} : Frz K (.ins (cN K) [("bottom", .int q.den), ("top", .int q.num)]) (.num q)
theorem OmOk.cut {K : PySem.W.Frag} {w : Om} {H : Hp} (ok : OmOk K w H) (p : Addr) : Aft K w H (cut w p) H := by
  have sm : Same (hm H w) (hm H (DL.cut w p)) := fun b u hb => by
    obtain ⟨h1, h2⟩ := hm_some hb
    by_cases e : b = p
    · subst e; rw [hm_no cut_same]; exact h2
    · rw [hm_no (by rw [cut_ne e]; exact h1)]; exact h2
  refine ⟨sm, fun b m hb => ?_⟩
  by_cases e : b = p
  · subst e; rw [cut_same] at hb; cases hb
  · rw [cut_ne e] at hb
    obtain ⟨o, h1, h2⟩ := ok b m hb
    exact ⟨o, h1, h2.mono sm⟩
theorem Frz.rp {K : PySem.W.Frag} {w : Om} {H : Hp} {p : Addr} {m : MO} {d : Dt} (f : Frz K m d) (ok : OmOk K w H) (h : w p = some m) : Rp K (hm H (cut w p)) d (.ref p) := by
  obtain ⟨o, h1, h2⟩ := ok p m h
  have sm := (ok.cut p).same
  have hp : hm H (cut w p) p = some o := by rw [hm_no cut_same]; exact h1
  cases f with
  | lst => cases h2 with
    | lst r => exact .lst hp (r.mono sm)
  | ins => cases h2 with
    | ins r => exact .ins hp (r.mono sm)
  | dct => cases h2 with
    | dct r => exact .dct hp (r.mono sm)
  | num => cases h2 with
    | ins r =>
      cases r with
      | cons r1 r2 =>
        cases r1
        cases r2 with
        | cons r3 r4 =>
          cases r3
          cases r4
          exact .num hp
structure CalC (P : Program) (w : World) (K : PySem.W.Frag) (mg : Str → Option Value) (base : Heap) (x : Str) (k : Nat) (dd : List Dt) (sp : DSp) : Prop where
  ex : ∃ (C f : Addr) (fd : FuncData) (ps : List Str) (dvs : List V) (ds : List Value) (si : DSp), mg x = some (.ref C) ∧ Mk K C f ∧ FnG P w K mg base k f fd ps (lift K si) ∧ Binds K fd ps ds ∧ Vals dvs ds ∧ (∀ H, RpL K H dd dvs) ∧
    ∀ ds w Q E, sp ds w Q E → ∀ p, w p = none → si (.ptr p :: ds) (put w p (.ins C [])) (fun v w2 => v = .non ∧ ∃ m d, w2 p = some m ∧ Frz K m d ∧ Q d (cut w2 p)) fun D fs w2 => E D fs (cut w2 p)
section
variable {X : Cx} {k : Nat} {f C : Addr} {fd : FuncData} {ps : List Str} {sp : Sp} {dvs : List V} {ds : List Value} {E : L2.St → XK} {x m : Str} {p pos apos : Pos} {e o : Expr} {es : List Expr} {ta : TE} {t : TA}
theorem run_g {pins : List (Addr × Obj)} {σ : L2.St} {H : Hp} {s : Shared} {Q : VK} {us : List Value} {vs : List V} (F : FnG X.prog X.w X.K X.mg X.base k f fd ps sp) (hr : Rm k X.A) (hb : Binds X.K fd ps ds) (hd : Vals dvs ds) (hx : PassesAt (L2.CX X.prog X.w) X σ (E σ))
    (I : Inv X pins σ H s) (r : Vals vs us) (h : sp (vs ++ dvs) H Q (E σ)) : wpAny (model X.prog X.w) X.A (call (.ref f) us) (EP X pins σ Q) X.xe s := by
  have r2 : Vals (vs ++ dvs) (us ++ ds) := r.append hd
  have ln : (us ++ ds).length = ps.length := r2.length.symm.trans (F.len _ _ _ _ h)
  refine wpAny_call (codeAny_mono (F.run X.A X.stack s H ⟨us, []⟩ _ _ Q (E σ) hr I.env0 (hb s us I.kIn ln) r2 h) fun r s' hq => ?_)
  match r, hq with
  | .error e, hq => exact hx pins H s e s' I hq
  | .ok (.ret u), hq => exact I.after hq
theorem pe_callG (F : FnG X.prog X.w X.K X.mg X.base k f fd ps sp) (hr : Rm k X.A) (hg : Gl X x) (hm : X.mg x = some (.ref f)) (hk : PySem.W.keepIn X.K (.ref f) = true) (hb : Binds X.K fd ps ds) (hd : Vals dvs ds) (hx : ∀ σ, PassesAt (L2.CX X.prog X.w) X σ (E σ))
    (ha : PA X (e :: es) t) (hdb : (x == ("__debug__" : Str)) = false) (he : starEach (e :: es) X.env = (false, eval e X.env) :: starEach es X.env) (hpl : (backTo pos (starEach es X.env)).any (·.1) = false) :
    PE X (.Call (.Name x p) (e :: es) [] pos) (tCallSD sp dvs E t) :=
  ⟨fun pins s σ H Q I h => wpAny_Call_Name_kw (ld_glob I hg hm (PySem.W.callWith_K (h₀ := X.base) I.ok.mod.kin hk (thn (ha.run pos pins s σ H _ I h) fun _ _ ⟨_, _, I1, r, q⟩ => ⟨I1.kIn, run_g F hr hb hd (hx σ) I1 r q⟩) he hpl) hdb)⟩
def tMakeS (C : Addr) (sp : Sp) (dvs : List V) (E : L2.St → XK) (t : TA) : TE := fun σ H Q => t σ H fun vs H1 => ∀ x dx, H1 x = none → H1 dx = none → dx ≠ x →
  sp (.ref x :: (vs ++ dvs)) (upd (upd H1 dx (.own x)) x (.ins C dx [])) (fun v H2 => v = .non ∧ Q (.ref x) H2) (E σ)
theorem run_makeS {pins : List (Addr × Obj)} {σ : L2.St} {H : Hp} {s : Shared} {Q : VK} {us : List Value} {vs : List V} (M : Mk X.K C f) (F : FnG X.prog X.w X.K X.mg X.base k f fd ps sp) (hr : Rm (k + 1) X.A) (hb : Binds X.K fd ps ds) (hd : Vals dvs ds)
    (hx : PassesAt (L2.CX X.prog X.w) X σ (E σ)) (I : Inv X pins σ H s) (r : Vals vs us)
    (h : ∀ x dx, H x = none → H dx = none → dx ≠ x → sp (.ref x :: (vs ++ dvs)) (upd (upd H dx (.own x)) x (.ins C dx [])) (fun v H2 => v = .non ∧ Q (.ref x) H2) (E σ)) :
    wpAny (model X.prog X.w) X.A (call (.ref C) us) (EP X pins σ Q) X.xe s := by
  have hq := h (s.heap.objs.size + 1) s.heap.objs.size (I.hok.fresh (Nat.le_succ _)) (I.hok.fresh (Nat.le_refl _)) (Nat.ne_of_lt (Nat.lt_succ_self _))
  have I2 := Inv.made (C := C) I
  have r2 : Vals (V.ref (s.heap.objs.size + 1) :: (vs ++ dvs)) (Value.ref (s.heap.objs.size + 1) :: (us ++ ds)) := .cons rfl (r.append hd)
  have hl : (Value.ref (s.heap.objs.size + 1) :: us ++ ds).length = ps.length := (show _ = _ from r2.length).symm.trans (F.len _ _ _ _ hq)
  refine wpAny_call (make_map (f := f) I.kIn M.makes M.init (beq_iff_eq.mp M.fn) (codeAny_mono (F.run _ X.stack _ _ ⟨Value.ref (s.heap.objs.size + 1) :: us, []⟩ (Value.ref (s.heap.objs.size + 1) :: (us ++ ds)) _ _ (E σ) (hr.make C us [])
    (I2.env0.make C us []) (hb _ (Value.ref (s.heap.objs.size + 1) :: us) I2.kIn hl) r2 hq) fun r s' hq' => ?_))
  match r, hq' with
  | .error e, hq' => exact hx pins _ _ e s' I2 hq'
  | .ok (.ret u), hq' =>
    obtain ⟨v, H', I3, rv, ev, q3⟩ := I2.after hq'
    subst ev
    exact ⟨rv, ⟨V.ref (s.heap.objs.size + 1), H', I3, rfl, q3⟩⟩
theorem pe_makeS (M : Mk X.K C f) (F : FnG X.prog X.w X.K X.mg X.base k f fd ps sp) (hr : Rm (k + 1) X.A) (hg : Gl X x) (hm : X.mg x = some (.ref C)) (hb : Binds X.K fd ps ds) (hd : Vals dvs ds) (hx : ∀ σ, PassesAt (L2.CX X.prog X.w) X σ (E σ))
    (ha : PA X (e :: es) t) (hdb : (x == ("__debug__" : Str)) = false) (he : starEach (e :: es) X.env = (false, eval e X.env) :: starEach es X.env) (hpl : (backTo pos (starEach es X.env)).any (·.1) = false) :
    PE X (.Call (.Name x p) (e :: es) [] pos) (tMakeS C sp dvs E t) := by
  refine ⟨fun pins s σ H Q I h => wpAny_Call_Name_kw (ld_glob I hg hm ?_ hdb)⟩
  refine PySem.W.callWith_K (h₀ := X.base) I.ok.mod.kin M.kp (thn (ha.run pos pins s σ H _ I h) fun us s1 ⟨vs, H1, I1, r, q⟩ => ⟨I1.kIn, ?_⟩) he hpl
  exact run_makeS M F hr hb hd (hx σ) I1 r q
end
def dCall (W : DWX) (dd : List Dt) (sp : DSp) (ta : DTA) : DTE := fun r w Q => ta r w fun ds w1 => sp (ds ++ dd) w1 Q fun C fs w2 => W C fs r w2
def dMethN (W : DWX) (dd : List Dt) (sp : DSp) (te : DTE) (ta : DTA) : DTE := fun r w Q => te r w fun x w1 => match x with
  | .num q => ta r w1 fun ds w2 => sp (.num q :: (ds ++ dd)) w2 Q fun C fs w2 => W C fs r w2
  | _ => False
section
variable {Z : Dx} {k j : Nat} {x m : Str} {dd : List Dt} {sp : DSp} {p pos apos : Pos} {e o : Expr} {es : List Expr} {te : DTE} {ta : DTA}
theorem lk_sp {r : Rho} {w : Om} {s : L2.St} {H : Hp} {Q : DK} {QL : VK} {ds : List Dt} {vs : List V} (S : Sok Z r w s H) (rl : RpL Z.X.K (hm H w) ds vs) (h : sp ds w Q fun C fs w2 => Z.Wd C fs r w2)
    (k : ∀ v d H' w', Aft Z.X.K w H w' H' → Rp Z.X.K (hm H' w') d v → Q d w' → QL v H') : lift Z.X.K sp vs H QL (WE Z.W s) :=
  ⟨ds, w, Q, _, rl, S.om, h, k, fun C dx gs fs H' w' A h1 h2 h3 => S.xw.1 C dx gs fs r s H' w' h1 h2 (S.env.mono A.same) A h3⟩
theorem de_call (b : Bd Z k) (c : Cal Z.X.prog Z.X.w Z.X.K Z.X.mg Z.X.base x j dd sp) (ha : DA Z (e :: es) ta) (hj : j ≤ k := by decide) (hg : Gl Z.X x := by rfl) (hdb : (x == ("__debug__" : Str)) = false := by decide)
    (he : starEach (e :: es) Z.X.env = (false, eval e Z.X.env) :: starEach es Z.X.env := by rfl) (hpl : (backTo pos (starEach es Z.X.env)).any (·.1) = false := by rfl) : DE Z (.Call (.Name x p) (e :: es) [] pos) (dCall Z.Wd dd sp ta) := by
  obtain ⟨f, fd, ps, dvs, ds, hm, hk, F, hb, hd, hr⟩ := c.ex
  obtain ⟨_, pa, l⟩ := ha.ex
  refine ⟨_, pe_callG (E := WE Z.W) F (b.room.mono hj) hg hm hk hb hd (fun σ => passAt b.tk σ) pa hdb he hpl, fun r w s H Q QL S h k => ?_⟩
  refine l r w s H _ _ S h fun vs ds H1 w1 A1 r1 q1 => ?_
  exact lk_sp (S.next A1) (r1.append (hr _)) q1 fun v d H' w' A => k v d H' w' (A1.trans A)
theorem Aft.made {K : PySem.W.Frag} {w : Om} {H : Hp} {p dx C : Addr} (ok : OmOk K w H) (hp : H p = none) (hd : H dx = none) (ne : dx ≠ p) : Aft K w H (put w p (.ins C [])) (upd (upd H dx (.own p)) p (.ins C dx [])) := by
  have A1 := Aft.new (p := dx) (o := .own p) ok hd
  exact A1.trans (Aft.newM A1.om (by rw [upd_ne (Ne.symm ne)]; exact hp) (.ins .nil))
theorem de_make (b : Bd Z k) (c : CalC Z.X.prog Z.X.w Z.X.K Z.X.mg Z.X.base x j dd sp) (ha : DA Z (e :: es) ta) (hj : j + 1 ≤ k := by decide) (hg : Gl Z.X x := by rfl) (hdb : (x == ("__debug__" : Str)) = false := by decide)
    (he : starEach (e :: es) Z.X.env = (false, eval e Z.X.env) :: starEach es Z.X.env := by rfl) (hpl : (backTo pos (starEach es Z.X.env)).any (·.1) = false := by rfl) : DE Z (.Call (.Name x p) (e :: es) [] pos) (dCall Z.Wd dd sp ta) := by
  obtain ⟨C, f, fd, ps, dvs, ds, si, hm, M, F, hb, hd, hr, imp⟩ := c.ex
  obtain ⟨_, pa, l⟩ := ha.ex
  refine ⟨_, pe_makeS (E := WE Z.W) M F (b.room.mono hj) hg hm hb hd (fun σ => passAt b.tk σ) pa hdb he hpl, fun r w s H Q QL S h k => ?_⟩
  refine l r w s H _ _ S h fun vs ds H1 w1 A1 r1 q1 => fun a dx h1 h2 h3 => ?_
  have wa : w1 a = none := A1.om.fresh h1
  have A2 := Aft.made (C := C) A1.om h1 h2 h3
  refine ⟨_, _, _, _, .cons .ptr ((r1.append (hr _)).mono A2.same), A2.om, imp _ _ _ _ q1 a wa, fun v d H' w' A _ q => ?_, fun D dx' gs fs H' w' A g1 g2 g3 => ?_⟩
  · obtain ⟨rfl, m, d', hw, fz, q⟩ := q
    have A3 := A.om.cut a
    refine ⟨?_, k _ d' H' (cut w' a) (A1.trans (A2.trans (A.trans A3))) (fz.rp A.om hw) q⟩
    rename_i rv
    cases rv; rfl
  · have A3 := A.om.cut a
    have AA := A1.trans (A2.trans (A.trans A3))
    exact S.xw.1 D dx' gs fs r s H' (cut w' a) g1 (g2.mono A3.same) (S.env.mono AA.same) AA g3
def dTop (te : DTE) : DTE := fun r w Q => te r w fun x w1 => match x with
  | .num q => Q (.int q.num) w1
  | _ => False
def dBot (te : DTE) : DTE := fun r w Q => te r w fun x w1 => match x with
  | .num q => Q (.int q.den) w1
  | _ => False
theorem de_top (hc : Cls Z.X.K (cN Z.X.K)) (hn : NoAttr Z.X.K (cN Z.X.K) "top") (he : DE Z e te) (hb : attributeBase e "top" Z.X.env (eval e Z.X.env) = eval e Z.X.env := by rfl) : DE Z (.Attribute e "top" pos) (dTop te) := by
  obtain ⟨_, p, l⟩ := he.ex
  refine ⟨_, pe_fld p hb, fun r w s H Q QL S h k => ?_⟩
  refine l r w s H _ _ S h fun v d H1 w1 A1 r1 q1 => ?_
  cases r1 with
  | num hq => exact ⟨_, _, _, _, _, rfl, (hm_some hq).2, hc, hn, by rw [List.lookup_cons, beq_eq_false_iff_ne.mpr (by decide +kernel)]; exact List.lookup_cons_self, k _ _ H1 w1 A1 .int q1⟩
  | _ => exact (show False from q1).elim
theorem de_bot (hc : Cls Z.X.K (cN Z.X.K)) (hn : NoAttr Z.X.K (cN Z.X.K) "bottom") (he : DE Z e te) (hb : attributeBase e "bottom" Z.X.env (eval e Z.X.env) = eval e Z.X.env := by rfl) : DE Z (.Attribute e "bottom" pos) (dBot te) := by
  obtain ⟨_, p, l⟩ := he.ex
  refine ⟨_, pe_fld p hb, fun r w s H Q QL S h k => ?_⟩
  refine l r w s H _ _ S h fun v d H1 w1 A1 r1 q1 => ?_
  cases r1 with
  | num hq => exact ⟨_, _, _, _, _, rfl, (hm_some hq).2, hc, hn, List.lookup_cons_self, k _ _ H1 w1 A1 .int q1⟩
  | _ => exact (show False from q1).elim
def dSetF (C : Addr) (f : Str) (tv to : DTE) : DTS := fun D r w => tv r w fun y w1 => to r w1 fun x w2 => match x with
  | .ptr p => ∃ fs, w2 p = some (.ins C fs) ∧ fs.length < 1000 ∧ D.nx r (put w2 p (.ins C (putD f y fs)))
  | _ => False
theorem RpF.put {K : PySem.W.Frag} {H : Hp} {f : Str} {d : Dt} {v : V} (r : Rp K H d v) : ∀ {fs : List (Str × Dt)} {gs : List (Str × V)}, RpF K H fs gs → RpF K H (putD f d fs) (putF f v gs)
  | _, _, .nil => .cons r .nil
  | (g, x) :: fs, _, .cons q t => by
    show RpF K H (if g = f then (g, d) :: fs else (g, x) :: putD f d fs) (if g = f then _ else _)
    by_cases e : g = f
    · rw [if_pos e, if_pos e]; exact .cons r t
    · rw [if_neg e, if_neg e]; exact .cons q (RpF.put r t)
theorem ds_setF {f : Str} {value : Expr} {pos' : Pos} {tv : DTE} (C : Addr) (h1 : Cls Z.X.K C) (h2 : NoAttr Z.X.K C f) (ho : DE Z o te) (hv : DE Z value tv) (hs : swapsWith value (some (.Attribute o f pos')) pos.line Z.X.env = pure false := by rfl) :
    DS Z (.Assign [.Attribute o f pos'] value pos) (dSetF C f tv te) := by
  obtain ⟨_, p, l⟩ := ho.ex
  obtain ⟨_, q, l'⟩ := hv.ex
  refine ⟨_, ps_fld p q hs, fun D DL r w s H S h E => ?_⟩
  refine l' r w s H _ _ S h fun v d H1 w1 A1 r1 q1 => ?_
  refine l r w1 s H1 _ _ (S.next A1) q1 fun v2 d2 H2 w2 A2 r2 q2 => ?_
  cases r2 with
  | ptr =>
    obtain ⟨fs, hw, hl, q3⟩ := q2
    obtain ⟨dx, gs, hH, rf⟩ := A2.om.ins hw
    refine ⟨_, C, dx, gs, rfl, hH, h1, h2, by rw [← rf.length]; exact hl, ?_⟩
    have A3 := Aft.chg (o := .ins C dx (putF f v gs)) (m := .ins C (putD f d fs)) A2.om hw (.ins (rf.put (f := f) (r1.mono A2.same)))
    have AA := A1.trans (A2.trans A3)
    exact E.nx r s _ _ AA (S.env.mono AA.same) q3
  | _ => exact (show False from q2).elim
end
end DL
namespace DL
open PySem PySem.Spec PyProof.Rows L2
theorem RpL.atI {K : PySem.W.Frag} {H : Hp} {ds : List Dt} {vs : List V} {i : Int} {d : Dt} (r : RpL K H ds vs) (h : L2.atI ds i = some d) : ∃ v, L2.atI vs i = some v ∧ Rp K H d v := by
  unfold L2.atI at h ⊢
  rw [← r.length]
  cases e : ixN ds.length i with
  | none => rw [e] at h; cases h
  | some j =>
    rw [e] at h
    exact r.get (i := j) h
def itemR : DR2 := fun x y w Q => match x, y with
  | .tup xs, .int i => ∃ d, L2.atI xs i = some d ∧ Q d w
  | .lst xs, .int i => ∃ d, L2.atI xs i = some d ∧ Q d w
  | .rl xs, .int i => ∃ d, L2.atI xs i = some d ∧ Q d w
  | .ptr p, .int i => ∃ xs, w p = some (.lst xs) ∧ ∃ d, L2.atI xs i = some d ∧ Q d w
  | .str z, .int i => z.length ≤ sizeLine ∧ ∃ c, L2.atI z.cps.toList i = some c ∧ Q (.str ⟨#[c]⟩) w
  | _, _ => False
section
variable {Z : Dx} {e a b c o : Expr} {ta tb te to ti : DTE} {t u : DTT} {ts us : DTS} {pos apos : Pos}
theorem lk_item : LkR Z (rIx Z.X.K) itemR := fun dx dy x y w H Q QL ok rx ry h k => by
  cases rx with
  | tup hx r => cases ry with
    | int =>
      obtain ⟨d, e, q⟩ := h
      obtain ⟨v, e', rv⟩ := r.atI e
      exact .inr (.inl ⟨_, _, _, v, rfl, rfl, up_t hx, e', k _ _ H w (Aft.refl ok) rv q⟩)
    | _ => exact (show False from h).elim
  | lst hx r => cases ry with
    | int =>
      obtain ⟨d, e, q⟩ := h
      obtain ⟨v, e', rv⟩ := r.atI e
      exact .inl ⟨_, _, _, v, rfl, rfl, SqL.of (hm_some hx).2, e', k _ _ H w (Aft.refl ok) rv q⟩
    | _ => exact (show False from h).elim
  | rl hx r => cases ry with
    | int =>
      obtain ⟨d, e, q⟩ := h
      obtain ⟨v, e', rv⟩ := r.atI e
      exact .inl ⟨_, _, _, v, rfl, rfl, up_l hx, e', k _ _ H w (Aft.refl ok) rv q⟩
    | _ => exact (show False from h).elim
  | ptr => cases ry with
    | int =>
      obtain ⟨xs, hp, d, e, q⟩ := h
      obtain ⟨vs, h1, r⟩ := ok.lst hp
      obtain ⟨v, e', rv⟩ := r.atI e
      exact .inl ⟨_, _, _, v, rfl, rfl, SqL.of h1, e', k _ _ H w (Aft.refl ok) rv q⟩
    | _ => exact (show False from h).elim
  | str => cases ry with
    | int =>
      obtain ⟨hz, d, e, q⟩ := h
      exact .inr (.inr ⟨_, _, _, rfl, rfl, hz, e, k _ _ H w (Aft.refl ok) .str q⟩)
    | _ => exact (show False from h).elim
  | _ => exact (show False from h).elim
theorem de_ix (ha : DE Z a ta) (hb : DE Z b tb) (hs : PlainIx b := by exact fun _ _ => rfl) : DE Z (.Subscript a b pos) (dOp itemR ta tb) := by
  obtain ⟨_, pa, la⟩ := ha.ex
  obtain ⟨_, pb, lb⟩ := hb.ex
  exact ⟨_, pe_ix ix_seq pa pb hs, lk_op lk_item la lb⟩
def gSubM (to ti : DTE) : DTG := fun d r w Q => to r w fun x w1 => ti r w1 fun y w2 => match x, y with
  | .ptr p, .int i => ∃ xs j, w2 p = some (.lst xs) ∧ ixN xs.length i = some j ∧ Q r (put w2 p (.lst (xs.set j d)))
  | _, _ => False
theorem dg_sub (ho : DE Z o to) (hi : DE Z b ti) (ha : ∀ v, assign (.Subscript o b pos) Z.X.env v = (do
      let ov ← holding [v] (eval o Z.X.env)
      let iv ← holding [v, ov] (eval b Z.X.env)
      standAt pos
      holding [v, ov, iv] (setItem ov iv v)
      release [v, ov, iv] []) := by intro _; rfl) : DG Z (.Subscript o b pos) (gSubM to ti) := by
  obtain ⟨_, po, lo⟩ := ho.ex
  obtain ⟨_, pi, li⟩ := hi.ex
  refine ⟨_, pg_sub po pi set_list ha, fun d v r w s H Q QL S rv h k => ?_⟩
  refine lo r w s H _ _ S h fun v1 d1 H1 w1 A1 r1 q1 => ?_
  refine li r w1 s H1 _ _ (S.next A1) q1 fun v2 d2 H2 w2 A2 r2 q2 => ?_
  have r1' := r1.mono A2.same
  cases r1 with
  | ptr => cases r2 with
    | int =>
      obtain ⟨xs, j, hp, hj, q⟩ := q2
      obtain ⟨vs, h1, rl⟩ := A2.om.lst hp
      refine ⟨_, vs, _, j, rfl, rfl, h1, by rw [← rl.length]; exact hj, ?_⟩
      have A3 := Aft.chg (o := .lst (vs.set j v)) (m := .lst (xs.set j d)) A2.om hp (.lst (rl.set (rv.mono (A1.trans A2).same) j))
      have AA := A1.trans (A2.trans A3)
      exact k r s _ _ AA (S.env.mono AA.same) q
    | _ => exact (show False from q2).elim
  | _ => exact (show False from q2).elim
abbrev DTO := Rho → Om → (Option Int → Om → Prop) → Prop
def dNo : DTO := fun _ w Q => Q none w
def dPt (te : DTE) : DTO := fun r w Q => te r w fun x w1 => match x with
  | .int i => Q (some i) w1
  | _ => False
def cutD (xs : List Dt) (lo hi : Option Int) : List Dt := (xs.drop (HT.sIx xs.length 0 lo)).take (HT.sIx xs.length xs.length hi - HT.sIx xs.length 0 lo)
theorem RpL.cut {K : PySem.W.Frag} {H : Hp} {ds : List Dt} {vs : List V} (r : RpL K H ds vs) (lo hi : Option Int) : RpL K H (cutD ds lo hi) (cutV vs lo hi) := by
  unfold cutD cutV
  rw [r.length]
  exact (r.drop _).take _
def sliceR : Dt → Option Int → Option Int → Om → DK → Prop := fun x lo hi w Q => match x with
  | .lst xs => Q (.lst (cutD xs lo hi)) w
  | .rl xs => Q (.lst (cutD xs lo hi)) w
  | .tup xs => Q (.tup (cutD xs lo hi)) w
  | .str z => z.length ≤ sizeLine ∧ Q (.str (cutS z lo hi)) w
  | .ptr p => ∃ xs, w p = some (.lst xs) ∧ Q (.lst (cutD xs lo hi)) w
  | _ => False
def dSl (te : DTE) (tl th : DTO) : DTE := fun r w Q => te r w fun x w1 => tl r w1 fun l w2 => th r w2 fun u w3 => sliceR x l u w3 Q
def dRev (te : DTE) : DTE := fun r w Q => te r w fun x w1 => match x with
  | .lst xs => Q (.lst xs.reverse) w1
  | .rl xs => Q (.lst xs.reverse) w1
  | .ptr p => ∃ xs, w1 p = some (.lst xs) ∧ Q (.lst xs.reverse) w1
  | _ => False
def dRevM (te : DTE) : DTE := fun r w Q => te r w fun x w1 => match x with
  | .lst xs => ∀ p, w1 p = none → Q (.ptr p) (put w1 p (.lst xs.reverse))
  | _ => False
abbrev DFr := List Dt → Om → DK → Prop
structure DFn (Z : Dx) (f : Value) (rd : DFr) : Prop where
  ex : ∃ rL, CallR Z.X f rL ∧ ∀ (ds : List Dt) (vs : List V) (w : Om) (H : Hp) (Q : DK) (QL : VK), OmOk Z.X.K w H → RpL Z.X.K (hm H w) ds vs → rd ds w Q →
    (∀ v d H' w', Aft Z.X.K w H w' H' → Rp Z.X.K (hm H' w') d v → Q d w' → QL v H') → rL vs H QL
def dFn (rd : DFr) (ta : DTA) : DTE := fun r w Q => ta r w fun ds w1 => rd ds w1 Q
theorem lk_fn {rL : List V → Hp → VK → Prop} {tL : TA} {rd : DFr} {ta : DTA} (l : LkA Z tL ta) (lr : ∀ (ds : List Dt) (vs : List V) (w : Om) (H : Hp) (Q : DK) (QL : VK), OmOk Z.X.K w H → RpL Z.X.K (hm H w) ds vs → rd ds w Q →
    (∀ v d H' w', Aft Z.X.K w H w' H' → Rp Z.X.K (hm H' w') d v → Q d w' → QL v H') → rL vs H QL) : LkE Z (tCB rL tL) (dFn rd ta) := fun r w s H Q QL S h k => by
  refine l r w s H _ _ S h fun vs ds H1 w1 A1 r1 q1 => ?_
  exact lr ds vs w1 H1 Q QL A1.om r1 q1 fun v d H' w' A => k v d H' w' (A1.trans A)
theorem de_fn {x : Str} {id : String} {rd : DFr} {es : List Expr} {t : DTA} {p : Pos} (hc : DFn Z (.builtin id) rd) (hm : Z.X.mg x = none) (ha : DA Z (e :: es) t) (hv : bootBuiltins x = some (.builtin id) := by decide +kernel) (hg : Gl Z.X x := by rfl) (hn : x ≠ "__name__" := by decide) (hdb : (x == ("__debug__" : Str)) = false := by decide)
    (he : starEach (e :: es) Z.X.env = (false, eval e Z.X.env) :: starEach es Z.X.env := by rfl) (hpl : (backTo pos (starEach es Z.X.env)).any (·.1) = false := by rfl) : DE Z (.Call (.Name x p) (e :: es) [] pos) (dFn rd t) := by
  obtain ⟨rL, c, lr⟩ := hc.ex
  obtain ⟨_, pa, l⟩ := ha.ex
  exact ⟨_, pe_callB c hg hm hv pa hn hdb he hpl, lk_fn l lr⟩
theorem de_fnTy {x : Str} {T : String} {rd : DFr} {es : List Expr} {t : DTA} {p : Pos} (hc : DFn Z (.type T) rd) (hm : Z.X.mg x = none) (ha : DA Z (e :: es) t) (hv : bootBuiltins x = some (.type T) := by decide +kernel) (hg : Gl Z.X x := by rfl) (hn : x ≠ "__name__" := by decide) (hdb : (x == ("__debug__" : Str)) = false := by decide)
    (he : starEach (e :: es) Z.X.env = (false, eval e Z.X.env) :: starEach es Z.X.env := by rfl) (hpl : (backTo pos (starEach es Z.X.env)).any (·.1) = false := by rfl) : DE Z (.Call (.Name x p) (e :: es) [] pos) (dFn rd t) := by
  obtain ⟨rL, c, lr⟩ := hc.ex
  obtain ⟨_, pa, l⟩ := ha.ex
  exact ⟨_, pe_callTy c hg hm hv pa hn hdb he hpl, lk_fn l lr⟩
def on1 (f : Dt → Om → DK → Prop) : DFr := fun ds w Q => match ds with
  | [x] => f x w Q
  | _ => False
def on2 (f : Dt → Dt → Om → DK → Prop) : DFr := fun ds w Q => match ds with
  | [x, y] => f x y w Q
  | _ => False
theorem rl1 {K : PySem.W.Frag} {H : Hp} {ds : List Dt} {vs : List V} {f : Dt → Om → DK → Prop} {w : Om} {Q : DK} (r : RpL K H ds vs) (h : on1 f ds w Q) : ∃ d v, ds = [d] ∧ vs = [v] ∧ Rp K H d v ∧ f d w Q := by
  cases r with
  | nil => exact (show False from h).elim
  | cons r1 r2 => cases r2 with
    | nil => exact ⟨_, _, rfl, rfl, r1, h⟩
    | cons _ _ => exact (show False from h).elim
theorem rl2 {K : PySem.W.Frag} {H : Hp} {ds : List Dt} {vs : List V} {f : Dt → Dt → Om → DK → Prop} {w : Om} {Q : DK} (r : RpL K H ds vs) (h : on2 f ds w Q) : ∃ d e v u, ds = [d, e] ∧ vs = [v, u] ∧ Rp K H d v ∧ Rp K H e u ∧ f d e w Q := by
  cases r with
  | nil => exact (show False from h).elim
  | cons r1 r2 => cases r2 with
    | nil => exact (show False from h).elim
    | cons r3 r4 => cases r4 with
      | nil => exact ⟨_, _, _, _, rfl, rfl, r1, r3, h⟩
      | cons _ _ => exact (show False from h).elim
def lenR : DFr := on1 fun x w Q => match x with
  | .lst xs => Q (.int xs.length) w
  | .rl xs => Q (.int xs.length) w
  | .tup xs => Q (.int xs.length) w
  | .str z => z.length ≤ sizeLine ∧ Q (.int z.length) w
  | .ptr p => ∃ xs, w p = some (.lst xs) ∧ Q (.int xs.length) w
  | _ => False
theorem f_len : DFn Z (.builtin "len") lenR := by
  refine ⟨_, call_len, fun ds vs w H Q QL ok r h k => ?_⟩
  obtain ⟨d, v, rfl, rfl, rv, h⟩ := rl1 r h
  cases rv with
  | lst hx rl => exact ⟨_, _, rfl, .inl ⟨_, SqL.of (hm_some hx).2, rl.length⟩, k _ _ H w (Aft.refl ok) .int h⟩
  | rl hx rl => exact ⟨_, _, rfl, .inl ⟨_, up_l hx, rl.length⟩, k _ _ H w (Aft.refl ok) .int h⟩
  | tup hx rl => exact ⟨_, _, rfl, .inr ⟨_, up_t hx, rl.length⟩, k _ _ H w (Aft.refl ok) .int h⟩
  | str => exact ⟨_, _, rfl, ⟨h.1, rfl⟩, k _ _ H w (Aft.refl ok) .int h.2⟩
  | ptr =>
    obtain ⟨xs, hp, q⟩ := h
    obtain ⟨vs, h1, rl⟩ := ok.lst hp
    exact ⟨_, _, rfl, .inl ⟨_, SqL.of h1, rl.length⟩, k _ _ H w (Aft.refl ok) .int q⟩
  | _ => exact (show False from h).elim
def absR : DFr := on1 fun x w Q => match x with
  | .int i => Q (.int (if i < 0 then -i else i)) w
  | _ => False
theorem f_abs : DFn Z (.builtin "abs") absR := by
  refine ⟨_, call_abs, fun ds vs w H Q QL ok r h k => ?_⟩
  obtain ⟨d, v, rfl, rfl, rv, h⟩ := rl1 r h
  cases rv with
  | int => exact ⟨_, rfl, k _ _ H w (Aft.refl ok) .int h⟩
  | _ => exact (show False from h).elim
def max2R : DFr := on2 fun x y w Q => match x, y with
  | .int i, .int j => Q (.int (if j > i then j else i)) w
  | _, _ => False
def min2R : DFr := on2 fun x y w Q => match x, y with
  | .int i, .int j => Q (.int (if j < i then j else i)) w
  | _, _ => False
theorem f_max2 (hc : Z.X.calm = true) : DFn Z (.builtin "max") max2R := by
  refine ⟨_, call_max2 hc, fun ds vs w H Q QL ok r h k => ?_⟩
  obtain ⟨d, e, v, u, rfl, rfl, rv, ru, h⟩ := rl2 r h
  cases rv with
  | int => cases ru with
    | int => exact ⟨_, _, rfl, k _ _ H w (Aft.refl ok) .int h⟩
    | _ => exact (show False from h).elim
  | _ => exact (show False from h).elim
theorem f_min2 (hc : Z.X.calm = true) : DFn Z (.builtin "min") min2R := by
  refine ⟨_, call_min2 hc, fun ds vs w H Q QL ok r h k => ?_⟩
  obtain ⟨d, e, v, u, rfl, rfl, rv, ru, h⟩ := rl2 r h
  cases rv with
  | int => cases ru with
    | int => exact ⟨_, _, rfl, k _ _ H w (Aft.refl ok) .int h⟩
    | _ => exact (show False from h).elim
  | _ => exact (show False from h).elim
def intR : DFr := on1 fun x w Q => match x with
  | .int i => Q (.int i) w
  | .bl b => Q (.int (if b then 1 else 0)) w
  | _ => False
theorem f_int : DFn Z (.type "int") intR := by
  refine ⟨_, call_int1, fun ds vs w H Q QL ok r h k => ?_⟩
  obtain ⟨d, v, rfl, rfl, rv, h⟩ := rl1 r h
  cases rv with
  | int => exact .inl ⟨_, rfl, k _ _ H w (Aft.refl ok) .int h⟩
  | bl => exact .inr ⟨_, rfl, k _ _ H w (Aft.refl ok) .int h⟩
  | _ => exact (show False from h).elim
def listR : DFr := on1 fun x w Q => match x with
  | .lst xs => Q (.lst xs) w
  | .rl xs => Q (.lst xs) w
  | .tup xs => Q (.lst xs) w
  | .ptr p => ∃ xs, w p = some (.lst xs) ∧ Q (.lst xs) w
  | _ => False
theorem f_list : DFn Z (.type "list") listR := by
  refine ⟨_, call_list_of, fun ds vs w H Q QL ok r h k => ?_⟩
  obtain ⟨d, v, rfl, rfl, rv, h⟩ := rl1 r h
  have go : ∀ {xs : List Dt} {us : List V}, RpL Z.X.K (hm H w) xs us → Q (.lst xs) w → ∀ l, H l = none → QL (.ref l) (upd H l (.lst us)) := fun rl q l hl => by
    obtain ⟨A, R⟩ := newL ok hl rl
    exact k _ _ _ w A R q
  cases rv with
  | lst hx rl => exact ⟨_, _, rfl, .inl (SqL.of (hm_some hx).2), go rl h⟩
  | rl hx rl => exact ⟨_, _, rfl, .inl (up_l hx), go rl h⟩
  | tup hx rl => exact ⟨_, _, rfl, .inr (up_t hx), go rl h⟩
  | ptr =>
    obtain ⟨xs, hp, q⟩ := h
    obtain ⟨vs, h1, rl⟩ := ok.lst hp
    exact ⟨_, _, rfl, .inl (SqL.of h1), go rl q⟩
  | _ => exact (show False from h).elim
def tupleR : DFr := on1 fun x w Q => match x with
  | .lst xs => Q (.tup xs) w
  | .rl xs => Q (.tup xs) w
  | .tup xs => Q (.tup xs) w
  | .ptr p => ∃ xs, w p = some (.lst xs) ∧ Q (.tup xs) w
  | _ => False
def tyName : Dt → Option String
  | .non => some "NoneType"
  | .bl _ => some "bool"
  | .int _ => some "int"
  | .str _ => some "str"
  | .tup _ => some "tuple"
  | .lst _ => some "list"
  | .rl _ => some "list"
  | _ => none
structure Isi (K : PySem.W.Frag) (u : Value) (p : Dt → Bool) : Prop where
  ty : ∀ d n, tyName d = some n → PySem.W.kitOne K (.type n) u = some (p d)
  num : ∀ q, PySem.W.kitOne K (.ref (cN K)) u = some (p (.num q))
  list : ∀ xs ys, p (.lst xs) = p (.lst ys)
structure NumI (K : PySem.W.Frag) : Prop where
  cl : Cls K (cN K)
  ha : PySem.W.findIn K (.ref (cN K)) "__class__" = some (some (.builtin "object.__class__"))
  hn : PySem.W.specialIn K (.builtin "object.__class__") "__get__" = some (some (.builtin "getset_descriptor.__get__"))
  htk : PySem.W.takesIn K (.builtin "object.__class__") = some true
  hm : PySem.W.mroIn K (cN K) (.type "object") = some true
abbrev DMr := Addr → List Dt → Om → DK → Prop
def dMt (rd : DMr) (te : DTE) (ta : DTA) : DTE := fun r w Q => te r w fun x w1 => match x with
  | .ptr p => (∃ xs, w1 p = some (.lst xs)) ∧ ta r w1 fun ds w2 => (∃ xs, w2 p = some (.lst xs)) ∧ rd p ds w2 Q
  | _ => False
def appendR : DMr := fun p ds w Q => match ds with
  | [d] => ∃ xs, w p = some (.lst xs) ∧ xs.length < sizeLine ∧ Q .non (put w p (.lst (xs ++ [d])))
  | _ => False
def popR : DMr := fun p ds w Q => match ds with
  | [] => ∃ xs y, w p = some (.lst (xs ++ [y])) ∧ Q y (put w p (.lst xs))
  | _ => False
theorem RpL.last {K : PySem.W.Frag} {H : Hp} {xs : List Dt} {y : Dt} {vs : List V} (r : RpL K H (xs ++ [y]) vs) : ∃ us v, vs = us ++ [v] ∧ RpL K H xs us ∧ Rp K H y v := by
  induction xs generalizing vs with
  | nil => cases r with
    | cons r1 r2 => cases r2; exact ⟨[], _, rfl, .nil, r1⟩
  | cons x xs ih => cases r with
    | cons r1 r2 =>
      obtain ⟨us, v, rfl, h1, h2⟩ := ih r2
      exact ⟨_ :: us, v, rfl, .cons r1 h1, h2⟩
theorem ds_tryThru {body : List Stmt} {hs : List ExceptHandler} {h0 : ExceptHandler} (hb : DSs ⟨Z.X.nox, fun _ _ _ _ => False, fun _ _ _ _ => False, fun _ _ => True⟩ body ts) : DS Z (.Try body (h0 :: hs) [] [] pos) ts := by
  obtain ⟨_, p, l⟩ := hb.ex
  refine ⟨_, ps_try_thru0 p, fun D DL r w s H S h E => ?_⟩
  exact l D DL r w s H ⟨S.env, S.om, fun _ _ _ _ _ _ _ _ _ _ _ _ z => z.elim, fun _ _ _ => trivial⟩ h ⟨E.nx, E.rt, E.bk, E.ct⟩
end
end DL
namespace DL
open PySem PySem.Spec PyProof.Rows L2
abbrev noOm : Om := fun _ => none
def LawSp (n : Nat) (sp : DSp) : Prop := ∀ ns : List Int, ns.length ≤ n → (∀ z ∈ ns, Builtin.Int.intBits z ≤ 1048576) → sp [.rl (ns.map Dt.int)] noOm (fun d _ => d = .bl true) fun _ _ _ => False
theorem no_esc {P : Program} {w : World} {outer : List Env} {H : Hp} {s s' : Shared} {e : Value} (h : L2.CX P w outer H s (fun _ _ _ => False) e s') : False := by
  obtain ⟨_, _, _, _, _, h⟩ := h
  first
    | exact h.2.2.2.2.2.2
    | simp_all
theorem rm_caller {k : Nat} (h : Room k callerA) : Rm k callerA := ⟨h, fun _ => rfl⟩
theorem om_no {K : PySem.W.Frag} {H : Hp} : OmOk K noOm H := fun _ _ h => nomatch (show (none : Option MO) = some _ from h)
theorem lift_law {K : PySem.W.Frag} {n : Nat} {sp : DSp} {H : Hp} {a : Addr} {ns : List Int} (g : LawSp n sp) (hl : ns.length ≤ n) (hb : ∀ z ∈ ns, Builtin.Int.intBits z ≤ 1048576) (hS : SqL K H a (ns.map V.int)) :
    lift K sp [.ref a] H (fun v _ => v = .bl true) fun _ _ _ => False := by
  refine ⟨[.rl (ns.map Dt.int)], noOm, (fun d _ => d = .bl true), fun _ _ _ => False, .cons (.rl hS (RpL.ofInts ns)) .nil, om_no, g ns hl hb, fun v d H' w' _ rv e => ?_, fun _ _ _ _ _ _ _ _ _ z => z⟩
  obtain rfl : d = .bl true := e
  cases rv
  rfl
theorem call_law {P : Program} {w : World} {K : PySem.W.Frag} {mg mb : Str → Option Value} {k n : Nat} {fa a : Addr} {fd : FuncData} {x : Str} {sp : DSp} {s₁ : Shared} {vs : List Value} {ns : List Int}
    (KX : K.In s₁.heap) (hns : s₁.heap.Ns mainGlobals mg) (hb : s₁.heap.Ns builtinsNs mb) (hbb : ∀ x : Str, x ≠ "__name__" → mb x = bootBuiltins x) (hlim : s₁.heap.NoLimit) (hg : s₁.gens = #[])
    (ha : s₁.heap.get? a = some { cls := .type "list", data := .seq vs.toArray }) (hi : IntsAre vs ns) (hl : ns.length ≤ n) (hn : n ≤ sizeLine) (hbits : ∀ z ∈ ns, Builtin.Int.intBits z ≤ 1048576) (hr : Room k callerA)
    (F : ∀ base : Heap, K.In base → base.Ns mainGlobals mg → FnG P w K mg base k fa fd [x] (lift K sp)) (hbind : ∀ (s : Shared) (u : Value), BindsTo s fd ⟨[u], []⟩ [(x, u)]) (g : LawSp n sp) :
    codeAny (model P w) callerA (.call (.ref fa) ⟨[.ref a], []⟩) (fun r s' => r = .ok (.ret (.bool true)) ∧ OldK s₁.heap s'.heap ∧ s'.os = s₁.os ∧ AllBare s'.gens) s₁ := by
  have rv := vals_ints hi
  have lenV := hi.length
  have hsz : ns.length ≤ sizeLine := Nat.le_trans hl hn
  have core : ∀ H : Hp, Only H → SqL K H a (ns.map V.int) → HOk P w H s₁.heap → (∀ b, H b ≠ none → b = a) → (H a ≠ none → K.lookup a = none) →
      codeAny (model P w) callerA (.call (.ref fa) ⟨[.ref a], []⟩) (fun r s' => r = .ok (.ret (.bool true)) ∧ OldK s₁.heap s'.heap ∧ s'.os = s₁.os ∧ AllBare s'.gens) s₁ := by
    intro H hO hS hok hA hK
    have atA : ∀ {b : Addr} {u : HO}, H b = some u → b = a := fun q => hA _ (by rw [q]; exact fun z => nomatch z)
    have nsK : ∀ {b : Addr} {m : Str → Option Value}, s₁.heap.Ns b m → (hidT s₁.heap H).Ns b m := fun {b m} ⟨o, es, ep, e, d, r⟩ => ⟨o, es, ep, hidT_get e (by
      cases q : H b with
      | none => rfl
      | some u =>
        obtain rfl := atA q
        rw [ha] at e
        cases e
        exact nomatch (show Data.seq vs.toArray _ = Data.dict es ep from d)), d, r⟩
    have hKb : K.In (hidT s₁.heap H) := fun b o e => hidT_get (KX b o e) (by
      cases q : H b with
      | none => rfl
      | some u =>
        obtain rfl := atA q
        rw [hK (by rw [q]; exact fun z => nomatch z)] at e
        cases e)
    have hM : Mod K mg (hidT s₁.heap H) := ⟨hKb, nsK hns, ⟨mb, nsK hb, hbb⟩, let ⟨mc, h1, h2⟩ := hlim; ⟨mc, nsK h1, h2⟩⟩
    have e0 : Env0 P w K mg (hidT s₁.heap H) callerA [] s₁ H := ⟨rfl, hM, fun b o e => of_hidT e, Nat.le_of_eq (hidT_size _ _), trivial, fun b hb => (List.not_mem_nil hb).elim, hok, .of_eq hg⟩
    refine codeAny_mono ((F _ hKb (nsK hns)).run callerA [] s₁ H ⟨[.ref a], []⟩ [.ref a] [.ref a] _ _ (rm_caller hr) e0 (hbind s₁ (.ref a)) (.cons rfl .nil) (lift_law g hl hbits hS)) fun r s' h => ?_
    match r, h with
    | .error e, h => exact (no_esc h).elim
    | .ok (.ret u), ⟨v, H', os, bare, un, hok', r', q⟩ =>
      obtain rfl : v = .bl true := q
      obtain rfl : u = Value.bool true := r'
      refine ⟨rfl, OldK.of_keep fun b o e => ?_, os, bare⟩
      cases q : H b with
      | none => exact un.keep b o e q (fun z => (List.not_mem_nil z).elim) (List.not_mem_nil)
      | some u =>
        rcases hO b with z | ⟨ob, xs, z⟩
        · rw [q] at z; cases z
        · obtain ⟨e1, _⟩ := hok b _ z
          obtain ⟨e2, _⟩ := hok' b _ (un.frzs b ob _ z)
          rw [e] at e1; cases e1
          exact e2
  cases hk : K.lookup a with
  | some o =>
    have e := KX a o hk
    rw [ha] at e
    cases e
    exact core (fun _ => none) (fun _ => .inl rfl) (.inr ⟨_, vs.toArray, _, hk, rfl, rfl, rfl, by rw [List.size_toArray, lenV]; exact hsz, by simpa using rv⟩) (fun _ _ z => nomatch (show (none : Option HO) = some _ from z)) (fun _ z => absurd rfl z) fun z => absurd rfl z
  | none =>
    have yes : ∀ {b : Addr}, b = a → (fun c => if c = a then some (HO.frz { cls := .type "list", data := .seq vs.toArray } (.lst (ns.map V.int))) else none : Hp) b = some (.frz { cls := .type "list", data := .seq vs.toArray } (.lst (ns.map V.int))) := fun e => if_pos e
    have nope : ∀ {b : Addr}, b ≠ a → (fun c => if c = a then some (HO.frz { cls := .type "list", data := .seq vs.toArray } (.lst (ns.map V.int))) else none : Hp) b = none := fun e => if_neg e
    refine core _ (fun b => ?_) (.inl (.inr ⟨_, yes rfl⟩)) (fun b u z => ?_) (fun b z => Classical.byContradiction fun hb => z (nope hb)) fun _ => hk
    · by_cases hb : b = a
      · exact .inr ⟨_, _, yes hb⟩
      · exact .inl (nope hb)
    · by_cases hb : b = a
      · have z' := (yes hb).symm.trans z
        cases z'
        subst hb
        exact ⟨ha, by rw [List.length_map]; exact hsz, vs, _, rv, ha⟩
      · rw [nope hb] at z; cases z
theorem walk_law {l : PySem.W.OpenLaw} {n k : Nat} {q : Program} {loose : List Str} {XP : (Str → Option Value) → Heap → Prop} {YP : World → Heap → Prop} {d : DefRec} {x : Str}
    (hn : l.most = some n) (hn2 : n ≤ sizeLine) (hdf : d.params.defaults = []) (hr : Room k callerA)
    (F : ∀ (w : World) (mg : Str → Option Value) (fa : Addr) (h : Heap), YP w h → h.Ns mainGlobals mg → mg d.name = some (.ref fa) →
      ∃ (K : PySem.W.Frag) (fd : FuncData) (sp : DSp), K.In h ∧ (∀ (s : Shared) (u : Value), BindsTo s fd ⟨[u], []⟩ [(x, u)]) ∧ LawSp n sp ∧
        ∀ base : Heap, K.In base → base.Ns mainGlobals mg → FnG l.prog w K mg base k fa fd [x] (lift K sp)) :
    PySem.W.WalkO q loose XP YP l.row.toRowW d [] (fun f vs => PySem.call f vs) := by
  refine Att.attach_callB hn hdf fun w s₀ s₁ mg mb fa o pm cd doc a vs ns G Y ho hd hcd hmg hobj hints hlen hbits hg => ?_
  obtain ⟨K, fd, sp, KX, hb, g, hF⟩ := F w mg fa _ Y G.T.g hmg
  exact call_law KX G.T.g G.T.b G.T.builtins G.T.nolimit hg hobj hints hlen hn2 hbits hr hF hb g
section
open He
variable {P : Program} {w : World} {K : PySem.W.Frag} {mg : Str → Option Value} {base : Heap} {x m qual : Str} {params : Arguments} {body : List Stmt} {scope : Scope} {fd : FuncData} {ps : List Str} {k : Nat} {sp : DSp} {f C : Addr} {dvs : List V} {kws : List (Str × V)}
theorem cal_of (F : FunD K x qual params body scope dvs kws f fd) (g : mg x = some (.ref f)) (G : FnG P w K mg base k f fd ps (lift K sp)) {ds : List Value} {dd : List Dt} {dvs' : List V} (b : Binds K fd ps ds) (hv : Vals dvs' ds) (hr : ∀ H, RpL K H dd dvs') : Cal P w K mg base x k dd sp :=
  ⟨f, fd, ps, dvs', ds, g, F.kp, G, b, hv, hr⟩
theorem cal_plain (F : FunD K x qual params body scope [] kws f fd) (g : mg x = some (.ref f)) (G : FnG P w K mg base k f fd ps (lift K sp))
    (h : ∀ (kV doc pm : Value) (an : Option Addr) (cdv ct : Value) (us : List Value), us.length = ps.length → bindArgs (PySem.W.fnOf x qual params body scope .none kV doc pm an cdv ct) ⟨us, []⟩ = pure (ps.zip us)) : Cal P w K mg base x k [] sp :=
  cal_of F g G (F.bindsN h) .nil fun _ => .nil
theorem calm_plain (F : FunD K x qual params body scope [] kws f fd) (c : Cls K C) (hm : Meth K C m f) (G : FnG P w K mg base k f fd ps (lift K sp))
    (h : ∀ (kV doc pm : Value) (an : Option Addr) (cdv ct : Value) (us : List Value), us.length = ps.length → bindArgs (PySem.W.fnOf x qual params body scope .none kV doc pm an cdv ct) ⟨us, []⟩ = pure (ps.zip us)) : CalM P w K mg base C m k [] sp :=
  ⟨f, fd, ps, [], [], c, hm, G, F.bindsN h, .nil, fun _ => .nil⟩
end
end DL
namespace DL
open PySem PySem.Spec PyProof.Rows L2
def eqN : DR2 := fun x y w Q => match x, y with
  | .num q, .num p => Q (.bl (decide (q = p))) w
  | _, _ => False
def EqSp (sp : DSp) : Prop := ∀ q p w (Q : DK) E, Q (.bl (decide (q = p))) w → sp [.num q, .num p] w Q E
theorem vals_nil {dvs : List V} {ds : List Value} (h : dvs = []) (r : Vals dvs ds) : ds = [] := by subst h; cases r; rfl
theorem rpl_nil {K : PySem.W.Frag} {H : Hp} {dvs : List V} (h : RpL K H [] dvs) : dvs = [] := by cases h; rfl
section
variable {Z : Dx} {k j : Nat} {sp : DSp}
theorem o_eqN (b : Bd Z k) (c : CalM Z.X.prog Z.X.w Z.X.K Z.X.mg Z.X.base (cN Z.X.K) "__eq__" j [] sp) (hs : EqSp sp) (hj : j ≤ k := by decide) : DOp Z (compareOp .Eq) eqN := by
  obtain ⟨f, fd, ps, dvs, ds, hc, hm, F, hb, hd, hr⟩ := c.ex
  obtain rfl := rpl_nil (hr (fun _ => none))
  obtain rfl := vals_nil rfl hd
  refine ⟨fun x y H Q => ∃ a dx fs b dy gs, x = .ref a ∧ y = .ref b ∧ H a = some (.ins (cN Z.X.K) dx fs) ∧ H b = some (.ins (cN Z.X.K) dy gs) ∧ lift Z.X.K sp [x, y] H (fun v H' => (∃ c, v = .bl c) ∧ Q v H') (fun _ _ _ => False), fun pins s σ H x y v u Q I rx ry h => ?_, fun dx dy x y w H Q QL ok rx ry h kk => ?_⟩
  · obtain ⟨a, dx, fs, a2, dy, gs, rfl, rfl, ha, hb', hsp⟩ := h
    cases rx
    cases ry
    obtain ⟨mA, J, _⟩ := ins_get I.hok ha
    obtain ⟨mB, J', _⟩ := ins_get I.hok hb'
    obtain ⟨od, J, _⟩ := J.look
    obtain ⟨od', J', _⟩ := J'.look
    obtain ⟨m, hF⟩ := I.fr
    refine PySem.W.cmp_K (op := .Eq) (tb := .ref (cN Z.X.K)) b.room.room.units0 hF I.ok.mod.kin J J'.type (by simp [PySem.W.notFirst]) hm.at_ hm.fn ?_
    have hl := F.len _ _ _ _ hsp
    have r2 : Vals [V.ref a, V.ref a2] [Value.ref a, Value.ref a2] := .cons rfl (.cons rfl .nil)
    refine wpAny_call (codeAny_mono (F.run Z.X.A Z.X.stack s H ⟨[.ref a, .ref a2], []⟩ [.ref a, .ref a2] [.ref a, .ref a2] _ _ (b.room.mono hj) I.env0 (by
      have := hb s [.ref a, .ref a2] I.kIn (by simpa using hl)
      simpa using this) r2 hsp) fun r s' hq => ?_)
    match r, hq with
    | .error e, hq => exact (no_esc hq).elim
    | .ok (.ret u), hq =>
      obtain ⟨z, H', I', rz, ⟨c, ez⟩, ex⟩ := I.after hq
      subst ez
      cases rz
      exact ⟨.bl c, H', I', rfl, ex⟩
  · cases rx with
    | num hx => cases ry with
      | num hy =>
        refine ⟨_, _, _, _, _, _, rfl, rfl, (hm_some hx).2, (hm_some hy).2, ⟨_, w, fun d w2 => (∃ c, d = .bl c) ∧ Q d w2, fun _ _ _ => False, .cons (.num hx) (.cons (.num hy) .nil), ok, hs _ _ _ _ _ ⟨⟨_, rfl⟩, h⟩, fun v d H' w' A rv q => ?_, fun _ _ _ _ _ _ _ _ _ z => z.elim⟩⟩
        obtain ⟨⟨c, rfl⟩, q⟩ := q
        cases rv
        exact ⟨⟨_, rfl⟩, kk _ _ _ _ A .bl q⟩
      | _ => exact (show False from h).elim
    | _ => exact (show False from h).elim
end
def dFmt (te : DTE) : DTE := fun r w Q => te r w fun x w1 => match x with
  | .str y => y.length ≤ sizeLine ∧ Q (.str y) w1
  | .int i => i.natAbs.log2 < 1920 ∧ Q (.str (toString i)) w1
  | _ => False
def dJs : List DTE → Str → Rho → Om → (Str → Om → Prop) → Prop
  | [], acc, _, w, Q => Q acc w
  | t :: ts, acc, r, w, Q => t r w fun x w1 => match x with
    | .str y => (acc ++ y).length ≤ sizeLine ∧ dJs ts (acc ++ y) r w1 Q
    | _ => False
def dJoin (ts : List DTE) : DTE := fun r w Q => dJs ts Str.empty r w fun out w1 => Q (.str out) w1
def LkJs (Z : Dx) (tLs : List TE) (ts : List DTE) : Prop := ∀ (acc : Str) (r : Rho) (w : Om) (s : L2.St) (H : Hp) (Q : Str → Om → Prop) (QL : Str → Hp → Prop), Sok Z r w s H → dJs ts acc r w Q →
  (∀ out H' w', Aft Z.X.K w H w' H' → Q out w' → QL out H') → tJs tLs acc s H QL
structure DJ (Z : Dx) (es : List Expr) (ts : List DTE) : Prop where
  ex : ∃ tLs, PJ Z.X es tLs ∧ LkJs Z tLs ts
section
variable {Z : Dx} {e a b c : Expr} {es : List Expr} {te ta tb tf : DTE} {ts : List DTE} {pos : Pos}
theorem de_fmt (he : DE Z e te) : DE Z (.FormattedValue e (-1) none pos) (dFmt te) := by
  obtain ⟨_, p, l⟩ := he.ex
  refine ⟨_, pe_fmt p, fun r w s H Q QL S h k => ?_⟩
  refine l r w s H _ _ S h fun v d H1 w1 A1 r1 q1 => ?_
  cases r1 with
  | str => exact .inl ⟨_, rfl, q1.1, k _ _ H1 w1 A1 .str q1.2⟩
  | int => exact .inr ⟨_, rfl, q1.1, k _ _ H1 w1 A1 .str q1.2⟩
  | _ => exact (show False from q1).elim
theorem dj_nil : DJ Z [] [] := ⟨[], .nil, fun acc r w s H Q QL S h k => k acc H w (Aft.refl S.om) h⟩
theorem dj_cons (he : DE Z e te) (hr : DJ Z es ts) : DJ Z (e :: es) (te :: ts) := by
  obtain ⟨_, p, l⟩ := he.ex
  obtain ⟨_, q, l'⟩ := hr.ex
  refine ⟨_, .cons p q, fun acc r w s H Q QL S h k => ?_⟩
  refine l r w s H _ _ S h fun v d H1 w1 A1 r1 q1 => ?_
  cases r1 with
  | str => exact ⟨_, rfl, q1.1, l' _ r w1 s H1 Q QL (S.next A1) q1.2 fun out H2 w2 A2 q2 => k out H2 w2 (A1.trans A2) q2⟩
  | _ => exact (show False from q1).elim
theorem de_join (h : DJ Z (a :: b :: es) ts) : DE Z (.JoinedStr (a :: b :: es) pos) (dJoin ts) := by
  obtain ⟨_, p, l⟩ := h.ex
  exact ⟨_, pe_joined p, fun r w s H Q QL S h k => l _ r w s H _ _ S h fun out H' w' A q => k _ _ H' w' A .str q⟩
theorem de_join1 (he : DE Z a ta) : DE Z (.JoinedStr [a] pos) ta := by
  obtain ⟨_, p, l⟩ := he.ex
  exact ⟨_, pe_joined1 p, l⟩
def dTab (tab : List (Str × Dt)) (te : DTE) : DTE := fun r w Q => te r w fun y w1 => match y with
  | .str z => ∃ d, tab.lookup z = some d ∧ Q d w1
  | _ => False
def dCallV (W : DWX) (S : Addr → DSp → Prop) (tf : DTE) (ta : DTA) : DTE := fun r w Q => tf r w fun x w1 => match x with
  | .ptr f => ∃ sp, S f sp ∧ ta r w1 fun ds w2 => sp ds w2 Q fun C fs w3 => W C fs r w3
  | _ => False
def dCallN (W : DWX) (n m : Nat) (gD : List Dt → List Dt → List Dt) (sp : DSp) (ta tk : DTA) : DTE := fun r w Q => ta r w fun ds w1 => tk r w1 fun es w2 => ds.length = n ∧ es.length = m ∧ sp (gD ds es) w2 Q fun C fs w3 => W C fs r w3
end
end DL
namespace DL
open PySem PySem.Spec PyProof.Rows L2
def dNeg (te : DTE) : DTE := fun r w Q => te r w fun x w1 => match x with
  | .int i => Q (.int (-i)) w1
  | _ => False
def isNon : Dt → Bool
  | .non => true
  | _ => false
def isR (neg : Bool) : DR2 := fun x y w Q => match y with
  | .non => Q (.bl (if neg then !isNon x else isNon x)) w
  | .bl b => (match x with
    | .bl a => Q (.bl (if neg then !decide (a = b) else decide (a = b))) w
    | _ => False)
  | _ => False
section
variable {Z : Dx} {e a b : Expr} {te ta tb : DTE} {pos : Pos}
theorem de_neg (he : DE Z e te) : DE Z (.UnaryOp .USub e pos) (dNeg te) := by
  obtain ⟨_, p, l⟩ := he.ex
  refine ⟨_, pe_un un_neg p, fun r w s H Q QL S h k => ?_⟩
  refine l r w s H _ _ S h fun v d H1 w1 A1 r1 q1 => ?_
  cases r1 with
  | int => exact ⟨_, rfl, k _ _ H1 w1 A1 .int q1⟩
  | _ => exact (show False from q1).elim
theorem non_rp {K : PySem.W.Frag} {H : Hp} {d : Dt} {v : V} (r : Rp K H d v) : decide (v = .non) = isNon d := by
  cases r <;> first | rfl | exact decide_eq_false (fun z => nomatch z)
end
def wipeD (r : Rho) : List Nat → Rho
  | [] => r
  | v :: vs => pus (wipeD r vs) v none
section
variable {Z : Dx} {k : Nat} {e : Expr} {te : DTE} {tt : DTT} {pos : Pos}
def dYes : DTT := fun _ w Q => Q true w
def dLcK (wi : DTI) (g : DTG) (tt : DTT) (te : DTE) (vs : List Nat) (fin : Rho → Addr → Om → DK → Prop) : DTE := fun r w Q => wi r w fun xs St w1 => ∀ D, w1 D = none → ∃ P : Nat → Om → Prop, P 0 (put w1 D (.lst [])) ∧
  (∀ i w2, i ≤ xs.length → P i w2 → St w2 ∧ ∀ d, xs[i]? = some d → g d (wipeD r vs) w2 fun r4 w4 => tt r4 w4 fun b w5 => br b (te r4 w5 fun y w6 => ∃ acc, w6 D = some (.lst acc) ∧ acc.length < sizeLine ∧ P (i + 1) (put w6 D (.lst (acc ++ [y])))) (P (i + 1) w5)) ∧
  ∀ w2, P xs.length w2 → fin r D w2 Q
end
end DL
namespace DL
open PySem PySem.Spec PyProof.Rows L2
def Sz (n : Nat) (i : Int) : Prop := i.natAbs < 2 ^ n
def SzR (n : Nat) (q : Rat) : Prop := Sz n q.num ∧ Sz n q.den
theorem Sz.mono {m n : Nat} {i : Int} (h : Sz m i) (l : m ≤ n) : Sz n i := Nat.lt_of_lt_of_le h (Nat.pow_le_pow_right (by decide) l)
theorem SzR.mono {m n : Nat} {q : Rat} (h : SzR m q) (l : m ≤ n) : SzR n q := ⟨h.1.mono l, h.2.mono l⟩
theorem Sz.log {n : Nat} {i : Int} (h : Sz n i) (hn : 0 < n) : i.natAbs.log2 < n := by
  by_cases z : i.natAbs = 0
  · rw [z]; exact hn
  · exact (Nat.log2_lt z).mpr h
theorem Sz.mul {m n : Nat} {i j : Int} (a : Sz m i) (b : Sz n j) : Sz (m + n) (i * j) := by
  unfold Sz at *
  rw [Int.natAbs_mul, Nat.pow_add]
  exact Nat.mul_lt_mul'' a b
theorem Sz.neg {n : Nat} {i : Int} (a : Sz n i) : Sz n (-i) := by unfold Sz at *; rwa [Int.natAbs_neg]
theorem Sz.add {m n : Nat} {i j : Int} (a : Sz m i) (b : Sz n j) : Sz (max m n + 1) (i + j) := by
  have a' := a.mono (Nat.le_max_left m n)
  have b' := b.mono (Nat.le_max_right m n)
  unfold Sz at *
  rw [Nat.pow_succ]
  omega
theorem Sz.sub {m n : Nat} {i j : Int} (a : Sz m i) (b : Sz n j) : Sz (max m n + 1) (i - j) := by
  rw [Int.sub_eq_add_neg]; exact a.add b.neg
theorem Sz.abs {n : Nat} {i : Int} (a : Sz n i) : Sz n i.natAbs := by unfold Sz at *; rwa [Int.natAbs_natCast]
theorem Sz.ediv {n : Nat} {i j : Int} (a : Sz n i) (hj : 0 < j) : Sz n (i / j) := by
  have h : (i / j).natAbs ≤ i.natAbs := by
    have := Int.natAbs_ediv_le_natAbs i j
    exact this
  exact Nat.lt_of_le_of_lt h a
theorem Sz.mulC {m n : Nat} {i j : Int} (a : Sz m i) (b : Sz n j) (hm : 0 < m) (hn : 0 < n) (h : m + n ≤ 1000000) : MulC i j := .inl (by
  have h1 := a.log hm
  have h2 := b.log hn
  unfold CMulW
  omega)
theorem Sz.divP {n : Nat} {i : Int} (a : Sz n i) (hi : 0 < i) (h : n ≤ 9000) : DivP i := ⟨hi, by
  by_cases z : n = 0
  · subst z
    have := a
    unfold Sz at this
    have e : i.natAbs = 0 := by omega
    rw [e]; decide
  · exact Nat.lt_of_lt_of_le (a.log (Nat.pos_of_ne_zero z)) h⟩
theorem Sz.divN {n : Nat} {i : Int} (a : Sz n i) (hi : i ≠ 0) (h : n ≤ 9000) : DivN i := ⟨hi, by
  by_cases z : n = 0
  · subst z
    have := a
    unfold Sz at this
    have e : i.natAbs = 0 := by omega
    rw [e]; decide
  · exact Nat.lt_of_lt_of_le (a.log (Nat.pos_of_ne_zero z)) h⟩
theorem Sz.of_le {n : Nat} {i j : Int} (a : Sz n j) (h : i.natAbs ≤ j.natAbs) : Sz n i := Nat.lt_of_le_of_lt h a
theorem abs_if (a : Int) : (if a < 0 then -a else a) = (a.natAbs : Int) := by split <;> omega
theorem gcd_step {a b : Nat} (hb : 0 < b) : Nat.gcd b (a % b) = Nat.gcd a b := by
  rw [Nat.gcd_comm a b, Nat.gcd_comm b (a % b)]
  exact (Nat.gcd_rec b a).symm
theorem den_pos (q : Rat) : (0 : Int) < (q.den : Int) := Int.ofNat_lt.mpr q.den_pos
def byOf (a b : Int) : Int := if b < 0 then 0 - (Nat.gcd a.natAbs b.natAbs : Int) else (Nat.gcd a.natAbs b.natAbs : Int)
theorem byOf_ne {a b : Int} (hb : b ≠ 0) : byOf a b ≠ 0 := by
  have h : 0 < Nat.gcd a.natAbs b.natAbs := Nat.gcd_pos_of_pos_right _ (Int.natAbs_pos.mpr hb)
  unfold byOf
  split <;> omega
theorem bot_of {a b : Int} (hb : b ≠ 0) : b.fdiv (byOf a b) = ((Rat.divInt a b).den : Int) := by
  rw [Rat.den_divInt, if_neg hb]
  have hg : 0 < Nat.gcd a.natAbs b.natAbs := Nat.gcd_pos_of_pos_right _ (Int.natAbs_pos.mpr hb)
  have hc : b.gcd a = Nat.gcd a.natAbs b.natAbs := by rw [Int.gcd_comm]; rfl
  rw [hc]
  obtain ⟨c, hc'⟩ := Nat.gcd_dvd_right a.natAbs b.natAbs
  unfold byOf
  generalize Nat.gcd a.natAbs b.natAbs = G at *
  have hq : b.natAbs / G = c := by rw [hc']; exact Nat.mul_div_cancel_left c hg
  rw [hq]
  have hG0 : (G : Int) ≠ 0 := by omega
  have hcast : (b.natAbs : Int) = (G : Int) * (c : Int) := by rw [hc']; exact Int.natCast_mul G c
  split
  · rename_i hn
    have e : b = (0 - (G : Int)) * (c : Int) := by
      rw [Int.zero_sub, Int.neg_mul, ← hcast]; omega
    rw [e]
    exact Int.mul_fdiv_cancel_left _ (by omega)
  · rename_i hn
    have e : b = (G : Int) * (c : Int) := by rw [← hcast]; omega
    rw [e]
    exact Int.mul_fdiv_cancel_left _ hG0
theorem top_of {a b : Int} (hb : b ≠ 0) : a.fdiv (byOf a b) = (Rat.divInt a b).num := by
  rw [Rat.num_divInt]
  have hg : 0 < Nat.gcd a.natAbs b.natAbs := Nat.gcd_pos_of_pos_right _ (Int.natAbs_pos.mpr hb)
  have hc : b.gcd a = Nat.gcd a.natAbs b.natAbs := by rw [Int.gcd_comm]; rfl
  rw [hc]
  have d : ((Nat.gcd a.natAbs b.natAbs : Nat) : Int) ∣ a := Int.ofNat_dvd_left.mpr (Nat.gcd_dvd_left _ _)
  obtain ⟨c, hc'⟩ := d
  unfold byOf
  split
  · rename_i hn
    rw [Int.sign_eq_neg_one_of_neg hn]
    generalize hG : ((Nat.gcd a.natAbs b.natAbs : Nat) : Int) = G at *
    have hG0 : G ≠ 0 := by omega
    have h1 : a = (0 - G) * (-c) := by rw [hc', Int.zero_sub, Int.neg_mul_neg]
    have h2 : -1 * a = G * (-c) := by rw [hc', Int.mul_neg, Int.neg_mul, Int.one_mul]
    rw [h2, Int.mul_ediv_cancel_left _ hG0]
    conv => lhs; rw [h1]
    exact Int.mul_fdiv_cancel_left _ (by omega)
  · rename_i hn
    rw [Int.sign_eq_one_of_pos (by omega), Int.one_mul]
    exact Int.fdiv_eq_ediv_of_nonneg _ (Int.natCast_nonneg _)
theorem sub_txt (q p : Rat) : Rat.divInt (q.num * p.den - p.num * q.den) (q.den * p.den) = q - p := by
  rw [Rat.sub_def', ← Int.natCast_mul, Rat.divInt_ofNat]
theorem add_txt (q p : Rat) : Rat.divInt (q.num * p.den + p.num * q.den) (q.den * p.den) = q + p := by
  rw [Rat.add_def', ← Int.natCast_mul, Rat.divInt_ofNat]
theorem mul_txt (q p : Rat) : Rat.divInt (q.num * p.num) (q.den * p.den) = q * p := by
  rw [Rat.mul_def', ← Int.natCast_mul, Rat.divInt_ofNat]
theorem eq_txt (q p : Rat) : (decide (q.num = p.num) && decide ((q.den : Int) = p.den)) = decide (q = p) := by
  rw [← Bool.decide_and]
  refine decide_eq_decide.mpr ⟨fun ⟨a, b⟩ => Rat.ext a (Int.ofNat_inj.mp b), fun e => by subst e; exact ⟨rfl, rfl⟩⟩
theorem abs_txt (q : Rat) : Rat.divInt (q.num.natAbs : Int) q.den = q.abs := by
  unfold Rat.abs
  split
  · rename_i h
    have h2 := Rat.num_nonneg.mpr h
    rw [Int.natAbs_of_nonneg h2, Rat.num_divInt_den]
  · rename_i h
    have h2 : ¬ 0 ≤ q.num := fun z => h (Rat.num_nonneg.mp z)
    have e : (q.num.natAbs : Int) = -q.num := by omega
    rw [e, ← Rat.neg_divInt, Rat.num_divInt_den]
theorem ofInt_txt (n : Int) : Rat.divInt n 1 = (n : Rat) := by
  refine Rat.ext ?_ ?_
  · rw [Rat.num_divInt, Rat.num_intCast]; simp
  · rw [Rat.den_divInt, Rat.den_intCast]; simp
theorem szr_divInt {n : Nat} {a b : Int} (ha : Sz n a) (hb : Sz n b) (h0 : b ≠ 0) : SzR n (Rat.divInt a b) := by
  have h1 := bot_of (a := a) h0
  have h2 := top_of (a := a) h0
  have by0 := byOf_ne (a := a) h0
  refine ⟨?_, ?_⟩
  · have hd := Rat.num_divInt a b
    refine ha.of_le ?_
    rw [hd]
    have e1 : (b.sign * a / (b.gcd a : Int)).natAbs ≤ (b.sign * a).natAbs := Int.natAbs_ediv_le_natAbs _ _
    refine Nat.le_trans e1 ?_
    rw [Int.natAbs_mul, Int.natAbs_sign_of_ne_zero h0, Nat.one_mul]
    exact Nat.le_refl _
  · have hd := Rat.den_divInt a b
    rw [if_neg h0] at hd
    refine hb.of_le ?_
    rw [hd, Int.natAbs_natCast]
    exact Nat.div_le_self _ _
theorem SzR.sub {m n : Nat} {q p : Rat} (a : SzR m q) (b : SzR n p) : SzR (m + n + 1) (q - p) := by
  rw [← sub_txt]
  have h1 := a.1.mul b.2
  have h2 := b.1.mul a.2
  rw [Nat.add_comm n m] at h2
  have h3 := h1.sub h2
  rw [Nat.max_self] at h3
  exact szr_divInt h3 ((a.2.mul b.2).mono (Nat.le_succ _)) (Int.ne_of_gt (Int.mul_pos (den_pos q) (den_pos p)))
theorem SzR.add {m n : Nat} {q p : Rat} (a : SzR m q) (b : SzR n p) : SzR (m + n + 1) (q + p) := by
  rw [← add_txt]
  have h1 := a.1.mul b.2
  have h2 := b.1.mul a.2
  rw [Nat.add_comm n m] at h2
  have h3 := h1.add h2
  rw [Nat.max_self] at h3
  exact szr_divInt h3 ((a.2.mul b.2).mono (Nat.le_succ _)) (Int.ne_of_gt (Int.mul_pos (den_pos q) (den_pos p)))
theorem SzR.mul {m n : Nat} {q p : Rat} (a : SzR m q) (b : SzR n p) : SzR (m + n) (q * p) := by
  rw [← mul_txt]
  exact szr_divInt (a.1.mul b.1) (a.2.mul b.2) (Int.ne_of_gt (Int.mul_pos (den_pos q) (den_pos p)))
theorem SzR.int {n : Nat} {i : Int} (a : Sz n i) (hn : 0 < n) : SzR n (i : Rat) := ⟨by rw [Rat.num_intCast]; exact a, by
  rw [Rat.den_intCast]
  exact Nat.lt_of_lt_of_le (by decide : 1 < 2) (Nat.le_trans (by simp) (Nat.pow_le_pow_right (by decide) hn : 2 ^ 1 ≤ 2 ^ n))⟩
theorem SzR.neg {n : Nat} {q : Rat} (a : SzR n q) : SzR n (-q) := ⟨by rw [Rat.neg_num]; exact a.1.neg, by rw [Rat.neg_den]; exact a.2⟩
end DL
namespace DL
open PySem PySem.Spec PyProof.Rows L2
def flr (q : Rat) : Int := q.num / q.den
def sp_gcd : DSp := fun ds w Q _ => ∃ a b : Nat, ds = [.int a, .int b] ∧ Q (.int (Nat.gcd a b)) w
def nF (q : Rat) : List (Str × Dt) := [("bottom", .int q.den), ("top", .int q.num)]
def sp_init (K : PySem.W.Frag) : DSp := fun ds w Q _ => ∃ (p : Addr) (a b : Int), ds = [.ptr p, .int a, .int b] ∧ w p = some (.ins (cN K) []) ∧ b ≠ 0 ∧ Sz 9000 a ∧ Sz 9000 b ∧ Q .non (put w p (.ins (cN K) (nF (Rat.divInt a b))))
def sp_num : DSp := fun ds w Q _ => ∃ a b : Int, ds = [.int a, .int b] ∧ b ≠ 0 ∧ Sz 9000 a ∧ Sz 9000 b ∧ Q (.num (Rat.divInt a b)) w
theorem made_num {K : PySem.W.Frag} : ∀ ds w Q E, sp_num ds w Q E → ∀ p, w p = none → sp_init K (.ptr p :: ds) (put w p (.ins (cN K) [])) (fun v w2 => v = .non ∧ ∃ m d, w2 p = some m ∧ Frz K m d ∧ Q d (cut w2 p)) (fun D fs w2 => E D fs (cut w2 p)) := by
  rintro ds w Q E ⟨a, b, rfl, hb, s1, s2, q⟩ p hp
  refine ⟨p, a, b, rfl, put_same, hb, s1, s2, rfl, _, _, put_same, .num, ?_⟩
  rw [put_put, cut_put hp]
  exact q
def isP (l : List String) (num : Bool) (d : Dt) : Bool := match d with
  | .num _ => num
  | d => match tyName d with
    | some n => l.contains n
    | none => false
theorem tyName_mem {d : Dt} {n : String} (h : tyName d = some n) : n ∈ kinds := by
  cases d <;> first | (cases h; done) | (obtain rfl := Option.some.inj h; decide)
theorem isi_of {K : PySem.W.Frag} {u : Value} {l : List String} {num : Bool} (h : isiB K u l num = true) : Isi K u (isP l num) := by
  obtain ⟨h1, h2⟩ := He.ba h
  refine ⟨fun d n e => ?_, fun q => by simpa [isP] using h2, fun xs ys => rfl⟩
  have h3 := List.all_eq_true.mp h1 n (tyName_mem e)
  have h4 : PySem.W.kitOne K (.type n) u = some (l.contains n) := by simpa using h3
  rw [h4]
  cases d <;> first | (cases e; done) | (obtain rfl := Option.some.inj e; rfl)
theorem num_of {K : PySem.W.Frag} (h : numB K = true) : NumI K := by
  obtain ⟨h1, h⟩ := He.ba h
  obtain ⟨h2, h⟩ := He.ba h
  obtain ⟨h3, h⟩ := He.ba h
  obtain ⟨h4, h5⟩ := He.ba h
  exact ⟨He.cls_ok h1, He.eqO_ok h2, He.eqO_ok h3, by simpa using h4, by simpa using h5⟩
theorem cdr_ptr {a : Addr} (K : PySem.W.Frag) (H : Hp) (v : V) (h : Rp K H (.ptr a) v) : v = .ref a := by cases h; rfl
end DL
namespace DL
open PySem PySem.Spec PyProof.Rows L2
structure Dk (w : Om) (D c : Addr) : Prop where
  ne : c ≠ D
  ex : ∃ (cells : List Int) (seed cnt : Int), w D = some (.lst [.ptr c, .int seed, .int cnt]) ∧ w c = some (.lst (cells.map Dt.int)) ∧ cells.length ≤ 63
def Off (w w' : Om) (D c : Addr) : Prop := ∀ p, p ≠ D → p ≠ c → w' p = w p
theorem Off.trans {w w1 w2 : Om} {D c : Addr} (a : Off w w1 D c) (b : Off w1 w2 D c) : Off w w2 D c := fun p h1 h2 => (b p h1 h2).trans (a p h1 h2)
theorem Off.refl {w : Om} {D c : Addr} : Off w w D c := fun _ _ _ => rfl
theorem divP_small {n : Int} (h : 0 < n) (h' : n < 2 ^ 64) : DivP n := ⟨h, by
  have e : n.natAbs < 2 ^ 64 := by omega
  exact Nat.lt_trans ((Nat.log2_lt (by omega)).mpr e) (by decide)⟩
theorem mulS {i j : Int} (h : -(2 ^ 64) < i ∧ i < 2 ^ 64) : MulC i j := .inr (.inl h)
theorem mulS' {i j : Int} (h : -(2 ^ 64) < j ∧ j < 2 ^ 64) : MulC i j := .inr (.inr h)
theorem at_all {P : Dt → Prop} {xs : List Dt} {r : Int} (h0 : 0 ≤ r) (h1 : r < xs.length) (h : ∀ d ∈ xs, P d) : ∃ d, L2.atI xs r = some d ∧ P d := by
  have h2 : r.toNat < xs.length := by omega
  refine ⟨xs[r.toNat], ?_, h _ (List.getElem_mem h2)⟩
  unfold L2.atI ixN
  rw [if_pos h0, if_pos h1]
  exact List.getElem?_eq_getElem h2
theorem int_of_mem {ns : List Int} {i : Nat} {d : Dt} (h : (ns.map Dt.int)[i]? = some d) : ∃ n, d = .int n := by
  rw [List.getElem?_map] at h
  cases e : ns[i]? with
  | none => rw [e] at h; cases h
  | some n => rw [e] at h; exact ⟨n, (Option.some.inj h).symm⟩
theorem pA : (0 : Int) < 2147483587 := by decide
theorem pB : (0 : Int) < 2147483629 := by decide
theorem pC : (0 : Int) < 2147483647 := by decide
theorem pD : (0 : Int) < 2147483563 := by decide
theorem d64 : DivP 64 := divP_small (by decide) (by decide)
theorem sz3 : 3 ≤ sizeLine := by decide
theorem m1 {j : Int} : MulC 104729 j := mulS ⟨by decide, by decide⟩
theorem m2 {j : Int} : MulC j 48271 := mulS' ⟨by decide, by decide⟩
theorem mC {i j : Int} : MulC (i % 2147483647) j := by
  have h1 := Int.emod_nonneg i (Int.ne_of_gt pC)
  have h2 := Int.emod_lt_of_pos i pC
  exact mulS ⟨by omega, by omega⟩
theorem mA {i j : Int} : MulC (i % 2147483587) j := by
  have h1 := Int.emod_nonneg i (Int.ne_of_gt pA)
  have h2 := Int.emod_lt_of_pos i pA
  exact mulS ⟨by omega, by omega⟩
theorem pow18 : CPow 10 18 := ⟨by decide, by decide, by decide⟩
def GrI (t b : Int) : Prop := 0 < t ∧ t ≤ 1000000000000 ∧ 0 < b ∧ b ≤ 1000000000000
def GrD (d : Dt) : Prop := ∃ t b : Int, d = .tup [.int t, .int b] ∧ GrI t b
theorem sz2 : 2 ≤ sizeLine := by decide
theorem sz6 : 6 ≤ sizeLine := by decide
theorem pw {i j : Int} (h : 0 ≤ j := by decide) (h' : j ≤ 1000000 := by decide) (h'' : i.natAbs < 2 ^ 64 := by decide) : CPow i j := ⟨h, h', h''⟩
theorem all2 {P : Dt → Prop} {a : Dt} {l : List Dt} (h : P a) (t : ∀ d ∈ l, P d) : ∀ d ∈ a :: l, P d := fun d hd => by
  rcases List.mem_cons.mp hd with e | hd
  · subst e; exact h
  · exact t d hd
theorem all0 {P : Dt → Prop} : ∀ d ∈ ([] : List Dt), P d := fun _ h => nomatch h
theorem gr {t b : Int} (h : GrI t b) : GrD (.tup [.int t, .int b]) := ⟨t, b, rfl, h⟩
end DL
namespace DL
open PySem PySem.Spec PyProof.Rows L2
inductive Wy where
  | up | down | high | low | hup | hdown | heven | hodd
def Wy.txt : Wy → Str
  | .up => "up" | .down => "down" | .high => "high" | .low => "low" | .hup => "half up" | .hdown => "half down" | .heven => "half even" | .hodd => "half odd"
def Wy.fn : Wy → Str
  | .up => "goes_up" | .down => "goes_down" | .high => "goes_high" | .low => "goes_low" | .hup => "goes_half_up" | .hdown => "goes_half_down" | .heven => "goes_half_even" | .hodd => "goes_half_odd"
def byHalf (q : Rat) (b : Bool) : Bool := if 2 * q.num = q.den then b else decide ((q.den : Int) < 2 * q.num)
def Wy.go : Wy → Int → Rat → Bool
  | .up, c, _ => decide (0 ≤ c)
  | .down, c, _ => decide (c < 0)
  | .high, _, _ => true
  | .low, _, _ => false
  | .hup, c, q => byHalf q (decide (0 ≤ c))
  | .hdown, c, q => byHalf q (decide (c < 0))
  | .heven, c, q => byHalf q (decide (c % 2 = 1))
  | .hodd, c, q => byHalf q (decide (c % 2 = 0))
def lowC (q p : Rat) : Int := flr (q / p)
def highC (q p : Rat) : Int := if p * (lowC q p : Rat) = q then lowC q p else lowC q p + 1
def cntBy (y : Wy) (q p : Rat) : Int := if lowC q p = highC q p then lowC q p else if y.go (lowC q p) (q / p - (lowC q p : Rat)) then highC q p else lowC q p
theorem Sz.flr {n : Nat} {q : Rat} (h : SzR n q) : Sz n (flr q) := h.1.ediv (den_pos q)
theorem FnG.mono {P : Program} {w : World} {K : PySem.W.Frag} {mg : Str → Option Value} {base : Heap} {j k : Nat} {f : Addr} {fd : FuncData} {ps : List Str} {sp : Sp} (F : FnG P w K mg base j f fd ps sp) (h : j ≤ k) : FnG P w K mg base k f fd ps sp :=
  ⟨F.len, fun A outer s H args us vs Q E hr => F.run A outer s H args us vs Q E (hr.mono h)⟩
end DL
namespace DL
open PySem PySem.Spec PyProof.Rows L2
theorem flr_of {r : Rat} {n : Int} (h1 : (n : Rat) ≤ r) (h2 : r < (n : Rat) + 1) : flr r = n := by
  have a := (Rat.le_iff _ _).mp h1
  have e : (n : Rat) + 1 = ((n + 1 : Int) : Rat) := by rw [Rat.intCast_add]; rfl
  rw [e] at h2
  have b := (Rat.lt_iff _ _).mp h2
  simp only [Rat.num_intCast, Rat.den_intCast] at a b
  have d := den_pos r
  unfold flr
  have b1 : n ≤ r.num / r.den := (Int.le_ediv_iff_mul_le d).mpr (by omega)
  have b2 : r.num / r.den < n + 1 := (Int.ediv_lt_iff_lt_mul d).mpr (by omega)
  omega
theorem half_eq (x : Rat) : (2 * x.num = x.den) ↔ x = 1 / 2 := by
  rw [Rat.eq_iff_mul_eq_mul]
  have e1 : (1 / 2 : Rat).num = 1 := by decide +kernel
  have e2 : (1 / 2 : Rat).den = 2 := by decide +kernel
  rw [e1, e2]
  omega
theorem half_lt (x : Rat) : ((x.den : Int) < 2 * x.num) ↔ 1 / 2 < x := by
  rw [Rat.lt_iff]
  have e1 : (1 / 2 : Rat).num = 1 := by decide +kernel
  have e2 : (1 / 2 : Rat).den = 2 := by decide +kernel
  rw [e1, e2]
  omega
theorem div_of_mul {p q x : Rat} (h : p ≠ 0) (e : q = p * x) : q / p = x := by
  rw [e, Rat.mul_comm]; exact Rat.mul_div_cancel h
theorem low_grid {p q x : Rat} {n : Int} (h : p ≠ 0) (e : q = p * ((n : Rat) + x)) (x0 : 0 ≤ x) (x1 : x < 1) : lowC q p = n := by
  unfold lowC
  rw [div_of_mul h e]
  refine flr_of ?_ ?_
  · have := (Rat.add_le_add_left (c := (n : Rat))).mpr x0
    rwa [Rat.add_zero] at this
  · exact (Rat.add_lt_add_left (c := (n : Rat))).mpr x1
theorem mul_left_cancel' {p a b : Rat} (h : p ≠ 0) (e : p * a = p * b) : a = b := by
  have h1 := div_of_mul (q := p * a) h rfl
  have h2 := div_of_mul (q := p * a) h e
  exact h1.symm.trans h2
theorem high_grid {p q x : Rat} {n : Int} (h : p ≠ 0) (e : q = p * ((n : Rat) + x)) (x0 : 0 ≤ x) (x1 : x < 1) : highC q p = if x = 0 then n else n + 1 := by
  unfold highC
  rw [low_grid h e x0 x1]
  by_cases z : x = 0
  · rw [if_pos z, if_pos (by rw [e, z, Rat.add_zero])]
  · rw [if_neg z, if_neg fun q' => z (by
      have h2 := mul_left_cancel' h (q'.trans e)
      have h3 : (n : Rat) + 0 = (n : Rat) + x := by rw [Rat.add_zero]; exact h2
      exact (Rat.add_left_cancel _ h3).symm)]
theorem cnt_grid {p q x : Rat} {n : Int} {y : Wy} (h : p ≠ 0) (e : q = p * ((n : Rat) + x)) (x0 : 0 ≤ x) (x1 : x < 1) : cntBy y q p = if x = 0 then n else if y.go n x then n + 1 else n := by
  unfold cntBy
  have e2 : q / p - (n : Rat) = x := by
    rw [div_of_mul h e, Rat.add_comm]
    exact Rat.add_sub_cancel
  rw [high_grid h e x0 x1, low_grid h e x0 x1, e2]
  by_cases z : x = 0
  · rw [if_pos z, if_pos z, if_pos rfl]
  · rw [if_neg z, if_neg z, if_neg (by omega)]
theorem divInt_pos {a b : Int} (ha : 0 < a) (hb : 0 < b) : 0 < Rat.divInt a b := by
  rw [Rat.divInt_eq_div]
  have h1 : (0 : Rat) < (a : Rat) := by rw [← Rat.intCast_zero]; exact Rat.intCast_lt_intCast.mpr ha
  have h2 : (0 : Rat) < (b : Rat) := by rw [← Rat.intCast_zero]; exact Rat.intCast_lt_intCast.mpr hb
  rw [Rat.div_def]
  exact Rat.mul_pos h1 (Rat.inv_pos.mpr h2)
theorem sz64 {i : Int} (h : -18446744073709551616 < i ∧ i < 18446744073709551616) : Sz 64 i := by unfold Sz; omega
theorem d2 : DivP 2 := divP_small (by decide) (by decide)
end DL
namespace DL
open PySem PySem.Spec PyProof.Rows L2
abbrev DSr := Str → List Dt → Om → DK → Prop
def dStr (rd : DSr) (te : DTE) (ta : DTA) : DTE := fun r w Q => te r w fun x w1 => match x with
  | .str y => ta r w1 fun ds w2 => rd y ds w2 Q
  | _ => False
section
variable {Z : Dx} {o e : Expr} {es : List Expr} {to te : DTE} {ta : DTA} {pos apos : Pos}
def s1R (f : Str → Str → Om → DK → Prop) : DSr := fun y ds w Q => match ds with
  | [.str z] => f y z w Q
  | _ => False
def startsR : DSr := s1R fun y z w Q => Q (.bl (Txt.startswith y z)) w
end
section
variable {Z : Dx}
theorem o_isnot : DOp Z (compareOp .IsNot) (isR true) := by
  refine ⟨fun x y H Q => (y = .non ∧ Q (.bl (!decide (x = .non))) H) ∨ ∃ a b, x = .bl a ∧ y = .bl b ∧ Q (.bl (!decide (a = b))) H, fun pins s σ H x y v u Q I rx ry h => ?_, fun dx dy x y w H Q QL ok rx ry h k => ?_⟩
  · rcases h with h | h
    · exact op_notN pins s σ H x y v u Q I rx ry h
    · exact op_isnot_bl pins s σ H x y v u Q I rx ry h
  · cases ry with
    | non => exact .inl ⟨rfl, by rw [non_rp rx]; exact k _ _ H w (Aft.refl ok) .bl h⟩
    | bl => cases rx with
      | bl => exact .inr ⟨_, _, rfl, rfl, k _ _ H w (Aft.refl ok) .bl h⟩
      | _ => exact (show False from h).elim
    | _ => exact (show False from h).elim
end
end DL
namespace DL
open PySem PySem.Spec PyProof.Rows L2
theorem mul_int {p : Rat} {c : Int} : p * (c : Rat) = p * Rat.divInt c 1 := by rw [ofInt_txt]
theorem mul_inj {p : Rat} {a b : Int} (h : p ≠ 0) : p * (a : Rat) = p * (b : Rat) ↔ a = b := by
  constructor
  · intro e
    have := mul_left_cancel' h e
    exact Rat.intCast_inj.mp this
  · rintro rfl; rfl
end DL
namespace DL
open PySem PySem.Spec PyProof.Rows L2
def numText (q : Rat) : Str := Str.empty ++ ("Number(" : Str) ++ toString q.num ++ (", " : Str) ++ toString (q.den : Int) ++ (")" : Str)
def RepSp (sp : DSp) : Prop := ∀ q w (Q : DK) E, SzR 1920 q → Q (.str (numText q)) w → sp [.num q] w Q E
def sp_repn : DSp := fun ds w Q _ => ∃ q : Rat, ds = [.num q] ∧ SzR 1920 q ∧ Q (.str (numText q)) w
theorem repSp : RepSp sp_repn := fun q w Q E s h => ⟨q, rfl, s, h⟩
def txE : Dt → Option Str
  | .num q => if q.num.natAbs < 2 ^ 1920 ∧ q.den < 2 ^ 1920 then some (numText q) else none
  | .int i => if i.natAbs.log2 < 1920 then some (toString i) else none
  | .non => some "None"
  | .bl b => some (if b then "True" else "False")
  | .str x => if (reprText x).length ≤ sizeLine then some (reprText x) else none
  | _ => none
def txL : List Dt → Option (List Str)
  | [] => some []
  | d :: ds => match txE d, txL ds with
    | some t, some ts => some (t :: ts)
    | _, _ => none
section
variable {Z : Dx} {k j : Nat} {sp : DSp}
theorem call_rep {f : Addr} {fd : FuncData} {ps : List Str} (hs : RepSp sp) (F : FnG Z.X.prog Z.X.w Z.X.K Z.X.mg Z.X.base j f fd ps (lift Z.X.K sp)) (hb : Binds Z.X.K fd ps []) {A : Around} (fr : A.frames = Z.X.A.frames) (hr : Rm j A)
    {pins : List (Addr × Obj)} {σ : L2.St} {H : Hp} {s : Shared} {w : Om} {q : Rat} {a : Addr} (I : Inv Z.X pins σ H s) (om : OmOk Z.X.K w H) (ra : Rp Z.X.K (hm H w) (.num q) (.ref a)) (sq : SzR 1920 q) {Q : Value → Shared → Prop}
    (h : ∀ u s' H', Inv Z.X pins σ H' s' → Aft Z.X.K w H w H' → Q (.str (numText q) u) s') : wpAny (model Z.X.prog Z.X.w) A (call (.ref f) [.ref a]) Q Z.X.xe s := by
  have hsp : lift Z.X.K sp [.ref a] H (fun v H' => v = .str (numText q) ∧ Aft Z.X.K w H w H') (fun _ _ _ => False) :=
    ⟨[.num q], w, fun d w2 => d = .str (numText q) ∧ w2 = w, fun _ _ _ => False, .cons ra .nil, om, hs _ _ _ _ sq ⟨rfl, rfl⟩, fun v d H' w' A' rv ⟨e1, e2⟩ => by
      subst e1 e2
      cases rv
      exact ⟨rfl, A'⟩, fun _ _ _ _ _ _ _ _ _ z => z.elim⟩
  have hl := F.len _ _ _ _ hsp
  have e0 : Env0 Z.X.prog Z.X.w Z.X.K Z.X.mg Z.X.base A Z.X.stack s H := by
    have e := I.env0
    exact ⟨by rw [fr]; exact e.frames, e.mod, e.bs, e.bsz, e.funs, e.frf, e.hok, e.bare⟩
  refine wpAny_call (codeAny_mono (F.run A Z.X.stack s H ⟨[.ref a], []⟩ [.ref a] [.ref a] _ _ hr e0 (by
    have := hb s [.ref a] I.kIn (by simpa using hl)
    simpa using this) (.cons rfl .nil) hsp) fun r s' hq => ?_)
  match r, hq with
  | .error e, hq => exact (no_esc hq).elim
  | .ok (.ret u), hq =>
    obtain ⟨z, H', I', rz, ez, A'⟩ := I.after hq
    subst ez
    obtain ⟨t, rfl⟩ := rz
    exact h t s' H' I' A'
theorem under_rep {A : Around} {f a : Addr} {C : Addr} {od : Option Obj} {ox : Obj} {s : Shared} {base : Nat} {Q : Str → Shared → Prop} (X : Z.X.K.In s.heap) (J : PySem.W.InstAt s.heap a ox C od) (hs : PySem.W.findIn Z.X.K (.ref C) "__repr__" = some (some (.ref f))) (hf : PySem.W.isFn Z.X.K (.ref f) = true)
    (hu : A.units < cLine) (hb : base ≤ sizeLine) (h : wpAny (model Z.X.prog Z.X.w) A (call (.ref f) [.ref a]) (fun v s' => ∃ x u, v = .str x u ∧ Q x s') Z.X.xe s) : wpAny (model Z.X.prog Z.X.w) A (pyReprUnder base (.ref a)) Q Z.X.xe s := by
  refine wpAny_pyReprUnder_ref hb ?_
  unfold pyReprObjUnder pyReprObjBy
  refine wpAny_bind (wpAny_cRoomFor hu ?_)
  refine wpAny_bind (wpAny_bind (J.type.here ((PySem.W.looks_findIn X hs).here ?_)))
  show wpAny _ _ (if (some (Value.ref f)).isNone = true then _ else _) _ _ _
  rw [if_neg (by simp)]
  have fin : wpAny (model Z.X.prog Z.X.w) A (call (.ref f) ([.ref a] ++ []) >>= fun v => pure (some v)) (fun r s' => ∃ v, r = some v ∧ ∃ x u, v = .str x u ∧ Q x s') Z.X.xe s := wpAny_bind (wpAny_mono h (fun v s' h' => wpAny_pure ⟨v, rfl, h'⟩) fun _ _ h' => h')
  have one : wpAny (model Z.X.prog Z.X.w) A (callSpecialIfBoundBy? (fun g first => match reprUnder? g, first with
    | some twin, [self] => call twin [self, rawInt base]
    | _, _ => call g (first ++ [])) (.ref a) "__repr__") (fun r s' => ∃ v, r = some v ∧ ∃ x u, v = .str x u ∧ Q x s') Z.X.xe s := by
    simp only [callSpecialIfBoundBy?, bindSpecialIfBound?]
    refine wpAny_holding (wpAny_bind (wpAny_bind (wpAny_bind (J.type.here ((PySem.W.looks_findIn X hs).here ?_)))))
    refine wpAny_bind (wpAny_askSetting (wpAny_ite ?_))
    split
    · exact wpAny_bind ((PySem.W.bind_fn X _ (beq_iff_eq.mp hf)).here (wpAny_pure (by exact fin)))
    · exact wpAny_tryCatch (wpAny_bind ((PySem.W.bind_fn X _ (beq_iff_eq.mp hf)).here (wpAny_pure (by exact fin))))
  refine wpAny_bind (wpAny_mono one (fun r s' hr => ?_) fun _ _ e => e)
  obtain ⟨v, rfl, x, u, rfl, hq⟩ := hr
  refine wpAny_bind (wpAny_isInstance (typeIs_str _ _ _) isSubtype_str_str ?_)
  first
    | exact wpAny_pure ⟨_, _, rfl, hq⟩
    | (rw [if_pos rfl]; exact wpAny_pure ⟨_, _, rfl, hq⟩)
end
theorem txL_len : ∀ {ds : List Dt} {ts : List Str}, txL ds = some ts → ts.length = ds.length
  | [], ts, h => by cases h; rfl
  | d :: ds, ts, h => by
    unfold txL at h
    cases e1 : txE d with
    | none => rw [e1] at h; cases h
    | some t =>
      cases e2 : txL ds with
      | none => rw [e1, e2] at h; cases h
      | some ts' =>
        rw [e1, e2] at h
        cases h
        rw [List.length_cons, List.length_cons, txL_len e2]
section
variable {Z : Dx} {k j : Nat} {sp : DSp}
structure RepAt (Z : Dx) (j : Nat) (f : Addr) : Prop where
  hs : PySem.W.findIn Z.X.K (.ref (cN Z.X.K)) "__repr__" = some (some (.ref f))
  hf : PySem.W.isFn Z.X.K (.ref f) = true
  run : ∀ {A : Around}, A.frames = Z.X.A.frames → Rm j A → ∀ {pins : List (Addr × Obj)} {σ : L2.St} {H : Hp} {s : Shared} {w : Om} {q : Rat} {a : Addr}, Inv Z.X pins σ H s → OmOk Z.X.K w H → Rp Z.X.K (hm H w) (.num q) (.ref a) → SzR 1920 q → ∀ {Q : Value → Shared → Prop},
    (∀ u s' H', Inv Z.X pins σ H' s' → Aft Z.X.K w H w H' → Q (.str (numText q) u) s') → wpAny (model Z.X.prog Z.X.w) A (call (.ref f) [.ref a]) Q Z.X.xe s
theorem repAt_of (c : CalM Z.X.prog Z.X.w Z.X.K Z.X.mg Z.X.base (cN Z.X.K) "__repr__" j [] sp) (hs : RepSp sp) : ∃ f, RepAt Z j f := by
  obtain ⟨f, fd, ps, dvs, ds, hc, hm, F, hb, hd, hr⟩ := c.ex
  obtain rfl := rpl_nil (hr (fun _ => none))
  obtain rfl := vals_nil rfl hd
  exact ⟨f, hm.at_, hm.fn, fun fr rm => fun I om ra sq => fun h => call_rep hs F hb fr rm I om ra sq h⟩
theorem item_rep {f : Addr} (R : RepAt Z j f) {A : Around} (fr : A.frames = Z.X.A.frames) (hr : Rm j A) {pins : List (Addr × Obj)} {σ : L2.St} {H : Hp} {s : Shared} {w : Om} {d : Dt} {v : V} {u : Value} {t : Str} {base : Nat} {Q : Str → Shared → Prop}
    (I : Inv Z.X pins σ H s) (om : OmOk Z.X.K w H) (ra : Rp Z.X.K (hm H w) d v) (rv : RelV v u) (ht : txE d = some t) (hb : base + t.length ≤ sizeLine) (h : ∀ s' H', Inv Z.X pins σ H' s' → Aft Z.X.K w H w H' → Q t s') : wpAny (model Z.X.prog Z.X.w) A (pyReprUnder base u) Q Z.X.xe s := by
  have leaf : ReprIs Z.X.prog Z.X.w u t → wpAny (model Z.X.prog Z.X.w) A (pyReprUnder base u) Q Z.X.xe s := fun z => z base hb A Z.X.xe s Q fun tk => h _ H (I.tok tk) (Aft.refl om)
  cases ra with
  | non => cases rv; cases ht; exact leaf ReprIs.none
  | bl => cases rv; cases ht; exact leaf (ReprIs.bool _)
  | @int i =>
    obtain ⟨tk, rfl⟩ := rv
    have ht' : (if i.natAbs.log2 < 1920 then some (toString i : Str) else none) = some t := ht
    by_cases z : i.natAbs.log2 < 1920
    · rw [if_pos z] at ht'; cases ht'; exact leaf (ReprIs.int tk z)
    · rw [if_neg z] at ht'; cases ht'
  | @str x =>
    obtain ⟨tk, rfl⟩ := rv
    have ht' : (if (reprText x).length ≤ sizeLine then some (reprText x) else none) = some t := ht
    by_cases z : (reprText x).length ≤ sizeLine
    · rw [if_pos z] at ht'; cases ht'; exact leaf (ReprIs.str _ tk z)
    · rw [if_neg z] at ht'; cases ht'
  | @num a dx q hq =>
    cases rv
    have ht' : (if q.num.natAbs < 2 ^ 1920 ∧ q.den < 2 ^ 1920 then some (numText q) else none) = some t := ht
    by_cases hz : q.num.natAbs < 2 ^ 1920 ∧ q.den < 2 ^ 1920
    · rw [if_pos hz] at ht'
      have ht2 : numText q = t := Option.some.inj ht'
      subst ht2
      obtain ⟨mA, J, _⟩ := ins_get I.hok (hm_some hq).2
      obtain ⟨od, J, _⟩ := J.look
      exact under_rep I.kIn J R.hs R.hf hr.room.units0 (by omega) (R.run fr hr I om (.num hq) ⟨hz.1, by unfold Sz; rw [Int.natAbs_natCast]; exact hz.2⟩ fun tk s' H' I' A' => ⟨_, tk, rfl, h s' H' I' A'⟩)
    · rw [if_neg hz] at ht'; cases ht'
  | _ => exact nomatch (show (none : Option Str) = some t from ht)
theorem fold_rep {f : Addr} (R : RepAt Z j f) {A : Around} (fr : A.frames = Z.X.A.frames) (hr : Rm j A) {pins : List (Addr × Obj)} {σ : L2.St} {w : Om} {H0 : Hp} : ∀ (l : List Value) (vs : List V) (ds : List Dt) (ts : List Str) (acc : Array Str) (n : Nat) (s : Shared) (H : Hp) (Q : (Array Str × Nat) → Shared → Prop),
    Inv Z.X pins σ H s → Aft Z.X.K w H0 w H → RpL Z.X.K (hm H w) ds vs → Vals vs l → txL ds = some ts → n + piled ts ≤ sizeLine → (∀ s' H', Inv Z.X pins σ H' s' → Aft Z.X.K w H0 w H' → Q ⟨acc ++ ts.toArray, n + piled ts⟩ s') →
    wpAny (model Z.X.prog Z.X.w) A (forIn l (⟨acc, n⟩ : (Array Str × Nat)) tupBody) Q Z.X.xe s := by
  intro l
  induction l with
  | nil =>
    intro vs ds ts acc n s H Q I A0 rl rv ht hn h
    cases rv
    cases rl
    cases ht
    have h0 := h s H I A0
    simp only [List.forIn_nil]
    exact wpAny_pure (by simpa [piled] using h0)
  | cons x l ih =>
    intro vs ds ts acc n s H Q I A0 rl rv ht hn h
    cases rv with
    | cons rv rvs => cases rl with
      | @cons d v ds' vs' r1 r2 =>
        unfold txL at ht
        cases e1 : txE d with
        | none => rw [e1] at ht; cases ht
        | some t =>
          cases e2 : txL ds' with
          | none => rw [e1, e2] at ht; cases ht
          | some ts' =>
            rw [e1, e2] at ht
            cases ht
            rw [piled_cons] at hn
            rw [List.forIn_cons]
            refine wpAny_bind (wpAny_bind (item_rep R fr hr I A0.om r1 rv e1 (base := n + 1) (by omega) fun s' H' I' A1 => wpAny_pure ?_))
            refine ih _ ds' ts' (acc.push t) (n + (t.length + 2)) s' H' Q I' (A0.trans A1) (r2.mono A1.same) rvs e2 (by omega) fun s2 H2 I2 A2 => ?_
            have h1 := h s2 H2 I2 A2
            have e : n + piled (t :: ts') = n + (t.length + 2) + piled ts' := by rw [piled_cons]; omega
            rw [e] at h1
            simpa using h1
def reprR : DFr := on1 fun x w Q => match x with
  | .num q => SzR 1920 q ∧ Q (.str (numText q)) w
  | .int i => i.natAbs.log2 < 1920 ∧ Q (.str (toString i)) w
  | .non => Q (.str "None") w
  | .bl b => Q (.str (if b then "True" else "False")) w
  | .str x => (reprText x).length ≤ sizeLine ∧ Q (.str (reprText x)) w
  | .tup xs => match toPy (.tup xs) with
    | some p => p.showable = true ∧ p.hasDict = false ∧ p.depth ≤ 60 ∧ p.shown.length ≤ sizeLine ∧ Q (.str p.shown) w
    | none => ∃ ts, txL xs = some ts ∧ (tupleText ts).length ≤ sizeLine ∧ Q (.str (tupleText ts)) w
  | .lst xs => ∃ p, toPy (.lst xs) = some p ∧ p.showable = true ∧ p.hasDict = false ∧ p.depth ≤ 60 ∧ p.shown.length ≤ sizeLine ∧ Q (.str p.shown) w
  | _ => False
theorem call_tup {f : Addr} (R : RepAt Z j f) (b : Bd Z k) (h100 : 100 ≤ k) (hj : j + 3 ≤ k) (hj2 : j < 100) {pins : List (Addr × Obj)} {σ : L2.St} {H : Hp} {s : Shared} {w : Om} {ds : List Dt} {a : Addr} {ts : List Str} {Q : Value → Shared → Prop}
    (I : Inv Z.X pins σ H s) (om : OmOk Z.X.K w H) (ra : Rp Z.X.K (hm H w) (.tup ds) (.ref a)) (ht : txL ds = some ts) (hz : (tupleText ts).length ≤ sizeLine)
    (h : ∀ u s' H', Inv Z.X pins σ H' s' → Aft Z.X.K w H w H' → Q (.str (tupleText ts) u) s') : wpAny (model Z.X.prog Z.X.w) Z.X.A (call (.builtin "repr") [.ref a]) Q Z.X.xe s := by
  have hg : Z.X.A.guards = some [] := b.room.gd h100
  have hr := b.room.room
  cases ra with
  | tup hx rl =>
    obtain ⟨its, rv, ⟨o, ho, hc, n, hd⟩, hlen⟩ := I.tuple (up_t hx)
    have hT : s.TypeIs (.ref a) "tuple" := ⟨o, ho, hc⟩
    have hsz := piled_le_tupleText ts
    have tl := txL_len ht
    have r1 : Room (k - 1) Z.X.A.in1 := Room.in1 (by
      have : k - 1 + 1 = k := by omega
      rw [this]; exact hr)
    have hg1 : Z.X.A.in1.guards = some [] := hg
    refine call_repr_slot (by have := hr.units; omega) hT F.slot_tuple_repr ?_
    refine wpAny_call (codeAny_call_builtin_own (Code.quiet_builtin _ (by decide +kernel)) F.entry_tuple_repr (F.slot_tuple_repr.check _ _ _ _ _ _ _ _ hT (F.args_tuple_repr_1 _) ?_))
    have hn : (([] : List Code).any fun c => tupGuardF (.ref a) (c, default)) = false := rfl
    rw [show Builtin.«tuple.__repr__» = Builtin.tupleReprAt 0 from rfl, tuple_repr_tree, tupleReprUnderWay_eq]
    refine wpOwn_bind (wpOwn_stackTailAny hg1 (tupGuardF_off _) (tupGuardF_pos _) ?_)
    rw [hn]
    refine wpOwn_of_wpAny ?_
    show wpAny _ _ (tupleReprRest 0 (.ref a)) _ _ s
    unfold tupleReprRest Builtin.Tuple.tupleItemsOf
    refine wpAny_bind (wpAny_bind (wpAny_seqItems ho hd (wpAny_pure ?_)))
    rw [← Array.forIn_toList]
    have u_dp : ∀ A : Around, (A.under (.builtin "tuple.__repr__" ⟨[.ref a], []⟩)).depth = A.depth + 1 ∨ (A.under (.builtin "tuple.__repr__" ⟨[.ref a], []⟩)).depth = A.depth := fun A => by
      first | exact Or.inl rfl | exact Or.inr rfl | (left; simp [Around.under, Code.weight, Code.isCreation, Code.isGuard, Code.isCaller, Code.frames, Code.isFrame, guardIds]; done) | (right; simp [Around.under, Code.weight, Code.isCreation, Code.isGuard, Code.isCaller, Code.frames, Code.isFrame, guardIds]; done)
    have u_fr : (Z.X.A.in1.under (.builtin "tuple.__repr__" ⟨[.ref a], []⟩)).frames = Z.X.A.frames := by
      first | rfl | simp [Around.under, Code.envs]
    have rA : Rm j (Z.X.A.in1.under (.builtin "tuple.__repr__" ⟨[.ref a], []⟩)) := by
      refine ⟨⟨r1.hd, ?_, ?_⟩, fun q => ?_⟩
      · have h1 := r1.dp
        rcases u_dp Z.X.A.in1 with e | e <;> rw [e] <;> omega
      · have h1 := r1.un
        rw [units_under_tuple_repr]
        omega
      · exact absurd q (by omega)
    refine wpAny_bind (fold_rep R u_fr rA its _ ds ts #[] 0 s H _ I (Aft.refl om) rl rv ht (by omega) fun s' H' I' A' => ?_)
    have l1 : its.toArray.size = ts.length := by rw [List.size_toArray, ← rv.length, ← rl.length, tl]
    refine wpAny_bind (wpAny_mkStr (wpAny_pure ?_) (by simpa [tupleText, l1] using hz))
    have h1 := h s'.toks { s' with toks := s'.toks + 1 } H' (I'.tok _) A'
    simpa [tupleText, l1] using h1
theorem repr_data {pins : List (Addr × Obj)} {σ : L2.St} {H : Hp} {s : Shared} {w : Om} {d : Dt} {p : PyData} {a : Addr} {Q : Value → Shared → Prop} (b : Bd Z k) (h100 : 100 ≤ k) (I : Inv Z.X pins σ H s) (ra : Rp Z.X.K (hm H w) d (.ref a)) (hp : toPy d = some p)
    (h1 : p.showable = true) (h2 : p.hasDict = false) (h3 : p.depth ≤ 60) (h4 : p.shown.length ≤ sizeLine) (h : ∀ u s', Inv Z.X pins σ H s' → Q (.str p.shown u) s') : wpAny (model Z.X.prog Z.X.w) Z.X.A (call (.builtin "repr") [.ref a]) Q Z.X.xe s := by
  have hu := b.room.room.units
  obtain ⟨as, r⟩ := Dp.reads I p (.ref a) (.ref a) (ra.up.dp hp) rfl
  exact repr_of_reads' r h1 (fun z => absurd z (by rw [h2]; decide)) (b.room.gd h100) (by omega) (fun _ _ e => e) (fun h' u tk hk => h u _ (I.kept hk)) h4
theorem f_repr (b : Bd Z k) (c : CalM Z.X.prog Z.X.w Z.X.K Z.X.mg Z.X.base (cN Z.X.K) "__repr__" j [] sp) (hs : RepSp sp) (h100 : 100 ≤ k := by decide) (hj : j + 3 ≤ k := by decide) (hj2 : j < 100 := by decide) : DFn Z (.builtin "repr") reprR := by
  obtain ⟨f, R⟩ := repAt_of c hs
  refine ⟨fun vs H Q => ∃ (d : Dt) (v : V) (w : Om) (Qd : DK), vs = [v] ∧ Rp Z.X.K (hm H w) d v ∧ OmOk Z.X.K w H ∧ reprR [d] w Qd ∧ ∀ v d H' w', Aft Z.X.K w H w' H' → Rp Z.X.K (hm H' w') d v → Qd d w' → Q v H', fun pins s σ H xs us Q I r h => ?_, fun ds vs w H Q QL ok rl h kk => ?_⟩
  · obtain ⟨d, v, w, Qd, rfl, rd, om, hq, kk⟩ := h
    obtain ⟨u, rfl, ru⟩ := vals1 r
    cases rd with
    | non =>
      cases ru
      exact PySem.P.repr_of_none ⟨.str "None", H, I.tok _, ⟨_, rfl⟩, kk _ _ H w (Aft.refl om) .str hq⟩
    | @bl b =>
      cases ru
      exact PySem.P.repr_of_bool ⟨.str (if b then "True" else "False"), H, I.tok _, ⟨_, by cases b <;> rfl⟩, kk _ _ H w (Aft.refl om) .str hq⟩
    | @str x =>
      obtain ⟨t, rfl⟩ := ru
      exact PySem.P.repr_of_str ⟨.str (reprText x), H, I.tok _, ⟨_, rfl⟩, kk _ _ H w (Aft.refl om) .str hq.2⟩ hq.1
    | @int i =>
      obtain ⟨t, rfl⟩ := ru
      exact PySem.P.repr_of_int hq.1 ⟨.str (toString i), H, I.tok _, ⟨_, rfl⟩, kk _ _ H w (Aft.refl om) .str hq.2⟩
    | @num a dx q hn =>
      cases ru
      obtain ⟨mA, J, _⟩ := ins_get I.hok (hm_some hn).2
      obtain ⟨od, J, _⟩ := J.look
      obtain ⟨m, hF⟩ := I.fr
      have r1 : Rm j Z.X.A.in1 := ⟨Room.mono (Room.in1 (k := k - 1) (by
        have : k - 1 + 1 = k := by omega
        rw [this]; exact b.room.room)) (by omega), fun z => absurd z (by omega)⟩
      refine PySem.W.repr_K (by have := r1.room.units; omega) hF I.ok.mod.kin J R.hs R.hf ?_
      exact R.run (A := Z.X.A.in1) rfl r1 I om (.num hn) hq.1 fun t s' H' I' A' => ⟨.str (numText q), H', I', ⟨t, rfl⟩, kk _ _ H' w A' .str hq.2⟩
    | @tup a vs ds hx rl =>
      cases ru
      have hq' : (match toPy (.tup ds) with
        | some p => p.showable = true ∧ p.hasDict = false ∧ p.depth ≤ 60 ∧ p.shown.length ≤ sizeLine ∧ Qd (.str p.shown) w
        | none => ∃ ts, txL ds = some ts ∧ (tupleText ts).length ≤ sizeLine ∧ Qd (.str (tupleText ts)) w) := hq
      cases e : toPy (.tup ds) with
      | some p =>
        rw [e] at hq'
        obtain ⟨h1, h2, h3, h4, q⟩ := hq'
        exact repr_data b h100 I (.tup hx rl) e h1 h2 h3 h4 fun u s' I' => ⟨.str p.shown, H, I', ⟨u, rfl⟩, kk _ _ H w (Aft.refl om) .str q⟩
      | none =>
        rw [e] at hq'
        obtain ⟨ts, h1, h2, q⟩ := hq'
        exact call_tup R b h100 hj hj2 I om (.tup hx rl) h1 h2 fun u s' H' I' A' => ⟨.str (tupleText ts), H', I', ⟨u, rfl⟩, kk _ _ H' w A' .str q⟩
    | @lst a vs ds hx rl =>
      cases ru
      obtain ⟨p, e, h1, h2, h3, h4, q⟩ := hq
      exact repr_data b h100 I (.lst hx rl) e h1 h2 h3 h4 fun u s' I' => ⟨.str p.shown, H, I', ⟨u, rfl⟩, kk _ _ H w (Aft.refl om) .str q⟩
    | _ => exact (show False from hq).elim
  · have hq := h
    unfold reprR at h
    obtain ⟨d, v, rfl, rfl, rd, h⟩ := rl1 rl h
    exact ⟨d, v, w, Q, rfl, rd, ok, hq, kk⟩
end
theorem toS_len {i : Int} (h : i.natAbs.log2 < 1920) : (toString i : Str).length ≤ 1921 := by
  have := int_text_length_le (a := i) (k := 1920) (by decide) h
  have e : (toString i : Str).length = (toString i : String).length := by
    exact PySem.ofString_length _
  rw [e]; exact this
theorem str_app {a b : Str} : (a ++ b).length = a.length + b.length := strLen_append _ _
end DL
namespace DL
open PySem PySem.Spec PyProof.Rows L2
theorem ltL {n : Nat} (h : n ≤ 4000) : n ≤ sizeLine := by rw [sizeLine_eq]; omega
theorem pow6 : (10 : Int) ^ (6 : Nat) = 1000000 := by decide
def SgnD (d : Dt) : Prop := ∃ n : Int, d = .int n ∧ (n = 1 ∨ n = -1)
end DL
namespace DLQ
open PySem PySem.SeqAt
open AutoSeq1 (wpAny_loadPart')
open MeetsSeq MeetsSeq2 MeetsSeq3 SeqRoads2
section
variable {prog : Program} {w : World} {A : Around} {R : Result → Shared → Prop}
theorem tuple_containsI (l : Addr) (items : Array Value) (n : Nat) (dd : Option Addr) (sl : Array (Option Value)) (x : Value) (I : List Value → Shared → Prop)
    (turn : ∀ y rest s, I (y :: rest) s → wpAny (model prog w) A.in1 (eqBool y x) (fun r s' => if r = true then R (.ok (.ret (.bool true))) s' else I rest s') (fun e s' => R (.error e) s') s)
    (fin : ∀ s, I [] s → R (.ok (.ret (.bool false))) s) {s : Shared} (hl : s.heap.get? l = some { cls := .type "tuple", dict := dd, data := .seq items n, slots := sl }) (h : I items.toList s) :
    wpAny (model prog w) A.in1 (Builtin.«tuple.__contains__» ⟨[.ref l, x], []⟩) (GQ.FinOf prog w A R) (fun e s' => R (.error e) s') s := by
  have h0 := h
  obtain ⟨hp, g, d, tk, os⟩ := s
  wp_walk using wpAny_loadPart' hl, wpAny_forIn_array _ (fun rest b s' => b.1 = none ∧ I rest s') _
  case turn =>
    rintro y rest b s' ⟨hb, hI⟩
    refine wpAny_bind (wpAny_mono (turn y rest s' hI) (fun r s2 q2 => ?_) fun _ _ x => x)
    cases r with
    | true =>
      obtain ⟨hp2, g2, d2, tk2, os2⟩ := s2
      wp_walk
      simpa using q2
    | false =>
      obtain ⟨hp2, g2, d2, tk2, os2⟩ := s2
      wp_walk
      exact ⟨rfl, by simpa using q2⟩
  case fin =>
    rintro ⟨b1, b2⟩ s' ⟨hb, hI⟩
    simp only at hb
    subst hb
    have hR := fin s' hI
    wp_walk
    simpa using hR
  case h =>
    exact ⟨rfl, h0⟩
end
end DLQ
namespace DL
open PySem PySem.Spec PyProof.Rows L2
section
variable {Z : Dx} {k j : Nat} {sp : DSp}
theorem num_inj {K : PySem.W.Frag} {H : Hp} {a : Addr} {q p : Rat} (h1 : Rp K H (.num q) (.ref a)) (h2 : Rp K H (.num p) (.ref a)) : q = p := by
  cases h1 with
  | num e1 => cases h2 with
    | num e2 =>
      rw [e1] at e2
      injection e2 with e2
      injection e2 with _ _ e3
      injection e3 with e4 e5
      injection e5 with e6 _
      injection e4 with _ e4
      injection e6 with _ e6
      injection e4 with e4
      injection e6 with e6
      exact Rat.ext e6 (Int.ofNat_inj.mp e4)
structure EqAtN (Z : Dx) (j : Nat) : Prop where
  run : ∀ {A : Around}, A.frames = Z.X.A.frames → Rm j A → ∀ {pins : List (Addr × Obj)} {σ : L2.St} {H : Hp} {s : Shared} {w : Om} {q p : Rat} {u v : Value}, Inv Z.X pins σ H s → OmOk Z.X.K w H → (∃ x, Rp Z.X.K (hm H w) (.num q) x ∧ RelV x u) → (∃ y, Rp Z.X.K (hm H w) (.num p) y ∧ RelV y v) →
    wpAny (model Z.X.prog Z.X.w) A (eqBool u v) (fun r s' => r = decide (q = p) ∧ ∃ H', Inv Z.X pins σ H' s' ∧ Aft Z.X.K w H w H') Z.X.xe s
theorem eqAtN_of (c : CalM Z.X.prog Z.X.w Z.X.K Z.X.mg Z.X.base (cN Z.X.K) "__eq__" j [] sp) (hs : EqSp sp) : EqAtN Z j := by
  obtain ⟨f, fd, ps, dvs, ds, hc, hm', F, hb, hd, hr⟩ := c.ex
  obtain rfl := rpl_nil (hr (fun _ => none))
  obtain rfl := vals_nil rfl hd
  refine ⟨fun {A} fr rm {pins σ H s w q p u v} I om hx hy => ?_⟩
  obtain ⟨x, rx, ru⟩ := hx
  obtain ⟨y, ry, rv⟩ := hy
  have rx0 := rx
  have ry0 := ry
  cases rx with
  | @num a dx _ ha => cases ry with
    | @num a2 dy _ ha2 =>
      cases ru
      cases rv
      by_cases ab : a = a2
      · subst ab
        have e := num_inj rx0 ry0
        exact SeqAt.EqAt.same (A := A) (s := s) (.ref a) Z.X.prog Z.X.w Z.X.xe _ ⟨(decide_eq_true e).symm, H, I, Aft.refl om⟩
      · have hsp : lift Z.X.K sp [.ref a, .ref a2] H (fun v H' => v = .bl (decide (q = p)) ∧ Aft Z.X.K w H w H') (fun _ _ _ => False) :=
          ⟨[.num q, .num p], w, fun d w2 => d = .bl (decide (q = p)) ∧ w2 = w, fun _ _ _ => False, .cons rx0 (.cons ry0 .nil), om, hs _ _ _ _ _ ⟨rfl, rfl⟩, fun v d H' w' A' rv ⟨e1, e2⟩ => by
            subst e1 e2
            cases rv
            exact ⟨rfl, A'⟩, fun _ _ _ _ _ _ _ _ _ z => z.elim⟩
        have hl := F.len _ _ _ _ hsp
        obtain ⟨mA, J, _⟩ := ins_get I.hok (hm_some ha).2
        obtain ⟨mB, J', _⟩ := ins_get I.hok (hm_some ha2).2
        obtain ⟨od, J, _⟩ := J.look
        obtain ⟨od', J', _⟩ := J'.look
        obtain ⟨m, hF⟩ := I.fr
        have e0 : Env0 Z.X.prog Z.X.w Z.X.K Z.X.mg Z.X.base A Z.X.stack s H := by
          have e := I.env0
          exact ⟨by rw [fr]; exact e.frames, e.mod, e.bs, e.bsz, e.funs, e.frf, e.hok, e.bare⟩
        refine GQ.eqBool_refG ab (PySem.W.cmp_K (op := .Eq) (tb := .ref (cN Z.X.K)) rm.room.units0 hF I.ok.mod.kin J J'.type (by simp [PySem.W.notFirst]) hm'.at_ hm'.fn ?_)
        refine wpAny_call (codeAny_mono (F.run A Z.X.stack s H ⟨[.ref a, .ref a2], []⟩ [.ref a, .ref a2] [.ref a, .ref a2] _ _ rm e0 (by
          have := hb s [.ref a, .ref a2] I.kIn (by simpa using hl)
          simpa using this) (.cons rfl (.cons rfl .nil)) hsp) fun r s' hq => ?_)
        match r, hq with
        | .error e, hq => exact (no_esc hq).elim
        | .ok (.ret u), hq =>
          obtain ⟨z, H', I', rz, ez, A'⟩ := I.after hq
          subst ez
          cases rz
          exact ⟨_, rfl, rfl, H', I', A'⟩
end
end DL
namespace DL
open PySem PySem.Spec PyProof.Rows L2
theorem OmOk.dct {K : PySem.W.Frag} {w : Om} {H : Hp} (ok : OmOk K w H) {p : Addr} {fs : List (Str × Dt)} (h : w p = some (.dct fs)) : ∃ gs, H p = some (.dK (kyG gs)) ∧ RpF K (hm H w) fs gs := by
  obtain ⟨o, h1, h2⟩ := ok p _ h
  cases h2 with
  | dct r => exact ⟨_, h1, r⟩
def dctOf (x : Dt) (w : Om) : Option (List (Str × Dt)) := match x with
  | .dct fs => some fs
  | .ptr p => match w p with
    | some (.dct fs) => some fs
    | _ => none
  | _ => none
section
variable {Z : Dx} {k : Nat} {e a b o i : Expr} {es : List Expr} {te ta tb : DTE} {pos : Pos}
def dGet (ta tb : DTE) : DTE := fun r w Q => ta r w fun x w1 => tb r w1 fun y w2 => match y with
  | .str z => ∃ fs, dctOf x w2 = some fs ∧ ∃ d, fs.lookup z = some d ∧ Q d w2
  | _ => False
def finD : Bool → Addr → List (Str × Dt) → Om → DK → Prop
  | false, p, fs, w, Q => Q (.dct fs) (cut w p)
  | true, p, _, w, Q => Q (.ptr p) w
def dDispV (m : Bool) (ks : List Str) (t : DTA) : DTE := fun r w Q => ∀ p, w p = none → t r (put w p (.dct [])) fun ds w2 => w2 p = some (.dct []) ∧ finD m p (ks.zip ds) (put w2 p (.dct (ks.zip ds))) Q
end
end DL
namespace DL
open PySem PySem.Spec PyProof.Rows L2
theorem at2 (U : Bool) {x y : Int} : L2.atI [Dt.int x, Dt.int y] (if U = true then 1 else 0) = some (.int (if U = true then y else x)) := by cases U <;> rfl
def Wy.tie : Wy → Int → Bool
  | .hup, n => decide (0 ≤ n)
  | .hdown, n => decide (n < 0)
  | .heven, n => decide (n % 2 = 1)
  | _, n => decide (n % 2 = 0)
end DL
namespace DL
open PySem PySem.Spec PyProof.Rows L2
def isOk : Dt → Bool
  | .ty _ => false | .ins _ _ => false | .dct _ => false | .ptr _ => false | _ => true
def Wy.gr (y : Wy) (n : Int) (b a : Rat) : Bool := match y with
  | .up => decide (0 ≤ n) | .down => decide (n < 0) | .high => true | .low => false
  | y => if b = a then y.tie n else decide (a < b)
end DL
namespace DL
open PySem PySem.Spec PyProof.Rows L2
def ReprOk (p : PyData) : Prop := p.showable = true ∧ p.hasDict = false ∧ p.depth ≤ 60 ∧ p.shown.length ≤ sizeLine
end DL
namespace DL
open PySem PySem.Spec PyProof.Rows L2
section
variable {Z : Dx}
def mulSR : DR2 := fun x y w Q => match x, y with
  | .str a, .int n => MulOk a n ∧ Q (.str (Txt.mul a n)) w
  | _, _ => False
def strR : DFr := on1 fun x w Q => match x with
  | .int i => i.natAbs.log2 < 1920 ∧ Q (.str (toString i)) w
  | .str a => Q (.str a) w
  | _ => False
theorem call_strB {X : Cx} : CallR X (.type "str") (fun xs H Q => (∃ i, xs = [.int i] ∧ i.natAbs.log2 < 1920 ∧ Q (.str (toString i)) H) ∨ ∃ a, xs = [.str a] ∧ Q (.str a) H) := by
  intro pins s σ H xs us Q I r h
  rcases h with h | h
  · exact call_str_int pins s σ H xs us Q I r h
  · exact SkE.call_str_str pins s σ H xs us Q I r h
theorem f_str : DFn Z (.type "str") strR := by
  refine ⟨_, call_strB, fun ds vs w H Q QL ok r h k => ?_⟩
  obtain ⟨d, v, rfl, rfl, rv, h⟩ := rl1 r h
  cases rv with
  | int => exact .inl ⟨_, rfl, h.1, k _ _ H w (Aft.refl ok) .str h.2⟩
  | str => exact .inr ⟨_, rfl, k _ _ H w (Aft.refl ok) .str h⟩
  | _ => exact (show False from h).elim
end
end DL
namespace DL
open PySem PySem.Spec PyProof.Rows L2 TL
def nd (n : Nat) : Nat := (numL n).length
theorem nd_lt {n : Nat} (h : n < 10) : nd n = 1 := by unfold nd; rw [numL_lt h]; rfl
theorem nd_step {n : Nat} (h : 10 ≤ n) : nd n = nd (n / 10) + 1 := by unfold nd; rw [numL_step h]; simp
theorem nd_pos (n : Nat) : 0 < nd n := by
  by_cases h : n < 10
  · rw [nd_lt h]; decide
  · rw [nd_step (by omega)]; omega
theorem nd_up (n : Nat) : n < 10 ^ nd n := by
  induction n using Nat.strongRecOn with
  | _ n ih =>
    by_cases h : n < 10
    · rw [nd_lt h]; omega
    · rw [nd_step (by omega), Nat.pow_succ]
      have := ih (n / 10) (by omega)
      omega
theorem nd_dn {n : Nat} (h0 : 0 < n) : 10 ^ (nd n - 1) ≤ n := by
  induction n using Nat.strongRecOn with
  | _ n ih =>
    by_cases h : n < 10
    · rw [nd_lt h]; simp; omega
    · rw [nd_step (by omega), Nat.add_sub_cancel]
      have h1 := ih (n / 10) (by omega) (by omega)
      have h2 := nd_pos (n / 10)
      have e : nd (n / 10) = (nd (n / 10) - 1) + 1 := by omega
      rw [e, Nat.pow_succ]
      omega
theorem len_num (n : Nat) : (toString (n : Int) : Str).length = nd n := by
  rw [len_tl, show tl (toString (n : Int) : Str) = numL n from tl_num n]; rfl
def tenZ (k : Int) : Rat := if k < 0 then Rat.divInt 1 ((10 : Int) ^ (-k).toNat) else (((10 : Int) ^ k.toNat : Int) : Rat)
theorem ten_pos (n : Nat) : (0 : Int) < (10 : Int) ^ n := Int.pow_pos (by decide)
theorem tenZ_div (k : Int) (j : Nat) (h : 0 ≤ k + j) : tenZ k = Rat.divInt ((10 : Int) ^ (k + j).toNat) ((10 : Int) ^ j) := by
  unfold tenZ
  by_cases hk : k < 0
  · rw [if_pos hk]
    refine (Rat.divInt_eq_divInt_iff (Int.ne_of_gt (ten_pos _)) (Int.ne_of_gt (ten_pos _))).mpr ?_
    rw [Int.one_mul, ← Int.pow_add]
    congr 1
    omega
  · rw [if_neg hk, ← ofInt_txt]
    refine (Rat.divInt_eq_divInt_iff (by decide) (Int.ne_of_gt (ten_pos _))).mpr ?_
    rw [Int.mul_one, ← Int.pow_add]
    congr 1
    omega
theorem tenZ_pos (k : Int) : 0 < tenZ k := by
  rw [tenZ_div k k.natAbs (by omega)]
  exact divInt_pos (ten_pos _) (ten_pos _)
theorem tenZ_succ (k : Int) : tenZ (k + 1) = 10 * tenZ k := by
  rw [tenZ_div k (k.natAbs + 1) (by omega), tenZ_div (k + 1) (k.natAbs + 1) (by omega)]
  rw [show (10 : Rat) = Rat.divInt 10 1 from rfl, Rat.divInt_mul_divInt, Int.one_mul]
  congr 1
  rw [show (k + 1 + ((k.natAbs + 1 : Nat) : Int)).toNat = (k + ((k.natAbs + 1 : Nat) : Int)).toNat + 1 by omega, Int.pow_succ, Int.mul_comm]
end DL
namespace DL
open PySem PySem.Spec PyProof.Rows L2 TL
theorem dI_lt {a b c d : Int} (hb : 0 < b) (hd : 0 < d) : Rat.divInt a b < Rat.divInt c d ↔ a * d < c * b := by
  have hb' : (0 : Rat) < (b : Rat) := by rw [← Rat.intCast_zero]; exact Rat.intCast_lt_intCast.mpr hb
  have hd' : (0 : Rat) < (d : Rat) := by rw [← Rat.intCast_zero]; exact Rat.intCast_lt_intCast.mpr hd
  rw [Rat.divInt_eq_div, Rat.divInt_eq_div, Rat.div_lt_iff hb']
  have e : (c : Rat) / (d : Rat) * (b : Rat) = (c * b : Int) / (d : Rat) := by
    rw [Rat.intCast_mul, Rat.div_def, Rat.div_def, Rat.mul_assoc, Rat.mul_assoc, Rat.mul_comm (d : Rat)⁻¹]
  rw [e, Rat.lt_div_iff hd', ← Rat.intCast_mul, Rat.intCast_lt_intCast]
theorem dI_le {a b c d : Int} (hb : 0 < b) (hd : 0 < d) : Rat.divInt a b ≤ Rat.divInt c d ↔ a * d ≤ c * b := by
  rw [← Rat.not_lt, dI_lt hd hb]
  exact Int.not_lt
theorem tenZ_mono {i j : Int} (h : i ≤ j) : tenZ i ≤ tenZ j := by
  obtain ⟨n, rfl⟩ : ∃ n : Nat, j = i + n := ⟨(j - i).toNat, by omega⟩
  clear h
  induction n with
  | zero => simp [Rat.le_refl]
  | succ n ih =>
    rw [show i + ((n + 1 : Nat) : Int) = i + n + 1 by omega, tenZ_succ]
    have := tenZ_pos (i + n)
    grind
theorem tenZ_add (i j : Int) : tenZ (i + j) = tenZ i * tenZ j := by
  rw [tenZ_div i i.natAbs (by omega), tenZ_div j j.natAbs (by omega), tenZ_div (i + j) (i.natAbs + j.natAbs) (by omega), Rat.divInt_mul_divInt]
  congr 1
  · rw [← Int.pow_add]; congr 1; omega
  · rw [← Int.pow_add]
def fnd (q : Rat) : Int := (nd q.num.natAbs : Int) - nd q.den
def pw10 (q : Rat) : Int := if q.abs < tenZ (fnd q) then fnd q - 1 else fnd q
theorem abs_dI (q : Rat) : q.abs = Rat.divInt (q.num.natAbs : Int) q.den := (abs_txt q).symm
theorem fnd_bounds {q : Rat} (h : q ≠ 0) : tenZ (fnd q - 1) ≤ q.abs ∧ q.abs < tenZ (fnd q + 1) := by
  have n0 : 0 < q.num.natAbs := Int.natAbs_pos.mpr fun z => h (Rat.num_eq_zero.mp z)
  have h1 := nd_up q.num.natAbs
  have h2 := nd_dn n0
  have h3 := nd_up q.den
  have h4 := nd_dn q.den_pos
  have p1 := nd_pos q.num.natAbs
  have p2 := nd_pos q.den
  rw [abs_dI]
  unfold fnd
  generalize nd q.num.natAbs = a at *
  generalize nd q.den = b at *
  generalize q.num.natAbs = n at *
  have d0 := q.den_pos
  generalize q.den = d at *
  have hd : (0 : Int) < (d : Int) := by omega
  constructor
  · rw [tenZ_div _ b (by omega), dI_le (ten_pos _) hd]
    have e : ((a : Int) - b - 1 + (b : Int)).toNat = a - 1 := by omega
    rw [e]
    have : 10 ^ (a - 1) * d ≤ n * 10 ^ b := Nat.mul_le_mul h2 (Nat.le_of_lt h3)
    exact_mod_cast this
  · rw [tenZ_div _ (b - 1) (by omega), dI_lt hd (ten_pos _)]
    have e : ((a : Int) - b + 1 + ((b - 1 : Nat) : Int)).toNat = a := by omega
    rw [e]
    have : n * 10 ^ (b - 1) < 10 ^ a * d := Nat.lt_of_lt_of_le (Nat.mul_lt_mul_of_pos_right h1 (Nat.pow_pos (by decide))) (Nat.mul_le_mul_left _ h4)
    exact_mod_cast this
theorem pw10_bounds {q : Rat} (h : q ≠ 0) : tenZ (pw10 q) ≤ q.abs ∧ q.abs < tenZ (pw10 q + 1) := by
  obtain ⟨h1, h2⟩ := fnd_bounds h
  unfold pw10
  split
  · rename_i h3
    exact ⟨h1, by rw [Int.sub_add_cancel]; exact h3⟩
  · rename_i h3
    exact ⟨Rat.not_lt.mp h3, h2⟩
end DL
namespace DL
open PySem PySem.Spec PyProof.Rows L2 TL
theorem sz_ten {n m : Nat} (h : n ≤ m) : Sz (4 * m + 1) ((10 : Int) ^ n) := by
  have h1 : (10 : Nat) ^ n ≤ 16 ^ n := Nat.pow_le_pow_left (by decide) n
  have h2 : (16 : Nat) ^ n = 2 ^ (4 * n) := by rw [Nat.pow_mul]
  have h3 : (2 : Nat) ^ (4 * n) < 2 ^ (4 * m + 1) := Nat.pow_lt_pow_right (by decide) (by omega)
  unfold Sz
  rw [Int.natAbs_pow]
  show 10 ^ n < _
  omega
end DL
namespace DL
open PySem PySem.Spec PyProof.Rows L2 TL
theorem flr_le (z : Rat) : ((flr z : Int) : Rat) ≤ z := by
  have d := den_pos z
  have h := Int.ediv_mul_le z.num (Int.ne_of_gt d)
  conv => rhs; rw [← Rat.num_divInt_den z]
  rw [← ofInt_txt]
  refine (dI_le (by decide) d).mpr ?_
  show z.num / z.den * z.den ≤ z.num * 1
  omega
theorem lt_flr (z : Rat) : z < ((flr z + 1 : Int) : Rat) := by
  have d := den_pos z
  have h := Int.lt_ediv_add_one_mul_self z.num d
  conv => lhs; rw [← Rat.num_divInt_den z]
  rw [← ofInt_txt]
  refine (dI_lt d (by decide)).mpr ?_
  show z.num * 1 < (z.num / z.den + 1) * z.den
  omega
theorem mul_div_self {p q : Rat} (hp : 0 < p) : p * (q / p) = q := by
  rw [Rat.mul_comm, Rat.div_mul_cancel (Rat.ne_of_gt hp)]
theorem abs_mul_pos {p x : Rat} (hp : 0 < p) : (p * x).abs = p * x.abs := by
  unfold Rat.abs
  by_cases h : 0 ≤ x
  · rw [if_pos h, if_pos (Rat.mul_nonneg (Rat.le_of_lt hp) h)]
  · rw [if_neg h]
    have h1 : x < 0 := Rat.not_le.mp h
    have h2 : p * x < 0 := by
      have := (Rat.mul_lt_mul_left hp).mpr h1
      rwa [Rat.mul_zero] at this
    rw [if_neg (Rat.not_le.mpr h2), Rat.mul_neg]
end DL
namespace DL
open PySem PySem.Spec PyProof.Rows L2 TL
def Wl (w : Om) (W : Addr) : Prop := ∃ a b c : Int, w W = some (.lst [.int a, .int b, .int c])
def OffW (w w' : Om) (W : Addr) : Prop := ∀ p, p ≠ W → w' p = w p
theorem OffW.trans {w w1 w2 : Om} {W : Addr} (a : OffW w w1 W) (b : OffW w1 w2 W) : OffW w w2 W := fun p h => (b p h).trans (a p h)
theorem OffW.refl {w : Om} {W : Addr} : OffW w w W := fun _ _ => rfl
def sp_well : DSp := fun ds w Q _ => ∃ (ns : List Int) (k : Int), ds = [.rl (ns.map Dt.int), .int k] ∧ 0 ≤ k ∧ k ≤ 1000 ∧ ∀ W w', w W = none → Wl w' W → OffW w w' W → Q (.ptr W) w'
def sp_take : DSp := fun ds w Q _ => ∃ (W : Addr) (n : Int), ds = [.ptr W, .int n] ∧ 0 < n ∧ Sz 200 n ∧ Wl w W ∧ ∀ (r : Int) w', 0 ≤ r → r < n → Wl w' W → OffW w w' W → Q (.int r) w'
def sp_lten : DSp := fun ds w Q _ => ∃ k : Int, ds = [.int k] ∧ 0 ≤ k ∧ k ≤ 1000 ∧ Q (.int ((10 : Int) ^ k.toNat)) w
def PrI (T B : Int) : Prop := B ≠ 0 ∧ Sz 110 T ∧ Sz 41 B
def sp_pair : DSp := fun ds w Q _ => ∃ W : Addr, ds = [.ptr W] ∧ Wl w W ∧ ∀ (T B : Int) w', PrI T B → Wl w' W → OffW w w' W → Q (.tup [.int T, .int B]) w'
def sp_lowest : DSp := fun ds w Q _ => ∃ (a b : Int), ds = [.int a, .int b] ∧ b ≠ 0 ∧ Sz 9000 b ∧ Q (.tup [.int (Rat.divInt a b).num, .int (Rat.divInt a b).den]) w
theorem wsz_take {n : Int} (h0 : 0 < n) (h : Sz 200 n) : DivP n := h.divP h0 (by decide)
theorem p30' : (10 : Int) ^ (30 : Nat) = 1000000000000000000000000000000 := by decide +kernel
theorem p12'' : (10 : Int) ^ (12 : Nat) = 1000000000000 := by decide +kernel
theorem sz110' {i : Int} (h : -(2 ^ 109) < i ∧ i < 2 ^ 109) : Sz 110 i := by
  have : i.natAbs < 2 ^ 109 := by omega
  exact Nat.lt_of_lt_of_le this (Nat.pow_le_pow_right (by decide) (by decide))
theorem sz41 {i : Int} (h : -2199023255552 < i ∧ i < 2199023255552) : Sz 41 i := by unfold Sz; omega
def TpD (d : Dt) : Prop := ∃ T : Int, d = .int T ∧ 0 ≤ T ∧ T ≤ 10 ^ 30
theorem tpI {T : Int} (h : 0 ≤ T) (h2 : T ≤ 10 ^ 30) : TpD (.int T) := ⟨T, rfl, h, h2⟩
def BpD (d : Dt) : Prop := ∃ T : Int, d = .int T ∧ 0 < T ∧ T ≤ 1000000000000
theorem bpI {T : Int} (h : 0 < T) (h2 : T ≤ 1000000000000) : BpD (.int T) := ⟨T, rfl, h, h2⟩
def T25 (d : Dt) : Prop := ∃ T : Int, d = .int T ∧ (T = 2 ∨ T = 5)
theorem if_join {c : DTT} {t u rest : DTS} {D : DEnds} {r : Rho} {w : Om} (J : Rho → Om → Prop) (h2 : ∀ r' w', J r' w' → rest D r' w') (h1 : ∀ K : Rho → Om → Prop, (∀ r' w', J r' w' → K r' w') → dIfS c t u { D with nx := K } r w) : dSeq (dIfS c t u) rest D r w := h1 (rest D) h2
theorem gif_join {i : Nat} {x : Dt} {c : DTT} {t u rest : DTS} {D : DEnds} {r : Rho} {w : Om} (J : Rho → Om → Prop) (h2 : ∀ r' w', J r' w' → rest D r' w') (h1 : ∀ K : Rho → Om → Prop, (∀ r' w', J r' w' → K r' w') → dIfS c t u { D with nx := K } (pus r i (some x)) w) : gNm i x r w (dSeq (dIfS c t u) rest D) := h1 (rest D) h2
theorem ten_le {k : Nat} {m : Nat} (h : k ≤ m) : (10 : Int) ^ k ≤ (10 : Int) ^ m := by
  have := Nat.pow_le_pow_right (n := 10) (by decide) h
  have e1 : ((10 ^ k : Nat) : Int) = (10 : Int) ^ k := Int.natCast_pow 10 k
  have e2 : ((10 ^ m : Nat) : Int) = (10 : Int) ^ m := Int.natCast_pow 10 m
  omega
end DL
namespace DL
open PySem PySem.Spec PyProof.Rows L2
def lstOf (x : Dt) (w : Om) : Option (List Dt) := match x with
  | .lst xs => some xs
  | .ptr p => match w p with
    | some (.lst xs) => some xs
    | _ => none
  | _ => none
section
variable {Z : Dx}
def catM : DR2 := fun x y w Q => ∃ xs ys, lstOf x w = some xs ∧ lstOf y w = some ys ∧ xs.length + ys.length ≤ sizeLine ∧ ∀ p, w p = none → Q (.ptr p) (put w p (.lst (xs ++ ys)))
def catL : DR2 := fun x y w Q => ∃ xs ys, lstOf x w = some xs ∧ lstOf y w = some ys ∧ xs.length + ys.length ≤ sizeLine ∧ Q (.lst (xs ++ ys)) w
end
def vfN (f : Nat) : Nat → Nat → Nat
  | 0, _ => 0
  | k + 1, n => if f ∣ n then vfN f k (n / f) + 1 else 0
def vf (f n : Nat) : Nat := vfN f n n
theorem vfN_of {f : Nat} (hf : 2 ≤ f) : ∀ {k n v m : Nat}, 0 < m → n = f ^ v * m → ¬ f ∣ m → n ≤ k → vfN f k n = v
  | 0, n, v, m, hm, e, _, hk => by
    have h1 : 0 < f ^ v := Nat.pow_pos (by omega)
    have h2 : 0 < f ^ v * m := Nat.mul_pos h1 hm
    omega
  | k + 1, n, 0, m, hm, e, hd, hk => by
    rw [Nat.pow_zero, Nat.one_mul] at e
    subst e
    unfold vfN
    rw [if_neg hd]
  | k + 1, n, v + 1, m, hm, e, hd, hk => by
    have e1 : n = f * (f ^ v * m) := by rw [e, Nat.pow_succ]; grind
    have e2 : n / f = f ^ v * m := by rw [e1]; exact Nat.mul_div_cancel_left _ (by omega)
    have h1 : 0 < f ^ v * m := Nat.mul_pos (Nat.pow_pos (by omega)) hm
    unfold vfN
    rw [if_pos ⟨_, e1⟩, e2, vfN_of hf hm rfl hd (by
      have : 2 * (f ^ v * m) ≤ f * (f ^ v * m) := Nat.mul_le_mul_right _ hf
      omega)]
theorem vf_of {f n v m : Nat} (hf : 2 ≤ f) (hm : 0 < m) (e : n = f ^ v * m) (hd : ¬ f ∣ m) : vf f n = v := vfN_of hf hm e hd (Nat.le_refl _)
def plc (d : Nat) : Dt := if d = 2 ^ vf 2 d * 5 ^ vf 5 d then .int ((max (vf 2 d) (vf 5 d) : Nat) : Int) else .non
theorem no2_5 {b m : Nat} (h : ¬ 2 ∣ m) : ¬ 2 ∣ 5 ^ b * m := fun z =>
  h (Nat.Coprime.dvd_of_dvd_mul_left (Nat.Coprime.pow_right b (by decide : Nat.Coprime 2 5)) z)
theorem no5_2 {a m : Nat} (h : ¬ 5 ∣ m) : ¬ 5 ∣ 2 ^ a * m := fun z =>
  h (Nat.Coprime.dvd_of_dvd_mul_left (Nat.Coprime.pow_right a (by decide : Nat.Coprime 5 2)) z)
theorem has_fac {f : Nat} (hf : 2 ≤ f) {n : Nat} (hn : 0 < n) : ∃ v m, n = f ^ v * m ∧ 0 < m ∧ ¬ f ∣ m := by
  induction n using Nat.strongRecOn with
  | _ n ih =>
    by_cases h : f ∣ n
    · obtain ⟨c, rfl⟩ := h
      have hc : 0 < c := Nat.pos_of_mul_pos_left hn
      have hl : c < f * c := by have : 2 * c ≤ f * c := Nat.mul_le_mul_right _ hf; omega
      obtain ⟨v, m, e, h1, h2⟩ := ih c hl hc
      exact ⟨v + 1, m, by rw [e, Nat.pow_succ]; grind, h1, h2⟩
    · exact ⟨0, n, by rw [Nat.pow_zero, Nat.one_mul], hn, h⟩
theorem pow_dvd_le {f a k m : Nat} (hf : 2 ≤ f) (hm : 0 < m) (hd : ¬ f ∣ m) (h : f ^ a ∣ f ^ k * m) : a ≤ k := by
  obtain ⟨c, hc⟩ := h
  have c0 : 0 < c := by
    refine Nat.pos_of_ne_zero fun z => ?_
    rw [z, Nat.mul_zero] at hc
    have : 0 < f ^ k * m := Nat.mul_pos (Nat.pow_pos (by omega)) hm
    omega
  obtain ⟨v, m', e, h1, h2⟩ := has_fac hf c0
  have a2 : vf f (f ^ k * m) = a + v := vf_of hf h1 (by rw [hc, e, Nat.pow_add, Nat.mul_assoc]) h2
  have a3 : vf f (f ^ k * m) = k := vf_of hf hm rfl hd
  omega
theorem ten_fac (n : Nat) : 10 ^ n = 2 ^ n * 5 ^ n := by rw [← Nat.mul_pow]
theorem plc_dvd {d P : Nat} (h : plc d = .int P) : d ∣ 10 ^ P := by
  unfold plc at h
  split at h
  · rename_i e
    have hP : max (vf 2 d) (vf 5 d) = P := by
      injection h with h; exact Int.ofNat_inj.mp h
    rw [ten_fac, e]
    have h1 : vf 2 d ≤ P := by omega
    have h2 : vf 5 d ≤ P := by omega
    generalize vf 2 d = a at *
    generalize vf 5 d = b at *
    exact Nat.mul_dvd_mul (Nat.pow_dvd_pow 2 h1) (Nat.pow_dvd_pow 5 h2)
  · cases h
theorem plc_least {d P : Nat} (h : plc d = .int ((P + 1 : Nat) : Int)) : ¬ d ∣ 10 ^ P := by
  unfold plc at h
  split at h
  · rename_i e
    have hP : max (vf 2 d) (vf 5 d) = P + 1 := by
      injection h with h; exact Int.ofNat_inj.mp h
    intro hd
    have d2 : 2 ^ vf 2 d ∣ d := ⟨5 ^ vf 5 d, e⟩
    have d5 : 5 ^ vf 5 d ∣ d := ⟨2 ^ vf 2 d, by rw [Nat.mul_comm]; exact e⟩
    have h2 : vf 2 d ≤ P := pow_dvd_le (f := 2) (m := 5 ^ P) (by decide) (Nat.pow_pos (by decide)) (by have := no2_5 (b := P) (m := 1) (by decide); rwa [Nat.mul_one] at this) (by rw [← ten_fac]; exact Nat.dvd_trans d2 hd)
    have h5 : vf 5 d ≤ P := pow_dvd_le (f := 5) (m := 2 ^ P) (by decide) (Nat.pow_pos (by decide)) (by have := no5_2 (a := P) (m := 1) (by decide); rwa [Nat.mul_one] at this) (by rw [Nat.mul_comm, ← ten_fac]; exact Nat.dvd_trans d5 hd)
    omega
  · cases h
end DL
namespace DL
open PySem PySem.Spec PyProof.Rows L2
theorem int_ge {d : Int} {a : Int} (h : ((a - 1 : Int) : Rat) < (d : Rat)) : a ≤ d := by
  have := Rat.intCast_lt_intCast.mp h
  omega
theorem int_le_of {d : Int} {a : Int} (h : (d : Rat) < ((a + 1 : Int) : Rat)) : d ≤ a := by
  have := Rat.intCast_lt_intCast.mp h
  omega
theorem abs_lt' {x b : Rat} : x.abs < b ↔ -b < x ∧ x < b := by
  unfold Rat.abs
  by_cases h : 0 ≤ x
  · rw [if_pos h]; constructor
    · intro h1; exact ⟨by grind, h1⟩
    · exact fun h1 => h1.2
  · rw [if_neg h]; constructor
    · intro h1; exact ⟨by grind, by grind⟩
    · intro h1; grind
theorem abs_eq' {x b : Rat} (hb : 0 ≤ b) : x.abs = b ↔ x = b ∨ x = -b := by
  unfold Rat.abs
  by_cases h : 0 ≤ x
  · rw [if_pos h]; constructor
    · exact .inl
    · rintro (h1 | h1) <;> grind
  · rw [if_neg h]; constructor
    · intro h1; right; grind
    · rintro (h1 | h1) <;> grind
theorem hev_iff {p q : Rat} {c : Int} (hp : 0 < p) : cntBy .heven q p = c ↔ 2 * (q - p * (c : Rat)).abs < p ∨ (2 * (q - p * (c : Rat)).abs = p ∧ c % 2 = 0) := by
  have h1 := flr_le (q / p)
  have h2 := lt_flr (q / p)
  have h3 := mul_div_self (q := q) hp
  generalize hn : flr (q / p) = n at *
  obtain ⟨x, hx⟩ : ∃ x, x = q / p - (n : Rat) := ⟨_, rfl⟩
  have x0 : 0 ≤ x := by grind
  have x1 : x < 1 := by rw [Rat.intCast_add] at h2; grind
  have eq : q = p * ((n : Rat) + x) := by rw [← h3, hx]; congr 1; grind
  rw [cnt_grid (y := .heven) (Rat.ne_of_gt hp) eq x0 x1]
  have e1 : q - p * (c : Rat) = p * (((n - c : Int) : Rat) + x) := by rw [eq, Rat.intCast_sub]; grind
  rw [e1, abs_mul_pos hp]
  have r1 : (2 * (p * (((n - c : Int) : Rat) + x).abs) < p) ↔ (((n - c : Int) : Rat) + x).abs < 1 / 2 := by
    have e : 2 * (p * (((n - c : Int) : Rat) + x).abs) = p * (2 * (((n - c : Int) : Rat) + x).abs) := by grind
    rw [e]
    have : p * (2 * (((n - c : Int) : Rat) + x).abs) < p * 1 ↔ 2 * (((n - c : Int) : Rat) + x).abs < 1 := Rat.mul_lt_mul_left hp
    rw [Rat.mul_one] at this
    rw [this]
    constructor <;> intro h <;> grind
  have r2 : (2 * (p * (((n - c : Int) : Rat) + x).abs) = p) ↔ (((n - c : Int) : Rat) + x).abs = 1 / 2 := by
    have e : 2 * (p * (((n - c : Int) : Rat) + x).abs) = p * (2 * (((n - c : Int) : Rat) + x).abs) := by grind
    rw [e]
    constructor
    · intro h
      have := mul_left_cancel' (Rat.ne_of_gt hp) (h.trans (Rat.mul_one p).symm)
      grind
    · intro h
      rw [h]; grind
  rw [r1, r2, abs_lt', abs_eq' (by decide +kernel)]
  have go : Wy.go .heven n x = if x = 1 / 2 then decide (n % 2 = 1) else decide (1 / 2 < x) := by
    show byHalf x (decide (n % 2 = 1)) = _
    unfold byHalf
    by_cases z : x = 1 / 2
    · rw [if_pos z, if_pos ((half_eq x).mpr z)]
    · rw [if_neg z, if_neg fun h => z ((half_eq x).mp h)]
      exact decide_eq_decide.mpr (half_lt x)
  rw [go]
  obtain ⟨d, hd⟩ : ∃ d, d = n - c := ⟨_, rfl⟩
  have dc : c = n - d := by omega
  rw [← hd]
  clear hd r1 r2 go e1
  subst dc
  have two : ∀ (h : -(1/2 : Rat) ≤ (d : Rat) + x ∧ (d : Rat) + x ≤ 1/2), d = 0 ∨ d = -1 := fun h => by
    have a : -1 ≤ d := int_ge (a := -1) (by
      have : ((-1 - 1 : Int) : Rat) = -2 := by decide +kernel
      rw [this]; grind)
    have b : d ≤ 0 := int_le_of (a := 0) (by
      have : ((0 + 1 : Int) : Rat) = 1 := by decide +kernel
      rw [this]; grind)
    omega
  have c0 : ((0 : Int) : Rat) = 0 := rfl
  have c1 : ((-1 : Int) : Rat) = -1 := by decide +kernel
  constructor
  · intro h
    by_cases z0 : x = 0
    · rw [if_pos z0] at h
      have : d = 0 := by omega
      subst this
      left; rw [c0, z0]; decide +kernel
    · rw [if_neg z0] at h
      by_cases zh : x = 1 / 2
      · rw [if_pos zh] at h
        right
        split at h
        · rename_i hh
          have hh := of_decide_eq_true hh
          have : d = -1 := by omega
          subst this
          refine ⟨.inr (by rw [c1, zh]; decide +kernel), by omega⟩
        · rename_i hh
          have hh : ¬ n % 2 = 1 := by simpa using hh
          have : d = 0 := by omega
          subst this
          refine ⟨.inl (by rw [c0, zh]; decide +kernel), by omega⟩
      · rw [if_neg zh] at h
        left
        split at h
        · rename_i hh
          have hh := of_decide_eq_true hh
          have : d = -1 := by omega
          subst this
          rw [c1]; constructor <;> grind
        · rename_i hh
          have hh : ¬ 1 / 2 < x := by simpa using hh
          have : d = 0 := by omega
          subst this
          rw [c0]; constructor <;> grind
  · intro h
    have d2 : d = 0 ∨ d = -1 := by
      rcases h with h | ⟨h | h, _⟩
      · exact two ⟨Rat.le_of_lt h.1, Rat.le_of_lt h.2⟩
      · exact two (by rw [h]; decide +kernel)
      · exact two (by rw [h]; decide +kernel)
    by_cases z0 : x = 0
    · rw [if_pos z0]
      rcases d2 with rfl | rfl
      · omega
      · exfalso
        rw [c1, z0] at h
        rcases h with h | ⟨h | h, _⟩ <;> grind
    · rw [if_neg z0]
      by_cases zh : x = 1 / 2
      · rw [if_pos zh]
        rcases d2 with rfl | rfl
        · have ce : (n - 0) % 2 = 0 := by
            rcases h with h | ⟨_, h⟩
            · exfalso; rw [c0, zh] at h; grind
            · exact h
          rw [decide_eq_false (by omega)]; simp
        · have ce : (n - -1) % 2 = 0 := by
            rcases h with h | ⟨_, h⟩
            · exfalso; rw [c1, zh] at h; grind
            · exact h
          rw [decide_eq_true (by omega)]; simp
      · rw [if_neg zh]
        rcases d2 with rfl | rfl
        · have : ¬ 1 / 2 < x := by
            rw [c0] at h
            rcases h with h | ⟨h | h, _⟩ <;> grind
          rw [decide_eq_false this]; simp
        · have : 1 / 2 < x := by
            rw [c1] at h
            rcases h with h | ⟨h | h, _⟩ <;> grind
          rw [decide_eq_true this]; simp
def lead (k p : Rat) (N : Nat) (a : Int) : Bool := decide (p * (cntBy .heven (tenZ (-(N : Int)) * (a : Rat)) p : Rat) = k)
def nearL (k : Rat) (N : Nat) : List Int := if k * tenZ N = ((flr (k * tenZ N) : Int) : Rat) then [flr (k * tenZ N)] else [flr (k * tenZ N), flr (k * tenZ N) + 1]
def goodL (k p : Rat) (N : Nat) : List Int := (nearL k N).filter (lead k p N)
def pickL (k p : Rat) (N : Nat) : List Int := if (goodL k p N).length = 2 ∧ ((flr (k * tenZ N) + 1 : Int) : Rat) - k * tenZ N < k * tenZ N - ((flr (k * tenZ N) : Int) : Rat) then (goodL k p N).reverse else goodL k p N
theorem tenZ_inv (N : Nat) : tenZ (-(N : Int)) * tenZ (N : Int) = 1 := by
  rw [← tenZ_add, show -(N : Int) + (N : Int) = 0 by omega]
  decide +kernel
theorem lead_iff {k p : Rat} {N : Nat} {a c : Int} (hp : 0 < p) (hk : k = p * (c : Rat)) : lead k p N a = true ↔ 2 * (tenZ (-(N : Int)) * (a : Rat) - k).abs < p ∨ (2 * (tenZ (-(N : Int)) * (a : Rat) - k).abs = p ∧ c % 2 = 0) := by
  unfold lead
  rw [hk, ← hev_iff hp, decide_eq_true_iff, mul_inj (Rat.ne_of_gt hp)]
theorem off_eq (k : Rat) (N : Nat) (a : Int) : tenZ (-(N : Int)) * (a : Rat) - k = tenZ (-(N : Int)) * ((a : Rat) - k * tenZ N) := by
  have := tenZ_inv N
  grind
theorem off_abs (k : Rat) (N : Nat) (a : Int) : (tenZ (-(N : Int)) * (a : Rat) - k).abs = tenZ (-(N : Int)) * ((a : Rat) - k * tenZ N).abs := by
  rw [off_eq, abs_mul_pos (tenZ_pos _)]
theorem lead_near {k p : Rat} {N : Nat} {a b c : Int} (hp : 0 < p) (hk : k = p * (c : Rat)) (h : lead k p N a = true) (hn : ((b : Rat) - k * tenZ N).abs ≤ ((a : Rat) - k * tenZ N).abs) : lead k p N b = true := by
  rw [lead_iff hp hk, off_abs] at *
  have t := tenZ_pos (-(N : Int))
  have m := Rat.mul_le_mul_of_nonneg_left hn (Rat.le_of_lt t)
  by_cases e : 2 * (tenZ (-(N : Int)) * ((b : Rat) - k * tenZ N).abs) < p
  · exact .inl e
  · rcases h with h | ⟨h, hc⟩
    · exfalso; grind
    · exact .inr ⟨by grind, hc⟩
theorem good_of_any {k p : Rat} {N : Nat} {a c : Int} (hp : 0 < p) (hk : k = p * (c : Rat)) (h : lead k p N a = true) : goodL k p N ≠ [] := by
  have h1 := flr_le (k * tenZ N)
  have h2 := lt_flr (k * tenZ N)
  have mem : ∀ b, b ∈ nearL k N → ((b : Rat) - k * tenZ N).abs ≤ ((a : Rat) - k * tenZ N).abs → goodL k p N ≠ [] := fun b hb hn e => by
    have := List.mem_filter.mpr ⟨hb, lead_near hp hk h hn⟩
    unfold goodL at e
    rw [e] at this
    cases this
  by_cases z : k * tenZ N = ((flr (k * tenZ N) : Int) : Rat)
  · refine mem (flr (k * tenZ N)) (by unfold nearL; rw [if_pos z]; exact List.mem_singleton.mpr rfl) ?_
    have e : ((flr (k * tenZ N) : Int) : Rat) - k * tenZ N = 0 := by rw [← z]; grind
    rw [e]
    have : Rat.abs 0 = 0 := by decide +kernel
    rw [this]
    unfold Rat.abs
    split <;> grind
  · by_cases l : a ≤ flr (k * tenZ N)
    · refine mem (flr (k * tenZ N)) (by unfold nearL; rw [if_neg z]; exact List.mem_cons_self) ?_
      have l' : (a : Rat) ≤ ((flr (k * tenZ N) : Int) : Rat) := Rat.intCast_le_intCast.mpr l
      unfold Rat.abs
      split <;> split <;> grind
    · refine mem (flr (k * tenZ N) + 1) (by unfold nearL; rw [if_neg z]; exact List.mem_cons_of_mem _ (List.mem_singleton.mpr rfl)) ?_
      have l' : ((flr (k * tenZ N) + 1 : Int) : Rat) ≤ (a : Rat) := Rat.intCast_le_intCast.mpr (by omega)
      unfold Rat.abs
      split <;> split <;> grind
theorem good_fine {k p : Rat} {N : Nat} {c : Int} (hp : 0 < p) (hk : k = p * (c : Rat)) (h : 2 * tenZ (-(N : Int)) ≤ p) : goodL k p N ≠ [] := by
  refine good_of_any (a := flr (k * tenZ N)) hp hk ?_
  rw [lead_iff hp hk, off_abs]
  have h1 := flr_le (k * tenZ N)
  have h2 := lt_flr (k * tenZ N)
  have t := tenZ_pos (-(N : Int))
  have e : (((flr (k * tenZ N) : Int) : Rat) - k * tenZ N).abs < 1 := by
    rw [abs_lt']
    rw [Rat.intCast_add] at h2
    constructor <;> grind
  have m := (Rat.mul_lt_mul_left t).mpr e
  left
  grind
theorem pick_mem {k p : Rat} {N : Nat} {a : Int} (h : a ∈ pickL k p N) : a ∈ goodL k p N := by
  unfold pickL at h
  split at h
  · exact List.mem_reverse.mp h
  · exact h
structure ShOk (k p : Rat) (f : Int) (N : Nat) : Prop where
  hd : ∃ r, pickL k p N = f :: r
  least : ∀ M, M < N → goodL k p M = []
theorem ShOk.lead {k p : Rat} {f : Int} {N : Nat} (h : ShOk k p f N) : lead k p N f = true := by
  obtain ⟨r, e⟩ := h.hd
  have m : f ∈ pickL k p N := by rw [e]; exact List.mem_cons_self
  exact (List.mem_filter.mp (pick_mem m)).2
theorem ShOk.no {k p : Rat} {f : Int} {N M : Nat} {a c : Int} (h : ShOk k p f N) (hp : 0 < p) (hk : k = p * (c : Rat)) (hM : M < N) : DL.lead k p M a = false := by
  cases e : DL.lead k p M a with
  | false => rfl
  | true => exact absurd (h.least M hM) (good_of_any hp hk e)
def papD (k : Rat) : Nat → Dt
  | 0 => .non
  | N + 1 => .tup [.int (flr (k * tenZ N)), .int (flr (k * tenZ N) + 1)]
end DL
namespace DL
open PySem PySem.Spec PyProof.Rows L2
section
variable {Z : Dx} {a b c : Expr} {ta tb tc : DTE} {pos : Pos}
def dChain (rd rd' : DR2) (ta tb tc : DTE) : DTE := fun r w Q => ta r w fun x w1 => tb r w1 fun y w2 => rd x y w2 fun z w3 => match z with
  | .bl k => br k (tc r w3 fun v w4 => rd' y v w4 Q) (Q (.bl false) w3)
  | _ => False
end
def areNext (k : Rat) (M : Nat) : Dt → Bool
  | .tup [.int l, .int h] => decide (h = l + 1) && (decide ((l : Rat) < k * tenZ M) && decide (k * tenZ M < (h : Rat)))
  | _ => false
def anyBack (k p : Rat) (M : Nat) : Dt → Bool
  | .tup [.int l, .int h] => lead k p M l || lead k p M h
  | _ => false
def mostP (p : Rat) : Int := if 1 - pw10 p > 0 then 1 - pw10 p else 0
theorem mostP_fine {p : Rat} (hp : 0 < p) : 2 * tenZ (-(mostP p)) ≤ p := by
  have h0 : p ≠ 0 := Rat.ne_of_gt hp
  obtain ⟨h1, _⟩ := pw10_bounds h0
  have e : p.abs = p := if_pos (Rat.le_of_lt hp)
  rw [e] at h1
  have h2 : tenZ (-(mostP p)) ≤ tenZ (pw10 p - 1) := tenZ_mono (by unfold mostP; split <;> omega)
  have h3 := tenZ_succ (pw10 p - 1)
  rw [Int.sub_add_cancel] at h3
  have := tenZ_pos (pw10 p - 1)
  grind
theorem ShOk.most {k p : Rat} {f : Int} {N : Nat} {c : Int} (h : ShOk k p f N) (hp : 0 < p) (hk : k = p * (c : Rat)) : (N : Int) ≤ mostP p := by
  refine Classical.byContradiction fun z => ?_
  have m0 : 0 ≤ mostP p := by unfold mostP; split <;> omega
  have hm : ((mostP p).toNat : Int) = mostP p := by omega
  exact good_fine (N := (mostP p).toNat) hp hk (by rw [hm]; exact mostP_fine hp) (h.least (mostP p).toNat (by omega))
theorem ShOk.next {k p : Rat} {f : Int} {N : Nat} {c : Int} (h : ShOk k p f (N + 1)) (hp : 0 < p) (hk : k = p * (c : Rat)) : areNext k N (papD k (N + 1)) = true ∧ anyBack k p N (papD k (N + 1)) = false := by
  have h1 := flr_le (k * tenZ N)
  have h2 := lt_flr (k * tenZ N)
  have no : ∀ a, DL.lead k p N a = false := fun a => h.no hp hk (Nat.lt_succ_self N)
  refine ⟨?_, by show (DL.lead k p N _ || DL.lead k p N _) = false; rw [no, no]; rfl⟩
  show (decide _ && (decide _ && decide _)) = true
  rw [decide_eq_true rfl, Bool.true_and, decide_eq_true h2, Bool.and_true]
  refine decide_eq_true (Rat.lt_of_le_of_ne h1 fun e => ?_)
  have l : DL.lead k p N (flr (k * tenZ N)) = true := by
    rw [lead_iff hp hk, off_abs, e]
    have : (k * tenZ N - k * tenZ N).abs = 0 := by rw [Rat.sub_self]; decide +kernel
    rw [this, Rat.mul_zero, Rat.mul_zero]
    exact .inl hp
  rw [no] at l
  cases l
theorem lead_neg {k p : Rat} {N : Nat} {a c : Int} (hp : 0 < p) (hk : k = p * (c : Rat)) (h : DL.lead k p N a = true) : DL.lead (-k) p N (-a) = true := by
  have hk' : -k = p * ((-c : Int) : Rat) := by rw [hk, Rat.intCast_neg, Rat.mul_neg]
  rw [lead_iff hp hk] at h
  rw [lead_iff hp hk']
  have e : (tenZ (-(N : Int)) * ((-a : Int) : Rat) - -k).abs = (tenZ (-(N : Int)) * (a : Rat) - k).abs := by
    rw [Rat.intCast_neg, Rat.mul_neg]
    have : -(tenZ (-(N : Int)) * (a : Rat)) - -k = -(tenZ (-(N : Int)) * (a : Rat) - k) := by grind
    rw [this]
    unfold Rat.abs
    split <;> split <;> grind
  rw [e]
  rcases h with h | ⟨h, h2⟩
  · exact .inl h
  · exact .inr ⟨h, by omega⟩
theorem ShOk.same {k p : Rat} {f f' : Int} {N N' : Nat} {c : Int} (h : ShOk k p f N) (h' : ShOk (-k) p f' N') (hp : 0 < p) (hk : k = p * (c : Rat)) : N' = N := by
  have hk' : -k = p * ((-c : Int) : Rat) := by rw [hk, Rat.intCast_neg, Rat.mul_neg]
  have a : ¬ N < N' := fun l => by
    have := h'.no (a := -f) hp hk' l
    rw [lead_neg hp hk h.lead] at this; cases this
  have b : ¬ N' < N := fun l => by
    have := h.no (a := -f') hp hk l
    have e := lead_neg hp hk' h'.lead
    rw [Rat.neg_neg] at e
    rw [e] at this; cases this
  omega
end DL
namespace DL
open PySem PySem.Spec PyProof.Rows L2
section
variable {Z : Dx} {a b c : Expr} {ta tb : DTE} {pos : Pos}
def intsOf : List Dt → Option (List Int)
  | [] => some []
  | .int i :: ds => (intsOf ds).map fun l => i :: l
  | _ :: _ => none
end
end DL
namespace DL
open PySem PySem.Spec PyProof.Rows L2
def arL (L : Int) : List Int := [L - 1, L, L + 1, L + 2]
def gL (k p : Rat) (M : Nat) : List Int := (arL (flr (k * tenZ M))).filter (lead k p M)
end DL
namespace DL
open PySem PySem.Spec PyProof.Rows L2
theorem SzR.abs {n : Nat} {q : Rat} (h : SzR n q) : SzR n q.abs := by
  rw [abs_dI]
  exact szr_divInt (by unfold Sz; rw [Int.natAbs_natCast]; exact h.1) h.2 (Int.ne_of_gt (den_pos q))
def Wy.turn : Wy → Wy
  | .high => .low
  | .low => .high
  | y => y
end DL
namespace DL
open PySem PySem.Spec PyProof.Rows L2
def WkAt : Bool → Heap → Addr → Addr → Nat → Prop
  | true, h, i, l, k => h.IsTupleIter i l k
  | false, h, i, l, k => h.IsListIter i l k
def SeqA : Bool → Heap → Addr → Array Value → Prop
  | true, h, l, xs => h.IsTuple l xs
  | false, h, l, xs => h.IsList l xs
theorem WkAt.ext {u : Bool} {h h' : Heap} {a b l : Addr} {i : Nat} (x : WkAt u h a l i) (e : Heap.ExtBut b h h') (n : a ≠ b) : WkAt u h' a l i := by
  cases u
  · exact Heap.IsListIter.extBut x e n
  · exact Heap.IsTupleIter.extBut x e n
theorem WkAt.up {u : Bool} {h h' : Heap} {a l : Addr} {i : Nat} (x : WkAt u h a l i) (e : ∀ o, h.get? a = some o → h'.get? a = some o) : WkAt u h' a l i := by
  cases u
  · exact Heap.IsListIter.at x e
  · exact Heap.IsTupleIter.at x e
theorem WkAt.lt {u : Bool} {h : Heap} {a l : Addr} {i : Nat} (x : WkAt u h a l i) : a < h.objs.size := by
  cases u
  · obtain ⟨_, e, _⟩ := (show h.IsListIter a l i from x); exact Heap.lt_size e
  · obtain ⟨_, e, _⟩ := (show h.IsTupleIter a l i from x); exact Heap.lt_size e
theorem WkAt.ob {u : Bool} {h : Heap} {a l : Addr} {i : Nat} (x : WkAt u h a l i) : ∃ o, h.get? a = some o ∧ ∀ v, o.data ≠ .cell v := by
  cases u
  · obtain ⟨o, e, _, d⟩ := (show h.IsListIter a l i from x); exact ⟨o, e, fun v q => by rw [d] at q; cases q⟩
  · obtain ⟨o, e, _, d⟩ := (show h.IsTupleIter a l i from x); exact ⟨o, e, fun v q => by rw [d] at q; cases q⟩
theorem SeqA.ext {u : Bool} {h h' : Heap} {l b : Addr} {xs : Array Value} (x : SeqA u h l xs) (e : Heap.ExtBut b h h') (n : l ≠ b) : SeqA u h' l xs := by
  cases u
  · exact Heap.IsList.extBut x e n
  · exact Heap.IsTuple.extBut x e n
def SqS : Bool → PySem.W.Frag → Hp → Addr → List V → Prop
  | true, K, H, a, xs => SqT K H a xs
  | false, K, H, a, xs => SqL K H a xs
theorem SqS.at {X : Cx} {pins : List (Addr × Obj)} {σ : L2.St} {H : Hp} {s : Shared} {u : Bool} {a : Addr} {xs : List V} (I : Inv X pins σ H s) (q : SqS u X.K H a xs) : ∃ its : List Value, Vals xs its ∧ SeqA u s.heap a its.toArray := by
  cases u
  · obtain ⟨its, r, p, _⟩ := I.list q; exact ⟨its, r, p.isList⟩
  · obtain ⟨its, r, p, _⟩ := I.tuple q; exact ⟨its, r, p⟩
theorem SqS.inj {X : Cx} {pins : List (Addr × Obj)} {σ : L2.St} {H : Hp} {s : Shared} {u : Bool} {a : Addr} {xs ys : List V} (I : Inv X pins σ H s) (p : SqS u X.K H a xs) (q : SqS u X.K H a ys) : xs = ys := by
  cases u
  · exact I.list_inj p q
  · exact I.tuple_inj p q
theorem SeqA.lt {u : Bool} {h : Heap} {l : Addr} {xs : Array Value} (x : SeqA u h l xs) : l < h.objs.size := by
  cases u
  · obtain ⟨o, e, _⟩ := (show h.IsList l xs from x); exact Heap.lt_size e
  · obtain ⟨o, e, _⟩ := (show h.IsTuple l xs from x); exact Heap.lt_size e
end DL
namespace DL
open PySem PySem.Spec PyProof.Rows L2
def seqOf (x : Dt) (w : Om) : Option (List Dt) := match x with
  | .lst xs => some xs
  | .rl xs => some xs
  | .tup xs => some xs
  | .ptr p => match w p with
    | some (.lst xs) => some xs
    | _ => none
  | _ => none
theorem seq_at {K : PySem.W.Frag} {w : Om} {H : Hp} {d : Dt} {v : V} {xs : List Dt} (ok : OmOk K w H) (r : Rp K (hm H w) d v) (h : seqOf d w = some xs) :
    ∃ (u : Bool) (a : Addr) (vs : List V), v = .ref a ∧ SqS u K H a vs ∧ RpL K (hm H w) xs vs ∧ ∀ w' H', Aft K w H w' H' → seqOf d w' = some xs → ∃ vs, SqS u K H' a vs ∧ RpL K (hm H' w') xs vs := by
  cases r with
  | lst hx rl =>
    cases h
    exact ⟨false, _, _, rfl, SqL.of (hm_some hx).2, rl, fun w' H' A _ => ⟨_, SqL.of (hm_some (A.same _ _ hx)).2, rl.mono A.same⟩⟩
  | rl hx rl =>
    cases h
    exact ⟨false, _, _, rfl, up_l hx, rl, fun w' H' A _ => ⟨_, up_l (A.same.seq hx), rl.mono A.same⟩⟩
  | tup hx rl =>
    cases h
    exact ⟨true, _, _, rfl, up_t hx, rl, fun w' H' A _ => ⟨_, up_t (same_t A.same hx), rl.mono A.same⟩⟩
  | @ptr a =>
    have get : ∀ {w' : Om}, seqOf (.ptr a) w' = some xs → w' a = some (.lst xs) := fun {w'} h => by
      have h' : (match w' a with
        | some (.lst xs) => some xs
        | _ => none) = some xs := h
      cases e : w' a with
      | none => rw [e] at h'; cases h'
      | some m =>
        rw [e] at h'
        cases m with
        | lst ys => cases h'; rfl
        | _ => cases h'
    obtain ⟨vs, h1, rl⟩ := ok.lst (get h)
    exact ⟨false, _, _, rfl, SqL.of h1, rl, fun w' H' A h' => by
      obtain ⟨vs', h2, rl'⟩ := A.om.lst (get h')
      exact ⟨vs', SqL.of h2, rl'⟩⟩
  | _ => exact nomatch (show (none : Option (List Dt)) = some xs from h)
def zipD (xs ys : List Dt) : List Dt := List.zipWith (fun x y => .tup [x, y]) xs ys
section
variable {Z : Dx} {e e2 tg : Expr} {ta : DTA} {p pos tp : Pos} {elts : List Expr} {n : Nat}
def dZip (ta : DTA) : DTI := fun r w R => ta r w fun ds w1 => match ds with
  | [x, y] => ∃ xs ys, seqOf x w1 = some xs ∧ seqOf y w1 = some ys ∧ xs.length = ys.length ∧ R (zipD xs ys) (fun w => seqOf x w = some xs ∧ seqOf y w = some ys) w1
  | _ => False
end
end DL
namespace DL
open PySem PySem.Spec PyProof.Rows L2
section
variable {Z : Dx} {k : Nat} {e e2 tg o : Expr} {es : List Expr} {te : DTE} {ta : DTA} {p pos tp : Pos} {elts : List Expr} {n : Nat}
def enuD (xs : List Dt) : List Dt := (List.range xs.length).zipWith (fun (i : Nat) x => .tup [.int i, x]) xs
def dEnum (ta : DTA) : DTI := fun r w R => ta r w fun ds w1 => match ds with
  | [x] => ∃ xs, lstOf x w1 = some xs ∧ R (enuD xs) (fun w => lstOf x w = some xs) w1
  | _ => False
def sumR : DFr := fun ds w Q => match ds with
  | [x] => ∃ xs ns, seqOf x w = some xs ∧ intsOf xs = some ns ∧ Q (.int ns.sum) w
  | _ => False
def dFrz (te : DTE) : DTE := fun r w Q => te r w fun x w1 => match x with
  | .ptr q => ∃ xs, w1 q = some (.lst xs) ∧ Q (.lst xs) (cut w1 q)
  | _ => False
end
end DL
namespace DL
open PySem PySem.Spec PyProof.Rows L2
structure NeI (K : PySem.W.Frag) : Prop where
  ne : PySem.W.findIn K (.ref (cN K)) "__ne__" = some (some (.builtin "object.__ne__"))
  ob : PySem.W.mroIn K (cN K) (.type "object") = some true
theorem ne_of {K : PySem.W.Frag} (h : neB K = true) : NeI K := by
  obtain ⟨h1, h2⟩ := He.ba h
  exact ⟨He.eqO_ok h1, by simpa using h2⟩
section
variable {prog : Program} {w : World} {A : Around} {E : Value → Shared → Prop} {s : Shared} {K : PySem.W.Frag} {x C L f : Addr} {h₀ : Heap} {m : Str → Option Value} {ox : Obj} {od : Option Obj} {b tb : Value}
def NeBack (Q : Value → Shared → Prop) (v : Value) (s' : Shared) : Prop := match v with
  | .bool c => Q (.bool (!c)) s'
  | _ => False
theorem cmp_ne {Q : Value → Shared → Prop} (hu : A.units + 1 < cLine) (G : Fr h₀ L s.heap m) (X₀ : K.In h₀) (I : PySem.W.InstAt s.heap x ox C od) (hb : PySem.W.Looks (model prog w) s.heap (typeOf b) tb) (hn : PySem.W.notFirst K C tb = true)
    (hs : PySem.W.findIn K (.ref C) "__ne__" = some (some (.builtin "object.__ne__"))) (ho : PySem.W.mroIn K C (.type "object") = some true) (he : PySem.W.findIn K (.ref C) "__eq__" = some (some (.ref f))) (hf : PySem.W.isFn K (.ref f) = true)
    (h : wpAny (model prog w) A.in1 (call (.ref f) [.ref x, b]) (NeBack Q) E s) : wpAny (model prog w) A (richCompare .NotEq (.ref x) b) Q E s := by
  have X := X₀.keeps G.keep
  have inner : wpAny (model prog w) A.in1 (Builtin.«object.__ne__» ⟨[.ref x, b], []⟩) (fun r s' => ∃ v, r = .done (.ret v) ∧ v ≠ .notImplemented ∧ Q v s') E s := by
    unfold Builtin.«object.__ne__»
    repeat (first | with_reducible refine wpAny_cRoomFor hu ?_ | with_reducible refine PySem.W.ifBound_K X I he hf (wpAny_mono h (fun v s' q => ?_) fun _ _ e => e) | wp_step)
    cases v <;> first | exact q.elim | skip
    rename_i c
    exact wpAny_bind (wpAny_truthy_bool (wpAny_pure ⟨_, rfl, (fun z => nomatch z), q⟩))
  have called : wpAny (model prog w) A (call (.builtin "object.__ne__") [.ref x, b]) (fun v s' => v ≠ .notImplemented ∧ Q v s') E s :=
    wpAny_call (codeAny_call_builtin F.cmp_object.ne.plain F.cmpEntry_ne (PySem.W.check_slot F.cmpKind_ne F.cmpSplit_ne (I.type.andThen (PySem.W.looks_mroIn X ho)) (F.cmpArgs_ne _ _) (wpAny_mono inner (fun r s' ⟨v, e, q⟩ => by subst e; exact q) fun _ _ e => e)))
  have spec : wpAny (model prog w) A (callSpecialIfBound? (.ref x) "__ne__" [b]) (fun r s' => ∃ v, r = some v ∧ v ≠ .notImplemented ∧ Q v s') E s := by
    simp only [callSpecialIfBound?, bindSpecialIfBound?]
    refine wpAny_holding (wpAny_bind (wpAny_bind (wpAny_bind (I.type.here ((PySem.W.looks_findIn X hs).here ?_)))))
    refine wpAny_bind (wpAny_askSetting (wpAny_ite ?_))
    have fin : wpAny (model prog w) A (call (.builtin "object.__ne__") ([.ref x] ++ [b]) >>= fun v => pure (some v)) (fun r s' => ∃ v, r = some v ∧ v ≠ .notImplemented ∧ Q v s') E s :=
      wpAny_bind (wpAny_mono called (fun v s' q => wpAny_pure ⟨v, rfl, q⟩) fun _ _ e => e)
    split
    · exact wpAny_bind (wpAny_of_eq (F.cmp_object.ne.bind _) (wpAny_pure (by exact fin)))
    · exact wpAny_tryCatch (wpAny_bind (wpAny_of_eq (F.cmp_object.ne.bind _) (wpAny_pure (by exact fin))))
  have one : wpAny (model prog w) A (tryCompare (.ref x) "__ne__" b) (fun r s' => ∃ v, r = some v ∧ Q v s') E s := by
    unfold tryCompare
    refine wpAny_bind (wpAny_mono spec (fun r s' z => ?_) fun _ _ e => e)
    obtain ⟨v, rfl, n, q⟩ := z
    cases v <;> first | exact absurd rfl n | exact wpAny_pure ⟨_, rfl, q⟩
  unfold richCompare
  simp only [oneThing_ref]
  refine wpAny_holding (wpAny_bind (wpAny_cRoomFor (by omega) (wpAny_bind (I.type.here (wpAny_bind (hb.here ?_))))))
  have last : ∀ {R : Option Value → Sem Value}, (∀ v, R (some v) = pure v) → wpAny (model prog w) A (tryCompare (.ref x) "__ne__" b >>= R) Q E s := fun hR => wpAny_bind (wpAny_mono one (fun r s' ⟨v, e, q⟩ => by subst e; rw [hR]; exact wpAny_pure q) fun _ _ e => e)
  split
  · rename_i q
    have e : PySem.W.subIn K tb (.ref C) = some false := by
      rcases Bool.or_eq_true_iff.mp hn with e | e
      · rw [beq_iff_eq.mp e] at q; simp at q
      · exact beq_iff_eq.mp e
    refine wpAny_bind ((PySem.W.looks_subIn X e).here ?_)
    simp only [Bool.false_eq_true, if_false]
    exact last fun v => rfl
  · refine wpAny_bind (wpAny_pure ?_)
    simp only [Bool.false_eq_true, if_false]
    exact last fun v => rfl
end
section
variable {Z : Dx} {k j : Nat} {sp : DSp}
def neN : DR2 := fun x y w Q => match x, y with
  | .num q, .num p => Q (.bl (!decide (q = p))) w
  | _, _ => False
theorem o_neN (b : Bd Z k) (c : CalM Z.X.prog Z.X.w Z.X.K Z.X.mg Z.X.base (cN Z.X.K) "__eq__" j [] sp) (hs : EqSp sp) (N : NeI Z.X.K) (hj : j + 1 ≤ k := by decide) : DOp Z (compareOp .NotEq) neN := by
  obtain ⟨f, fd, ps, dvs, ds, hc, hm, F, hb, hd, hr⟩ := c.ex
  obtain rfl := rpl_nil (hr (fun _ => none))
  obtain rfl := vals_nil rfl hd
  refine ⟨fun x y H Q => ∃ a dx fs b dy gs, x = .ref a ∧ y = .ref b ∧ H a = some (.ins (cN Z.X.K) dx fs) ∧ H b = some (.ins (cN Z.X.K) dy gs) ∧ lift Z.X.K sp [x, y] H (fun v H' => ∃ c, v = .bl c ∧ Q (.bl (!c)) H') (fun _ _ _ => False), fun pins s σ H x y v u Q I rx ry h => ?_, fun dx dy x y w H Q QL ok rx ry h kk => ?_⟩
  · obtain ⟨a, dx, fs, a2, dy, gs, rfl, rfl, ha, hb', hsp⟩ := h
    cases rx
    cases ry
    obtain ⟨mA, J, _⟩ := ins_get I.hok ha
    obtain ⟨mB, J', _⟩ := ins_get I.hok hb'
    obtain ⟨od, J, _⟩ := J.look
    obtain ⟨od', J', _⟩ := J'.look
    obtain ⟨m, hF⟩ := I.fr
    have r1 : Rm j Z.X.A.in1 := (b.room.mono hj).in1
    refine cmp_ne (tb := .ref (cN Z.X.K)) (by have := b.room.room.units; omega) hF I.ok.mod.kin J J'.type (by simp [PySem.W.notFirst]) N.ne N.ob hm.at_ hm.fn ?_
    have hl := F.len _ _ _ _ hsp
    have e0 : Env0 Z.X.prog Z.X.w Z.X.K Z.X.mg Z.X.base Z.X.A.in1 Z.X.stack s H := by
      have e := I.env0
      exact ⟨e.frames, e.mod, e.bs, e.bsz, e.funs, e.frf, e.hok, e.bare⟩
    refine wpAny_call (codeAny_mono (F.run Z.X.A.in1 Z.X.stack s H ⟨[.ref a, .ref a2], []⟩ [.ref a, .ref a2] [.ref a, .ref a2] _ _ r1 e0 (by
      have := hb s [.ref a, .ref a2] I.kIn (by simpa using hl)
      simpa using this) (.cons rfl (.cons rfl .nil)) hsp) fun r s' hq => ?_)
    match r, hq with
    | .error e, hq => exact (no_esc hq).elim
    | .ok (.ret u), hq =>
      obtain ⟨z, H', I', rz, ⟨c, ez, ex⟩⟩ := I.after hq
      subst ez
      cases rz
      exact ⟨.bl (!c), H', I', rfl, ex⟩
  · cases rx with
    | num hx => cases ry with
      | num hy =>
        refine ⟨_, _, _, _, _, _, rfl, rfl, (hm_some hx).2, (hm_some hy).2, ⟨_, w, fun d w2 => ∃ c, d = .bl c ∧ Q (.bl (!c)) w2, fun _ _ _ => False, .cons (.num hx) (.cons (.num hy) .nil), ok, hs _ _ _ _ _ ⟨_, rfl, h⟩, fun v d H' w' A rv q => ?_, fun _ _ _ _ _ _ _ _ _ z => z.elim⟩⟩
        obtain ⟨c, rfl, q⟩ := q
        cases rv
        exact ⟨c, rfl, kk _ _ _ _ A .bl q⟩
      | _ => exact (show False from h).elim
    | _ => exact (show False from h).elim
end
end DL
namespace DL
open PySem PySem.Spec PyProof.Rows L2
def fgo (be : Nat → Rat) : Nat → List Nat → Nat
  | b, [] => b
  | b, x :: l => fgo be (if be b < be x then x else b) l
def fg (be : Nat → Rat) : List Nat → Nat
  | [] => 0
  | b :: l => fgo be b l
def thr (be : Nat → Rat) (r : List Nat) : Rat := match r.getLast? with
  | some b => be b
  | none => 1
structure StOk (be : Nat → Rat) (n k : Nat) (l r : List Nat) : Prop where
  perm : (l ++ r).Perm (List.range n)
  len : r.length = k
  big : ∀ a ∈ r, ∀ b ∈ l, be b ≤ be a
  low : ∀ a ∈ r, thr be r ≤ be a
theorem StOk.lt {be : Nat → Rat} {n k : Nat} {l r : List Nat} (h : StOk be n k l r) {i : Nat} (hi : i ∈ l ∨ i ∈ r) : i < n :=
  List.mem_range.mp (h.perm.mem_iff.mp (List.mem_append.mpr hi))
end DL
namespace DL
open PySem PySem.Spec PyProof.Rows L2
def PtQ (q : Rat) : Prop := q.num.natAbs < 2 ^ 101 ∧ q.den < 2 ^ 41
def PtsOk (qs : List Rat) : Prop := qs.length ≤ 21 ∧ ∀ q ∈ qs, PtQ q
theorem PtsOk.take {qs : List Rat} (h : PtsOk qs) (i : Nat) : PtsOk (qs.take i) := ⟨by rw [List.length_take]; have := h.1; omega, fun q hq => h.2 q (List.mem_of_mem_take hq)⟩
def StQ (p : Rat) : Prop := 0 < p ∧ SzR 90 p
def Grow (w w' : Om) : Prop := ∀ x m, w x = some m → w' x = some m
theorem Grow.refl {w : Om} : Grow w w := fun _ _ h => h
theorem Grow.trans {w w1 w2 : Om} (a : Grow w w1) (b : Grow w1 w2) : Grow w w2 := fun x m h => b x m (a x m h)
theorem Grow.new {w w' : Om} {p : Addr} {m : MO} (g : Grow w w') (h : w' p = none) : Grow w (put w' p m) := fun x n hx => by
  have h2 := g x n hx
  rw [put_ne (om_ne h2 h)]; exact h2
end DL
namespace DL
open PySem PySem.Spec PyProof.Rows L2
abbrev I2 := Int × Int
def GI (g : I2) : Prop := 0 < g.1 ∧ 0 < g.2 ∧ Sz 41 g.1 ∧ Sz 41 g.2
def qO (t : I2) : Rat := Rat.divInt t.1 t.2
theorem GI.st {g : I2} (h : GI g) : StQ (qO g) := ⟨divInt_pos h.1 h.2.1, (szr_divInt h.2.2.1 h.2.2.2 (Int.ne_of_gt h.2.1)).mono (by decide)⟩
end DL
namespace DL
open PySem PySem.Spec PyProof.Rows L2
section
variable {Z : Dx} {e : Expr} {te : DTE} {pos : Pos}
def dRevT (te : DTE) : DTE := fun r w Q => te r w fun x w1 => match x with
  | .tup xs => Q (.tup xs.reverse) w1
  | _ => False
end
end DL
namespace DL
open PySem PySem.Spec PyProof.Rows L2
theorem iota_nat {N i : Nat} {d : Dt} (h : (iota 0 N)[i]? = some d) : i < N ∧ d = .int (i : Nat) := by
  have hi : i < N := by have := (List.getElem?_eq_some_iff.mp h).1; rw [iota_len] at this; exact this
  rw [iota_get hi] at h
  refine ⟨hi, ?_⟩
  rw [← Option.some.inj h, Int.zero_add]
end DL
namespace DL
open PySem PySem.Spec PyProof.Rows L2
section
variable {Z : Dx}
theorem rep_rpl {K : PySem.W.Frag} {H : Hp} {ds : List Dt} {vs : List V} (h : RpL K H ds vs) : ∀ k : Nat, RpL K H (List.replicate k ds).flatten (List.replicate k vs).flatten
  | 0 => .nil
  | k + 1 => by
    rw [List.replicate_succ, List.replicate_succ, List.flatten_cons, List.flatten_cons]
    exact h.append (rep_rpl h k)
def mulLR : DR2 := fun x y w Q => match x, y with
  | .lst xs, .int n => (0 ≤ n ∧ n ≤ 1000) ∧ xs.length * n.toNat ≤ sizeLine ∧ Q (.lst (List.replicate n.toNat xs).flatten) w
  | _, _ => False
theorem o_mulL : DOp Z (binaryOp .Mult) mulLR := by
  refine ⟨_, op_rep, fun dx dy x y w H Q QL ok rx ry h k => ?_⟩
  cases rx with
  | lst hx r => cases ry with
    | int =>
      obtain ⟨_, hx'⟩ := hm_some hx
      refine ⟨_, _, _, rfl, rfl, hx', by have := h.1; omega, by have := h.1; omega, by rw [← r.length]; exact h.2.1, fun p hp => ?_⟩
      obtain ⟨A, R⟩ := newL ok hp (rep_rpl r _)
      exact k _ _ _ w A R h.2.2
    | _ => exact (show False from h).elim
  | _ => exact (show False from h).elim
end
end DL
namespace SrtO
open PySem PySem.Spec PyProof.Rows
section
variable {prog : Program} {w : World} {A : Around} {E : Value → Shared → Prop} {s : Shared}
def IsSI (h : Heap) (v : Value) (x : PySem.Str) (y : Int) : Prop := ∃ a o t u n, v = .ref a ∧ h.get? a = some o ∧ o.cls = .type "tuple" ∧ o.data = .seq #[.str x t, .int y u] n
theorem IsSI.keeps {h h' : Heap} {v : Value} {x : PySem.Str} {y : Int} (p : IsSI h v x y) (k : ∀ b o, h.get? b = some o → o.cls = .type "tuple" → h'.get? b = some o) : IsSI h' v x y := by
  obtain ⟨a, o, t, u, n, e, ho, hc, hd⟩ := p
  exact ⟨a, o, t, u, n, e, k _ _ ho hc, hc, hd⟩
def sLt (x y : PySem.Str) : Prop := x.cps.toList < y.cps.toList
instance : DecidableRel sLt := fun x y => inferInstanceAs (Decidable (x.cps.toList < y.cps.toList))
end
end SrtO
namespace DL
open PySem PySem.Spec PyProof.Rows L2
def strN (q : Rat) : PySem.Str := if q.den = 1 then toString q.num else Str.empty ++ toString q.num ++ ("/" : PySem.Str) ++ toString (q.den : Int)
def StrSp (sp : DSp) : Prop := ∀ q w (Q : DK) E, SzR 1920 q → Q (.str (strN q)) w → sp [.num q] w Q E
def sp_strn : DSp := fun ds w Q _ => ∃ q : Rat, ds = [.num q] ∧ SzR 1920 q ∧ Q (.str (strN q)) w
theorem strSp : StrSp sp_strn := fun q w Q E s h => ⟨q, rfl, s, h⟩
section
variable {Z : Dx} {k j : Nat} {sp : DSp}
theorem call_strO {f : Addr} {fd : FuncData} {ps : List PySem.Str} (hs : StrSp sp) (F : FnG Z.X.prog Z.X.w Z.X.K Z.X.mg Z.X.base j f fd ps (lift Z.X.K sp)) (hb : Binds Z.X.K fd ps []) {A : Around} (fr : A.frames = Z.X.A.frames) (hr : Rm j A)
    {pins : List (Addr × Obj)} {σ : L2.St} {H : Hp} {s : Shared} {w : Om} {q : Rat} {a : Addr} (I : Inv Z.X pins σ H s) (om : OmOk Z.X.K w H) (ra : Rp Z.X.K (hm H w) (.num q) (.ref a)) (sq : SzR 1920 q) {Q : Value → Shared → Prop}
    (h : ∀ u s' H', Inv Z.X pins σ H' s' → Aft Z.X.K w H w H' → Q (.str (strN q) u) s') : wpAny (model Z.X.prog Z.X.w) A (call (.ref f) [.ref a]) Q Z.X.xe s := by
  have hsp : lift Z.X.K sp [.ref a] H (fun v H' => v = .str (strN q) ∧ Aft Z.X.K w H w H') (fun _ _ _ => False) :=
    ⟨[.num q], w, fun d w2 => d = .str (strN q) ∧ w2 = w, fun _ _ _ => False, .cons ra .nil, om, hs _ _ _ _ sq ⟨rfl, rfl⟩, fun v d H' w' A' rv ⟨e1, e2⟩ => by
      subst e1 e2
      cases rv
      exact ⟨rfl, A'⟩, fun _ _ _ _ _ _ _ _ _ z => z.elim⟩
  have hl := F.len _ _ _ _ hsp
  have e0 : Env0 Z.X.prog Z.X.w Z.X.K Z.X.mg Z.X.base A Z.X.stack s H := by
    have e := I.env0
    exact ⟨by rw [fr]; exact e.frames, e.mod, e.bs, e.bsz, e.funs, e.frf, e.hok, e.bare⟩
  refine wpAny_call (codeAny_mono (F.run A Z.X.stack s H ⟨[.ref a], []⟩ [.ref a] [.ref a] _ _ hr e0 (by
    have := hb s [.ref a] I.kIn (by simpa using hl)
    simpa using this) (.cons rfl .nil) hsp) fun r s' hq => ?_)
  match r, hq with
  | .error e, hq => exact (no_esc hq).elim
  | .ok (.ret u), hq =>
    obtain ⟨z, H', I', rz, ez, A'⟩ := I.after hq
    subst ez
    obtain ⟨t, rfl⟩ := rz
    exact h t s' H' I' A'
def strNR : DFr := on1 fun x w Q => match x with
  | .num q => SzR 1920 q ∧ Q (.str (strN q)) w
  | _ => False
theorem f_strN (b : Bd Z k) (c : CalM Z.X.prog Z.X.w Z.X.K Z.X.mg Z.X.base (cN Z.X.K) "__str__" j [] sp) (hs : StrSp sp) (hj : j + 2 ≤ k := by decide) (hj2 : j < 100 := by decide) : DFn Z (.type "str") strNR := by
  obtain ⟨f, fd, ps, dvs, ds0, hc, hmm, F, hb, hd, hr0⟩ := c.ex
  obtain rfl := rpl_nil (hr0 (fun _ => none))
  obtain rfl := vals_nil rfl hd
  refine ⟨fun vs H Q => ∃ (d : Dt) (v : V) (w : Om) (Qd : DK), vs = [v] ∧ Rp Z.X.K (hm H w) d v ∧ OmOk Z.X.K w H ∧ strNR [d] w Qd ∧ ∀ v d H' w', Aft Z.X.K w H w' H' → Rp Z.X.K (hm H' w') d v → Qd d w' → Q v H', fun pins s σ H xs us Q I r h => ?_, fun ds vs w H Q QL ok rl h kk => ?_⟩
  · obtain ⟨d, v, w, Qd, rfl, rd, om, hq, kk⟩ := h
    obtain ⟨u, rfl, ru⟩ := vals1 r
    cases rd with
    | @num a dx q hn =>
      cases ru
      obtain ⟨mA, J, _⟩ := ins_get I.hok (hm_some hn).2
      obtain ⟨od, J, _⟩ := J.look
      have r0 : Room k Z.X.A := b.room.room
      have r1 : Room (k - 1) Z.X.A.in1 := Room.in1 (by
        have : k - 1 + 1 = k := by omega
        rw [this]; exact r0)
      have r2 : Room (k - 2) Z.X.A.in1.in1 := Room.in1 (by
        have : k - 2 + 1 = k - 1 := by omega
        rw [this]; exact r1)
      have rA : Rm j Z.X.A.in1.in1 := ⟨Room.mono r2 (by omega), fun z => absurd z (by omega)⟩
      refine PySem.W.kso_call rA.room.units0 I.kIn J hmm.at_ hmm.fn ?_
      exact call_strO (A := Z.X.A.in1.in1) hs F hb rfl rA I om (.num hn) hq.1 fun t s' H' I' A' => ⟨.str (strN q), H', I', ⟨t, rfl⟩, kk _ _ H' w A' .str hq.2⟩
    | _ => exact (show False from hq).elim
  · have hq := h
    unfold strNR at h
    obtain ⟨d, v, rfl, rfl, rd, h⟩ := rl1 rl h
    exact ⟨d, v, w, Q, rfl, rd, ok, hq, kk⟩
end
end DL
namespace DL
open PySem PySem.Spec PyProof.Rows L2
def strsD (ys : List Str) : List Dt := ys.map Dt.str
section
variable {Z : Dx}
def splitR : DSr := s1R fun y z w Q => (z.length == 0) = false ∧ y.length + 2 ≤ sizeLine ∧ Q (.lst (strsD (Txt.split y z))) w
def endsR : DSr := s1R fun y z w Q => Q (.bl (Txt.endswith y z)) w
def strsOf : List Dt → Option (List Str)
  | [] => some []
  | .str x :: ds => (strsOf ds).map fun l => x :: l
  | _ :: _ => none
def joinR : DSr := fun y ds w Q => match ds with
  | [x] => ∃ xs ys, seqOf x w = some xs ∧ strsOf xs = some ys ∧ (ys.map (·.length)).sum + ys.length * y.length ≤ 16777216 ∧ Q (.str (Txt.join y ys)) w
  | _ => False
def chD (x : Str) : List Dt := x.cps.toList.map fun c => .str ⟨#[c]⟩
def dItS (te : DTE) : DTI := fun r w R => te r w fun x w1 => match x with
  | .str z => R (chD z) (fun _ => True) w1
  | _ => False
def inCR (neg : Bool) : DR2 := fun x y w Q => match x, y with
  | .str a, .str z => ∃ c, a = ⟨#[c]⟩ ∧ Q (.bl (if neg then !decide (c ∈ z.cps.toList) else decide (c ∈ z.cps.toList))) w
  | _, _ => False
end
end DL
namespace DL
open PySem PySem.Spec PyProof.Rows L2 TL
def tlI (n : Int) : List Nat := if n < 0 then 45 :: numL n.natAbs else numL n.natAbs
theorem tl_int (n : Int) : tl (toString n : Str) = tlI n := by
  unfold tlI
  cases n with
  | ofNat m =>
    rw [if_neg (by show ¬ ((m : Int) < 0); omega)]
    exact tl_num m
  | negSucc m =>
    rw [if_pos (Int.negSucc_lt_zero m)]
    show tl (Str.ofString (toString (Int.negSucc m))) = 45 :: numL (m + 1)
    have e : toString (Int.negSucc m) = "-" ++ toString ((m + 1 : Nat) : Int) := rfl
    rw [e, tl_ofString, String.toList_append, List.map_append]
    have e2 := tl_num (m + 1)
    rw [tl_ofString] at e2
    rw [e2]; rfl
theorem tl_lit (s : String) : tl (Str.ofString s) = s.toList.map Char.toNat := tl_ofString s
theorem tl_slash : tl ("/" : Str) = [47] := by rw [tl_lit]; rfl
theorem tl_empty : tl Str.empty = [] := rfl
theorem tl_strN (q : Rat) : tl (strN q) = if q.den = 1 then tlI q.num else tlI q.num ++ 47 :: numL q.den := by
  unfold strN
  split
  · exact tl_int _
  · rw [tl_append, tl_append, tl_append, tl_empty, List.nil_append, tl_int, tl_slash, tl_int, List.append_assoc]
    have e : tlI ((q.den : Nat) : Int) = numL q.den := by
      unfold tlI
      rw [if_neg (by omega)]; rfl
    rw [e]; rfl
end DL
namespace PySem
namespace EXG
open PySem.W PySem.Calls PyProof.Rows PySem.HandSPX Builtin Builtin.ObjectAttr
structure Bas (B newId initId : String) (tl : List Value) : Prop where
  base : ExcBaseFacts B newId initId tl
  pass : ∀ self : Value, refuseLoop self "__setattr__" tl = pure ()
  obj : tl.contains (.type "object") = true
  ne : tl ≠ []
def own (tl : List Value) : List Value → Bool
  | .ref _ :: r => own tl r
  | l => l == tl
section
variable {B newId initId : String} {tl : List Value}
theorem own_cases {l : List Value} (e : own tl l = true) : (∃ c r, l = .ref c :: r ∧ own tl r = true) ∨ l = tl := by
  unfold own at e
  split at e
  · exact .inl ⟨_, _, rfl, e⟩
  · exact .inr (beq_iff_eq.mp e)
theorem own_ne (F : Bas B newId initId tl) {l : List Value} (e : own tl l = true) : l.isEmpty = false := by
  rcases own_cases e with ⟨c, r, rfl, _⟩ | rfl
  · rfl
  · cases l with
    | nil => exact absurd rfl F.ne
    | cons _ _ => rfl
end
end EXG
end PySem
namespace L2
open PySem PySem.Spec PyProof.Rows
structure OexG (K : PySem.W.Frag) (C : Addr) (newId : String) (tl : List Value) : Prop where
  cls : ∃ nm q N bs bm sn sub ab col dd k0 k1 k2 k3 k5, K.lookup C = some (excClassObj nm q C N bs bm true sn sub ab col dd k0 k1 k2 k3 k5 newId) ∧ EXG.own tl bm = true
  sa : PySem.W.findIn K (.ref C) "__setattr__" = some (some (.builtin "object.__setattr__"))
  exC : PySem.W.subIn K (.ref C) (.type "BaseException") = some true
  tyC : PySem.W.typeIn K (.ref C) = some (.type "type")
  kC : PySem.W.keepIn K (.ref C) = true
theorem OexG.cd {K : PySem.W.Frag} {C : Addr} {newId : String} {tl : List Value} (T : OexG K C newId tl) : ∃ cd, PySem.W.clsIn K C = some cd ∧ EXG.own tl cd.mro = true ∧ cd.hasDict = true := by
  obtain ⟨nm, q, N, bs, bm, sn, sub, ab, col, dd, k0, k1, k2, k3, k5, h1, h2⟩ := T.cls
  refine ⟨{ name := nm, bases := bs, mro := .ref C :: bm, ns := N, qualname := q, hasDict := true, slotNames := sn, subclasses := sub, abstract := ab, collection := col, hasDel := false }, ?_, h2, rfl⟩
  unfold PySem.W.clsIn
  rw [h1] <;> rfl
end L2
namespace DL
open PySem PySem.Spec PyProof.Rows L2
def spX (K : PySem.W.Frag) (newId : String) (tl : List Value) (n : Nat) (flds : List V → List (Str × V)) : Sp := fun vs H Q _ => ∃ (a C : Addr) (ys : List V), vs = .ref a :: ys ∧ ys.length = n ∧ OexG K C newId tl ∧ H a = some (exo a C none) ∧ (∀ f ∈ (flds ys).map (·.1), PySem.W.findIn K (.ref C) f = some none) ∧
  ∀ dx H', H dx = none → dx ≠ a → (∀ b, b ≠ a → b ≠ dx → H' b = H b) → H' a = some (exo a C (some dx)) → H' dx = some (exd dx (flds ys)) → Q .non H'
structure XCls (P : Program) (w : World) (K : PySem.W.Frag) (mg : Str → Option Value) (base : Heap) (x : Str) (k n : Nat) (flds : List V → List (Str × V)) : Prop where
  ex : ∃ (B newId initId : String) (tl : List Value) (fI : Addr) (fd : FuncData) (ps : List Str), EXG.Bas B newId initId tl ∧ OexG K (He.ga K x) newId tl ∧ PySem.W.findIn K (.ref (He.ga K x)) "__init__" = some (some (.ref fI)) ∧ PySem.W.typeIn K (.ref fI) = some (.type "function") ∧
    FnG P w K mg base k fI fd ps (spX K newId tl n flds) ∧ Binds K fd ps [] ∧ (∀ ys, ys.length = n → ∀ f ∈ (flds ys).map (·.1), PySem.W.findIn K (.ref (He.ga K x)) f = some none) ∧ mg x = some (.ref (He.ga K x))
end DL
namespace DL
open PySem PySem.Spec PyProof.Rows L2
def fldsV (fs : List Str) (ys : List V) : List (Str × V) := (fs.zip ys).reverse
def fldsD (fs : List Str) (ds : List Dt) : List (Str × Dt) := (fs.zip ds).reverse
theorem fldsV_names {fs : List Str} {ys : List V} {f : Str} (h : f ∈ (fldsV fs ys).map (·.1)) : f ∈ fs := by
  unfold fldsV at h
  obtain ⟨p, hp, rfl⟩ := List.mem_map.mp h
  exact (List.of_mem_zip (List.mem_reverse.mp hp)).1
def dRaise (Wd : DWX) (C : Addr) (fs : List Str) (ta : DTA) : DTS := fun _ r w => ta r w fun ds w1 => ds.length = fs.length ∧ Wd C (fldsD fs ds) r w1
end DL
namespace DL
open PySem PySem.Spec PyProof.Rows L2
structure XcK (K : PySem.W.Frag) (x : Str) (B newId initId : String) (tl : List Value) (fs : List Str) : Prop where
  ox : OexG K (He.ga K x) newId tl
  ini : PySem.W.findIn K (.ref (He.ga K x)) "__init__" = some (some (.ref (He.fAd K (x, some "__init__"))))
  ity : PySem.W.typeIn K (.ref (He.fAd K (x, some "__init__"))) = some (.type "function")
  no : ∀ f ∈ fs, PySem.W.findIn K (.ref (He.ga K x)) f = some none
  bi : PySem.W.findCls K (.type B) (.type "type") "__init__" = some (.val (.builtin initId))
  xf : XfC K (He.ga K x)
  xc : ExcC K (He.ga K x)
theorem XcK.cls {P : Program} {w : World} {K : PySem.W.Frag} {mg : Str → Option Value} {base : Heap} {x : Str} {k : Nat} {B newId initId : String} {tl : List Value} {fs ps : List Str} {fd : FuncData} (X : XcK K x B newId initId tl fs) (Y : EXG.Bas B newId initId tl) (hg : mg x = some (.ref (He.ga K x)))
    (F : FnG P w K mg base k (He.fAd K (x, some "__init__")) fd ps (spX K newId tl fs.length (fldsV fs))) (hb : Binds K fd ps []) : XCls P w K mg base x k fs.length (fldsV fs) :=
  ⟨B, newId, initId, tl, _, fd, ps, Y, X.ox, X.ini, X.ity, F, hb, fun ys _ f hf => X.no f (fldsV_names hf), hg⟩
end DL
namespace DL
open PySem PySem.Spec PyProof.Rows L2 TL
theorem tl_sgn {l : List Nat} {n : Nat} {b : Bool} (h : l.drop (if b = true then 1 else 0) = numL n) (hb : b = true → l.take 1 = [45]) (h0 : b = true → n ≠ 0) : l = tlI (if b = true then -(n : Int) else n) := by
  unfold tlI
  cases b with
  | true =>
    rw [if_pos rfl] at h
    have z := h0 rfl
    rw [if_pos rfl, if_pos (by omega)]
    have e := hb rfl
    cases l with
    | nil => cases e
    | cons c r =>
      have ec : c = 45 := by simpa using e
      have er : r = numL n := h
      rw [ec, er, show (-(n : Int)).natAbs = n by omega]
  | false =>
    rw [if_neg (by decide)] at h
    rw [show (if false = true then -(n : Int) else (n : Int)) = (n : Int) from rfl, if_neg (by omega)]
    exact h
theorem sgn_low {n m : Nat} {b : Bool} (h : (Rat.divInt (n : Int) (m : Int)).num = (n : Int) ∧ (Rat.divInt (n : Int) (m : Int)).den = m) : (Rat.divInt (if b = true then -(n : Int) else n) (m : Int)).num = (if b = true then -(n : Int) else n) ∧ (Rat.divInt (if b = true then -(n : Int) else n) (m : Int)).den = m := by
  cases b with
  | false => exact h
  | true =>
    rw [if_pos rfl, ← Rat.neg_divInt, Rat.neg_num, Rat.neg_den, h.1, h.2]
    exact ⟨rfl, rfl⟩
theorem reads {x a : Str} {n m : Nat} {b : Bool} {r : List Nat} (hx : tl x = tl a ++ r) (ha : (tl a).drop (if b = true then 1 else 0) = numL n) (hb : b = true → (tl a).take 1 = [45]) (h0 : b = true → n ≠ 0)
    (hl : (Rat.divInt (n : Int) (m : Int)).num = (n : Int) ∧ (Rat.divInt (n : Int) (m : Int)).den = m) (hr : (m = 1 ∧ r = []) ∨ (m ≠ 1 ∧ r = 47 :: numL m)) : x = strN (Rat.divInt (if b = true then -(n : Int) else n) (m : Int)) := by
  have e := tl_sgn ha hb h0
  obtain ⟨h1, h2⟩ := sgn_low (b := b) hl
  refine ext_tl ?_
  rw [tl_strN, h1, h2, hx, ← e]
  rcases hr with ⟨rfl, rfl⟩ | ⟨z, rfl⟩
  · rw [if_pos rfl, List.append_nil]
  · rw [if_neg z]
section
variable {Z : Dx}
def splitPR : DSr := s1R fun y z w Q => (z.length == 0) = false ∧ y.length + 2 ≤ sizeLine ∧ ∀ p, w p = none → Q (.ptr p) (put w p (.lst (strsD (Txt.split y z))))
end
end DL
namespace DL
open PySem PySem.Spec PyProof.Rows L2 TL
def sg (c : Nat) : Bool := c == 45 || (decide (48 ≤ c) && decide (c ≤ 57))
end DL
namespace DL
open PySem PySem.Spec PyProof.Rows L2 TL
theorem de_dict0 {Z : Dx} {pos : Pos} : DE Z (.Dict [] [] pos) (dC (.dct [])) := by
  refine ⟨_, pe_dnewK, fun r w s H Q QL S h k => ?_⟩
  intro p hp
  have A := Aft.new (p := p) (o := .dK []) S.om hp
  exact k _ _ _ w A (.dct (gs := []) (by rw [hm_no (S.om.fresh hp), upd_same]; rfl) .nil) h
end DL
namespace DL
open PySem PySem.Spec PyProof.Rows L2
section
variable {Z : Dx} {e : Expr} {te : DTE} {pos : Pos}
def dRevS (te : DTE) : DTE := fun r w Q => te r w fun x w1 => match x with
  | .str z => z.length ≤ sizeLine ∧ ∀ y : Str, y.length ≤ z.length → Q (.str y) w1
  | _ => False
end
end DL
namespace DL
open PySem PySem.Spec PyProof.Rows L2
section
variable {Z : Dx} {e : Expr} {elts : List Expr} {n : Nat} {ta : DTA} {p pos tp : Pos}
def dEnumS (ta : DTA) : DTI := fun r w R => ta r w fun ds w1 => match ds with
  | [.str z] => R (enuD (chD z)) (fun _ => True) w1
  | _ => False
end
end DL
namespace DL
open PySem PySem.Spec PyProof.Rows L2
theorem seq_op {t u : DTS} {D : DEnds} {r : Rho} {w : Om} (h : ∀ N : Rho → Om → Prop, (∀ r' w', u D r' w' → N r' w') → t { D with nx := N } r w) : dSeq t u D r w := h _ fun _ _ x => x
theorem br_T {A B : Prop} : br true A B = A := rfl
theorem br_F {A B : Prop} : br false A B = B := rfl
theorem eqR_i {i j : Int} {w : Om} {Q : DK} : eqR (.int i) (.int j) w Q = (Q (.bl (decide (i = j))) w) := rfl
theorem neR_i {i j : Int} {w : Om} {Q : DK} : neR (.int i) (.int j) w Q = (Q (.bl (!decide (i = j))) w) := rfl
theorem eqR_s {i j : Str} {w : Om} {Q : DK} : eqR (.str i) (.str j) w Q = (Q (.bl (decide (i = j))) w) := rfl
theorem neR_s {i j : Str} {w : Om} {Q : DK} : neR (.str i) (.str j) w Q = (Q (.bl (!decide (i = j))) w) := rfl
theorem eqR_b {i j : Bool} {w : Om} {Q : DK} : eqR (.bl i) (.bl j) w Q = (Q (.bl (decide (i = j))) w) := rfl
theorem neR_b {i j : Bool} {w : Om} {Q : DK} : neR (.bl i) (.bl j) w Q = (Q (.bl (!decide (i = j))) w) := rfl
theorem eqR_n  {w : Om} {Q : DK} : eqR .non .non w Q = (Q (.bl true) w) := rfl
theorem neR_n  {w : Om} {Q : DK} : neR .non .non w Q = (Q (.bl false) w) := rfl
theorem itemR_t {xs : List Dt} {i : Int} {w : Om} {Q : DK} : itemR (.tup xs) (.int i) w Q = (∃ d, L2.atI xs i = some d ∧ Q d w) := rfl
theorem itemR_l {xs : List Dt} {i : Int} {w : Om} {Q : DK} : itemR (.lst xs) (.int i) w Q = (∃ d, L2.atI xs i = some d ∧ Q d w) := rfl
theorem itemR_r {xs : List Dt} {i : Int} {w : Om} {Q : DK} : itemR (.rl xs) (.int i) w Q = (∃ d, L2.atI xs i = some d ∧ Q d w) := rfl
theorem itemR_p {p : Addr} {i : Int} {w : Om} {Q : DK} : itemR (.ptr p) (.int i) w Q = (∃ xs, w p = some (.lst xs) ∧ ∃ d, L2.atI xs i = some d ∧ Q d w) := rfl
theorem itemR_s {z : Str} {i : Int} {w : Om} {Q : DK} : itemR (.str z) (.int i) w Q = (z.length ≤ sizeLine ∧ ∃ c, L2.atI z.cps.toList i = some c ∧ Q (.str ⟨#[c]⟩) w) := rfl
theorem addR_i {i j : Int} {w : Om} {Q : DK} : addR (.int i) (.int j) w Q = (Q (.int (i + j)) w) := rfl
theorem addR_b {i : Int} {k : Bool} {w : Om} {Q : DK} : addR (.int i) (.bl k) w Q = (Q (.int (i + b2i k)) w) := rfl
theorem addR_s {a b : Str} {w : Om} {Q : DK} : addR (.str a) (.str b) w Q = (a.length + b.length ≤ sizeLine ∧ Q (.str (a ++ b)) w) := rfl
theorem addR_l {a b : List Dt} {w : Om} {Q : DK} : addR (.lst a) (.lst b) w Q = (a.length + b.length ≤ sizeLine ∧ Q (.lst (a ++ b)) w) := rfl
theorem addR_t {a b : List Dt} {w : Om} {Q : DK} : addR (.tup a) (.tup b) w Q = (a.length + b.length ≤ sizeLine ∧ Q (.tup (a ++ b)) w) := rfl
theorem mulR_i {i j : Int} {w : Om} {Q : DK} : mulR (.int i) (.int j) w Q = (MulC i j ∧ Q (.int (i * j)) w) := rfl
theorem dI_i {C : Int → Int → Prop} {g : Int → Int → Dt} {i j : Int} {w : Om} {Q : DK} : dI C g (.int i) (.int j) w Q = (C i j ∧ Q (g i j) w) := rfl
theorem dI0_i {g : Int → Int → Dt} {i j : Int} {w : Om} {Q : DK} : dI0 g (.int i) (.int j) w Q = (Q (g i j) w) := rfl
theorem isR_n {b : Bool} {x : Dt} {w : Om} {Q : DK} : isR b x .non w Q = (Q (.bl (if b then !DL.isNon x else DL.isNon x)) w) := rfl
theorem isR_b {b a c : Bool} {w : Om} {Q : DK} : isR b (.bl a) (.bl c) w Q = (Q (.bl (if b then !decide (a = c) else decide (a = c))) w) := rfl
theorem lenR_t {xs : List Dt} {w : Om} {Q : DK} : lenR [.tup xs] w Q = (Q (.int xs.length) w) := rfl
theorem listR_t {xs : List Dt} {w : Om} {Q : DK} : listR [.tup xs] w Q = (Q (.lst xs) w) := rfl
theorem tupleR_t {xs : List Dt} {w : Om} {Q : DK} : tupleR [.tup xs] w Q = (Q (.tup xs) w) := rfl
theorem sliceR_t {xs : List Dt} {lo hi : Option Int} {w : Om} {Q : DK} : sliceR (.tup xs) lo hi w Q = (Q (.tup (cutD xs lo hi)) w) := rfl
theorem lenR_l {xs : List Dt} {w : Om} {Q : DK} : lenR [.lst xs] w Q = (Q (.int xs.length) w) := rfl
theorem listR_l {xs : List Dt} {w : Om} {Q : DK} : listR [.lst xs] w Q = (Q (.lst xs) w) := rfl
theorem tupleR_l {xs : List Dt} {w : Om} {Q : DK} : tupleR [.lst xs] w Q = (Q (.tup xs) w) := rfl
theorem sliceR_l {xs : List Dt} {lo hi : Option Int} {w : Om} {Q : DK} : sliceR (.lst xs) lo hi w Q = (Q (.lst (cutD xs lo hi)) w) := rfl
theorem lenR_r {xs : List Dt} {w : Om} {Q : DK} : lenR [.rl xs] w Q = (Q (.int xs.length) w) := rfl
theorem listR_r {xs : List Dt} {w : Om} {Q : DK} : listR [.rl xs] w Q = (Q (.lst xs) w) := rfl
theorem tupleR_r {xs : List Dt} {w : Om} {Q : DK} : tupleR [.rl xs] w Q = (Q (.tup xs) w) := rfl
theorem sliceR_r {xs : List Dt} {lo hi : Option Int} {w : Om} {Q : DK} : sliceR (.rl xs) lo hi w Q = (Q (.lst (cutD xs lo hi)) w) := rfl
theorem lenR_s {z : Str} {w : Om} {Q : DK} : lenR [.str z] w Q = (z.length ≤ sizeLine ∧ Q (.int z.length) w) := rfl
theorem lenR_p {p : Addr} {w : Om} {Q : DK} : lenR [.ptr p] w Q = (∃ xs, w p = some (.lst xs) ∧ Q (.int xs.length) w) := rfl
theorem listR_p {p : Addr} {w : Om} {Q : DK} : listR [.ptr p] w Q = (∃ xs, w p = some (.lst xs) ∧ Q (.lst xs) w) := rfl
theorem tupleR_p {p : Addr} {w : Om} {Q : DK} : tupleR [.ptr p] w Q = (∃ xs, w p = some (.lst xs) ∧ Q (.tup xs) w) := rfl
theorem sliceR_p {p : Addr} {lo hi : Option Int} {w : Om} {Q : DK} : sliceR (.ptr p) lo hi w Q = (∃ xs, w p = some (.lst xs) ∧ Q (.lst (cutD xs lo hi)) w) := rfl
theorem sliceR_s {z : Str} {lo hi : Option Int} {w : Om} {Q : DK} : sliceR (.str z) lo hi w Q = (z.length ≤ sizeLine ∧ Q (.str (cutS z lo hi)) w) := rfl
theorem absR_i {i : Int} {w : Om} {Q : DK} : absR [.int i] w Q = (Q (.int (if i < 0 then -i else i)) w) := rfl
theorem max2R_i {i j : Int} {w : Om} {Q : DK} : max2R [.int i, .int j] w Q = (Q (.int (if j > i then j else i)) w) := rfl
theorem min2R_i {i j : Int} {w : Om} {Q : DK} : min2R [.int i, .int j] w Q = (Q (.int (if j < i then j else i)) w) := rfl
theorem intR_i {i : Int} {w : Om} {Q : DK} : intR [.int i] w Q = (Q (.int i) w) := rfl
theorem intR_b {b : Bool} {w : Om} {Q : DK} : intR [.bl b] w Q = (Q (.int (if b then 1 else 0)) w) := rfl
theorem strR_i {i : Int} {w : Om} {Q : DK} : strR [.int i] w Q = (i.natAbs.log2 < 1920 ∧ Q (.str (toString i)) w) := rfl
theorem strR_s {a : Str} {w : Om} {Q : DK} : strR [.str a] w Q = (Q (.str a) w) := rfl
theorem mulSR_s {a : Str} {n : Int} {w : Om} {Q : DK} : mulSR (.str a) (.int n) w Q = (MulOk a n ∧ Q (.str (Txt.mul a n)) w) := rfl
theorem mulLR_l {xs : List Dt} {n : Int} {w : Om} {Q : DK} : mulLR (.lst xs) (.int n) w Q = ((0 ≤ n ∧ n ≤ 1000) ∧ xs.length * n.toNat ≤ sizeLine ∧ Q (.lst (List.replicate n.toNat xs).flatten) w) := rfl
theorem gTp_1 {gs : DTGs} {a : Dt} {r : Rho} {w : Om} {Q : Rho → Om → Prop} : gTp 1 gs (.tup [a]) r w Q = gs [a] r w Q := rfl
theorem gTp_2 {gs : DTGs} {a b : Dt} {r : Rho} {w : Om} {Q : Rho → Om → Prop} : gTp 2 gs (.tup [a, b]) r w Q = gs [a, b] r w Q := rfl
theorem gTp_3 {gs : DTGs} {a b c : Dt} {r : Rho} {w : Om} {Q : Rho → Om → Prop} : gTp 3 gs (.tup [a, b, c]) r w Q = gs [a, b, c] r w Q := rfl
theorem gTp_4 {gs : DTGs} {a b c d : Dt} {r : Rho} {w : Om} {Q : Rho → Om → Prop} : gTp 4 gs (.tup [a, b, c, d]) r w Q = gs [a, b, c, d] r w Q := rfl
theorem gTp_5 {gs : DTGs} {a b c d e : Dt} {r : Rho} {w : Om} {Q : Rho → Om → Prop} : gTp 5 gs (.tup [a, b, c, d, e]) r w Q = gs [a, b, c, d, e] r w Q := rfl
theorem gTp_6 {gs : DTGs} {a b c d e f : Dt} {r : Rho} {w : Om} {Q : Rho → Om → Prop} : gTp 6 gs (.tup [a, b, c, d, e, f]) r w Q = gs [a, b, c, d, e, f] r w Q := rfl
theorem gTp_7 {gs : DTGs} {a b c d e f g : Dt} {r : Rho} {w : Om} {Q : Rho → Om → Prop} : gTp 7 gs (.tup [a, b, c, d, e, f, g]) r w Q = gs [a, b, c, d, e, f, g] r w Q := rfl
theorem gTp_8 {gs : DTGs} {a b c d e f g h : Dt} {r : Rho} {w : Om} {Q : Rho → Om → Prop} : gTp 8 gs (.tup [a, b, c, d, e, f, g, h]) r w Q = gs [a, b, c, d, e, f, g, h] r w Q := rfl
theorem at0 {α : Type} {c : α} {l : List α} : L2.atI (c :: l) 0 = some c := by
  unfold L2.atI ixN
  rw [if_pos (by omega), if_pos (by rw [List.length_cons]; omega)]
  rfl
theorem at1 {α : Type} {c d : α} {l : List α} : L2.atI (c :: d :: l) 1 = some d := by
  unfold L2.atI ixN
  rw [if_pos (by omega), if_pos (by rw [List.length_cons, List.length_cons]; omega)]
  rfl
def ForB (xs : List Dt) (St : Om → Prop) (g : DTG) (tb : DTS) (D : DEnds) (r : Rho) (w1 : Om) : Prop := ∃ P : Nat → Rho → Om → Prop, P 0 r w1 ∧
    (∀ i r' w', i ≤ xs.length → P i r' w' → St w' ∧ ∀ d, xs[i]? = some d → g d r' w' fun r2 w2 => tb { D with nx := P (i + 1), ct := P (i + 1), bk := D.nx } r2 w2) ∧
    ∀ r' w', P xs.length r' w' → D.nx r' w'
def LcB (xs : List Dt) (St : Om → Prop) (g : DTG) (tt : DTT) (te : DTE) (vs : List Nat) (fin : Rho → Addr → Om → DK → Prop) (r : Rho) (w1 : Om) (Q : DK) : Prop := ∀ D, w1 D = none → ∃ P : Nat → Om → Prop, P 0 (put w1 D (.lst [])) ∧
    (∀ i w2, i ≤ xs.length → P i w2 → St w2 ∧ ∀ d, xs[i]? = some d → g d (wipeD r vs) w2 fun r4 w4 => tt r4 w4 fun b w5 => br b (te r4 w5 fun y w6 => ∃ acc, w6 D = some (.lst acc) ∧ acc.length < sizeLine ∧ P (i + 1) (put w6 D (.lst (acc ++ [y])))) (P (i + 1) w5)) ∧
    ∀ w2, P xs.length w2 → fin r D w2 Q
theorem for_i {xs : List Dt} {St : Om → Prop} {g : DTG} {tb : DTS} {D : DEnds} {r : Rho} {w1 : Om} (P : Nat → Rho → Om → Prop) (h0 : P 0 r w1)
    (step : ∀ i r' w' d (N : Rho → Om → Prop), xs[i]? = some d → P i r' w' → (∀ r2 w2, P (i + 1) r2 w2 → N r2 w2) → St w' ∧ g d r' w' fun r2 w2 => tb { D with nx := N, ct := N, bk := D.nx } r2 w2)
    (hst : ∀ r' w', P xs.length r' w' → St w') (h : ∀ r' w', P xs.length r' w' → D.nx r' w') : ForB xs St g tb D r w1 := by
  refine ⟨P, h0, fun i r' w' hi hP => ?_, h⟩
  rcases Nat.lt_or_ge i xs.length with z | z
  · obtain ⟨s1, s2⟩ := step i r' w' _ (P (i + 1)) (List.getElem?_eq_getElem z) hP fun _ _ q => q
    exact ⟨s1, fun d hd => by rw [List.getElem?_eq_getElem z] at hd; cases hd; exact s2⟩
  · have e : i = xs.length := Nat.le_antisymm hi z
    subst e
    exact ⟨hst _ _ hP, fun d hd => by rw [List.getElem?_eq_none (Nat.le_refl _)] at hd; cases hd⟩
theorem dFor_eq {wi : DTI} {g : DTG} {tb : DTS} {D : DEnds} {r : Rho} {w : Om} : dFor wi g tb D r w = wi r w (fun xs St w1 => ForB xs St g tb D r w1) := rfl
theorem dLcK_eq {wi : DTI} {g : DTG} {tt : DTT} {te : DTE} {vs : List Nat} {fin : Rho → Addr → Om → DK → Prop} {r : Rho} {w : Om} {Q : DK} : dLcK wi g tt te vs fin r w Q = wi r w (fun xs St w1 => LcB xs St g tt te vs fin r w1 Q) := rfl
end DL
namespace DL
open PySem PySem.Spec PyProof.Rows L2
def fldR (C : Addr) (f : Str) (x : Dt) (w : Om) (Q : DK) : Prop := match x with
  | .ins D fs => D = C ∧ ∃ d, fs.lookup f = some d ∧ Q d w
  | .ptr p => ∃ fs, w p = some (.ins C fs) ∧ ∃ d, fs.lookup f = some d ∧ Q d w
  | _ => False
def dFld (C : Addr) (f : Str) (te : DTE) : DTE := fun r w Q => te r w fun x w1 => fldR C f x w1 Q
def hasM (C : Addr) (m : Str) (x : Dt) (w : Om) : Prop := match x with
  | .ins D fs => D = C ∧ fs.lookup m = none
  | .ptr p => ∃ fs, w p = some (.ins C fs) ∧ fs.lookup m = none
  | _ => False
def dMethC (W : DWX) (C : Addr) (m : Str) (dd : List Dt) (sp : DSp) (te : DTE) (ta : DTA) : DTE := fun r w Q => te r w fun x w1 => hasM C m x w1 ∧ ta r w1 fun ds w2 => sp (x :: (ds ++ dd)) w2 Q fun C fs w2 => W C fs r w2
theorem RpF.none {K : PySem.W.Frag} {H : Hp} {fs : List (Str × Dt)} {gs : List (Str × V)} {m : Str} (r : RpF K H fs gs) (h : fs.lookup m = none) : gs.lookup m = none := by
  rcases r.look (f := m) with ⟨_, e⟩ | ⟨d, v, e, _⟩
  · exact e
  · rw [h] at e; cases e
def dMakeK (W : DWX) (C : Addr) (m : Nat) (gD : List Dt → List Dt → List Dt) (sp : Addr → DSp) (tk : DTA) : DTE := fun r w Q => tk r w fun es w2 => es.length = m ∧ sp C (gD [] es) w2 Q fun C fs w3 => W C fs r w3
def dMethK (W : DWX) (C : Addr) (m : Str) (n : Nat) (gD : List Dt → List Dt → List Dt) (sp : DSp) (te : DTE) (tk : DTA) : DTE := fun r w Q => te r w fun x w1 => hasM C m x w1 ∧ tk r w1 fun es w2 => es.length = n ∧ sp (gD [x] es) w2 Q fun C fs w3 => W C fs r w3
end DL
namespace DL
open PySem PySem.Spec PyProof.Rows L2
structure XcI (K : PySem.W.Frag) (x y : Str) (B newId initId : String) (tl : List Value) (fs : List Str) : Prop where
  ox : OexG K (He.ga K x) newId tl
  ini : PySem.W.findIn K (.ref (He.ga K x)) "__init__" = some (some (.ref (He.fAd K (y, some "__init__"))))
  ity : PySem.W.typeIn K (.ref (He.fAd K (y, some "__init__"))) = some (.type "function")
  no : ∀ f ∈ fs, PySem.W.findIn K (.ref (He.ga K x)) f = some none
  xf : XfC K (He.ga K x)
  xc : ExcC K (He.ga K x)
theorem XcI.cls {P : Program} {w : World} {K : PySem.W.Frag} {mg : Str → Option Value} {base : Heap} {x y : Str} {k : Nat} {B newId initId : String} {tl : List Value} {fs ps : List Str} {fd : FuncData} (X : XcI K x y B newId initId tl fs) (Y : EXG.Bas B newId initId tl) (hg : mg x = some (.ref (He.ga K x)))
    (F : FnG P w K mg base k (He.fAd K (y, some "__init__")) fd ps (spX K newId tl fs.length (fldsV fs))) (hb : Binds K fd ps []) : XCls P w K mg base x k fs.length (fldsV fs) :=
  ⟨B, newId, initId, tl, _, fd, ps, Y, X.ox, X.ini, X.ity, F, hb, fun ys _ f hf => X.no f (fldsV_names hf), hg⟩
section
variable {Z : Dx}
def extendR : DMr := fun p ds w Q => match ds with
  | [.lst ys] => ∃ xs, w p = some (.lst xs) ∧ xs.length + ys.length ≤ sizeLine ∧ Q .non (put w p (.lst (xs ++ ys)))
  | _ => False
def popAtR : DMr := fun p ds w Q => match ds with
  | [.int i] => ∃ xs y, w p = some (.lst xs) ∧ 0 ≤ i ∧ xs[i.toNat]? = some y ∧ i ≤ 1000000 ∧ Q y (put w p (.lst (xs.eraseIdx i.toNat)))
  | _ => False
end
end DL
namespace DL
open PySem PySem.Spec PyProof.Rows L2
def emptyS : L2.Key → Bool := fun _ => false
def withS (S : L2.Key → Bool) (k : L2.Key) : L2.Key → Bool := fun j => S j || decide (j = k)
end DL
namespace DL
open PySem PySem.Spec PyProof.Rows L2
def keyD : L2.Key → Dt
  | .inl i => .int i
  | .inr x => .str x
def rawS (P : Program) (w : World) (D : Addr) (S : L2.Key → Bool) (n : Nat) : MO := .raw fun h => h.SetOf (mixKind P w) D S n
def LskB (P : Program) (wd : World) (xs : List Dt) (St : Om → Prop) (g : DTG) (tt : DTT) (te : DTE) (vs : List Nat) (r : Rho) (w1 : Om) (Q : DK) : Prop := ∀ D, w1 D = none →
  ∃ Pr : Nat → (L2.Key → Bool) → Nat → Om → Prop, Pr 0 emptyS 0 (put w1 D (rawS P wd D emptyS 0)) ∧
    (∀ i S n w2, i ≤ xs.length → Pr i S n w2 → w2 D = some (rawS P wd D S n) ∧ St w2 ∧ ∀ d, xs[i]? = some d → g d (wipeD r vs) w2 fun r4 w4 => tt r4 w4 fun b w5 => br b (te r4 w5 fun y w6 => ∃ c, y = keyD c ∧ w6 D = some (rawS P wd D S n) ∧ n + 1 < scanBound ∧ Pr (i + 1) (withS S c) (if S c = true then n else n + 1) (put w6 D (rawS P wd D (withS S c) (if S c = true then n else n + 1)))) (Pr (i + 1) S n w5)) ∧
    ∀ S n w2, Pr xs.length S n w2 → Q (.int (n : Int)) (cut w2 D)
def dLenS (P : Program) (wd : World) (wi : DTI) (g : DTG) (tt : DTT) (te : DTE) (vs : List Nat) : DTE := fun r w Q => wi r w fun xs St w1 => LskB P wd xs St g tt te vs r w1 Q
section
variable {Z : Dx} {k : Nat} {tt : DTT} {te tk : DTE} {pos p : Pos} {vs : List Nat}
theorem OmOk.rawS {K : PySem.W.Frag} {w : Om} {H : Hp} {P : Program} {wd : World} {D : Addr} {S : L2.Key → Bool} {n : Nat} (ok : OmOk K w H) (h : w D = some (rawS P wd D S n)) : H D = some (SetK P wd D S n) := by
  obtain ⟨o, h1, h2⟩ := ok _ _ h
  cases h2
  exact h1
def DcB (xs : List Dt) (St : Om → Prop) (g : DTG) (tt : DTT) (tk te : DTE) (vs : List Nat) (fin : Rho → Addr → Om → DK → Prop) (r : Rho) (w1 : Om) (Q : DK) : Prop := ∀ D, w1 D = none →
  ∃ Pr : Nat → Om → Prop, Pr 0 (put w1 D (.dki [] [])) ∧
    (∀ i w2, i ≤ xs.length → Pr i w2 → St w2 ∧ ∀ d, xs[i]? = some d → g d (wipeD r vs) w2 fun r4 w4 => tt r4 w4 fun b w5 => br b (tk r4 w5 fun y w6 => te r4 w6 fun z w7 => ∃ c ks ds, y = keyD c ∧ w7 D = some (.dki ks ds) ∧ c ∉ ks ∧ ks.length < sizeLine ∧ Pr (i + 1) (put w7 D (.dki (ks ++ [c]) (ds ++ [z])))) (Pr (i + 1) w5)) ∧
    ∀ w2, Pr xs.length w2 → fin r D w2 Q
def dDc (wi : DTI) (g : DTG) (tt : DTT) (tk te : DTE) (vs : List Nat) (fin : Rho → Addr → Om → DK → Prop) : DTE := fun r w Q => wi r w fun xs St w1 => DcB xs St g tt tk te vs fin r w1 Q
theorem OmOk.dki {K : PySem.W.Frag} {w : Om} {H : Hp} {D : Addr} {ks : List L2.Key} {ds : List Dt} (ok : OmOk K w H) (h : w D = some (.dki ks ds)) : ∃ vs, H D = some (.dK (ks.zip vs)) ∧ RpL K (hm H w) ds vs ∧ ks.length = ds.length := by
  obtain ⟨o, h1, h2⟩ := ok _ _ h
  cases h2 with
  | dki r l => exact ⟨_, h1, r, l⟩
def lookK (ks : List L2.Key) (ds : List Dt) (c : L2.Key) : Option Dt := ((ks.zip ds).find? fun kv => decide (kv.1 = c)).map (·.2)
def getKR (x y z : Dt) (w : Om) (Q : DK) : Prop := ∃ p c ks ds, x = .ptr p ∧ y = keyD c ∧ w p = some (.dki ks ds) ∧ Q ((lookK ks ds c).getD z) w
def dGetK2 (to te tf : DTE) : DTE := fun r w Q => to r w fun x w1 => (∃ p ks ds, x = .ptr p ∧ w1 p = some (.dki ks ds)) ∧ te r w1 fun y w2 => tf r w2 fun z w3 => getKR x y z w3 Q
def dGetK1 (to te : DTE) : DTE := fun r w Q => to r w fun x w1 => (∃ p ks ds, x = .ptr p ∧ w1 p = some (.dki ks ds)) ∧ te r w1 fun y w2 => getKR x y .non w2 Q
variable {o e f : Expr} {to tf : DTE} {apos cpos : Pos}
end
def cntK (l : List L2.Key) : (L2.Key → Bool) × Nat := l.foldl (fun p c => (withS p.1 c, if p.1 c = true then p.2 else p.2 + 1)) (emptyS, 0)
theorem cnt_snoc (l : List L2.Key) (c : L2.Key) : cntK (l ++ [c]) = (withS (cntK l).1 c, if (cntK l).1 c = true then (cntK l).2 else (cntK l).2 + 1) := by
  unfold cntK
  rw [List.foldl_append]; rfl
theorem snoc_ind {α : Type} {P : List α → Prop} (h0 : P []) (h1 : ∀ l a, P l → P (l ++ [a])) (l : List α) : P l := by
  rw [← List.reverse_reverse l]
  induction l.reverse with
  | nil => exact h0
  | cons a r ih => rw [List.reverse_cons]; exact h1 _ _ ih
theorem cntK_mem (l : List L2.Key) : ∀ k, (cntK l).1 k = true ↔ k ∈ l := by
  refine snoc_ind (P := fun l => ∀ k, (cntK l).1 k = true ↔ k ∈ l) ?_ ?_ l
  · intro k
    simp [cntK, emptyS]
  · intro l c ih k
    rw [cnt_snoc]
    show ((cntK l).1 k || decide (k = c)) = true ↔ _
    rw [Bool.or_eq_true, ih k]
    simp [List.mem_append]
theorem cntK_le (l : List L2.Key) : (cntK l).2 ≤ l.length := by
  refine snoc_ind (P := fun l => (cntK l).2 ≤ l.length) (Nat.le_refl 0) (fun l c ih => ?_) l
  rw [cnt_snoc, List.length_append, List.length_singleton]
  dsimp only
  split <;> omega
theorem cntK_nodup (l : List L2.Key) : (cntK l).2 = l.length ↔ l.Nodup := by
  refine snoc_ind (P := fun l => (cntK l).2 = l.length ↔ l.Nodup) ?_ (fun l c ih => ?_) l
  · simp [cntK]
  · rw [cnt_snoc, List.length_append, List.length_singleton]
    dsimp only
    rw [List.nodup_append, ← ih]
    have := cntK_le l
    by_cases h : c ∈ l
    · rw [if_pos ((cntK_mem l c).mpr h)]
      constructor
      · intro e; omega
      · rintro ⟨_, _, z⟩
        exact absurd rfl (z c h c (by simp))
    · rw [if_neg (fun z => h ((cntK_mem l c).mp z))]
      constructor
      · intro e
        refine ⟨by omega, by simp, fun a ha b hb => ?_⟩
        rw [List.mem_singleton] at hb
        subst hb
        exact fun z => h (z ▸ ha)
      · rintro ⟨e, _, _⟩
        omega
end DL
namespace DL
open PySem PySem.Spec PyProof.Rows L2 TL
structure InsI (K : PySem.W.Frag) (C : Addr) : Prop where
  cl : Cls K C
  ha : PySem.W.findIn K (.ref C) "__class__" = some (some (.builtin "object.__class__"))
  hn : PySem.W.specialIn K (.builtin "object.__class__") "__get__" = some (some (.builtin "getset_descriptor.__get__"))
  htk : PySem.W.takesIn K (.builtin "object.__class__") = some true
  hm : PySem.W.mroIn K C (.type "object") = some true
theorem ins_of {K : PySem.W.Frag} {c : Str} (h : insB K c = true) : InsI K (He.ga K c) := by
  obtain ⟨h1, h⟩ := He.ba h
  obtain ⟨h2, h⟩ := He.ba h
  obtain ⟨h3, h⟩ := He.ba h
  obtain ⟨h4, h5⟩ := He.ba h
  exact ⟨He.cls_ok h1, He.eqO_ok h2, He.eqO_ok h3, by simpa using h4, by simpa using h5⟩
structure IsG (K : PySem.W.Frag) (u : Value) (l : List String) (own : List (Str × Bool)) : Prop where
  ty : ∀ n ∈ "dict" :: kinds, PySem.W.kitOne K (.type n) u = some (l.contains n)
  own : ∀ c ∈ own, PySem.W.kitOne K (.ref (He.ga K c.1)) u = some c.2 ∧ InsI K (He.ga K c.1)
theorem isg_of {K : PySem.W.Frag} {u : Value} {l : List String} {own : List (Str × Bool)} (h : isGB K u l own = true) : IsG K u l own := by
  obtain ⟨h1, h2⟩ := He.ba h
  refine ⟨fun n hn => by simpa using List.all_eq_true.mp h1 n hn, fun c hc => ?_⟩
  obtain ⟨a, b⟩ := He.ba (List.all_eq_true.mp h2 c hc)
  exact ⟨by simpa using a, ins_of b⟩
def kindIn (l : List String) (x : Dt) : Bool := match tyName x with
  | some n => l.contains n
  | none => false
def isRG (K : PySem.W.Frag) (l : List String) (own : List (Str × Bool)) : DFr := on2 fun x _ w Q => match x with
  | .ptr a => ∃ xs, w a = some (.lst xs) ∧ Q (.bl (l.contains "list")) w
  | .ty _ => False
  | .ins C _ => ∃ c ∈ own, C = He.ga K c.1 ∧ Q (.bl c.2) w
  | .num _ => ∃ c ∈ own, c.1 = "Number" ∧ Q (.bl c.2) w
  | .dct _ => Q (.bl (l.contains "dict")) w
  | x => Q (.bl (kindIn l x)) w
theorem f_isG {Z : Dx} {u : Value} {l : List String} {own : List (Str × Bool)} {cd : Dt} {cv : V} (I : IsG Z.X.K u l own) (hc : ClsV cv u) (hcd : ∀ K H v, Rp K H cd v → v = cv) : DFn Z (.builtin "isinstance") (fun ds w Q => (∃ x, ds = [x, cd]) ∧ isRG Z.X.K l own ds w Q) := by
  refine ⟨_, call_isi, fun ds vs w H Q QL ok r h k => ?_⟩
  obtain ⟨⟨x0, e0⟩, h⟩ := h
  obtain ⟨d, e, v, c, rfl, rfl, rv, rc, h⟩ := rl2 r h
  injection e0 with e1 e2
  injection e2 with e3 e4
  subst e1 e3
  have ec := hcd _ _ _ rc
  subst ec
  have ty : ∀ (d : Dt) n, tyName d = some n → PySem.W.kitOne Z.X.K (.type n) u = some (l.contains n) := fun d n e => I.ty n (List.mem_cons_of_mem _ (tyName_mem e))
  cases rv with
  | non => exact ⟨_, _, _, u, _, rfl, hc, .base .non, ty .non _ rfl, k _ _ H w (Aft.refl ok) .bl h⟩
  | bl => exact ⟨_, _, _, u, _, rfl, hc, .base (.bl _), ty (.bl true) _ rfl, k _ _ H w (Aft.refl ok) .bl h⟩
  | int => exact ⟨_, _, _, u, _, rfl, hc, .base (.int _), ty (.int 0) _ rfl, k _ _ H w (Aft.refl ok) .bl h⟩
  | str => exact ⟨_, _, _, u, _, rfl, hc, .base (.str _), ty (.str "") _ rfl, k _ _ H w (Aft.refl ok) .bl h⟩
  | dct hx rl => exact ⟨_, _, _, u, _, rfl, hc, .base (.dK (hm_some hx).2), I.ty "dict" List.mem_cons_self, k _ _ H w (Aft.refl ok) .bl h⟩
  | ty => exact (show False from h).elim
  | ptr =>
    obtain ⟨xs, hp, q⟩ := h
    obtain ⟨vs, h1, rl⟩ := ok.lst hp
    exact ⟨_, _, _, u, _, rfl, hc, .base (.lst h1), ty (.lst xs) _ rfl, k _ _ H w (Aft.refl ok) .bl q⟩
  | lst hx rl => exact ⟨_, _, _, u, _, rfl, hc, .base (.lst (hm_some hx).2), ty (.lst []) _ rfl, k _ _ H w (Aft.refl ok) .bl h⟩
  | rl hx rl =>
    have q := k _ _ H w (Aft.refl ok) .bl h
    rcases up_l hx with (h1 | ⟨o, h1⟩) | ⟨o, its, n, h1, h2, _⟩
    · exact ⟨_, _, _, u, _, rfl, hc, .base (.lst h1), ty (.rl []) _ rfl, q⟩
    · exact ⟨_, _, _, u, _, rfl, hc, .base (.frz h1), ty (.rl []) _ rfl, q⟩
    · exact ⟨_, _, _, u, _, rfl, hc, .kList h1 h2, ty (.rl []) _ rfl, q⟩
  | tup hx rl =>
    have q := k _ _ H w (Aft.refl ok) .bl h
    rcases up_t hx with (h1 | ⟨o, h1⟩) | ⟨o, its, n, h1, h2, _⟩
    · exact ⟨_, _, _, u, _, rfl, hc, .base (.tup h1), ty (.tup []) _ rfl, q⟩
    · exact ⟨_, _, _, u, _, rfl, hc, .fTuple h1, ty (.tup []) _ rfl, q⟩
    · exact ⟨_, _, _, u, _, rfl, hc, .kTuple h1 h2, ty (.tup []) _ rfl, q⟩
  | num hx =>
    obtain ⟨c, hc1, e, q⟩ := h
    obtain ⟨i1, N⟩ := I.own c hc1
    rw [e] at i1 N
    exact ⟨_, _, _, u, _, rfl, hc, .base (.ins (hm_some hx).2 N.cl N.ha N.hn N.htk N.hm), i1, k _ _ H w (Aft.refl ok) .bl q⟩
  | ins hx _ =>
    obtain ⟨c, hc1, e, q⟩ := h
    obtain ⟨i1, N⟩ := I.own c hc1
    rw [← e] at i1 N
    exact ⟨_, _, _, u, _, rfl, hc, .base (.ins (hm_some hx).2 N.cl N.ha N.hn N.htk N.hm), i1, k _ _ H w (Aft.refl ok) .bl q⟩
theorem f_isK {Z : Dx} {K : PySem.W.Frag} {u : Value} {l : List String} {own : List (Str × Bool)} {cd : Dt} {cv : V} (I : IsG K u l own) (hc : ClsV cv u) (hcd : ∀ K H v, Rp K H cd v → v = cv) (hK : Z.X.K = K := by rfl) : DFn Z (.builtin "isinstance") (fun ds w Q => (∃ x, ds = [x, cd]) ∧ isRG K l own ds w Q) := by
  subst hK
  exact f_isG I hc hcd
end DL
namespace DL
open PySem PySem.Spec PyProof.Rows L2 TL
theorem fldR_i {C D : Addr} {f : Str} {fs : List (Str × Dt)} {w : Om} {Q : DK} : fldR C f (.ins D fs) w Q = (D = C ∧ ∃ d, fs.lookup f = some d ∧ Q d w) := rfl
theorem fldR_p {C p : Addr} {f : Str} {w : Om} {Q : DK} : fldR C f (.ptr p) w Q = (∃ fs, w p = some (.ins C fs) ∧ ∃ d, fs.lookup f = some d ∧ Q d w) := rfl
theorem hasM_i {C D : Addr} {m : Str} {fs : List (Str × Dt)} {w : Om} : hasM C m (.ins D fs) w = (D = C ∧ fs.lookup m = none) := rfl
theorem hasM_p {C p : Addr} {m : Str} {w : Om} : hasM C m (.ptr p) w = (∃ fs, w p = some (.ins C fs) ∧ fs.lookup m = none) := rfl
theorem inCR_s {b : Bool} {a z : Str} {w : Om} {Q : DK} : inCR b (.str a) (.str z) w Q = (∃ c, a = ⟨#[c]⟩ ∧ Q (.bl (if b then !decide (c ∈ z.cps.toList) else decide (c ∈ z.cps.toList))) w) := rfl
theorem joinL_nil : ∀ l : List (List Nat), joinL [] l = l.flatten
  | [] => rfl
  | [a] => by simp [joinL]
  | a :: b :: l => by
    have ih := joinL_nil (b :: l)
    show a ++ ([] ++ joinL [] (b :: l)) = _
    rw [ih]; simp
theorem tl_joinE (ys : List Str) : tl (Txt.join "" ys) = (ys.map tl).flatten := by
  rw [join_eq, tl_join, show tl ("" : Str) = [] by rw [tl_lit]; rfl, joinL_nil]
def TxOk (z : Str) : Prop := z.length ≤ 100000 ∧ PyData.strOk z = true
theorem txok_of {z : Str} (h : z.length ≤ 100000) (g : ∀ c ∈ z.cps.toList, c < 1114112) : TxOk z := by
  refine ⟨h, ?_⟩
  unfold PyData.strOk
  simp only [decide_eq_true_eq, Array.all_eq_true]
  intro i hi
  exact g _ (by simp)
def isDa : Dt → Bool
  | .num _ => false
  | x => isOk x
def T0 (x : Dt) : Prop := (isDa x = true ∨ x = .dct []) ∧ (∀ z, x = .str z → TxOk z) ∧ (∀ es, x = .tup es → es.length ≤ 1000) ∧ ∀ es, x = .lst es → es.length ≤ 1000
def ThN : Nat → Dt → Prop
  | 0, x => T0 x
  | n + 1, x => T0 x ∧ ∀ es, x = .tup es → ∀ e ∈ es, ThN n e
theorem ThN.t0 : ∀ {n : Nat} {x : Dt}, ThN n x → T0 x
  | 0, _, h => h
  | _ + 1, _, h => h.1
theorem ThN.low : ∀ {n : Nat} {x : Dt}, ThN (n + 1) x → ThN n x
  | 0, _, h => h.1
  | _ + 1, _, h => ⟨h.1, fun es e d hd => (h.2 es e d hd).low⟩
def kStr : Dt → Bool
  | .str _ => true | _ => false
theorem isi_str {K : PySem.W.Frag} {own : List (Str × Bool)} {x : Dt} {w : Om} {Q : DK} (h : T0 x) (q : Q (.bl (kStr x)) w) : isRG K ["str"] own [x, .ty "str"] w Q := by
  rcases h.1 with h | rfl
  · cases x <;> first | exact q | exact (Bool.false_ne_true h).elim
  · exact q
def isFromD (lo hi : Int) : Dt → Bool
  | .int i => decide (lo ≤ i) && decide (i ≤ hi)
  | _ => false
def isTextD (lo hi : Int) : Dt → Bool
  | .str z => decide (lo ≤ z.length) && (decide ((z.length : Int) ≤ hi) && (!decide (32 ∈ z.cps.toList) && !decide (10 ∈ z.cps.toList)))
  | _ => false
def isGroupD (x : Dt) : Bool := isTextD 0 1 x || (match x with
  | .str z => decide (z = " ")
  | _ => false)
def areSizesD : Dt → Bool
  | .tup es => (decide (1 ≤ (es.length : Int)) && decide ((es.length : Int) ≤ 4)) && es.all (isFromD 1 6)
  | _ => false
def bothNil : List Dt → Bool
  | [.str a, .str b] => decide (a = "") && decide (b = "")
  | _ => false
def areSidesD : Dt → Bool
  | .tup es => decide (es.length = 2) && (es.all (isTextD 0 3) && !bothNil es)
  | _ => false
def signKey (d : Dt) : Option L2.Key := match d with
  | .str z => some (.inr z)
  | _ => none
def areFiguresD : Dt → Bool
  | .str z => isTextD 10 10 (.str z) && decide (((cntK ((chD z).filterMap signKey)).2 : Int) = 10)
  | _ => false
def isWordD : Dt → Bool
  | .tup [a, b] => isFromD 1 30 a && isTextD 1 3 b
  | _ => false
def wPow : Dt → Int
  | .tup [.int a, _] => a
  | _ => 0
def wTxt : Dt → Str
  | .tup [_, .str b] => b
  | _ => ""
def rising (es : List Dt) : Bool := (es.dropLast.zipWith (fun a b => decide (wPow a < wPow b)) es.tail).all id
def areWordsD : Dt → Bool
  | .tup es => decide (es.length ≤ 6) && (es.all isWordD && (rising es && decide ((cntK (es.map fun e => Sum.inr (wTxt e))).2 = es.length)))
  | _ => false
def rightD (n : Str) (x : Dt) : Bool :=
  if n = "point" then isTextD 1 1 x else if n = "group" then isGroupD x else if n = "sizes" then areSizesD x else if n = "least" then isFromD 1 4 x
  else if n = "minus" ∨ n = "plus" then areSidesD x else if n = "figures" then areFiguresD x else if n = "words" then areWordsD x else isTextD 1 3 x
def txtOf : Dt → Str
  | .str z => z
  | _ => ""
def signsD (n : Str) (x : Dt) : Str :=
  if n = "sizes" ∨ n = "least" then "" else if n = "words" then (match x with
    | .tup es => Txt.join "" (es.map wTxt)
    | _ => "") else (match x with
    | .str z => z
    | .tup es => Txt.join "" (es.map txtOf)
    | _ => "")
def fitsD (n : Str) (x : Dt) (taken : Str) : Bool := rightD n x && !(signsD n x).cps.toList.any fun c => decide (c ∈ taken.cps.toList)
def faultC : Str → List (Str × Dt) → Option Str
  | _, [] => none
  | taken, (n, d) :: r => if fitsD n d taken = true then faultC (taken ++ signsD n d) r else some n
theorem faultC_cons {t n : Str} {d : Dt} {r : List (Str × Dt)} : faultC t ((n, d) :: r) = if fitsD n d t = true then faultC (t ++ signsD n d) r else some n := rfl
def addSR : DR2 := fun x y w Q => match x, y with
  | .str a, .str b => a.length + b.length ≤ sizeLine ∧ Q (.str (a ++ b)) w
  | _, _ => False
theorem addSR_s {a b : Str} {w : Om} {Q : DK} : addSR (.str a) (.str b) w Q = (a.length + b.length ≤ sizeLine ∧ Q (.str (a ++ b)) w) := rfl
def cuF (a b c d e f g h i j : Dt) : List (Str × Dt) := [("point", a), ("group", b), ("sizes", c), ("least", d), ("minus", e), ("plus", f), ("figures", g), ("words", h), ("between", i), ("about", j)]
end DL
namespace DL
open PySem PySem.Spec PyProof.Rows L2 TL
def OffB (w w' : Om) (D c : Addr) : Prop := ∀ p m, p ≠ D → p ≠ c → w p = some m → w' p = some m
theorem OffB.refl {w : Om} {D c : Addr} : OffB w w D c := fun _ _ _ _ h => h
theorem OffB.trans {w w1 w2 : Om} {D c : Addr} (a : OffB w w1 D c) (b : OffB w1 w2 D c) : OffB w w2 D c := fun p m h1 h2 h => b p m h1 h2 (a p m h1 h2 h)
theorem OffB.of {w w' : Om} {D c : Addr} (a : Off w w' D c) : OffB w w' D c := fun p m h1 h2 h => by rw [a p h1 h2]; exact h
theorem OffB.new {w w' : Om} {D c p : Addr} {m : MO} (a : OffB w w' D c) (h : w' p = none) : OffB w (put w' p m) D c := fun q n h1 h2 h3 => by
  have := a q n h1 h2 h3
  by_cases e : q = p
  · subst e; rw [h] at this; cases this
  · rw [put_ne e]; exact this
theorem Dk.keep {w w' : Om} {D c : Addr} (h : Dk w D c) (e1 : w' D = w D) (e2 : w' c = w c) : Dk w' D c := by
  obtain ⟨ne, cells, seed, cnt, hD, hc, hl⟩ := h
  exact ⟨ne, cells, seed, cnt, by rw [e1]; exact hD, by rw [e2]; exact hc, hl⟩
theorem Dk.has {w : Om} {D c : Addr} (h : Dk w D c) : (∃ m, w D = some m) ∧ ∃ m, w c = some m := by
  obtain ⟨ne, cells, seed, cnt, hD, hc, hl⟩ := h
  exact ⟨⟨_, hD⟩, _, hc⟩
theorem OffB.none {w w' : Om} {D c p : Addr} (a : OffB w w' D c) (h : w' p = none) (dk : Dk w' D c) : w p = none := by
  cases e : w p with
  | none => rfl
  | some m =>
    obtain ⟨⟨m1, h1⟩, m2, h2⟩ := dk.has
    have n1 : p ≠ D := fun z => by rw [z, h1] at h; cases h
    have n2 : p ≠ c := fun z => by rw [z, h2] at h; cases h
    rw [a p m n1 n2 e] at h
    cases h
def wd (q : Int × Str) : Dt := .tup [.int q.1, .str q.2]
end DL
namespace DL
open PySem PySem.Spec PyProof.Rows L2 TL
theorem fault_none : ∀ (xs : List ((Str × Dt) × List Nat)) (taken : Str), (∀ q ∈ xs, rightD q.1.1 q.1.2 = true ∧ (∀ x ∈ (signsD q.1.1 q.1.2).cps.toList, x ∈ q.2) ∧ ∀ x ∈ q.2, x ∉ taken.cps.toList) → xs.Pairwise (fun a b => ∀ x ∈ b.2, x ∉ a.2) → faultC taken (xs.map (·.1)) = none
  | [], _, _, _ => rfl
  | ((n, d), R) :: xs, taken, h, p => by
    obtain ⟨h1, h2, h3⟩ := h _ List.mem_cons_self
    obtain ⟨p1, p2⟩ := List.pairwise_cons.mp p
    rw [List.map_cons, faultC_cons, if_pos]
    · refine fault_none xs _ (fun q hq => ?_) p2
      obtain ⟨g1, g2, g3⟩ := h q (List.mem_cons_of_mem _ hq)
      refine ⟨g1, g2, fun x hx hm => ?_⟩
      have hm : x ∈ tl (taken ++ signsD n d) := hm
      rw [tl_append] at hm
      rcases List.mem_append.mp hm with hm | hm
      · exact g3 x hx hm
      · exact p1 q hq x hx (h2 x hm)
    · unfold fitsD
      rw [h1, Bool.true_and, Bool.not_eq_true', List.any_eq_false]
      intro c hc
      rw [decide_eq_true_iff]
      exact h3 c (h2 c hc)
def Clean (z : Str) : Prop := ∀ x ∈ z.cps.toList, x ≠ 32 ∧ x ≠ 10 ∧ x < 1114112
theorem isText_of {z : Str} {lo hi : Int} (h : Clean z) (h1 : lo ≤ z.length) (h2 : (z.length : Int) ≤ hi) : isTextD lo hi (.str z) = true := by
  unfold isTextD
  dsimp only
  rw [decide_eq_true h1, decide_eq_true h2, decide_eq_false (fun e => (h 32 e).1 rfl), decide_eq_false (fun e => (h 10 e).2.1 rfl)]
  rfl
theorem Clean.app {a b : Str} (ha : Clean a) (hb : Clean b) : Clean (a ++ b) := fun x hx => by
  have hx : x ∈ tl (a ++ b) := hx
  rw [tl_append] at hx
  rcases List.mem_append.mp hx with q | q
  · exact ha x q
  · exact hb x q
theorem right_sizes {sz : List Int} (h1 : 1 ≤ sz.length) (h4 : sz.length ≤ 4) (h : ∀ n ∈ sz, 1 ≤ n ∧ n ≤ 6) : areSizesD (.tup (sz.map Dt.int)) = true := by
  unfold areSizesD
  dsimp only
  rw [List.length_map, decide_eq_true (by omega), decide_eq_true (by omega), Bool.true_and, Bool.true_and, List.all_eq_true]
  intro d hd
  obtain ⟨n, hn, rfl⟩ := List.mem_map.mp hd
  unfold isFromD
  dsimp only
  rw [decide_eq_true (h n hn).1, decide_eq_true (h n hn).2]; rfl
theorem right_sides {a b : Str} (ca : Clean a) (cb : Clean b) (ha : a.length ≤ 3) (hb : b.length ≤ 3) (n : ¬ (a = "" ∧ b = "")) : areSidesD (.tup [.str a, .str b]) = true := by
  unfold areSidesD
  dsimp only
  rw [show bothNil [.str a, .str b] = false by
    unfold bothNil
    dsimp only
    rw [Bool.and_eq_false_iff, decide_eq_false_iff_not, decide_eq_false_iff_not]
    by_cases e : a = ""
    · exact .inr fun e2 => n ⟨e, e2⟩
    · exact .inl e]
  rw [List.all_cons, List.all_cons, List.all_nil, isText_of ca (by omega) (by omega), isText_of cb (by omega) (by omega)]
  rfl
theorem right_figs {f : Str} (c : Clean f) (h : f.length = 10) (nd : f.cps.toList.Nodup) : areFiguresD (.str f) = true := by
  unfold areFiguresD
  dsimp only
  rw [isText_of c (by omega) (by omega), Bool.true_and]
  have e : (chD f).filterMap signKey = f.cps.toList.map fun c => (Sum.inr (⟨#[c]⟩ : Str) : L2.Key) := by
    unfold chD
    rw [List.filterMap_map]
    show f.cps.toList.filterMap (fun c => some (Sum.inr (⟨#[c]⟩ : Str) : L2.Key)) = _
    rw [List.filterMap_eq_map']
  rw [e, decide_eq_true_iff, (cntK_nodup _).mpr, List.length_map, Array.length_toList]
  · exact congrArg (Nat.cast (R := Int)) h
  · unfold List.Nodup
    rw [List.pairwise_map]
    refine List.Pairwise.imp (fun {a b} ne e => ne ?_) nd
    injection e with e
    injection e with e
    injection e with e
    injection e
theorem right_words {ws : List (Int × Str)} (h6 : ws.length ≤ 6) (h : ∀ q ∈ ws, 1 ≤ q.1 ∧ q.1 ≤ 30 ∧ 1 ≤ q.2.length ∧ q.2.length ≤ 3 ∧ Clean q.2) (up : ws.Pairwise fun a b => a.1 < b.1) (ap : ws.Pairwise fun a b => a.2 ≠ b.2) : areWordsD (.tup (ws.map wd)) = true := by
  unfold areWordsD
  dsimp only
  have e1 : (ws.map wd).all isWordD = true := by
    rw [List.all_eq_true]
    intro d hd
    obtain ⟨q, hq, rfl⟩ := List.mem_map.mp hd
    obtain ⟨a1, a2, a3, a4, a5⟩ := h q hq
    unfold wd isWordD isFromD
    dsimp only
    rw [isText_of a5 (by omega) (by omega), decide_eq_true a1, decide_eq_true a2]; rfl
  have e2 : rising (ws.map wd) = true := by
    clear h6 h ap e1
    unfold rising
    induction ws with
    | nil => rfl
    | cons a l ih =>
      cases l with
      | nil => rfl
      | cons b m =>
        obtain ⟨u1, u2⟩ := List.pairwise_cons.mp up
        have := ih u2
        show (decide (a.1 < b.1) && _) = true
        rw [decide_eq_true (u1 b List.mem_cons_self), Bool.true_and]
        exact this
  have e3 : (ws.map wd).map (fun e => (Sum.inr (wTxt e) : L2.Key)) = ws.map fun q => Sum.inr q.2 := by rw [List.map_map]; rfl
  rw [e1, e2, e3, (cntK_nodup _).mpr]
  · simp only [List.length_map, Bool.and_eq_true, decide_eq_true_eq]
    exact ⟨h6, trivial, trivial, trivial⟩
  · unfold List.Nodup
    rw [List.pairwise_map]
    exact List.Pairwise.imp (fun {a b} ne e => ne (by injection e)) ap
theorem mem_join {ys : List Str} {x : Nat} : x ∈ (Txt.join "" ys).cps.toList ↔ ∃ y ∈ ys, x ∈ y.cps.toList := by
  have e : (Txt.join "" ys).cps.toList = (ys.map tl).flatten := tl_joinE ys
  rw [e, List.mem_flatten]
  constructor
  · rintro ⟨l, hl, hx⟩
    obtain ⟨y, hy, rfl⟩ := List.mem_map.mp hl
    exact ⟨y, hy, hx⟩
  · rintro ⟨y, hy, hx⟩
    exact ⟨_, List.mem_map.mpr ⟨y, hy, rfl⟩, hx⟩
inductive CuTen : List Dt → Prop
  | mk {d g : Str} {sz : List Int} {l : Int} {m1 m2 p1 p2 f : Str} {ws : List (Int × Str)} {b a : Str} {Rd Rg Rm Rp Rw Rb Ra : List Nat}
    (hd : d.length = 1) (hg : g = " " ∨ (g.length ≤ 1 ∧ Clean g)) (s1 : 1 ≤ sz.length) (s4 : sz.length ≤ 4) (hs : ∀ n ∈ sz, 1 ≤ n ∧ n ≤ 6) (l1 : 1 ≤ l) (l4 : l ≤ 4)
    (hm1 : m1.length ≤ 3) (hm2 : m2.length ≤ 3) (hm : ¬ (m1 = "" ∧ m2 = "")) (hp1 : p1.length ≤ 3) (hp2 : p2.length ≤ 3) (hp : ¬ (p1 = "" ∧ p2 = ""))
    (hf : f.length = 10) (nf : f.cps.toList.Nodup) (w6 : ws.length ≤ 6) (hw : ∀ q ∈ ws, 1 ≤ q.1 ∧ q.1 ≤ 30 ∧ 1 ≤ q.2.length ∧ q.2.length ≤ 3 ∧ ∀ x ∈ q.2.cps.toList, x ∈ Rw)
    (up : ws.Pairwise fun a b => a.1 < b.1) (ap : ws.Pairwise fun a b => a.2 ≠ b.2) (b1 : 1 ≤ b.length) (b3 : b.length ≤ 3) (a1 : 1 ≤ a.length) (a3 : a.length ≤ 3)
    (id : ∀ x ∈ d.cps.toList, x ∈ Rd) (ig : ∀ x ∈ g.cps.toList, x ∈ Rg) (im1 : ∀ x ∈ m1.cps.toList, x ∈ Rm) (im2 : ∀ x ∈ m2.cps.toList, x ∈ Rm) (ip1 : ∀ x ∈ p1.cps.toList, x ∈ Rp) (ip2 : ∀ x ∈ p2.cps.toList, x ∈ Rp)
    (ib : ∀ x ∈ b.cps.toList, x ∈ Rb) (ia : ∀ x ∈ a.cps.toList, x ∈ Ra)
    (dis : [Rd, Rg, [], [], Rm, Rp, f.cps.toList, Rw, Rb, Ra].Pairwise fun u v => ∀ x ∈ v, x ∉ u)
    (cl : ∀ x, x ∈ Rd ∨ x ∈ Rm ∨ x ∈ Rp ∨ x ∈ f.cps.toList ∨ x ∈ Rw ∨ x ∈ Rb ∨ x ∈ Ra → x ≠ 32 ∧ x ≠ 10 ∧ x < 1114112) :
    CuTen [.str d, .str g, .tup (sz.map Dt.int), .int l, .tup [.str m1, .str m2], .tup [.str p1, .str p2], .str f, .tup (ws.map wd), .str b, .str a]
theorem th_str {z : Str} (h : z.length ≤ 1000) (c : ∀ x ∈ z.cps.toList, x < 1114112) : ∀ n, ThN n (.str z)
  | 0 => ⟨.inl rfl, (fun y e => by cases e; exact txok_of (by omega) c), (fun _ e => nomatch e), fun _ e => nomatch e⟩
  | n + 1 => ⟨(th_str h c n).t0, fun _ e => nomatch e⟩
theorem th_int {i : Int} : ∀ n, ThN n (.int i)
  | 0 => ⟨.inl rfl, (fun _ e => nomatch e), (fun _ e => nomatch e), fun _ e => nomatch e⟩
  | n + 1 => ⟨(th_int n).t0, fun _ e => nomatch e⟩
theorem th_tup {es : List Dt} {n : Nat} (h : es.length ≤ 1000) (k : ∀ e ∈ es, ThN n e) : ThN (n + 1) (.tup es) :=
  ⟨⟨.inl rfl, (fun _ e => nomatch e), (fun _ e => by cases e; exact h), fun _ e => nomatch e⟩, fun _ e => by cases e; exact k⟩
theorem signs_pair {n : Str} {a b : Str} {R : List Nat} (e : signsD n (.tup [.str a, .str b]) = Txt.join "" ([.str a, .str b].map txtOf)) (ha : ∀ x ∈ a.cps.toList, x ∈ R) (hb : ∀ x ∈ b.cps.toList, x ∈ R) : ∀ x ∈ (signsD n (.tup [.str a, .str b])).cps.toList, x ∈ R := by
  intro x hx
  rw [e, mem_join] at hx
  obtain ⟨y, hy, hx⟩ := hx
  rcases List.mem_cons.mp hy with rfl | hy
  · exact ha x hx
  · rw [List.mem_singleton.mp hy] at hx; exact hb x hx
theorem no_signs {R : List Nat} : ∀ x ∈ ("" : Str).cps.toList, x ∈ R := fun x hx => by
  rw [show ("" : Str).cps.toList = [] by decide +kernel] at hx
  cases hx
theorem CuTen.len {fs : List Dt} (h : CuTen fs) : fs.length = 10 := by cases h; rfl
theorem CuTen.none {a b c d e f g h i j : Dt} (t : CuTen [a, b, c, d, e, f, g, h, i, j]) : faultC "" (cuF a b c d e f g h i j) = none := by
  cases t with
  | @mk d g sz l m1 m2 p1 p2 f ws b a Rd Rg Rm Rp Rw Rb Ra hd hg s1 s4 hs l1 l4 hm1 hm2 hm hp1 hp2 hp hf nf w6 hw up ap b1 b3 a1 a3 id ig im1 im2 ip1 ip2 ib ia dis cl =>
  refine fault_none [(("point", .str d), Rd), (("group", .str g), Rg), (("sizes", .tup (sz.map Dt.int)), []), (("least", .int l), []), (("minus", .tup [.str m1, .str m2]), Rm), (("plus", .tup [.str p1, .str p2]), Rp), (("figures", .str f), f.cps.toList), (("words", .tup (ws.map wd)), Rw), (("between", .str b), Rb), (("about", .str a), Ra)] "" ?_ ?_
  · have cd : Clean d := fun x hx => cl x (.inl (id x hx))
    have cm1 : Clean m1 := fun x hx => cl x (.inr (.inl (im1 x hx)))
    have cm2 : Clean m2 := fun x hx => cl x (.inr (.inl (im2 x hx)))
    have cp1 : Clean p1 := fun x hx => cl x (.inr (.inr (.inl (ip1 x hx))))
    have cp2 : Clean p2 := fun x hx => cl x (.inr (.inr (.inl (ip2 x hx))))
    have cf : Clean f := fun x hx => cl x (.inr (.inr (.inr (.inl hx))))
    have cw : ∀ q ∈ ws, Clean q.2 := fun q hq x hx => cl x (.inr (.inr (.inr (.inr (.inl ((hw q hq).2.2.2.2 x hx))))))
    have cb : Clean b := fun x hx => cl x (.inr (.inr (.inr (.inr (.inr (.inl (ib x hx)))))))
    have ca : Clean a := fun x hx => cl x (.inr (.inr (.inr (.inr (.inr (.inr (ia x hx)))))))
    have nn : ∀ x : Nat, x ∉ ("" : Str).cps.toList := fun x hx => nomatch no_signs (R := []) x hx
    intro q hq
    simp only [List.mem_cons, List.not_mem_nil, or_false] at hq
    rcases hq with rfl | rfl | rfl | rfl | rfl | rfl | rfl | rfl | rfl | rfl
    · exact ⟨isText_of cd (by omega) (by omega), id, fun x _ => nn x⟩
    · refine ⟨?_, ig, fun x _ => nn x⟩
      show isGroupD (.str g) = true
      unfold isGroupD
      rcases hg with rfl | ⟨g1, cg⟩
      · rw [Bool.or_eq_true]; exact .inr (by decide +kernel)
      · rw [isText_of cg (by omega) (by omega)]; rfl
    · exact ⟨right_sizes s1 s4 hs, no_signs, fun x _ => nn x⟩
    · refine ⟨?_, no_signs, fun x _ => nn x⟩
      show (decide (1 ≤ l) && decide (l ≤ 4)) = true
      rw [decide_eq_true l1, decide_eq_true l4]; rfl
    · exact ⟨right_sides cm1 cm2 hm1 hm2 hm, signs_pair rfl im1 im2, fun x _ => nn x⟩
    · exact ⟨right_sides cp1 cp2 hp1 hp2 hp, signs_pair rfl ip1 ip2, fun x _ => nn x⟩
    · exact ⟨right_figs cf hf nf, fun x hx => hx, fun x _ => nn x⟩
    · refine ⟨right_words w6 (fun q hq => ⟨(hw q hq).1, (hw q hq).2.1, (hw q hq).2.2.1, (hw q hq).2.2.2.1, cw q hq⟩) up ap, fun x hx => ?_, fun x _ => nn x⟩
      have hx : x ∈ (Txt.join "" ((ws.map wd).map wTxt)).cps.toList := hx
      obtain ⟨y, hy, hx⟩ := mem_join.mp hx
      rw [List.map_map] at hy
      obtain ⟨q, hq, rfl⟩ := List.mem_map.mp hy
      exact (hw q hq).2.2.2.2 x hx
    · exact ⟨isText_of cb (by omega) (by omega), ib, fun x _ => nn x⟩
    · exact ⟨isText_of ca (by omega) (by omega), ia, fun x _ => nn x⟩
  · rw [← List.pairwise_map (f := fun q : (Str × Dt) × List Nat => q.2) (R := fun u v => ∀ x ∈ v, x ∉ u)]
    exact dis
theorem CuTen.th {fs : List Dt} (t : CuTen fs) : ∀ d ∈ fs, ThN 3 d := by
  cases t with
  | @mk d g sz l m1 m2 p1 p2 f ws b a Rd Rg Rm Rp Rw Rb Ra hd hg s1 s4 hs l1 l4 hm1 hm2 hm hp1 hp2 hp hf nf w6 hw up ap b1 b3 a1 a3 id ig im1 im2 ip1 ip2 ib ia dis cl =>
  have cm1 : ∀ x ∈ m1.cps.toList, x < 1114112 := fun x hx => (cl x (.inr (.inl (im1 x hx)))).2.2
  have cm2 : ∀ x ∈ m2.cps.toList, x < 1114112 := fun x hx => (cl x (.inr (.inl (im2 x hx)))).2.2
  have cp1 : ∀ x ∈ p1.cps.toList, x < 1114112 := fun x hx => (cl x (.inr (.inr (.inl (ip1 x hx))))).2.2
  have cp2 : ∀ x ∈ p2.cps.toList, x < 1114112 := fun x hx => (cl x (.inr (.inr (.inl (ip2 x hx))))).2.2
  have cg : ∀ x ∈ g.cps.toList, x < 1114112 := by
    rcases hg with rfl | ⟨_, cg⟩
    · decide +kernel
    · exact fun x hx => (cg x hx).2.2
  have gl : g.length ≤ 1 := by
    rcases hg with rfl | ⟨h, _⟩
    · decide +kernel
    · exact h
  intro e he
  simp only [List.mem_cons, List.not_mem_nil, or_false] at he
  rcases he with rfl | rfl | rfl | rfl | rfl | rfl | rfl | rfl | rfl | rfl
  · exact th_str (by omega) (fun x hx => (cl x (.inl (id x hx))).2.2) _
  · exact th_str (by omega) cg _
  · refine th_tup (by rw [List.length_map]; omega) fun e he => ?_
    obtain ⟨n, _, rfl⟩ := List.mem_map.mp he
    exact th_int _
  · exact th_int _
  · refine th_tup (by show 2 ≤ 1000; decide) fun e he => ?_
    rcases List.mem_cons.mp he with rfl | he
    · exact th_str (by omega) cm1 _
    · rw [List.mem_singleton.mp he]; exact th_str (by omega) cm2 _
  · refine th_tup (by show 2 ≤ 1000; decide) fun e he => ?_
    rcases List.mem_cons.mp he with rfl | he
    · exact th_str (by omega) cp1 _
    · rw [List.mem_singleton.mp he]; exact th_str (by omega) cp2 _
  · exact th_str (by omega) (fun x hx => (cl x (.inr (.inr (.inr (.inl hx))))).2.2) _
  · refine th_tup (by rw [List.length_map]; omega) fun e he => ?_
    obtain ⟨q, hq, rfl⟩ := List.mem_map.mp he
    refine th_tup (by show 2 ≤ 1000; decide) fun e he => ?_
    rcases List.mem_cons.mp he with rfl | he
    · exact th_int _
    · rw [List.mem_singleton.mp he]
      have := (hw q hq).2.2.2.1
      exact th_str (by omega) (fun x hx => (cl x (.inr (.inr (.inr (.inr (.inl ((hw q hq).2.2.2.2 x hx))))))).2.2) _
  · exact th_str (by omega) (fun x hx => (cl x (.inr (.inr (.inr (.inr (.inr (.inl (ib x hx)))))))).2.2) _
  · exact th_str (by omega) (fun x hx => (cl x (.inr (.inr (.inr (.inr (.inr (.inr (ia x hx)))))))).2.2) _
end DL
namespace DL
open PySem PySem.Spec PyProof.Rows L2 TL
def Sw (n b : Nat) (d : Dt) : Prop := ∃ p, toPy d = some p ∧ p.showable = true ∧ p.hasDict = false ∧ p.depth ≤ n ∧ p.leavesShort 2000 = true ∧ p.bulk ≤ b
theorem Sw.mono {n m b c : Nat} {d : Dt} (h : Sw n b d) (hn : n ≤ m) (hb : b ≤ c) : Sw m c d := by
  obtain ⟨p, h1, h2, h3, h4, h5, h6⟩ := h
  exact ⟨p, h1, h2, h3, Nat.le_trans h4 hn, h5, Nat.le_trans h6 hb⟩
theorem sw_str {z : Str} {b : Nat} (h : z.length ≤ b) (g : ∀ c ∈ z.cps.toList, c < 1114112) : Sw 0 b (.str z) := by
  refine ⟨_, rfl, rfl, rfl, ?_, ?_, h⟩
  · simp [PyData.depth]
  · simp only [PyData.leavesShort, List.all_eq_true, decide_eq_true_eq]
    exact fun c hc => Nat.lt_trans (g c hc) (by decide)
theorem sw_int {i : Int} (h : i.natAbs.log2 < 1920) : Sw 0 0 (.int i) := by
  refine ⟨_, rfl, ?_, rfl, ?_, ?_, Nat.le_refl _⟩
  · simpa [PyData.showable] using h
  · simp [PyData.depth]
  · simp only [PyData.leavesShort, decide_eq_true_eq]
    have := toS_len h
    show (toString i : Str).length ≤ 2000
    omega
theorem sw_bl {b : Bool} : Sw 0 0 (.bl b) := by
  refine ⟨_, rfl, rfl, rfl, by simp [PyData.depth], ?_, Nat.le_refl _⟩
  cases b <;> rfl
theorem swAll {n b : Nat} : ∀ {es : List Dt}, (∀ e ∈ es, Sw n b e) → ∃ ps, toPyL es = some ps ∧ PyData.showableAll ps = true ∧ PyData.hasDictAll ps = false ∧ PyData.depthAll ps ≤ n ∧ PyData.leavesShortAll 2000 ps = true ∧ PyData.bulkAll ps ≤ (b + 1) * es.length
  | [], _ => ⟨[], rfl, by simp [PyData.showableAll], by simp [PyData.hasDictAll], by simp [PyData.depthAll], by simp [PyData.leavesShortAll], by simp [PyData.bulkAll]⟩
  | e :: es, h => by
    obtain ⟨p, a1, a2, a3, a4, a5, a6⟩ := h e List.mem_cons_self
    obtain ⟨ps, b1, b2, b3, b4, b5, b6⟩ := swAll fun x hx => h x (List.mem_cons_of_mem _ hx)
    refine ⟨p :: ps, by simp [toPyL, a1, b1], by simp [PyData.showableAll, a2, b2], by simp [PyData.hasDictAll, a3, b3], ?_, by simp [PyData.leavesShortAll, a5, b5], ?_⟩
    · simp only [PyData.depthAll]; omega
    · simp only [PyData.bulkAll, List.length_cons, Nat.mul_succ]; omega
theorem sw_lst {n b : Nat} {es : List Dt} (h : ∀ e ∈ es, Sw n b e) : Sw (n + 1) ((b + 1) * es.length) (.lst es) := by
  obtain ⟨ps, b1, b2, b3, b4, b5, b6⟩ := swAll h
  refine ⟨.list ps, by simp [toPy, b1], by simp [PyData.showable, b2], by simp [PyData.hasDict, b3], ?_, by simp [PyData.leavesShort, b5], by simpa [PyData.bulk] using b6⟩
  simp only [PyData.depth]; omega
theorem Sw.ok {n b : Nat} {d : Dt} (h : Sw n b d) (hn : n ≤ 60) (hb : b ≤ 8000) : ∃ p, toPy d = some p ∧ ReprOk p := by
  obtain ⟨p, h1, h2, h3, h4, h5, h6⟩ := h
  refine ⟨p, h1, h2, h3, Nat.le_trans h4 hn, ?_⟩
  have := PyData.shown_le_bulk 2000 (by decide) p h5
  rw [sizeLine_eq]
  omega
def reprP : DFr := fun ds w Q => ∃ d p, ds = [d] ∧ toPy d = some p ∧ ReprOk p ∧ Q (.str p.shown) w
theorem repr_p {n b : Nat} {d : Dt} (h : Sw n b d) (hn : n ≤ 60 := by decide) (hb : b ≤ 8000 := by decide) : ∃ t : Str, ∀ (w : Om) (Q : DK), Q (.str t) w → reprP [d] w Q := by
  obtain ⟨p, h1, h2⟩ := h.ok hn hb
  exact ⟨p.shown, fun w Q q => ⟨d, p, rfl, h1, h2, q⟩⟩
theorem f_reprP {Z : Dx} {k : Nat} (b : Bd Z k) (h100 : 100 ≤ k := by decide) : DFn Z (.builtin "repr") reprP := by
  refine ⟨fun vs H Q => ∃ (d : Dt) (v : V) (w : Om) (Qd : DK), vs = [v] ∧ Rp Z.X.K (hm H w) d v ∧ OmOk Z.X.K w H ∧ reprP [d] w Qd ∧ ∀ v d H' w', Aft Z.X.K w H w' H' → Rp Z.X.K (hm H' w') d v → Qd d w' → Q v H', fun pins s σ H xs us Q I r h => ?_, fun ds vs w H Q QL ok rl h kk => ?_⟩
  · obtain ⟨d, v, w, Qd, rfl, rd, om, ⟨_, p, e0, e, ⟨h1, h2, h3, h4⟩, q⟩, kk⟩ := h
    cases e0
    obtain ⟨u, rfl, ru⟩ := vals1 r
    cases rd with
    | non =>
      cases ru
      cases e
      exact PySem.P.repr_of_none ⟨.str "None", H, I.tok _, ⟨_, rfl⟩, kk _ _ H w (Aft.refl om) .str q⟩
    | @bl b =>
      cases ru
      cases e
      exact PySem.P.repr_of_bool ⟨.str (if b then "True" else "False"), H, I.tok _, ⟨_, by cases b <;> rfl⟩, kk _ _ H w (Aft.refl om) .str (by cases b <;> exact q)⟩
    | @str x =>
      obtain ⟨t, rfl⟩ := ru
      cases e
      exact PySem.P.repr_of_str ⟨.str (reprText x), H, I.tok _, ⟨_, rfl⟩, kk _ _ H w (Aft.refl om) .str q⟩ h4
    | @int i =>
      obtain ⟨t, rfl⟩ := ru
      cases e
      exact PySem.P.repr_of_int (by simpa [PyData.showable] using h1) ⟨.str (toString i), H, I.tok _, ⟨_, rfl⟩, kk _ _ H w (Aft.refl om) .str q⟩
    | @tup a vs ds hx rl =>
      cases ru
      exact repr_data b h100 I (.tup hx rl) e h1 h2 h3 h4 fun u s' I' => ⟨.str p.shown, H, I', ⟨u, rfl⟩, kk _ _ H w (Aft.refl om) .str q⟩
    | @lst a vs ds hx rl =>
      cases ru
      exact repr_data b h100 I (.lst hx rl) e h1 h2 h3 h4 fun u s' I' => ⟨.str p.shown, H, I', ⟨u, rfl⟩, kk _ _ H w (Aft.refl om) .str q⟩
    | @rl a vs ds hx rl =>
      cases ru
      exact repr_data b h100 I (.rl hx rl) e h1 h2 h3 h4 fun u s' I' => ⟨.str p.shown, H, I', ⟨u, rfl⟩, kk _ _ H w (Aft.refl om) .str q⟩
    | _ => cases e
  · have hq := h
    obtain ⟨d, p, rfl, h⟩ := h
    cases rl with
    | cons rd r2 =>
      cases r2
      exact ⟨d, _, w, Q, rfl, rd, ok, hq, kk⟩
end DL
namespace DL
open PySem PySem.Spec PyProof.Rows L2 TL
def putT (z : Str) (d : Dt) (fs : List (Str × Dt)) : List (Str × Dt) := if (fs.any fun q => decide (q.1 = z)) = true then fs.map (fun q => if q.1 = z then (q.1, d) else q) else fs ++ [(z, d)]
def putTV (z : Str) (d : V) (fs : List (Str × V)) : List (Str × V) := if (fs.any fun q => decide (q.1 = z)) = true then fs.map (fun q => if q.1 = z then (q.1, d) else q) else fs ++ [(z, d)]
theorem RpF.any {K : PySem.W.Frag} {H : Hp} {z : Str} : ∀ {fs : List (Str × Dt)} {gs : List (Str × V)}, RpF K H fs gs → (fs.any fun q => decide (q.1 = z)) = gs.any fun q => decide (q.1 = z)
  | _, _, .nil => rfl
  | _, _, .cons r t => by rw [List.any_cons, List.any_cons, RpF.any t]
theorem RpF.app {K : PySem.W.Frag} {H : Hp} {z : Str} {d : Dt} {v : V} (r : Rp K H d v) : ∀ {fs : List (Str × Dt)} {gs : List (Str × V)}, RpF K H fs gs → RpF K H (fs ++ [(z, d)]) (gs ++ [(z, v)])
  | _, _, .nil => .cons r .nil
  | _, _, .cons q t => .cons q (RpF.app r t)
theorem RpF.mapT {K : PySem.W.Frag} {H : Hp} {z : Str} {d : Dt} {v : V} (r : Rp K H d v) : ∀ {fs : List (Str × Dt)} {gs : List (Str × V)}, RpF K H fs gs → RpF K H (fs.map fun q => if q.1 = z then (q.1, d) else q) (gs.map fun q => if q.1 = z then (q.1, v) else q)
  | _, _, .nil => .nil
  | (g, x) :: fs, (_, y) :: gs, .cons q t => by
    rw [List.map_cons, List.map_cons]
    by_cases e : g = z
    · rw [if_pos e, if_pos e]; exact .cons r (RpF.mapT r t)
    · rw [if_neg e, if_neg e]; exact .cons q (RpF.mapT r t)
theorem RpF.putT {K : PySem.W.Frag} {H : Hp} {z : Str} {d : Dt} {v : V} (r : Rp K H d v) {fs : List (Str × Dt)} {gs : List (Str × V)} (t : RpF K H fs gs) : RpF K H (DL.putT z d fs) (putTV z v gs) := by
  unfold DL.putT putTV
  rw [t.any]
  split
  · exact t.mapT r
  · exact t.app r
def gSubD (to ti : DTE) : DTG := fun d r w Q => to r w fun x w1 => ti r w1 fun y w2 => match y with
  | .str z => ∃ p fs, x = .ptr p ∧ w2 p = some (.dct fs) ∧ fs.length < 1000 ∧ Q r (put w2 p (.dct (putT z d fs)))
  | _ => False
end DL
namespace DL
open PySem PySem.Spec PyProof.Rows L2 TL
def stepD (most : Int) : Dt → Bool
  | .num q => decide (0 < q.num) && (match plc q.den with
    | .int n => decide (n ≤ most)
    | _ => false)
  | _ => false
def unitD : Dt → Bool
  | .tup [.str a, .str b] => (decide ((a.length : Int) ≤ 6) && decide ((b.length : Int) ≤ 6)) && (!Txt.startswith a " " && !Txt.endswith b " ")
  | _ => false
def wiF (a b c d e f g h : Dt) : List (Str × Dt) := [("places", a), ("figures", b), ("step", c), ("way", d), ("signs", e), ("grouped", f), ("scaled", g), ("unit", h)]
end DL
namespace DL
open PySem PySem.Spec PyProof.Rows L2 TL
structure Cst where
  p : Str
  g : Str
  sz : List Int
  l : Int
  m1 : Str
  m2 : Str
  p1 : Str
  p2 : Str
  f : Str
  ws : List (Int × Str)
  b : Str
  a : Str
def Cst.dt (C : Cst) (K : PySem.W.Frag) : Dt := .ins (He.ga K "Custom") (cuF (.str C.p) (.str C.g) (.tup (C.sz.map Dt.int)) (.int C.l) (.tup [.str C.m1, .str C.m2]) (.tup [.str C.p1, .str C.p2]) (.str C.f) (.tup (C.ws.map wd)) (.str C.b) (.str C.a))
structure Wsh where
  lo : Int
  hi : Int
  fig : Option Int
  st : Option Rat
  y : Wy
  all : Bool
  gr : Bool
  sc : Bool
  u1 : Str
  u2 : Str
def optZ : Option Int → Dt
  | none => .non
  | some n => .int n
def optRt : Option Rat → Dt
  | none => .non
  | some n => .num n
def sgnS (b : Bool) : Str := if b then "all" else "minus"
def Wsh.dt (W : Wsh) (K : PySem.W.Frag) : Dt := .ins (He.ga K "Wish") (wiF (.tup [.int W.lo, .int W.hi]) (optZ W.fig) (optRt W.st) (.str W.y.txt) (.str (sgnS W.all)) (.bl W.gr) (.bl W.sc) (.tup [.str W.u1, .str W.u2]))
structure Cst.Ok (C : Cst) : Prop where
  lp : C.p.length ≤ 20
  lg : C.g.length ≤ 20
  lm1 : C.m1.length ≤ 20
  lm2 : C.m2.length ≤ 20
  lp1 : C.p1.length ≤ 20
  lp2 : C.p2.length ≤ 20
  lf : C.f.length = 10
  lb : C.b.length ≤ 20
  la : C.a.length ≤ 20
  lw : C.ws.length ≤ 20
  hw : ∀ q ∈ C.ws, 1 ≤ q.1 ∧ q.1 ≤ 30 ∧ q.2.length ≤ 20
  up : C.ws.Pairwise fun a b => a.1 < b.1
  s0 : C.sz ≠ []
  s4 : C.sz.length ≤ 4
  hs : ∀ n ∈ C.sz, 1 ≤ n ∧ n ≤ 6
  l1 : 1 ≤ C.l
  l4 : C.l ≤ 4
structure Wsh.Ok (W : Wsh) : Prop where
  l0 : 0 ≤ W.lo
  lh : W.lo ≤ W.hi
  hh : W.hi ≤ 12
  fg : ∀ n, W.fig = some n → 1 ≤ n ∧ n ≤ 12
  st : ∀ p, W.st = some p → 0 < p ∧ SzR 100 p
  lu1 : W.u1.length ≤ 6
  lu2 : W.u2.length ≤ 6
end DL
namespace DL
open PySem PySem.Spec PyProof.Rows L2 TL
def dFrzD (te : DTE) : DTE := fun r w Q => te r w fun x w1 => match x with
  | .ptr q => ∃ fs, w1 q = some (.dct fs) ∧ Q (.dct fs) (cut w1 q)
  | _ => False
def dkF (c : Addr) (s n : Int) : List (Str × Dt) := [("cells", .ptr c), ("seed", .int s), ("at", .int n)]
def DkD (w : Om) (D c : Addr) : Prop := D ≠ c ∧ ∃ (cells : List Int) (s n : Int), w D = some (.dct (dkF c s n)) ∧ w c = some (.lst (cells.map Dt.int)) ∧ cells.length ≤ 63
theorem DkD.keep {w w' : Om} {D c : Addr} (h : DkD w D c) (e1 : w' D = w D) (e2 : w' c = w c) : DkD w' D c := by
  obtain ⟨ne, cells, seed, cnt, hD, hc, hl⟩ := h
  exact ⟨ne, cells, seed, cnt, by rw [e1]; exact hD, by rw [e2]; exact hc, hl⟩
theorem DkD.has {w : Om} {D c : Addr} (h : DkD w D c) : (∃ m, w D = some m) ∧ ∃ m, w c = some m := by
  obtain ⟨ne, cells, seed, cnt, hD, hc, hl⟩ := h
  exact ⟨⟨_, hD⟩, _, hc⟩
theorem DkD.ne {w : Om} {D c p : Addr} (h : DkD w D c) (hp : w p = none) : p ≠ D ∧ p ≠ c := by
  obtain ⟨⟨m1, h1⟩, m2, h2⟩ := h.has
  exact ⟨(fun e => by rw [e, h1] at hp; cases hp), (fun e => by rw [e, h2] at hp; cases hp)⟩
theorem DkD.cut {w : Om} {D c p : Addr} (h : DkD w D c) (h1 : p ≠ D) (h2 : p ≠ c) : DkD (cut w p) D c := h.keep (cut_ne h1.symm) (cut_ne h2.symm)
def Cst.fs (C : Cst) : List (Str × Dt) := cuF (.str C.p) (.str C.g) (.tup (C.sz.map Dt.int)) (.int C.l) (.tup [.str C.m1, .str C.m2]) (.tup [.str C.p1, .str C.p2]) (.str C.f) (.tup (C.ws.map wd)) (.str C.b) (.str C.a)
def PGC : List Nat := [46, 44, 32, 39, 95, 59]
def RM : List Nat := [45, 40, 41, 60, 62]
def RPL : List Nat := [43, 42, 61]
def RF : List Nat := [48, 49, 50, 51, 52, 53, 54, 55, 56, 57, 97, 98, 99, 100, 101, 102, 103, 104, 105, 106, 79, 81]
def RW : List Nat := [75, 77, 84, 66, 72, 87, 89, 65, 67, 68, 69, 70]
def RB : List Nat := [126, 38]
def RA : List Nat := [64, 35]
def subB (a b : List Nat) : Bool := a.all fun x => b.contains x
def disB (a b : List Nat) : Bool := b.all fun x => !a.contains x
theorem subB_in {a b : List Nat} (h : subB a b = true) {x : Nat} (hx : x ∈ a) : x ∈ b := by
  have := List.all_eq_true.mp h x hx
  simpa using this
theorem disB_in {a b : List Nat} (h : disB a b = true) {x : Nat} (hx : x ∈ b) : x ∉ a := by
  have := List.all_eq_true.mp h x hx
  simpa using this
def PgP (q : Str × Str) : Prop := (rightD "point" (.str q.1) = true ∧ rightD "group" (.str q.2) = true ∧ disB q.1.cps.toList q.2.cps.toList = true ∧ subB q.1.cps.toList PGC = true ∧ subB q.2.cps.toList PGC = true ∧ q.1.length ≤ 20 ∧ q.2.length ≤ 20) ∧ (q.2 ≠ " " → 32 ∉ q.1.cps.toList ∧ 32 ∉ q.2.cps.toList)
theorem pg_ok : ∀ q, PgP q → rightD "point" (.str q.1) = true ∧ rightD "group" (.str q.2) = true ∧ disB q.1.cps.toList q.2.cps.toList = true ∧ subB q.1.cps.toList PGC = true ∧ subB q.2.cps.toList PGC = true ∧ q.1.length ≤ 20 ∧ q.2.length ≤ 20 := fun _ h => h.1
def SzP (q : List Int) : Prop := areSizesD (.tup (q.map Dt.int)) = true ∧ q ≠ [] ∧ q.length ≤ 4 ∧ ∀ n ∈ q, 1 ≤ n ∧ n ≤ 6
theorem sz_ok : ∀ q, SzP q → areSizesD (.tup (q.map Dt.int)) = true ∧ q ≠ [] ∧ q.length ≤ 4 ∧ ∀ n ∈ q, 1 ≤ n ∧ n ≤ 6 := fun _ h => h
def sd2 (q : Str × Str) : Dt := .tup [.str q.1, .str q.2]
def BelP (q : Str × Str) : Prop := rightD "minus" (sd2 q) = true ∧ subB (signsD "minus" (sd2 q)).cps.toList RM = true ∧ q.1.length ≤ 20 ∧ q.2.length ≤ 20 ∧ subB q.1.cps.toList RM = true ∧ subB q.2.cps.toList RM = true
theorem bel_ok : ∀ q, BelP q → rightD "minus" (sd2 q) = true ∧ subB (signsD "minus" (sd2 q)).cps.toList RM = true ∧ q.1.length ≤ 20 ∧ q.2.length ≤ 20 ∧ subB q.1.cps.toList RM = true ∧ subB q.2.cps.toList RM = true := fun _ h => h
def AbvP (q : Str × Str) : Prop := rightD "plus" (sd2 q) = true ∧ subB (signsD "plus" (sd2 q)).cps.toList RPL = true ∧ q.1.length ≤ 20 ∧ q.2.length ≤ 20 ∧ subB q.1.cps.toList RPL = true ∧ subB q.2.cps.toList RPL = true
theorem abv_ok : ∀ q, AbvP q → rightD "plus" (sd2 q) = true ∧ subB (signsD "plus" (sd2 q)).cps.toList RPL = true ∧ q.1.length ≤ 20 ∧ q.2.length ≤ 20 ∧ subB q.1.cps.toList RPL = true ∧ subB q.2.cps.toList RPL = true := fun _ h => h
def FgsP (q : Str) : Prop := rightD "figures" (.str q) = true ∧ subB q.cps.toList RF = true ∧ q.length = 10
theorem fgs_ok : ∀ q, FgsP q → rightD "figures" (.str q) = true ∧ subB q.cps.toList RF = true ∧ q.length = 10 := fun _ h => h
def upB : List (Int × Str) → Bool
  | [] => true
  | a :: l => (l.all fun b => decide (a.1 < b.1)) && upB l
theorem upB_ok : ∀ {l : List (Int × Str)}, upB l = true → l.Pairwise fun a b => a.1 < b.1
  | [], _ => .nil
  | a :: l, h => by
    unfold upB at h
    rw [Bool.and_eq_true] at h
    exact List.Pairwise.cons (fun b hb => of_decide_eq_true (List.all_eq_true.mp h.1 b hb)) (upB_ok h.2)
def WdsP (q : List (Int × Str)) : Prop := rightD "words" (.tup (q.map wd)) = true ∧ subB (signsD "words" (.tup (q.map wd))).cps.toList RW = true ∧ q.length ≤ 20 ∧ upB q = true ∧ ∀ x ∈ q, 1 ≤ x.1 ∧ x.1 ≤ 30 ∧ x.2.length ≤ 20 ∧ subB x.2.cps.toList RW = true
theorem wds_ok : ∀ q, WdsP q → rightD "words" (.tup (q.map wd)) = true ∧ subB (signsD "words" (.tup (q.map wd))).cps.toList RW = true ∧ q.length ≤ 20 ∧ upB q = true ∧ ∀ x ∈ q, 1 ≤ x.1 ∧ x.1 ≤ 30 ∧ x.2.length ≤ 20 ∧ subB x.2.cps.toList RW = true := fun _ h => h
def BtwP (q : Str) : Prop := rightD "between" (.str q) = true ∧ subB q.cps.toList RB = true ∧ q.length ≤ 20
theorem btw_ok : ∀ q, BtwP q → rightD "between" (.str q) = true ∧ subB q.cps.toList RB = true ∧ q.length ≤ 20 := fun _ h => h
def AbtP (q : Str) : Prop := rightD "about" (.str q) = true ∧ subB q.cps.toList RA = true ∧ q.length ≤ 20
theorem abt_ok : ∀ q, AbtP q → rightD "about" (.str q) = true ∧ subB q.cps.toList RA = true ∧ q.length ≤ 20 := fun _ h => h
structure Pool (C : Cst) : Prop where
  pg : PgP (C.p, C.g)
  sz : SzP C.sz
  l : 1 ≤ C.l ∧ C.l ≤ 4
  m : BelP (C.m1, C.m2)
  pl : AbvP (C.p1, C.p2)
  f : FgsP C.f
  ws : WdsP C.ws
  b : BtwP C.b
  a : AbtP C.a
theorem Pool.ok {C : Cst} (h : Pool C) : C.Ok := by
  obtain ⟨_, _, _, _, _, a1, a2⟩ := pg_ok _ h.pg
  obtain ⟨_, b1, b2, b3⟩ := sz_ok _ h.sz
  obtain ⟨_, _, c1, c2, _⟩ := bel_ok _ h.m
  obtain ⟨_, _, d1, d2, _⟩ := abv_ok _ h.pl
  obtain ⟨_, _, e1⟩ := fgs_ok _ h.f
  obtain ⟨_, _, f1, f2, f3⟩ := wds_ok _ h.ws
  obtain ⟨_, _, g1⟩ := btw_ok _ h.b
  obtain ⟨_, _, h1⟩ := abt_ok _ h.a
  have := h.l
  exact ⟨a1, a2, c1, c2, d1, d2, e1, g1, h1, f1, fun q hq => ⟨(f3 q hq).1, (f3 q hq).2.1, (f3 q hq).2.2.1⟩, upB_ok f2, b1, b2, b3, by omega, by omega⟩
theorem Pool.none {C : Cst} (h : Pool C) : faultC "" C.fs = none := by
  obtain ⟨a1, a2, a3, a4, a5, _⟩ := pg_ok _ h.pg
  obtain ⟨b0, _⟩ := sz_ok _ h.sz
  obtain ⟨c1, c2, _⟩ := bel_ok _ h.m
  obtain ⟨d1, d2, _⟩ := abv_ok _ h.pl
  obtain ⟨e1, e2, _⟩ := fgs_ok _ h.f
  obtain ⟨f1, f2, _⟩ := wds_ok _ h.ws
  obtain ⟨g1, g2, _⟩ := btw_ok _ h.b
  obtain ⟨h1, h2, _⟩ := abt_ok _ h.a
  have l1 := h.l
  refine fault_none [(("point", .str C.p), C.p.cps.toList), (("group", .str C.g), C.g.cps.toList), (("sizes", .tup (C.sz.map Dt.int)), []), (("least", .int C.l), []), (("minus", .tup [.str C.m1, .str C.m2]), RM), (("plus", .tup [.str C.p1, .str C.p2]), RPL), (("figures", .str C.f), RF), (("words", .tup (C.ws.map wd)), RW), (("between", .str C.b), RB), (("about", .str C.a), RA)] "" ?_ ?_
  · have nn : ∀ x : Nat, x ∉ ("" : Str).cps.toList := fun x hx => nomatch no_signs (R := []) x hx
    intro q hq
    simp only [List.mem_cons, List.not_mem_nil, or_false] at hq
    rcases hq with rfl | rfl | rfl | rfl | rfl | rfl | rfl | rfl | rfl | rfl
    · exact ⟨a1, fun x hx => hx, fun x _ => nn x⟩
    · exact ⟨a2, fun x hx => hx, fun x _ => nn x⟩
    · exact ⟨b0, no_signs, fun x _ => nn x⟩
    · refine ⟨?_, no_signs, fun x _ => nn x⟩
      show (decide (1 ≤ C.l) && decide (C.l ≤ 4)) = true
      rw [decide_eq_true l1.1, decide_eq_true (by omega)]; rfl
    · exact ⟨c1, fun x hx => subB_in c2 hx, fun x _ => nn x⟩
    · exact ⟨d1, fun x hx => subB_in d2 hx, fun x _ => nn x⟩
    · exact ⟨e1, fun x hx => subB_in e2 hx, fun x _ => nn x⟩
    · exact ⟨f1, fun x hx => subB_in f2 hx, fun x _ => nn x⟩
    · exact ⟨g1, fun x hx => subB_in g2 hx, fun x _ => nn x⟩
    · exact ⟨h1, fun x hx => subB_in h2 hx, fun x _ => nn x⟩
  · have pgd : ∀ (u : Str), subB u.cps.toList PGC = true → ∀ R : List Nat, disB PGC R = true → ∀ x ∈ R, x ∉ u.cps.toList := fun u hu R hR x hx hxu => disB_in hR hx (subB_in hu hxu)
    have dd : ∀ A B : List Nat, disB A B = true → ∀ x ∈ B, x ∉ A := fun A B h x hx => disB_in h hx
    simp only [List.pairwise_cons, List.mem_cons, List.not_mem_nil, forall_eq_or_imp, false_or, or_false, forall_eq, false_implies, implies_true, and_true, true_and, List.Pairwise.nil, not_false_eq_true]
    refine ⟨⟨dd _ _ a3, pgd _ a4 _ (by decide), pgd _ a4 _ (by decide), pgd _ a4 _ (by decide), pgd _ a4 _ (by decide), pgd _ a4 _ (by decide), pgd _ a4 _ (by decide)⟩,
      ⟨pgd _ a5 _ (by decide), pgd _ a5 _ (by decide), pgd _ a5 _ (by decide), pgd _ a5 _ (by decide), pgd _ a5 _ (by decide), pgd _ a5 _ (by decide)⟩, ?_⟩
    exact ⟨⟨dd _ _ (by decide), dd _ _ (by decide), dd _ _ (by decide), dd _ _ (by decide), dd _ _ (by decide)⟩, ⟨dd _ _ (by decide), dd _ _ (by decide), dd _ _ (by decide), dd _ _ (by decide)⟩,
      ⟨dd _ _ (by decide), dd _ _ (by decide), dd _ _ (by decide)⟩, ⟨dd _ _ (by decide), dd _ _ (by decide)⟩, dd _ _ (by decide)⟩
theorem th_all {z : Str} (h : subB z.cps.toList (PGC ++ RM ++ RPL ++ RF ++ RW ++ RB ++ RA) = true) (l : z.length ≤ 20) (n : Nat) : ThN n (.str z) := by
  refine th_str (by omega) (fun x hx => ?_) n
  have h1 := subB_in h hx
  have h2 : ∀ y ∈ PGC ++ RM ++ RPL ++ RF ++ RW ++ RB ++ RA, y < 1114112 := by decide
  exact h2 x h1
theorem subB_mono {a b c : List Nat} (h : subB a b = true) (k : ∀ x ∈ b, x ∈ c) : subB a c = true := by
  unfold subB
  rw [List.all_eq_true]
  intro x hx
  have := k x (subB_in h hx)
  simpa using this
def ALLS : List Nat := PGC ++ RM ++ RPL ++ RF ++ RW ++ RB ++ RA
theorem in_all {x : Nat} (h : x ∈ PGC ∨ x ∈ RM ∨ x ∈ RPL ∨ x ∈ RF ∨ x ∈ RW ∨ x ∈ RB ∨ x ∈ RA) : x ∈ ALLS := by
  unfold ALLS
  simp only [List.mem_append]
  rcases h with h | h | h | h | h | h | h <;> simp [h]
theorem Pool.th {C : Cst} (h : Pool C) : ∀ q ∈ C.fs, ThN 3 q.2 := by
  obtain ⟨_, _, _, a4, a5, a6, a7⟩ := pg_ok _ h.pg
  obtain ⟨_, b1, b2, b3⟩ := sz_ok _ h.sz
  obtain ⟨_, _, c1, c2, c3, c4⟩ := bel_ok _ h.m
  obtain ⟨_, _, d1, d2, d3, d4⟩ := abv_ok _ h.pl
  obtain ⟨_, e2, e3⟩ := fgs_ok _ h.f
  obtain ⟨_, _, f1, _, f3⟩ := wds_ok _ h.ws
  obtain ⟨_, g2, g3⟩ := btw_ok _ h.b
  obtain ⟨_, h2, h3⟩ := abt_ok _ h.a
  have S : ∀ {z : Str} {R : List Nat}, subB z.cps.toList R = true → (∀ x ∈ R, x ∈ ALLS) → z.length ≤ 20 → ∀ n, ThN n (.str z) := fun s k l n => th_all (subB_mono s k) l n
  have two : ∀ {y z : Str}, (∀ n, ThN n (.str y)) → (∀ n, ThN n (.str z)) → ThN 3 (.tup [.str y, .str z]) := fun hy hz => by
    refine th_tup (by show 2 ≤ 1000; decide) fun e he => ?_
    rcases List.mem_cons.mp he with rfl | he
    · exact hy _
    · rw [List.mem_singleton.mp he]; exact hz _
  intro q hq
  unfold Cst.fs cuF at hq
  simp only [List.mem_cons, List.not_mem_nil, or_false] at hq
  rcases hq with rfl | rfl | rfl | rfl | rfl | rfl | rfl | rfl | rfl | rfl
  · exact S a4 (fun x hx => in_all (.inl hx)) a6 _
  · exact S a5 (fun x hx => in_all (.inl hx)) a7 _
  · refine th_tup (by rw [List.length_map]; omega) fun e he => ?_
    obtain ⟨n, _, rfl⟩ := List.mem_map.mp he
    exact th_int _
  · exact th_int _
  · exact two (S c3 (fun x hx => in_all (.inr (.inl hx))) c1) (S c4 (fun x hx => in_all (.inr (.inl hx))) c2)
  · exact two (S d3 (fun x hx => in_all (.inr (.inr (.inl hx)))) d1) (S d4 (fun x hx => in_all (.inr (.inr (.inl hx)))) d2)
  · exact S e2 (fun x hx => in_all (.inr (.inr (.inr (.inl hx))))) (by show C.f.length ≤ 20; omega) _
  · refine th_tup (by rw [List.length_map]; omega) fun e he => ?_
    obtain ⟨q, hq, rfl⟩ := List.mem_map.mp he
    refine th_tup (by show 2 ≤ 1000; decide) fun e he => ?_
    rcases List.mem_cons.mp he with rfl | he
    · exact th_int _
    · rw [List.mem_singleton.mp he]
      exact S (f3 q hq).2.2.2 (fun x hx => in_all (.inr (.inr (.inr (.inr (.inl hx)))))) (f3 q hq).2.2.1 _
  · exact S g2 (fun x hx => in_all (.inr (.inr (.inr (.inr (.inr (.inl hx))))))) g3 _
  · exact S h2 (fun x hx => in_all (.inr (.inr (.inr (.inr (.inr (.inr hx))))))) h3 _
structure Ask where
  lo : Int
  hi : Int
  fig : Option Int
  st : Option (Int × Int)
  y : Wy
  all : Bool
  gr : Bool
  sc : Bool
  u1 : Str
  u2 : Str
def Ask.W (A : Ask) : Wsh := ⟨A.lo, A.hi, A.fig, A.st.map fun p => Rat.divInt p.1 p.2, A.y, A.all, A.gr, A.sc, A.u1, A.u2⟩
def optP : Option (Int × Int) → Dt
  | none => .non
  | some p => .tup [.int p.1, .int p.2]
def askF (a b c d e f g h : Dt) : List (Str × Dt) := wiF a b c d e f g h
def Ask.fs (A : Ask) : List (Str × Dt) := askF (.tup [.int A.lo, .int A.hi]) (optZ A.fig) (optP A.st) (.str A.y.txt) (.str (sgnS A.all)) (.bl A.gr) (.bl A.sc) (.tup [.str A.u1, .str A.u2])
def Ask.dt (A : Ask) : Dt := .dct A.fs
structure Ask.Good (A : Ask) : Prop where
  l0 : 0 ≤ A.lo
  lh : A.lo ≤ A.hi
  hh : A.hi ≤ 12
  fg : ∀ n, A.fig = some n → 1 ≤ n ∧ n ≤ 12
  st : ∀ p, A.st = some p → 0 < p.1 ∧ 0 < p.2 ∧ Sz 41 p.1 ∧ Sz 41 p.2 ∧ stepD A.hi (.num (Rat.divInt p.1 p.2)) = true
  x1 : A.st ≠ none → A.fig = none
  x2 : A.st ≠ none → A.sc = false
  un : unitD (.tup [.str A.u1, .str A.u2]) = true
  uc : (decide (A.u1.length ≤ 6) && decide (A.u2.length ≤ 6) && (A.u1.cps.toList ++ A.u2.cps.toList).all fun c => decide (c < 1114112)) = true
theorem Ask.Good.W {A : Ask} (h : A.Good) : A.W.Ok := by
  have u := h.uc
  rw [Bool.and_eq_true, Bool.and_eq_true, decide_eq_true_eq, decide_eq_true_eq] at u
  refine ⟨h.l0, h.lh, h.hh, h.fg, fun p hp => ?_, u.1.1, u.1.2⟩
  have hp : (A.st.map fun p => Rat.divInt p.1 p.2) = some p := hp
  obtain ⟨s, hs, rfl⟩ := Option.map_eq_some_iff.mp hp
  obtain ⟨a, b, c, d, _⟩ := h.st s hs
  exact ⟨divInt_pos a b, (szr_divInt c d (Int.ne_of_gt b)).mono (by decide)⟩
def InI (a b : Int) (d : Dt) : Prop := ∃ n : Int, d = .int n ∧ a ≤ n ∧ n ≤ b
theorem ini {a b n : Int} (h : a ≤ n) (h2 : n ≤ b) : InI a b (.int n) := ⟨n, rfl, h, h2⟩
end DL
namespace DL
open PySem PySem.Spec PyProof.Rows L2
theorem OmOk.fg {K : PySem.W.Frag} {w w2 : Om} {H : Hp} (ok : OmOk K w H) (h : ∀ a m, w2 a = some m → w a = some m) : Aft K w H w2 H := by
  have sm : Same (hm H w) (hm H w2) := fun b u hb => by
    obtain ⟨h1, h2⟩ := hm_some hb
    have : w2 b = none := by
      cases e : w2 b with
      | none => rfl
      | some m => rw [h b m e] at h1; cases h1
    rw [hm_no this]; exact h2
  refine ⟨sm, fun b m hb => ?_⟩
  obtain ⟨o, h1, h2⟩ := ok b m (h b m hb)
  exact ⟨o, h1, h2.mono sm⟩
end DL
namespace DL
open PySem PySem.Spec PyProof.Rows L2 TL
def sl (l : List Nat) : Str := ⟨l.toArray⟩
structure IsPl (few den n : Nat) : Prop where
  le : few ≤ n
  dv : den ∣ 10 ^ n
  ls : ∀ j, few ≤ j → den ∣ 10 ^ j → n ≤ j
theorem IsPl.one {few den n m : Nat} (a : IsPl few den n) (b : IsPl few den m) : n = m := Nat.le_antisymm (a.ls m b.le b.dv) (b.ls n a.le a.dv)
theorem IsPl.of {few den P : Nat} (h : plc den = .int P) : IsPl few den (max few P) := by
  have d := plc_dvd h
  refine ⟨Nat.le_max_left _ _, Nat.dvd_trans d (Nat.pow_dvd_pow 10 (Nat.le_max_right _ _)), fun j hf hj => ?_⟩
  refine Nat.max_le.mpr ⟨hf, ?_⟩
  cases P with
  | zero => exact Nat.zero_le _
  | succ P =>
    refine Classical.byContradiction fun z => ?_
    exact plc_least h (Nat.dvd_trans hj (Nat.pow_dvd_pow 10 (by omega)))
def GrpOn (g : Str) (s : List Int) (l : Int) (n : Nat) : Prop := ¬ (g = "" ∨ (n : Int) < s.headD 1 + l)
instance : Decidable (GrpOn g s l n) := by unfold GrpOn; infer_instance
end DL
namespace DL
open PySem PySem.Spec PyProof.Rows L2 TL
def z0 (C : Cst) : Nat := (tl C.f).getD 0 0
end DL
namespace TQL
open PySem PySem.SeqAt
open AutoSeq1 (wpAny_loadPart')
open MeetsSeq MeetsSeq2 MeetsSeq3 SeqRoads2
section
variable {prog : Program} {w : World} {A : Around} {R : Result → Shared → Prop}
theorem tup_eqI (l b : Addr) (xs ys : Array Value) (n n2 : Nat) (dd dd2 : Option Addr) (sl sl2 : Array (Option Value)) (I : List (Value × Value) → Shared → Prop)
    (turn : ∀ y x rest s, I ((y, x) :: rest) s → wpAny (model prog w) A.in1 (eqBool y x) (fun r s' => if r = true then I rest s' else R (.ok (.ret (.bool false))) s') (fun e s' => R (.error e) s') s)
    (fin : ∀ s, I [] s → R (.ok (.ret (.bool (xs.size == ys.size)))) s) {s : Shared} (hl : s.heap.get? l = some { cls := .type "tuple", dict := dd, data := .seq xs n, slots := sl }) (hb : s.heap.get? b = some { cls := .type "tuple", dict := dd2, data := .seq ys n2, slots := sl2 }) (h : I (xs.toList.zip ys.toList) s) :
    wpAny (model prog w) A.in1 (Builtin.«tuple.__eq__» ⟨[.ref l, .ref b], []⟩) (GQ.FinOf prog w A R) (fun e s' => R (.error e) s') s := by
  have h0 := h
  have f2 := AutoSeq1.sub_tuple_tuple
  obtain ⟨hp, g, d, tk, os⟩ := s
  wp_walk using wpAny_loadPart' hl, wpAny_loadPart' hb, wpAny_forIn_list _ (fun rest b s' => b.1 = none ∧ I rest s') _
  case turn =>
    rintro ⟨y, x⟩ rest b s' ⟨hb', hI⟩
    refine wpAny_bind (wpAny_mono (turn y x rest s' hI) (fun r s2 q2 => ?_) fun _ _ x => x)
    cases r with
    | true =>
      obtain ⟨hp2, g2, d2, tk2, os2⟩ := s2
      wp_walk
      exact ⟨rfl, by simpa using q2⟩
    | false =>
      obtain ⟨hp2, g2, d2, tk2, os2⟩ := s2
      wp_walk
      simpa using q2
  case fin =>
    rintro ⟨b1, b2⟩ s' ⟨hb', hI⟩
    simp only at hb'
    subst hb'
    have hR := fin s' hI
    wp_walk
    simpa [Builtin.Tuple.tupleCompareSizes] using hR
  case h =>
    exact ⟨rfl, h0⟩
end
end TQL
namespace DL
open PySem PySem.Spec PyProof.Rows L2
def eqI : Dt → Dt → Option Bool
  | .num q, .num p => some (decide (q = p))
  | x, y => match toPy x, toPy y with
    | some a, some b => if SeqAt.shaped a = true ∧ SeqAt.shaped b = true then some (PyData.eqv a b) else none
    | _, _ => none
def eqQL : List Dt → List Dt → Option Bool
  | [], [] => some true
  | [], _ :: _ => some false
  | _ :: _, [] => some false
  | x :: xs, y :: ys => match eqI x y with
    | some true => eqQL xs ys
    | some false => some false
    | none => none
section
variable {Z : Dx} {k j : Nat} {sp : DSp}
theorem item_eqI (E : EqAtN Z j) {A : Around} (fr : A.frames = Z.X.A.frames) (rm : Rm j A) (hu : A.units + 64 < cLine) {pins : List (Addr × Obj)} {σ : L2.St} {H : Hp} {s : Shared} {w : Om} {d e : Dt} {x y : V} {u v : Value} {r : Bool} (I : Inv Z.X pins σ H s) (om : OmOk Z.X.K w H)
    (rx : Rp Z.X.K (hm H w) d x) (ry : Rp Z.X.K (hm H w) e y) (ru : RelV x u) (rv : RelV y v) (h : eqI d e = some r) : wpAny (model Z.X.prog Z.X.w) A (eqBool u v) (fun r' s' => r' = r ∧ ∃ H', Inv Z.X pins σ H' s' ∧ Aft Z.X.K w H w H') Z.X.xe s := by
  have data : (match toPy d, toPy e with
    | some a, some b => if SeqAt.shaped a = true ∧ SeqAt.shaped b = true then some (PyData.eqv a b) else none
    | _, _ => none) = some r → wpAny (model Z.X.prog Z.X.w) A (eqBool u v) (fun r' s' => r' = r ∧ ∃ H', Inv Z.X pins σ H' s' ∧ Aft Z.X.K w H w H') Z.X.xe s := fun h => by
    cases e1 : toPy d with
    | none => rw [e1] at h; cases h
    | some a =>
      cases e2 : toPy e with
      | none => rw [e1, e2] at h; cases h
      | some b =>
        rw [e1, e2] at h
        dsimp only at h
        split at h
        · rename_i hs
          obtain ⟨as, r1⟩ := Dp.reads I a x u (rx.up.dp e1) ru
          obtain ⟨bs, r2⟩ := Dp.reads I b y v (ry.up.dp e2) rv
          have q := SeqAt.eqAt_reads a b A s u v as bs r1 r2 (SeqAt.canLay_of_shaped hs.1) (SeqAt.canLay_of_shaped hs.2) (SeqAt.room_of_shaped hs.1 hu)
          exact q Z.X.prog Z.X.w Z.X.xe _ ⟨Option.some.inj h, H, I, Aft.refl om⟩
        · cases h
  unfold eqI at h
  split at h
  · have e0 := Option.some.inj h
    subst e0
    exact E.run fr rm I om ⟨x, rx, ru⟩ ⟨y, ry, rv⟩
  · exact data h
theorem tup_core (b : Bd Z k) (E : EqAtN Z j) (hj : j + 1 ≤ k) {pins : List (Addr × Obj)} {σ : L2.St} {H : Hp} {s : Shared} {w : Om} {S T : Addr} {ds es : List Dt} {r : Bool} {P : Value → Shared → Prop} (I : Inv Z.X pins σ H s) (om : OmOk Z.X.K w H)
    (rx : Rp Z.X.K (hm H w) (.tup ds) (.ref S)) (ry : Rp Z.X.K (hm H w) (.tup es) (.ref T)) (hr : eqQL ds es = some r)
    (h : ∀ s' H', Inv Z.X pins σ H' s' → Aft Z.X.K w H w H' → P (.bool r) s') : wpAny (model Z.X.prog Z.X.w) Z.X.A (richCompare .Eq (.ref S) (.ref T)) P Z.X.xe s := by
  cases rx with
  | @tup a vs _ hx rl => cases ry with
    | @tup a2 us _ hy rl2 =>
      obtain ⟨its, rvs, ⟨⟨cls, dd, data, sl⟩, ho, hc, n, hd⟩, hlen⟩ := I.tuple (up_t hx)
      obtain ⟨its2, rvs2, ⟨⟨cls2, dd2, data2, sl2⟩, ho2, hc2, n2, hd2⟩, hlen2⟩ := I.tuple (up_t hy)
      simp only at hc hd hc2 hd2
      subst hc hd hc2 hd2
      have r1 : Rm j Z.X.A.in1 := Rm.mono (Rm.in1 (k := k - 1) (by
        have : k - 1 + 1 = k := by omega
        rw [this]; exact b.room)) (by omega)
      have hu : Z.X.A.in1.units + 64 < cLine := r1.room.units
      refine wpAny_richCompare_same_room (op := .Eq) ⟨_, ho, rfl⟩ ⟨_, ho2, rfl⟩ F.slot_tuple_eq (GQ.call_here F.slot_tuple_eq ⟨_, ho, rfl⟩ F.entry_tuple_eq (F.args_tuple_eq_2 _ _) ?_) b.room.room.units0
      refine TQL.tup_eqI (R := callEnd (fun v s' => v ≠ .notImplemented ∧ P v s') Z.X.xe) S T its.toArray its2.toArray n n2 dd dd2 sl sl2 (fun rest s' => ∃ (H' : Hp) (l1 l2 : List Value) (ds' es' : List Dt) (vs' us' : List V), rest = l1.zip l2 ∧ Inv Z.X pins σ H' s' ∧ Aft Z.X.K w H w H' ∧ RpL Z.X.K (hm H' w) ds' vs' ∧ RpL Z.X.K (hm H' w) es' us' ∧ Vals vs' l1 ∧ Vals us' l2 ∧ eqQL ds' es' = some r ∧ (its.length = its2.length ↔ l1.length = l2.length)) ?_ ?_ ho ho2 ⟨H, its, its2, ds, es, vs, us, rfl, I, Aft.refl om, rl, rl2, rvs, rvs2, hr, Iff.rfl⟩
      · rintro y x rest s' ⟨H', l1, l2, ds', es', vs', us', ez, I', A', q1, q2, q3, q4, hr', hl⟩
        cases q3 with
        | nil => cases ez
        | cons v1 q3 => cases q4 with
          | nil => cases ez
          | cons v2 q4 =>
            cases ez
            cases q1 with
            | cons p1 q1 => cases q2 with
              | cons p2 q2 =>
                unfold eqQL at hr'
                cases e1 : eqI _ _ with
                | none => rw [e1] at hr'; cases hr'
                | some c =>
                  rw [e1] at hr'
                  refine wpAny_mono (item_eqI E (A := Z.X.A.in1) rfl r1 hu I' A'.om p1 p2 v1 v2 e1) (fun r' s2 hq => ?_) fun _ _ z => z
                  obtain ⟨er, H2, I2, A2⟩ := hq
                  subst er
                  cases r' with
                  | true =>
                    rw [if_pos rfl]
                    exact ⟨H2, _, _, _, _, _, _, rfl, I2, A'.trans A2, q1.mono A2.same, q2.mono A2.same, q3, q4, hr', by rw [hl, List.length_cons, List.length_cons]; omega⟩
                  | false =>
                    rw [if_neg (by decide)]
                    cases hr'
                    exact ⟨(fun z => nomatch z), h s2 H2 I2 (A'.trans A2)⟩
      · rintro s' ⟨H', l1, l2, ds', es', vs', us', ez, I', A', q1, q2, q3, q4, hr', hl⟩
        refine ⟨(fun z => nomatch z), ?_⟩
        have e : (its.toArray.size == its2.toArray.size) = r := by
          cases q3 with
          | nil =>
            cases q4 with
            | nil =>
              cases q1
              cases q2
              cases hr'
              simpa using hl
            | cons v2 q4 =>
              cases q1
              cases q2
              cases hr'
              have : ¬ its.length = its2.length := fun z => by have := hl.mp z; cases this
              simpa using this
          | cons v1 q3 =>
            cases q4 with
            | nil =>
              cases q1
              cases q2
              cases hr'
              have : ¬ its.length = its2.length := fun z => by have := hl.mp z; cases this
              simpa using this
            | cons v2 q4 => cases ez
        rw [e]
        exact h s' H' I' A'
def eqQR (f : Bool → Bool) : DR2 := fun x y w Q => ∃ xs ys r, x = .tup xs ∧ y = .tup ys ∧ eqQL xs ys = some r ∧ Q (.bl (f r)) w
theorem o_eqQ (b : Bd Z k) (c : CalM Z.X.prog Z.X.w Z.X.K Z.X.mg Z.X.base (cN Z.X.K) "__eq__" j [] sp) (hs : EqSp sp) (hj : j + 1 ≤ k := by decide) : DOp Z (compareOp .Eq) (eqQR id) := by
  refine ⟨fun x y H Q => ∃ (w : Om) (xs ys : List Dt) (r : Bool) (S T : Addr), x = .ref S ∧ y = .ref T ∧ OmOk Z.X.K w H ∧ Rp Z.X.K (hm H w) (.tup xs) x ∧ Rp Z.X.K (hm H w) (.tup ys) y ∧ eqQL xs ys = some r ∧ ∀ H', Aft Z.X.K w H w H' → Q (.bl r) H', fun pins s σ H x y v u Q I rx ry h => ?_, fun dx dy x y w H Q QL ok rx ry h kk => ?_⟩
  · obtain ⟨w, xs, ys, r, S, T, rfl, rfl, om, r1, r2, hr, hQ⟩ := h
    cases rx
    cases ry
    exact tup_core b (eqAtN_of c hs) hj I om r1 r2 hr fun s' H' I' A' => ⟨.bl _, H', I', rfl, hQ H' A'⟩
  · obtain ⟨xs, ys, r, rfl, rfl, hr, q⟩ := h
    cases rx with
    | tup hx rl => cases ry with
      | tup hy rl2 => exact ⟨w, xs, ys, r, _, _, rfl, rfl, ok, .tup hx rl, .tup hy rl2, hr, fun H' A' => kk _ _ H' w A' .bl q⟩
theorem eqI_self {d : Dt} (h : (∃ q, d = .num q) ∨ ∃ p, toPy d = some p ∧ SeqAt.shaped p = true ∧ PyData.eqv p p = true) : eqI d d = some true := by
  rcases h with ⟨q, rfl⟩ | ⟨p, e, h1, h2⟩
  · show some (decide (q = q)) = _
    rw [decide_eq_true rfl]
  · unfold eqI
    split
    · cases e
    · rw [e]
      dsimp only
      rw [if_pos ⟨h1, h1⟩, h2]
end
end DL
namespace DL
open PySem PySem.Spec PyProof.Rows L2 TL
def Ly (n : Nat) (d : Dt) : Prop := ∃ p, toPy d = some p ∧ p.canLay0 = true ∧ p.depth ≤ n
theorem Ly.mono {n m : Nat} {d : Dt} (h : Ly n d) (l : n ≤ m) : Ly m d := by
  obtain ⟨p, h1, h2, h3⟩ := h
  exact ⟨p, h1, h2, Nat.le_trans h3 l⟩
theorem Ly.shaped {n : Nat} {d : Dt} (h : Ly n d) (l : n ≤ 64) : ∃ p, toPy d = some p ∧ SeqAt.shaped p = true ∧ PyData.eqv p p = true := by
  obtain ⟨p, h1, h2, h3⟩ := h
  refine ⟨p, h1, ?_, SeqAt.eqv_refl p h2⟩
  unfold SeqAt.shaped
  rw [h2, decide_eq_true (by omega)]; rfl
theorem Ly.eqI {n : Nat} {d : Dt} (h : Ly n d) (l : n ≤ 64) : eqI d d = some true := eqI_self (.inr (h.shaped l))
theorem Ly.eqG {n : Nat} {d : Dt} (h : Ly n d) (l : n ≤ 64) {f : Bool → Bool} {w : Om} {Q : DK} (q : Q (.bl (f true)) w) : eqG f d d w Q := by
  obtain ⟨p, h1, h2, h3⟩ := h.shaped l
  exact ⟨p, p, h1, h1, h2, h2, by rw [h3]; exact q⟩
end DL
namespace DL
open PySem PySem.Spec PyProof.Rows L2 TL
theorem OmOk.dcz {K : PySem.W.Frag} {w : Om} {H : Hp} (ok : OmOk K w H) {p : Addr} {o : Obj} {gs : List (Str × V)} {fs : List (Str × Dt)} (h : w p = some (.dcz o gs fs)) : H p = some (.frz o (.dK (kyG gs))) ∧ RpF K (hm H w) fs gs := by
  obtain ⟨q, h1, h2⟩ := ok p _ h
  cases h2 with
  | dcz r => exact ⟨h1, r⟩
theorem RpF.at {K : PySem.W.Frag} {H : Hp} : ∀ {fs : List (Str × Dt)} {gs : List (Str × V)} {i : Nat} {n : Str} {v : V}, RpF K H fs gs → gs[i]? = some (n, v) → ∃ d, fs[i]? = some (n, d) ∧ Rp K H d v
  | _, _, _, _, _, .nil, e => by simp at e
  | _, _, 0, _, _, .cons r _, e => by simp at e; obtain ⟨rfl, rfl⟩ := e; exact ⟨_, rfl, r⟩
  | _, _, i + 1, n, v, .cons r t, e => by
    obtain ⟨d, h1, h2⟩ := RpF.at (i := i) (n := n) (v := v) t (by simpa using e)
    exact ⟨d, by simpa using h1, h2⟩
structure NeC (K : PySem.W.Frag) (C : Addr) : Prop where
  ne : PySem.W.findIn K (.ref C) "__ne__" = some (some (.builtin "object.__ne__"))
  ob : PySem.W.mroIn K C (.type "object") = some true
theorem neC_of {K : PySem.W.Frag} {C : Addr} (h : neCB K C = true) : NeC K C := by
  unfold neCB at h
  rw [Bool.and_eq_true] at h
  exact ⟨He.eqO_ok h.1, by simpa using h.2⟩
end DL
namespace OEQ
open PySem PySem.SeqAt PySem.Spec PyProof.Rows
open PySem.W
open AutoSeq1 (wpAny_loadPart')
open MeetsSeq
section
variable {prog : Program} {w : World} {A : Around} {E : Value → Shared → Prop} {s : Shared} {l b : Addr} {C dx : Addr}
structure Odd (prog : Program) (w : World) (h : Heap) (b C : Addr) (T : String) : Prop where
  ty : Looks (model prog w) h (typeOf (.ref b)) (.ref C)
  no : Looks (model prog w) h (isSubtype (.ref C) (.type T)) false
theorem Odd.isi {T : String} (o : Odd prog w s.heap b C T) {A' : Around} {Q : Bool → Shared → Prop} {E' : Value → Shared → Prop} (q : Q false s) : wpAny (model prog w) A' (isInstance (.ref b) (.type T)) Q E' s := by
  unfold isInstance
  exact wpAny_bind (o.ty.here (o.no.here q))
theorem list_declines {items : Array Value} {n : Nat} {dd : Option Addr} {sl : Array (Option Value)} {Q : Value → Shared → Prop} (hl : s.heap.get? l = some { cls := .type "list", dict := dd, data := .seq items n, slots := sl }) (o : Odd prog w s.heap b C "list") (q : Q .notImplemented s) :
    wpAny (model prog w) A (call (.builtin "list.__eq__") [.ref l, .ref b]) Q E s := by
  refine GQ.call_here F.slot_list_eq ⟨_, hl, rfl⟩ F.entry_list_eq (F.args_list_eq_2 _ _) ?_
  have hi : ∀ {A' : Around} {Q : Bool → Shared → Prop} {E' : Value → Shared → Prop}, Q false s → wpAny (model prog w) A' (isInstance (.ref b) (.type "list")) Q E' s := fun q => o.isi q
  clear o
  obtain ⟨hp, g, d, tk, os⟩ := s
  wp_walk using wpAny_loadPart' hl, hi
  exact q
theorem tuple_declines {items : Array Value} {n : Nat} {dd : Option Addr} {sl : Array (Option Value)} {Q : Value → Shared → Prop} (hl : s.heap.get? l = some { cls := .type "tuple", dict := dd, data := .seq items n, slots := sl }) (o : Odd prog w s.heap b C "tuple") (q : Q .notImplemented s) :
    wpAny (model prog w) A (call (.builtin "tuple.__eq__") [.ref l, .ref b]) Q E s := by
  refine GQ.call_here F.slot_tuple_eq ⟨_, hl, rfl⟩ F.entry_tuple_eq (F.args_tuple_eq_2 _ _) ?_
  have hi : ∀ {A' : Around} {Q : Bool → Shared → Prop} {E' : Value → Shared → Prop}, Q false s → wpAny (model prog w) A' (isInstance (.ref b) (.type "tuple")) Q E' s := fun q => o.isi q
  clear o
  obtain ⟨hp, g, d, tk, os⟩ := s
  wp_walk using wpAny_loadPart' hl, hi
  exact q
theorem none_declines {Q : Value → Shared → Prop} (q : Q .notImplemented s) : wpAny (model prog w) A (call (.builtin "NoneType.__eq__") [.none, .ref b]) Q E s := by
  refine GQ.call_here F.slot_NoneType_eq rfl F.entry_NoneType_eq (F.args_NoneType_eq_2 _ _) ?_
  obtain ⟨hp, g, d, tk, os⟩ := s
  wp_walk
  exact q
theorem int_declines {i : Int} {t : Tok} {ob : Obj} {Q : Value → Shared → Prop} (hb : s.heap.get? b = some ob) (hd : ob.data = .plain) (q : Q .notImplemented s) : wpAny (model prog w) A (call (.builtin "int.__eq__") [.int i t, .ref b]) Q E s := by
  obtain ⟨c, dd, da, sl⟩ := ob
  simp only at hd
  subst hd
  refine GQ.call_here F.slot_int_eq rfl F.entry_int_eq (F.args_int_eq_2 _ _) ?_
  obtain ⟨hp, g, d, tk, os⟩ := s
  wp_walk using wpAny_loadPart' hb, wpAny_load hb
  exact q
theorem bool_declines {i : Bool} {ob : Obj} {Q : Value → Shared → Prop} (hb : s.heap.get? b = some ob) (hd : ob.data = .plain) (q : Q .notImplemented s) : wpAny (model prog w) A (call (.builtin "int.__eq__") [.bool i, .ref b]) Q E s := by
  obtain ⟨c, dd, da, sl⟩ := ob
  simp only at hd
  subst hd
  refine GQ.call_here F.slot_bool_eq rfl F.entry_int_eq (F.args_int_eq_2 _ _) ?_
  obtain ⟨hp, g, d, tk, os⟩ := s
  wp_walk using wpAny_loadPart' hb, wpAny_load hb
  exact q
theorem str_declines {i : Str} {t : Tok} {ob : Obj} {Q : Value → Shared → Prop} (hb : s.heap.get? b = some ob) (hd : ob.data = .plain) (q : Q .notImplemented s) : wpAny (model prog w) A (call (.builtin "str.__eq__") [.str i t, .ref b]) Q E s := by
  obtain ⟨c, dd, da, sl⟩ := ob
  simp only at hd
  subst hd
  refine GQ.call_here F.slot_str_eq rfl F.entry_str_eq (F.args_str_eq_2 _ _) ?_
  obtain ⟨hp, g, d, tk, os⟩ := s
  wp_walk using wpAny_loadPart' hb, wpAny_load hb
  exact q
theorem dict_declines {od : Obj} {es : Array DictEntry} {ep : Nat} {Q : Value → Shared → Prop} (hl : s.heap.get? l = some od) (hx : od.ExactDict) (hdat : od.data = .dict es ep) (o : Odd prog w s.heap b C "dict") (q : Q .notImplemented s) :
    wpAny (model prog w) A (call (.builtin "dict.__eq__") [.ref l, .ref b]) Q E s := by
  have hT : s.TypeIs (.ref l) "dict" := ⟨od, hl, hx.1⟩
  refine GQ.call_here F.slot_dict_eq hT F.entry_dict_eq (F.args_dict_eq_2 _ _) ?_
  show wpAny _ _ (Builtin.Dict.dictSlotArgs "__eq__" ⟨[.ref l, .ref b], []⟩ >>= _) _ _ s
  refine wpAny_bind ?_
  unfold Builtin.Dict.dictSlotArgs
  refine wpAny_bind (wpAny_notOrdered_dict hT ?_)
  show wpAny _ _ (pure (Value.ref l, Value.ref b)) _ _ s
  refine wpAny_pure ?_
  refine wpAny_bind (o.isi ?_)
  show wpAny _ _ (rule _ >>= _) _ _ s
  refine wpAny_bind (wpAny_rule ?_)
  exact wpAny_pure q
theorem cmp_back {K : Frag} {h₀ : Heap} {L y f : Addr} {m : Str → Option Value} {oy : Obj} {od : Option Obj} {a : Value} {T id : String} {Q : Value → Shared → Prop} (hu : A.units < cLine) (F : Fr h₀ L s.heap m) (X₀ : K.In h₀) (I : InstAt s.heap y oy C od) (ha : s.TypeIs a T)
    (hsub : subIn K (.ref C) (.type T) = some false) (h1 : Slot T "__eq__" id) (hdec : ∀ Q' : Value → Shared → Prop, Q' .notImplemented s → wpAny (model prog w) A (call (.builtin id) [a, .ref y]) Q' E s)
    (hs : findIn K (.ref C) "__eq__" = some (some (.ref f))) (hf : isFn K (.ref f) = true) (h : wpAny (model prog w) A (call (.ref f) [.ref y, a]) (W.CmpBack Q) E s) : wpAny (model prog w) A (richCompare .Eq a (.ref y)) Q E s := by
  have X := X₀.keeps F.keep
  have one : wpAny (model prog w) A (tryCompare (.ref y) "__eq__" a) (fun r s' => ∃ v, r = some v ∧ Q v s') E s := by
    unfold tryCompare
    refine wpAny_bind (ifBound_K X I hs hf (wpAny_mono h (fun v s' hv => ?_) fun _ _ e => e))
    cases v <;> first | exact hv.elim | exact wpAny_pure ⟨_, rfl, hv⟩
  simp only [richCompare, cmpInfo, ha.oneThing_none]
  try with_reducible refine wpAny_holding ?_
  refine wpAny_bind (wpAny_cRoomFor hu ?_)
  refine wpAny_bind (wpAny_typeOf ha (wpAny_bind (I.type.here ?_)))
  have hne : (Value.type T != Value.ref C) = true := rfl
  simp only [hne, if_true]
  refine wpAny_bind ((looks_subIn X hsub).here ?_)
  simp only [Bool.false_eq_true, if_false, Bool.not_false, if_true]
  refine wpAny_bind (m := tryCompare a _ (.ref y)) (wpAny_tryCompare_declines ha h1 (hdec _ ⟨rfl, ?_⟩))
  refine wpAny_bind (m := tryCompare (.ref y) _ a) (wpAny_mono one (fun r s' z => ?_) fun _ _ e => e)
  obtain ⟨v, rfl, hq⟩ := z
  exact wpAny_pure hq
end
end OEQ
namespace DL
open PySem PySem.Spec PyProof.Rows L2 TL
structure EqK (K : PySem.W.Frag) (C : Addr) (cs : List Str) : Prop where
  to : ∀ T ∈ KIN7, PySem.W.subIn K (.type T) (.ref C) = some false
  fr : ∀ T ∈ KIN7, PySem.W.subIn K (.ref C) (.type T) = some false
  ow : ∀ c ∈ cs, PySem.W.notFirst K C (.ref (He.ga K c)) = true
  ne : NeC K C
theorem eqK_of {K : PySem.W.Frag} {C : Addr} {cs : List Str} (h : eqKB K C cs = true) : EqK K C cs := by
  obtain ⟨h1, h⟩ := He.ba h
  obtain ⟨h2, h⟩ := He.ba h
  obtain ⟨h3, h4⟩ := He.ba h
  exact ⟨fun T hT => by simpa using List.all_eq_true.mp h1 T hT, fun T hT => by simpa using List.all_eq_true.mp h2 T hT, fun c hc => List.all_eq_true.mp h3 c hc, neC_of h4⟩
inductive TyD (K : PySem.W.Frag) (w : Om) : Dt → Value → Prop
  | non : TyD K w .non (.type "NoneType")
  | bl {b : Bool} : TyD K w (.bl b) (.type "bool")
  | int {i : Int} : TyD K w (.int i) (.type "int")
  | str {z : Str} : TyD K w (.str z) (.type "str")
  | tup {ds : List Dt} : TyD K w (.tup ds) (.type "tuple")
  | lst {ds : List Dt} : TyD K w (.lst ds) (.type "list")
  | rl {ds : List Dt} : TyD K w (.rl ds) (.type "list")
  | dct {fs : List (Str × Dt)} : TyD K w (.dct fs) (.type "dict")
  | ptr {p : Addr} {ds : List Dt} : w p = some (.lst ds) → TyD K w (.ptr p) (.type "list")
  | num {q : Rat} : TyD K w (.num q) (.ref (cN K))
  | ins {C : Addr} {fs : List (Str × Dt)} : TyD K w (.ins C fs) (.ref C)
theorem looks_at {P : Program} {w : World} {h : Heap} {a : Addr} {o : Obj} {T : String} (e : h.get? a = some o) (c : o.cls = .type T) : PySem.W.Looks (model P w) h (typeOf (.ref a)) (.type T) :=
  fun A Q E s k q => wpAny_typeOf ⟨o, k _ _ e, c⟩ q
section
variable {Z : Dx} {k j : Nat} {sp : DSp} {C : Addr} {cs : List Str} {pins : List (Addr × Obj)} {σ : L2.St} {H : Hp} {s : Shared} {w : Om} {d e : Dt} {x y : V} {u v : Value} {tb : Value}
theorem looks_ins {X : Cx} {pins : List (Addr × Obj)} {σ : L2.St} {H : Hp} {s : Shared} {a C dx : Addr} {gs : List (Str × V)} (I : Inv X pins σ H s) (h : H a = some (.ins C dx gs)) : ∃ (ob : Obj) (od : Option Obj), PySem.W.InstAt s.heap a ob C od ∧ s.heap.get? a = some ob ∧ ob.data = .plain := by
  obtain ⟨mA, J, _⟩ := ins_get I.hok h
  have J0 := J
  obtain ⟨od, J, _⟩ := J.look
  obtain ⟨ob, _, _⟩ := J0
  exact ⟨_, _, J, ob, rfl⟩
theorem looks_ty (I : Inv Z.X pins σ H s) (om : OmOk Z.X.K w H) (ry : Rp Z.X.K (hm H w) e y) (rv : RelV y v) (t : TyD Z.X.K w e tb) : PySem.W.Looks (model Z.X.prog Z.X.w) s.heap (typeOf v) tb := by
  cases t with
  | non => cases ry; cases rv; exact fun A Q E s k q => wpAny_typeOf rfl q
  | bl => cases ry; cases rv; exact fun A Q E s k q => wpAny_typeOf rfl q
  | int => cases ry; obtain ⟨t, rfl⟩ := rv; exact fun A Q E s k q => wpAny_typeOf rfl q
  | str => cases ry; obtain ⟨t, rfl⟩ := rv; exact fun A Q E s k q => wpAny_typeOf rfl q
  | tup => cases ry with
    | tup hx rl =>
      cases rv
      obtain ⟨its, rvs, ⟨o, ho, hc, n, hd⟩, hlen⟩ := I.tuple (up_t hx)
      exact looks_at ho hc
  | lst => cases ry with
    | lst hx rl =>
      cases rv
      obtain ⟨its, rvs, ⟨o, n, ho, hc, hd, hdat⟩, hlen⟩ := I.list (SqL.of (hm_some hx).2)
      exact looks_at ho hc
  | rl => cases ry with
    | rl hx rl =>
      cases rv
      obtain ⟨its, rvs, ⟨o, n, ho, hc, hd, hdat⟩, hlen⟩ := I.list (up_l hx)
      exact looks_at ho hc
  | dct => cases ry with
    | dct hx rf =>
      cases rv
      obtain ⟨z, y1, vs1, rel1, dd1⟩ := dk_of I.hok (hm_some hx).2
      obtain ⟨o, ho, hc⟩ := dd1.typeIs
      exact looks_at ho hc
  | ptr hp => cases ry with
    | ptr =>
      cases rv
      obtain ⟨vs, h1, rl⟩ := om.lst hp
      obtain ⟨its, rvs, ⟨o, n, ho, hc, hd, hdat⟩, hlen⟩ := I.list (SqL.of h1)
      exact looks_at ho hc
  | num => cases ry with
    | num hx =>
      cases rv
      obtain ⟨ob, od, J, _⟩ := looks_ins I (hm_some hx).2
      exact J.type
  | ins => cases ry with
    | ins hx rf =>
      cases rv
      obtain ⟨ob, od, J, _⟩ := looks_ins I (hm_some hx).2
      exact J.type
def OthT (K : PySem.W.Frag) (w : Om) (C : Addr) (cs : List Str) (e : Dt) : Prop := (∃ T ∈ KIN7, TyD K w e (.type T)) ∨ TyD K w e (.ref C) ∨ ∃ c ∈ cs, TyD K w e (.ref (He.ga K c))
theorem othT (N : EqK Z.X.K C cs) (h : OthT Z.X.K w C cs e) : ∃ tb, TyD Z.X.K w e tb ∧ PySem.W.notFirst Z.X.K C tb = true := by
  rcases h with ⟨T, hT, t⟩ | t | ⟨c, hc, t⟩
  · exact ⟨_, t, by unfold PySem.W.notFirst; rw [N.to T hT]; simp⟩
  · exact ⟨_, t, by simp [PySem.W.notFirst]⟩
  · exact ⟨_, t, N.ow c hc⟩
def OwnD (K : PySem.W.Frag) (C : Addr) : Dt → Prop
  | .num _ => C = cN K
  | .ins D _ => D = C
  | _ => False
theorem OwnD.at {K : PySem.W.Frag} (h : OwnD K C d) (r : Rp K H d x) : ∃ a dx gs, x = .ref a ∧ H a = some (.ins C dx gs) := by
  cases r with
  | num h2 => cases h; exact ⟨_, _, _, rfl, h2⟩
  | ins h2 _ => cases h; exact ⟨_, _, _, rfl, h2⟩
  | _ => exact h.elim
theorem tyd_own {K : PySem.W.Frag} (t : TyD K w e (.ref C)) : OwnD K C e := by
  cases t with
  | num => rfl
  | ins => rfl
theorem ty_cls {a : Addr} {T : String} (I : Inv Z.X pins σ H s) (om : OmOk Z.X.K w H) (ry : Rp Z.X.K (hm H w) e (.ref a)) (t : TyD Z.X.K w e (.type T)) : ∃ o, s.heap.get? a = some o ∧ o.cls = .type T := by
  cases t with
  | non => cases ry
  | bl => cases ry
  | int => cases ry
  | str => cases ry
  | tup => cases ry with
    | tup hx rl =>
      obtain ⟨its, rvs, ⟨o, ho, hc, n, hd⟩, hlen⟩ := I.tuple (up_t hx)
      exact ⟨o, ho, hc⟩
  | lst => cases ry with
    | lst hx rl =>
      obtain ⟨its, rvs, ⟨o, n, ho, hc, hd, hdat⟩, hlen⟩ := I.list (SqL.of (hm_some hx).2)
      exact ⟨o, ho, hc⟩
  | rl => cases ry with
    | rl hx rl =>
      obtain ⟨its, rvs, ⟨o, n, ho, hc, hd, hdat⟩, hlen⟩ := I.list (up_l hx)
      exact ⟨o, ho, hc⟩
  | dct => cases ry with
    | dct hx rf =>
      obtain ⟨z, y1, vs1, rel1, dd1⟩ := dk_of I.hok (hm_some hx).2
      exact dd1.typeIs
  | ptr hp => cases ry with
    | ptr =>
      obtain ⟨vs, h1, rl⟩ := om.lst hp
      obtain ⟨its, rvs, ⟨o, n, ho, hc, hd, hdat⟩, hlen⟩ := I.list (SqL.of h1)
      exact ⟨o, ho, hc⟩
theorem own_cls {a : Addr} (I : Inv Z.X pins σ H s) (h : OwnD Z.X.K C d) (rx : Rp Z.X.K (hm H w) d (.ref a)) : ∃ o, s.heap.get? a = some o ∧ o.cls = .ref C := by
  obtain ⟨b, dx, gs, e, ha⟩ := h.at rx
  cases e
  obtain ⟨ob, od, J, jo, _⟩ := looks_ins I (hm_some ha).2
  exact ⟨ob, jo, J.cls⟩
theorem own_run {f : Addr} {fd : FuncData} {ps : List Str} (F : FnG Z.X.prog Z.X.w Z.X.K Z.X.mg Z.X.base j f fd ps (lift Z.X.K sp)) (hb : Binds Z.X.K fd ps []) {A : Around} (fr : A.frames = Z.X.A.frames) (rm : Rm j A) (I : Inv Z.X pins σ H s) (om : OmOk Z.X.K w H)
    (rx : Rp Z.X.K (hm H w) d x) (ru : RelV x u) (ry : Rp Z.X.K (hm H w) e y) (rv : RelV y v) {r : Bool} (hs : sp [d, e] w (fun z w2 => z = .bl r ∧ w2 = w) fun _ _ _ => False) {Q : Value → Shared → Prop} (q : ∀ s' H', Inv Z.X pins σ H' s' → Aft Z.X.K w H w H' → Q (.bool r) s') :
    wpAny (model Z.X.prog Z.X.w) A (call (.ref f) [u, v]) Q Z.X.xe s := by
  have hsp : lift Z.X.K sp [x, y] H (fun v H' => v = .bl r ∧ Aft Z.X.K w H w H') (fun _ _ _ => False) :=
    ⟨[d, e], w, _, fun _ _ _ => False, .cons rx (.cons ry .nil), om, hs, fun v d H' w' A' rv ⟨e1, e2⟩ => by
      subst e1 e2
      cases rv
      exact ⟨rfl, A'⟩, fun _ _ _ _ _ _ _ _ _ z => z.elim⟩
  have hl := F.len _ _ _ _ hsp
  have e0 : Env0 Z.X.prog Z.X.w Z.X.K Z.X.mg Z.X.base A Z.X.stack s H := by
    have e := I.env0
    exact ⟨by rw [fr]; exact e.frames, e.mod, e.bs, e.bsz, e.funs, e.frf, e.hok, e.bare⟩
  refine wpAny_call (codeAny_mono (F.run A Z.X.stack s H ⟨[u, v], []⟩ [u, v] [x, y] _ _ rm e0 (by
    have := hb s [u, v] I.kIn (by simpa using hl)
    simpa using this) (.cons ru (.cons rv .nil)) hsp) fun r' s' hq => ?_)
  match r', hq with
  | .error e, hq => exact (no_esc hq).elim
  | .ok (.ret u), hq =>
    obtain ⟨z, H', I', rz, ez, A'⟩ := I.after hq
    subst ez
    cases rz
    exact q _ _ I' A'
theorem own_left (c : CalM Z.X.prog Z.X.w Z.X.K Z.X.mg Z.X.base C "__eq__" j [] sp) (N : EqK Z.X.K C cs) {A : Around} (fr : A.frames = Z.X.A.frames) (rm : Rm j A) (I : Inv Z.X pins σ H s) (om : OmOk Z.X.K w H) (ho : OwnD Z.X.K C d) (ht : OthT Z.X.K w C cs e)
    (rx : Rp Z.X.K (hm H w) d x) (ru : RelV x u) (ry : Rp Z.X.K (hm H w) e y) (rv : RelV y v) {r : Bool} (hs : sp [d, e] w (fun z w2 => z = .bl r ∧ w2 = w) fun _ _ _ => False) {Q : Value → Shared → Prop} (q : ∀ s' H', Inv Z.X pins σ H' s' → Aft Z.X.K w H w H' → Q (.bool r) s') :
    wpAny (model Z.X.prog Z.X.w) A (richCompare .Eq u v) Q Z.X.xe s := by
  obtain ⟨f, fd, ps, dvs, ds, hc, hm', F, hb, hd, hr⟩ := c.ex
  obtain rfl := rpl_nil (hr (fun _ => none))
  obtain rfl := vals_nil rfl hd
  obtain ⟨a, dx, gs, rfl, ha⟩ := ho.at rx
  obtain ⟨ob, od, J, _⟩ := looks_ins I (hm_some ha).2
  obtain ⟨m, hF⟩ := I.fr
  obtain ⟨tb, ty, nf⟩ := othT N ht
  have ru0 := ru
  cases ru
  refine PySem.W.cmp_K (op := .Eq) rm.room.units0 hF I.ok.mod.kin J (looks_ty I om ry rv ty) nf hm'.at_ hm'.fn ?_
  exact own_run F hb fr rm I om rx ru0 ry rv hs fun s' H' I' A' => q s' H' I' A'
theorem own_ne (c : CalM Z.X.prog Z.X.w Z.X.K Z.X.mg Z.X.base C "__eq__" j [] sp) (N : EqK Z.X.K C cs) (rm : Rm (j + 1) Z.X.A) (I : Inv Z.X pins σ H s) (om : OmOk Z.X.K w H) (ho : OwnD Z.X.K C d) (ht : OthT Z.X.K w C cs e)
    (rx : Rp Z.X.K (hm H w) d x) (ru : RelV x u) (ry : Rp Z.X.K (hm H w) e y) (rv : RelV y v) {r : Bool} (hs : sp [d, e] w (fun z w2 => z = .bl r ∧ w2 = w) fun _ _ _ => False) {Q : Value → Shared → Prop} (q : ∀ s' H', Inv Z.X pins σ H' s' → Aft Z.X.K w H w H' → Q (.bool (!r)) s') :
    wpAny (model Z.X.prog Z.X.w) Z.X.A (richCompare .NotEq u v) Q Z.X.xe s := by
  obtain ⟨f, fd, ps, dvs, ds, hc, hm', F, hb, hd, hr⟩ := c.ex
  obtain rfl := rpl_nil (hr (fun _ => none))
  obtain rfl := vals_nil rfl hd
  obtain ⟨a, dx, gs, rfl, ha⟩ := ho.at rx
  obtain ⟨ob, od, J, _⟩ := looks_ins I (hm_some ha).2
  obtain ⟨m, hF⟩ := I.fr
  obtain ⟨tb, ty, nf⟩ := othT N ht
  have ru0 := ru
  cases ru
  refine cmp_ne (by have := rm.room.units; omega) hF I.ok.mod.kin J (looks_ty I om ry rv ty) nf N.ne.ne N.ne.ob hm'.at_ hm'.fn ?_
  exact own_run (A := Z.X.A.in1) (Q := NeBack Q) F hb rfl (rm.in1 (k := j)) I om rx ru0 ry rv hs fun s' H' I' A' => q s' H' I' A'
theorem own_back (c : CalM Z.X.prog Z.X.w Z.X.K Z.X.mg Z.X.base C "__eq__" j [] sp) (N : EqK Z.X.K C cs) {A : Around} (fr : A.frames = Z.X.A.frames) (rm : Rm j A) (I : Inv Z.X pins σ H s) (om : OmOk Z.X.K w H) (ho : OwnD Z.X.K C d) {T : String} (hT : T ∈ KIN7) (ht : TyD Z.X.K w e (.type T))
    (rx : Rp Z.X.K (hm H w) d x) (ru : RelV x u) (ry : Rp Z.X.K (hm H w) e y) (rv : RelV y v) {r : Bool} (hs : sp [d, e] w (fun z w2 => z = .bl r ∧ w2 = w) fun _ _ _ => False) {Q : Value → Shared → Prop} (q : ∀ s' H', Inv Z.X pins σ H' s' → Aft Z.X.K w H w H' → Q (.bool r) s') :
    wpAny (model Z.X.prog Z.X.w) A (richCompare .Eq v u) Q Z.X.xe s := by
  obtain ⟨f, fd, ps, dvs, ds, hc, hm', F, hb, hd, hr⟩ := c.ex
  obtain rfl := rpl_nil (hr (fun _ => none))
  obtain rfl := vals_nil rfl hd
  obtain ⟨a, dx, gs, rfl, ha⟩ := ho.at rx
  obtain ⟨ob, od, J, jo, jd⟩ := looks_ins I (hm_some ha).2
  obtain ⟨m, hF⟩ := I.fr
  have ru0 := ru
  have rv0 := rv
  have ry0 := ry
  cases ru
  have X := I.ok.mod.kin.keeps hF.keep
  have odd : OEQ.Odd Z.X.prog Z.X.w s.heap a C T := ⟨J.type, PySem.W.looks_subIn X (N.fr T hT)⟩
  have fin : wpAny (model Z.X.prog Z.X.w) A (call (.ref f) [.ref a, v]) (PySem.W.CmpBack Q) Z.X.xe s := own_run F hb fr rm I om rx ru0 ry rv hs fun s' H' I' A' => q s' H' I' A'
  have hu := rm.room.units0
  have lst : ∀ {l : Addr} {vs : List V}, SqL Z.X.K H l vs → T = "list" → v = .ref l → wpAny (model Z.X.prog Z.X.w) A (richCompare .Eq v (.ref a)) Q Z.X.xe s := fun h e1 e2 => by
    subst e1 e2
    obtain ⟨its, rvs, ⟨⟨cl, dd, da, sl⟩, n, ho, hc, hd, hdat⟩, hlen⟩ := I.list h
    simp only at hc hd hdat
    subst hc hd hdat
    exact OEQ.cmp_back hu hF I.ok.mod.kin J ⟨_, ho, rfl⟩ (N.fr _ hT) PySem.F.slot_list_eq (fun Q' q' => OEQ.list_declines ho odd q') hm'.at_ hm'.fn fin
  cases ht with
  | non => cases ry; cases rv; exact OEQ.cmp_back hu hF I.ok.mod.kin J rfl (N.fr _ hT) PySem.F.slot_NoneType_eq (fun Q' q' => OEQ.none_declines q') hm'.at_ hm'.fn fin
  | bl => cases ry; cases rv; exact OEQ.cmp_back hu hF I.ok.mod.kin J rfl (N.fr _ hT) PySem.F.slot_bool_eq (fun Q' q' => OEQ.bool_declines jo jd q') hm'.at_ hm'.fn fin
  | int => cases ry; obtain ⟨t, rfl⟩ := rv; exact OEQ.cmp_back hu hF I.ok.mod.kin J rfl (N.fr _ hT) PySem.F.slot_int_eq (fun Q' q' => OEQ.int_declines jo jd q') hm'.at_ hm'.fn fin
  | str => cases ry; obtain ⟨t, rfl⟩ := rv; exact OEQ.cmp_back hu hF I.ok.mod.kin J rfl (N.fr _ hT) PySem.F.slot_str_eq (fun Q' q' => OEQ.str_declines jo jd q') hm'.at_ hm'.fn fin
  | tup => cases ry with
    | tup hx rl =>
      cases rv
      obtain ⟨its, rvs, ⟨⟨cl, dd, da, sl⟩, ho, hc, n, hd⟩, hlen⟩ := I.tuple (up_t hx)
      simp only at hc hd
      subst hc hd
      exact OEQ.cmp_back hu hF I.ok.mod.kin J ⟨_, ho, rfl⟩ (N.fr _ hT) PySem.F.slot_tuple_eq (fun Q' q' => OEQ.tuple_declines ho odd q') hm'.at_ hm'.fn fin
  | lst => cases ry with
    | lst hx rl => cases rv; exact lst (SqL.of (hm_some hx).2) rfl rfl
  | rl => cases ry with
    | rl hx rl => cases rv; exact lst (up_l hx) rfl rfl
  | dct => cases ry with
    | dct hx rf =>
      cases rv
      obtain ⟨z, y1, vs1, rel1, dd1⟩ := dk_of I.hok (hm_some hx).2
      have hty := dd1.typeIs
      obtain ⟨o, es, ep, h1, h2, h3, _⟩ := dd1
      exact OEQ.cmp_back hu hF I.ok.mod.kin J hty (N.fr _ hT) PySem.F.slot_dict_eq (fun Q' q' => OEQ.dict_declines h1 h2 h3 odd q') hm'.at_ hm'.fn fin
  | ptr hp => cases ry with
    | ptr =>
      cases rv
      obtain ⟨vs, h1, rl⟩ := om.lst hp
      exact lst (SqL.of h1) rfl rfl
end
end DL
namespace OEQ
open PySem PySem.SeqAt
open AutoSeq1 (wpAny_loadPart')
open MeetsSeq MeetsSeq2 MeetsSeq3 SeqRoads2
section
variable {prog : Program} {w : World}
theorem list_loopI (l : Addr) (N : Nat) (x : Value) (I : Nat → Shared → Prop) {A0 : Around} {R : Result → Shared → Prop}
    (hI : ∀ i s, I i s → ∃ (its : Array Value) (n : Nat) (dd : Option Addr) (sl : Array (Option Value)), s.heap.get? l = some { cls := .type "list", dict := dd, data := .seq its n, slots := sl } ∧ its.size = N ∧
      ∀ y, its[i]? = some y → wpAny (model prog w) A0 (eqBool y x) (fun r s' => if r = true then R (.ok (.ret (.bool true))) s' else I (i + 1) s') (fun e s' => R (.error e) s') s)
    (fin : ∀ s, I N s → R (.ok (.ret (.bool false))) s) (k : Nat) :
    ∀ (i : Nat), N - i = k → i ≤ N → ∀ (A : Around) (s : Shared), A.in1 = A0 → I i s → wpAny (model prog w) A.in1 (Builtin.«list.__contains__.loop» ⟨[.ref l, x, rawInt i], []⟩) (GQ.FinOf prog w A R) (fun e s' => R (.error e) s') s := by
  induction k with
  | zero =>
    intro i hk hi A s ea h0
    obtain ⟨its, n, dd, sl, hl, hz, _⟩ := hI _ _ h0
    have ei : i = N := by omega
    subst ei
    have f0 := fin _ h0
    have ge : its[((i : Nat) : Int).toNat]? = none := by simp; omega
    obtain ⟨hp, g, d, tk, os⟩ := s
    wp_walk using wpAny_loadPart' hl
    rw [ge]
    wp_walk
    exact f0
  | succ k ih =>
    intro i hk hi A s ea h0
    obtain ⟨its, n, dd, sl, hl, hz, t0⟩ := hI _ _ h0
    have lt : i < its.size := by omega
    have ge : its[((i : Nat) : Int).toNat]? = some its[i] := by simp [lt]
    have t0 := t0 its[i] (by simp [lt])
    obtain ⟨hp, g, d, tk, os⟩ := s
    wp_walk using wpAny_loadPart' hl
    rw [ge]
    subst ea
    refine wpAny_bind (wpAny_mono t0 (fun r s2 q2 => ?_) fun _ _ z => z)
    cases r with
    | true =>
      obtain ⟨hp2, g2, d2, tk2, os2⟩ := s2
      wp_walk
      simpa using q2
    | false =>
      have q3 : I (i + 1) s2 := by simpa using q2
      have ci : ((i : Int) + 1) = ((i + 1 : Nat) : Int) := by push_cast; rfl
      obtain ⟨hp2, g2, d2, tk2, os2⟩ := s2
      wp_walk
      rw [ci]
      refine ⟨plainId_quiet plain_contains_loop _, ?_⟩
      refine codeAny_builtin entry_contains_loop ?_
      rw [Around.under_plainId plain_contains_loop _]
      exact ih (i + 1) (by omega) (by omega) A _ rfl q3
theorem list_containsI (l : Addr) (N : Nat) (x : Value) (I : Nat → Shared → Prop) {A : Around} {R : Result → Shared → Prop}
    (hI : ∀ i s, I i s → ∃ (its : Array Value) (n : Nat) (dd : Option Addr) (sl : Array (Option Value)), s.heap.get? l = some { cls := .type "list", dict := dd, data := .seq its n, slots := sl } ∧ its.size = N ∧
      ∀ y, its[i]? = some y → wpAny (model prog w) A.in1 (eqBool y x) (fun r s' => if r = true then R (.ok (.ret (.bool true))) s' else I (i + 1) s') (fun e s' => R (.error e) s') s)
    (fin : ∀ s, I N s → R (.ok (.ret (.bool false))) s) {s : Shared} (h0 : I 0 s) : wpAny (model prog w) A.in1 (Builtin.«list.__contains__» ⟨[.ref l, x], []⟩) (GQ.FinOf prog w A R) (fun e s' => R (.error e) s') s := by
  obtain ⟨its, n, dd, sl, hl, hz, _⟩ := hI _ _ h0
  obtain ⟨hp, g, d, tk, os⟩ := s
  wp_walk using wpAny_loadPart' hl
  refine ⟨plainId_quiet plain_contains_loop _, ?_⟩
  refine codeAny_builtin entry_contains_loop ?_
  rw [Around.under_plainId plain_contains_loop _]
  exact list_loopI l N x I hI fin _ 0 rfl (Nat.zero_le _) A _ rfl h0
end
end OEQ
namespace DL
open PySem PySem.Spec PyProof.Rows L2 TL
section
variable {Z : Dx} {k j : Nat} {sp : DSp} {C : Addr} {cs : List Str}
def OwnR (K : PySem.W.Frag) (C : Addr) (cs : List Str) (sp : DSp) (w : Om) (x y : Dt) (r : Bool) : Prop :=
  (OwnD K C x ∧ OthT K w C cs y ∧ sp [x, y] w (fun z w2 => z = .bl r ∧ w2 = w) fun _ _ _ => False) ∨ ((∃ T ∈ KIN7, TyD K w x (.type T)) ∧ OwnD K C y ∧ sp [y, x] w (fun z w2 => z = .bl r ∧ w2 = w) fun _ _ _ => False)
theorem ownR_core (c : CalM Z.X.prog Z.X.w Z.X.K Z.X.mg Z.X.base C "__eq__" j [] sp) (N : EqK Z.X.K C cs) {A : Around} (fr : A.frames = Z.X.A.frames) (rm : Rm j A) {pins : List (Addr × Obj)} {σ : L2.St} {H : Hp} {s : Shared} {w : Om} {d e : Dt} {x y : V} {u v : Value} (I : Inv Z.X pins σ H s) (om : OmOk Z.X.K w H)
    (rx : Rp Z.X.K (hm H w) d x) (ru : RelV x u) (ry : Rp Z.X.K (hm H w) e y) (rv : RelV y v) {r : Bool} (h : OwnR Z.X.K C cs sp w d e r) {Q : Value → Shared → Prop} (q : ∀ s' H', Inv Z.X pins σ H' s' → Aft Z.X.K w H w H' → Q (.bool r) s') :
    wpAny (model Z.X.prog Z.X.w) A (richCompare .Eq u v) Q Z.X.xe s := by
  rcases h with ⟨h1, h2, h3⟩ | ⟨⟨T, hT, h1⟩, h2, h3⟩
  · exact own_left c N fr rm I om h1 h2 rx ru ry rv h3 q
  · exact own_back c N fr rm I om h2 hT h1 ry rv rx ru h3 q
def eqOR (K : PySem.W.Frag) (C : Addr) (cs : List Str) (sp : DSp) : DR2 := fun x y w Q => ∃ r, OwnR K C cs sp w x y r ∧ Q (.bl r) w
theorem o_eqO (b : Bd Z k) (c : CalM Z.X.prog Z.X.w Z.X.K Z.X.mg Z.X.base C "__eq__" j [] sp) (N : EqK Z.X.K C cs) (hj : j ≤ k := by decide) : DOp Z (compareOp .Eq) (eqOR Z.X.K C cs sp) := by
  refine ⟨fun x y H Q => ∃ (w : Om) (d e : Dt) (r : Bool), OmOk Z.X.K w H ∧ Rp Z.X.K (hm H w) d x ∧ Rp Z.X.K (hm H w) e y ∧ OwnR Z.X.K C cs sp w d e r ∧ ∀ H', Aft Z.X.K w H w H' → Q (.bl r) H', fun pins s σ H x y v u Q I rx ry h => ?_, fun dx dy x y w H Q QL ok rx ry h kk => ?_⟩
  · obtain ⟨w, d, e, r, om, r1, r2, hr, hQ⟩ := h
    exact ownR_core c N rfl (b.room.mono hj) I om r1 rx r2 ry hr fun s' H' I' A' => ⟨.bl _, H', I', rfl, hQ H' A'⟩
  · obtain ⟨r, hr, q⟩ := h
    exact ⟨w, dx, dy, r, ok, rx, ry, hr, fun H' A' => kk _ _ H' w A' .bl q⟩
def neOR (K : PySem.W.Frag) (C : Addr) (cs : List Str) (sp : DSp) : DR2 := fun x y w Q => ∃ r, (OwnD K C x ∧ OthT K w C cs y ∧ sp [x, y] w (fun z w2 => z = .bl r ∧ w2 = w) fun _ _ _ => False) ∧ Q (.bl (!r)) w
theorem o_neO (b : Bd Z k) (c : CalM Z.X.prog Z.X.w Z.X.K Z.X.mg Z.X.base C "__eq__" j [] sp) (N : EqK Z.X.K C cs) (hj : j + 1 ≤ k := by decide) : DOp Z (compareOp .NotEq) (neOR Z.X.K C cs sp) := by
  refine ⟨fun x y H Q => ∃ (w : Om) (d e : Dt) (r : Bool), OmOk Z.X.K w H ∧ Rp Z.X.K (hm H w) d x ∧ Rp Z.X.K (hm H w) e y ∧ (OwnD Z.X.K C d ∧ OthT Z.X.K w C cs e ∧ sp [d, e] w (fun z w2 => z = .bl r ∧ w2 = w) fun _ _ _ => False) ∧ ∀ H', Aft Z.X.K w H w H' → Q (.bl (!r)) H', fun pins s σ H x y v u Q I rx ry h => ?_, fun dx dy x y w H Q QL ok rx ry h kk => ?_⟩
  · obtain ⟨w, d, e, r, om, r1, r2, ⟨h1, h2, h3⟩, hQ⟩ := h
    exact own_ne c N (b.room.mono hj) I om h1 h2 r1 rx r2 ry h3 fun s' H' I' A' => ⟨.bl _, H', I', rfl, hQ H' A'⟩
  · obtain ⟨r, hr, q⟩ := h
    exact ⟨w, dx, dy, r, ok, rx, ry, hr, fun H' A' => kk _ _ H' w A' .bl q⟩
theorem item_own (c : CalM Z.X.prog Z.X.w Z.X.K Z.X.mg Z.X.base C "__eq__" j [] sp) (N : EqK Z.X.K C cs) {A : Around} (fr : A.frames = Z.X.A.frames) (rm : Rm j A) {pins : List (Addr × Obj)} {σ : L2.St} {H : Hp} {s : Shared} {w : Om} {d e : Dt} {x y : V} {u v : Value} (I : Inv Z.X pins σ H s) (om : OmOk Z.X.K w H)
    (rx : Rp Z.X.K (hm H w) d x) (ru : RelV x u) (ry : Rp Z.X.K (hm H w) e y) (rv : RelV y v) {r : Bool} (h : OwnR Z.X.K C cs sp w d e r) (sm : OwnD Z.X.K C d → OwnD Z.X.K C e → ∀ H a, Rp Z.X.K H d (.ref a) → Rp Z.X.K H e (.ref a) → r = true) :
    wpAny (model Z.X.prog Z.X.w) A (eqBool u v) (fun r' s' => r' = r ∧ ∃ H', Inv Z.X pins σ H' s' ∧ Aft Z.X.K w H w H') Z.X.xe s := by
  unfold eqBool
  refine wpAny_holding ?_
  refine wpAny_ite_split (fun ab => ?_) (fun _ => ?_)
  · refine wpAny_bind (wpAny_rule (wpAny_pure ?_))
    have ab := eq_of_beq ab
    subst ab
    have same : ∃ a, x = .ref a ∧ y = .ref a := by
      have two : ∀ {a : Addr} {z : V}, RelV z (.ref a) → z = .ref a := fun {a z} h => by
        cases z with
        | ref b => cases h; rfl
        | non => cases h
        | bl b => cases h
        | int b => obtain ⟨_, h⟩ := h; cases h
        | str b => obtain ⟨_, h⟩ := h; cases h
        | byt b => obtain ⟨_, h⟩ := h; cases h
        | flt b => obtain ⟨_, h⟩ := h; cases h
        | ty b => cases h
      rcases h with ⟨h1, _⟩ | ⟨_, h1, _⟩
      · obtain ⟨a, dx, gs, rfl, ha⟩ := h1.at rx
        cases ru
        exact ⟨a, rfl, two rv⟩
      · obtain ⟨a, dx, gs, rfl, ha⟩ := h1.at ry
        cases rv
        exact ⟨a, two ru, rfl⟩
    obtain ⟨a, rfl, rfl⟩ := same
    have fin : OwnD Z.X.K C d → OwnD Z.X.K C e → true = r := fun g1 g2 => (sm g1 g2 _ a rx ry).symm
    refine ⟨?_, H, I, Aft.refl om⟩
    rcases h with ⟨h1, h2, _⟩ | ⟨⟨T, _, h1⟩, h2, _⟩
    · obtain ⟨o1, e1, c1⟩ := own_cls I h1 rx
      rcases h2 with ⟨T, _, t⟩ | t | ⟨c', _, t⟩
      · obtain ⟨o2, e2, c2⟩ := ty_cls I om ry t
        rw [e1] at e2
        cases e2
        rw [c1] at c2
        cases c2
      · exact fin h1 (tyd_own t)
      · obtain ⟨o2, e2, c2⟩ := own_cls I (tyd_own t) ry
        rw [e1] at e2
        cases e2
        rw [c1] at c2
        injection c2 with c2
        rw [← c2] at t
        exact fin h1 (tyd_own t)
    · obtain ⟨o1, e1, c1⟩ := ty_cls I om rx h1
      obtain ⟨o2, e2, c2⟩ := own_cls I h2 ry
      rw [e1] at e2
      cases e2
      rw [c1] at c2
      cases c2
  · have nf : ∀ {Q : Bool → Shared → Prop}, (∀ s' H', Inv Z.X pins σ H' s' → Aft Z.X.K w H w H' → Q r s') → wpAny (model Z.X.prog Z.X.w) A (do truthOfDropped (← richCompare .Eq u v)) Q Z.X.xe s := fun q => by
      refine wpAny_bind (ownR_core c N fr rm I om rx ru ry rv h fun s' H' I' A' => ?_)
      exact wpAny_truthy_bool (q s' H' I' A')
    have rf : (∃ a, u = .ref a) ∨ ∃ a, v = .ref a := by
      rcases h with ⟨h1, _⟩ | ⟨_, h1, _⟩
      · obtain ⟨a, dx, gs, rfl, ha⟩ := h1.at rx
        exact .inl ⟨a, ru⟩
      · obtain ⟨a, dx, gs, rfl, ha⟩ := h1.at ry
        exact .inr ⟨a, rv⟩
    split
    · rename_i heq
      injection heq with e1 e2
      rcases rf with ⟨a, ea⟩ | ⟨a, ea⟩
      · rw [ea] at e1; cases e1
      · rw [ea] at e2; cases e2
    · exact nf fun s' H' I' A' => ⟨rfl, H', I', A'⟩
def InOw (K : PySem.W.Frag) (C : Addr) (cs : List Str) (sp : DSp) (x : Dt) (w : Om) (d : Dt) (r : Bool) : Prop := OwnR K C cs sp w d x r ∧ (OwnD K C d → OwnD K C x → ∀ H a, Rp K H d (.ref a) → Rp K H x (.ref a) → r = true)
def InW (Z : Dx) (C : Addr) (cs : List Str) (sp : DSp) (w : Om) (pins : List (Addr × Obj)) (σ : L2.St) (H : Hp) (x : Dt) (b : Bool) (rest : List Value) (s' : Shared) : Prop :=
  ∃ (H' : Hp) (ds : List Dt) (vs : List V) (rs : List Bool), Inv Z.X pins σ H' s' ∧ Aft Z.X.K w H w H' ∧ RpL Z.X.K (hm H' w) ds vs ∧ Vals vs rest ∧ Paired (fun d r => InOw Z.X.K C cs sp x w d r) ds rs ∧ rs.any id = b
theorem in_turn (c : CalM Z.X.prog Z.X.w Z.X.K Z.X.mg Z.X.base C "__eq__" j [] sp) (N : EqK Z.X.K C cs) {A : Around} (fr : A.frames = Z.X.A.frames) (rm : Rm j A) {pins : List (Addr × Obj)} {σ : L2.St} {H : Hp} {w : Om} {x : Dt} {vx : V} {v : Value} (rx : Rp Z.X.K (hm H w) x vx) (rv : RelV vx v) {b : Bool}
    (y : Value) (rest : List Value) (s' : Shared) (h : InW Z C cs sp w pins σ H x b (y :: rest) s') {P : Bool → Shared → Prop} (hT : ∀ s2 H2, Inv Z.X pins σ H2 s2 → Aft Z.X.K w H w H2 → b = true → P true s2) (hF : ∀ s2, InW Z C cs sp w pins σ H x b rest s2 → P false s2) :
    wpAny (model Z.X.prog Z.X.w) A (eqBool y v) P Z.X.xe s' := by
  obtain ⟨H', ds, vs, rs, I', A', rl, rvs, pr, e⟩ := h
  cases rvs with
  | cons r1 r2 => cases rl with
    | cons ra rb => cases pr with
      | cons p1 p2 =>
        refine wpAny_mono (item_own c N fr rm I' A'.om ra r1 (rx.mono A'.same) rv p1.1 p1.2) (fun r s2 hq => ?_) fun _ _ z => z
        obtain ⟨er, H2, I2, A2⟩ := hq
        rw [List.any_cons, id, ← er] at e
        cases r with
        | true => exact hT s2 H2 I2 (A'.trans A2) (by rw [← e]; rfl)
        | false => exact hF s2 ⟨H2, _, _, _, I2, A'.trans A2, rb.mono A2.same, r2, p2, by simpa using e⟩
theorem in_own (b : Bd Z k) (c : CalM Z.X.prog Z.X.w Z.X.K Z.X.mg Z.X.base C "__eq__" j [] sp) (N : EqK Z.X.K C cs) (hj : j + 1 ≤ k) {pins : List (Addr × Obj)} {σ : L2.St} {H : Hp} {s : Shared} {w : Om} {x y : Dt} {vx vy : V} {v u : Value} {ds : List Dt} {rs : List Bool} {P : Bool → Shared → Prop} (I : Inv Z.X pins σ H s) (om : OmOk Z.X.K w H)
    (rx : Rp Z.X.K (hm H w) x vx) (rv : RelV vx v) (ry : Rp Z.X.K (hm H w) y vy) (ru : RelV vy u) (hy : seqOf y w = some ds) (pr : Paired (fun d r => InOw Z.X.K C cs sp x w d r) ds rs)
    (h : ∀ s' H', Inv Z.X pins σ H' s' → Aft Z.X.K w H w H' → P (rs.any id) s') : wpAny (model Z.X.prog Z.X.w) Z.X.A (contains u v) P Z.X.xe s := by
  have r1 : Rm j Z.X.A.in1 := Rm.mono (Rm.in1 (k := k - 1) (by
    have : k - 1 + 1 = k := by omega
    rw [this]; exact b.room)) (by omega)
  obtain ⟨isT, a, vs, rfl, sq, rl, st⟩ := seq_at om ry hy
  cases ru
  cases isT with
  | true =>
    obtain ⟨its, rvs, ⟨⟨cls, dd, data, sl⟩, ho, hc, n, hd⟩, hlen⟩ := I.tuple sq
    simp only at hc hd
    subst hc hd
    have hT : s.TypeIs (.ref a) "tuple" := ⟨_, ho, rfl⟩
    refine wpAny_contains_slot hT PySem.F.slot_tuple_contains ?_
    refine GQ.call_here PySem.F.slot_tuple_contains hT PySem.F.entry_tuple_contains (PySem.F.args_tuple_contains_2 _ _) ?_
    refine DLQ.tuple_containsI a its.toArray n dd sl v (InW Z C cs sp w pins σ H x (rs.any id)) (fun y rest s' h' => ?_) (fun s' h' => ?_) ho ⟨H, ds, vs, rs, I, Aft.refl om, rl, by simpa using rvs, pr, rfl⟩
    · refine in_turn (A := Z.X.A.in1) c N rfl r1 rx rv y rest s' h' (fun s2 H2 I2 A2 e => ?_) fun s2 h2 => ?_
      · rw [if_pos rfl]
        have hP := h s2 H2 I2 A2
        rw [e] at hP
        exact wpAny_truthy_bool hP
      · rw [if_neg (by decide)]; exact h2
    · obtain ⟨H', ds', vs', rs', I', A', rl', rvs', pr', e⟩ := h'
      cases rvs'
      cases rl'
      cases pr'
      have hP := h s' H' I' A'
      rw [← e] at hP
      exact wpAny_truthy_bool hP
  | false =>
    obtain ⟨its, rvs, ⟨⟨cls, dd, data, sl⟩, n, ho, hc, hd, hdat⟩, hlen⟩ := I.list sq
    simp only at hc hd hdat
    subst hc hd hdat
    have hT : s.TypeIs (.ref a) "list" := ⟨_, ho, rfl⟩
    refine wpAny_contains_slot hT PySem.F.slot_list_contains ?_
    refine GQ.call_here PySem.F.slot_list_contains hT PySem.F.entry_list_contains (PySem.F.args_list_contains_2 _ _) ?_
    have ldr : ds.length = rs.length := Paired.length pr
    refine OEQ.list_containsI a ds.length v (fun i s' => ∃ H', Inv Z.X pins σ H' s' ∧ Aft Z.X.K w H w H' ∧ (rs.drop i).any id = rs.any id) (fun i s' h' => ?_) (fun s' h' => ?_) ⟨H, I, Aft.refl om, rfl⟩
    · obtain ⟨H', I', A', e⟩ := h'
      obtain ⟨vs', sq', rl'⟩ := st w H' A' hy
      obtain ⟨its', rvs', ⟨⟨cls, dd', data, sl'⟩, n', ho', hc', hd', hdat'⟩, hlen'⟩ := I'.list sq'
      simp only at hc' hd' hdat'
      subst hc' hd' hdat'
      refine ⟨its'.toArray, n', none, sl', ho', by rw [List.size_toArray, ← rvs'.length, ← rl'.length], fun y hy2 => ?_⟩
      rw [List.getElem?_toArray] at hy2
      have li := (List.getElem?_eq_some_iff.mp hy2).1
      obtain ⟨d, hd1⟩ : ∃ d, ds[i]? = some d := ⟨ds[i]'(by rw [rl'.length, rvs'.length]; exact li), List.getElem?_eq_getElem _⟩
      obtain ⟨vd, hv1, rd⟩ := rl'.get hd1
      obtain ⟨y', hy3, ry'⟩ := rvs'.get hv1
      rw [hy2] at hy3
      cases hy3
      obtain ⟨r, hr1, p1⟩ := paired_get pr hd1
      refine wpAny_mono (item_own (A := Z.X.A.in1) c N rfl r1 I' A'.om rd ry' (rx.mono A'.same) rv p1.1 p1.2) (fun r' s2 hq => ?_) fun _ _ z => z
      obtain ⟨er, H2, I2, A2⟩ := hq
      subst er
      rw [List.drop_eq_getElem_cons (List.getElem?_eq_some_iff.mp hr1).1, (List.getElem?_eq_some_iff.mp hr1).2, List.any_cons, id] at e
      cases r' with
      | true =>
        rw [if_pos rfl]
        have hP := h s2 H2 I2 (A'.trans A2)
        rw [← e] at hP
        exact wpAny_truthy_bool hP
      | false =>
        rw [if_neg (by decide)]
        exact ⟨H2, I2, A'.trans A2, by simpa using e⟩
    · obtain ⟨H', I', A', e⟩ := h'
      have hP := h s' H' I' A'
      rw [← e, ldr, List.drop_length] at hP
      exact wpAny_truthy_bool hP
def inOR (neg : Bool) (K : PySem.W.Frag) (C : Addr) (cs : List Str) (sp : DSp) : DR2 := fun x y w Q => ∃ ds rs, seqOf y w = some ds ∧ Paired (fun d r => InOw K C cs sp x w d r) ds rs ∧ Q (.bl (if neg then !(rs.any id) else rs.any id)) w
theorem o_inO (b : Bd Z k) (c : CalM Z.X.prog Z.X.w Z.X.K Z.X.mg Z.X.base C "__eq__" j [] sp) (N : EqK Z.X.K C cs) (hj : j + 1 ≤ k := by decide) : DOp Z (compareOp .In) (inOR false Z.X.K C cs sp) := by
  refine ⟨fun x y H Q => ∃ (w : Om) (d e : Dt) (ds : List Dt) (rs : List Bool), OmOk Z.X.K w H ∧ Rp Z.X.K (hm H w) d x ∧ Rp Z.X.K (hm H w) e y ∧ seqOf e w = some ds ∧ Paired (fun z r => InOw Z.X.K C cs sp d w z r) ds rs ∧ ∀ H', Aft Z.X.K w H w H' → Q (.bl (rs.any id)) H', fun pins s σ H x y v u Q I rx ry h => ?_, fun dx dy x y w H Q QL ok rx ry h kk => ?_⟩
  · obtain ⟨w, d, e, ds, rs, om, r1, r2, hs, pr, hQ⟩ := h
    show wpAny _ Z.X.A (do return Value.bool (← contains u v)) _ _ _
    exact wpAny_bind (in_own b c N hj I om r1 rx r2 ry hs pr fun s' H' I' A' => wpAny_pure ⟨.bl _, H', I', rfl, hQ H' A'⟩)
  · obtain ⟨ds, rs, hs, pr, q⟩ := h
    exact ⟨w, dx, dy, ds, rs, ok, rx, ry, hs, pr, fun H' A' => kk _ _ H' w A' .bl q⟩
theorem o_notInO (b : Bd Z k) (c : CalM Z.X.prog Z.X.w Z.X.K Z.X.mg Z.X.base C "__eq__" j [] sp) (N : EqK Z.X.K C cs) (hj : j + 1 ≤ k := by decide) : DOp Z (compareOp .NotIn) (inOR true Z.X.K C cs sp) := by
  refine ⟨fun x y H Q => ∃ (w : Om) (d e : Dt) (ds : List Dt) (rs : List Bool), OmOk Z.X.K w H ∧ Rp Z.X.K (hm H w) d x ∧ Rp Z.X.K (hm H w) e y ∧ seqOf e w = some ds ∧ Paired (fun z r => InOw Z.X.K C cs sp d w z r) ds rs ∧ ∀ H', Aft Z.X.K w H w H' → Q (.bl (!(rs.any id))) H', fun pins s σ H x y v u Q I rx ry h => ?_, fun dx dy x y w H Q QL ok rx ry h kk => ?_⟩
  · obtain ⟨w, d, e, ds, rs, om, r1, r2, hs, pr, hQ⟩ := h
    show wpAny _ Z.X.A (do return Value.bool (!(← contains u v))) _ _ _
    exact wpAny_bind (in_own b c N hj I om r1 rx r2 ry hs pr fun s' H' I' A' => wpAny_pure ⟨.bl _, H', I', rfl, hQ H' A'⟩)
  · obtain ⟨ds, rs, hs, pr, q⟩ := h
    exact ⟨w, dx, dy, ds, rs, ok, rx, ry, hs, pr, fun H' A' => kk _ _ H' w A' .bl q⟩
end
end DL
namespace OEQ
open PySem PySem.Spec PyProof.Rows PySem.W
section
variable {prog : Program} {w : World} {A : Around} {E : Value → Shared → Prop} {s : Shared} {K : Frag} {x C f : Addr} {ox : Obj} {od : Option Obj}
theorem meth_check {M : Model} {i owner n : String} {self : Value} {rest : List Value} {Q : Unit → Shared → Prop} (hk : builtinKind i = some .method) (hs : splitId i = some (owner, n)) (hi : Looks M s.heap (isInstance self (.type owner)) true) (ha : argsOk i ⟨self :: rest, []⟩) (q : Q () s) :
    wpAny M A (checkBuiltinCall i ⟨self :: rest, []⟩) Q E s := by
  unfold checkBuiltinCall
  simp only [hk, hs]
  refine wpAny_bind (hi.here ?_)
  simp only [Bool.not_true, Bool.false_eq_true, if_false]
  cases g : Manifest.signature? i with
  | none => exact wpAny_pure q
  | some sg =>
    unfold argsOk at ha
    simp only [g] at ha
    have ha' : Bind.checkArgs i sg ⟨self :: rest, []⟩ = pure () := ha
    show wpAny M A (Bind.checkArgs i sg ⟨self :: rest, []⟩) Q E s
    rw [ha']
    exact wpAny_pure q
theorem fmt_own {Q : Value → Shared → Prop} (hu : A.in1.units < cLine) (X : K.In s.heap) (I : InstAt s.heap x ox C od) (hf : findIn K (.ref C) "__format__" = some (some (.builtin "object.__format__"))) (ho : mroIn K C (.type "object") = some true)
    (hs : findIn K (.ref C) "__str__" = some (some (.ref f))) (hfn : isFn K (.ref f) = true) (h : ∀ tk, wpAny (model prog w) A.in1 (call (.ref f) [.ref x]) (fun r s' => ∃ y t, r = .str y t ∧ Q r s') E { s with toks := tk }) :
    wpAny (model prog w) A (formatField (.ref x) Str.empty) Q E s := by
  unfold formatField
  refine wpAny_holding ?_
  unfold pyFormat
  refine wpAny_bind (wpAny_mkStr ?_ ?_)
  · have key : ∀ (s1 : Shared) (t0 : Tok), K.In s1.heap → InstAt s1.heap x ox C od → wpAny (model prog w) A.in1 (call (.ref f) [.ref x]) (fun r s' => ∃ y t, r = .str y t ∧ Q r s') E s1 → wpAny (model prog w) A (do
        match ← callSpecial? (.ref x) "__format__" [.str Str.empty t0] with
        | some r =>
          if ← isInstance r (.type "str") then return r
          rule "format.no-str"; raiseError "TypeError" s!"__format__ must return a str, not {← typeNameOf r}"
        | none => unsupported "internal:no-__format__") Q E s1 := fun s1 t0 X I h => by
      have isi : Looks (model prog w) s1.heap (isInstance (.ref x) (.type "object")) true := I.type.andThen (looks_mroIn X ho)
      have inner : wpAny (model prog w) A (call (.builtin "object.__format__") [.ref x, .str Str.empty t0]) (fun r s' => ∃ y t, r = .str y t ∧ Q r s') E s1 := by
        refine wpAny_call (codeAny_call_builtin PySem.F.slot_tuple_format.plain PySem.F.entry_object_format (meth_check (owner := "object") (n := "__format__") (by decide +kernel) (by decide +kernel) isi (PySem.F.args_object_format_2 _ _) ?_))
        show wpAny _ _ (pyStrObj (.ref x) >>= fun r => ret r) _ _ s1
        unfold pyStrObj
        refine wpAny_bind (wpAny_bind (wpAny_cRoomFor hu ?_))
        refine wpAny_bind (special_fn X I hs (beq_iff_eq.mp hfn) (wpAny_mono h (fun r s' hr => ?_) fun _ _ z => z))
        obtain ⟨y, t, rfl, q⟩ := hr
        dsimp only
        refine wpAny_bind (wpAny_isInstance_val (b := true) rfl PySem.F.sub_str_str ?_)
        rw [if_pos rfl]
        exact wpAny_pure (wpAny_pure ⟨y, t, rfl, q⟩)
      unfold callSpecial?
      refine wpAny_bind ?_
      unfold specialOf
      refine wpAny_bind (wpAny_bind (I.type.here ((looks_findIn X hf).here ?_)))
      dsimp only
      refine wpAny_holding ?_
      refine wpAny_bind (wpAny_of_eq (PySem.F.slot_tuple_format.bind _) ?_)
      refine wpAny_bind (wpAny_mono inner (fun r s2 q => ?_) fun _ _ z => z)
      obtain ⟨y, t, rfl, q⟩ := q
      refine wpAny_pure ?_
      dsimp only
      refine wpAny_bind (wpAny_isInstance_val (b := true) rfl PySem.F.sub_str_str ?_)
      rw [if_pos rfl]
      exact wpAny_pure q
    exact key { s with toks := s.toks + 1 } s.toks X I (h _)
  · rw [sizeLine_eq]; decide
end
end OEQ
namespace DL
open PySem PySem.Spec PyProof.Rows L2
structure FmtK (K : PySem.W.Frag) : Prop where
  fm : PySem.W.findIn K (.ref (cN K)) "__format__" = some (some (.builtin "object.__format__"))
  ob : PySem.W.mroIn K (cN K) (.type "object") = some true
theorem fmtK_of {K : PySem.W.Frag} (h : fmtKB K = true) : FmtK K := by
  obtain ⟨h1, h2⟩ := He.ba h
  exact ⟨He.eqO_ok h1, by simpa using h2⟩
def dFmtN (te : DTE) : DTE := fun r w Q => te r w fun x w1 => match x with
  | .num q => SzR 1920 q ∧ Q (.str (strN q)) w1
  | _ => False
theorem de_fmtN {Z : Dx} {k j : Nat} {sp : DSp} {e : Expr} {te : DTE} {pos : Pos} (b : Bd Z k) (c : CalM Z.X.prog Z.X.w Z.X.K Z.X.mg Z.X.base (cN Z.X.K) "__str__" j [] sp) (hs : StrSp sp) (N : FmtK Z.X.K) (he : DE Z e te) (hj : j + 2 ≤ k := by decide) (hj2 : j < 100 := by decide) : DE Z (.FormattedValue e (-1) none pos) (dFmtN te) := by
  obtain ⟨f, fd, ps, dvs, ds0, hc, hmm, F, hb, hd, hr0⟩ := c.ex
  obtain rfl := rpl_nil (hr0 (fun _ => none))
  obtain rfl := vals_nil rfl hd
  obtain ⟨tL, p, l⟩ := he.ex
  refine ⟨fun σ H Q => tL σ H fun v H1 => ∃ (w : Om) (q : Rat), OmOk Z.X.K w H1 ∧ Rp Z.X.K (hm H1 w) (.num q) v ∧ SzR 1920 q ∧ ∀ H', Aft Z.X.K w H1 w H' → Q (.str (strN q)) H', ⟨fun pins s σ H Q I h => ?_⟩, fun r w s H Q QL S h kk => ?_⟩
  · refine wpAny_FormattedValue_plain (thn (p.run pins s σ H _ I h) fun v s1 hv => ?_)
    obtain ⟨y, H1, I1, r1, w, q, om, rq, sq, hQ⟩ := hv
    cases rq with
    | @num a dx q hn =>
      cases r1
      obtain ⟨mA, J, _⟩ := ins_get I1.hok (hm_some hn).2
      obtain ⟨od, J, _⟩ := J.look
      have r1 : Room (k - 1) Z.X.A.in1 := Room.in1 (by
        have : k - 1 + 1 = k := by omega
        rw [this]; exact b.room.room)
      have rA : Rm j Z.X.A.in1 := ⟨Room.mono r1 (by omega), fun z => absurd z (by omega)⟩
      refine OEQ.fmt_own rA.room.units0 I1.kIn J N.fm N.ob hmm.at_ hmm.fn fun tk => ?_
      exact call_strO (A := Z.X.A.in1) hs F hb rfl rA (I1.tok tk) om (.num hn) sq fun t s' H' I' A' => ⟨_, _, rfl, .str (strN q), H', I', ⟨t, rfl⟩, hQ H' A'⟩
  · refine l r w s H _ _ S h fun v d H1 w1 A1 r1 q1 => ?_
    cases r1 with
    | num hn => exact ⟨w1, _, A1.om, .num hn, q1.1, fun H' A' => kk _ _ H' w1 (A1.trans A') .str q1.2⟩
    | _ => exact (show False from q1).elim
end DL
namespace LW
open PySem PySem.Spec PyProof.Rows L2 DL TL
def eqNX (q : Rat) : Dt → Bool
  | .num p => decide (q = p)
  | _ => false
def isD : Dt → Bool
  | .ptr _ => false
  | .ty _ => false
  | .ins _ _ => false
  | _ => true
def sp_eqX : DSp := fun ds w Q _ => ∃ (q : Rat) (d : Dt), ds = [.num q, d] ∧ isD d = true ∧ Q (.bl (eqNX q d)) w
theorem eqSpX : EqSp sp_eqX := fun q p w Q E h => ⟨q, .num p, rfl, rfl, h⟩
theorem sc_divisor_of : FnScope ["one", "other"] ["one", "other"] (defScope st_divisor_of) := ⟨rfl, rfl, rfl, by decide +kernel, rfl, by decide +kernel, by decide +kernel⟩
theorem sc_N___init__ : FnScope ["self", "top", "bottom", "by"] ["self", "top", "bottom"] (defScope st_N___init__) := ⟨rfl, rfl, rfl, by decide +kernel, rfl, by decide +kernel, by decide +kernel⟩
theorem sc_N___eq__ : FnScope ["self", "other"] ["self", "other"] (defScope st_N___eq__) := ⟨rfl, rfl, rfl, by decide +kernel, rfl, by decide +kernel, by decide +kernel⟩
theorem sc_N___str__ : FnScope ["self"] ["self"] (defScope st_N___str__) := ⟨rfl, rfl, rfl, by decide +kernel, rfl, by decide +kernel, by decide +kernel⟩
theorem sc_N___repr__ : FnScope ["self"] ["self"] (defScope st_N___repr__) := ⟨rfl, rfl, rfl, by decide +kernel, rfl, by decide +kernel, by decide +kernel⟩
theorem sc__law_well : FnScope ["_law_script", "_law_k", "_law_cell"] ["_law_script", "_law_k"] (defScope st__law_well) := ⟨rfl, rfl, rfl, by decide +kernel, rfl, by decide +kernel, by decide +kernel⟩
theorem sc__law_take : FnScope ["_law_well_here", "_law_top", "_law_digit", "_law_number"] ["_law_well_here", "_law_top"] (defScope st__law_take) := ⟨rfl, rfl, rfl, by decide +kernel, rfl, by decide +kernel, by decide +kernel⟩
theorem sc__law_ten : FnScope ["_law_power", "_law_found", "_law_k"] ["_law_power"] (defScope st__law_ten) := ⟨rfl, rfl, rfl, by decide +kernel, rfl, by decide +kernel, by decide +kernel⟩
theorem sc__law_pair : FnScope ["_law_well_here", "_law_way", "_law_by", "_law_power", "_law_top", "_law_bottom", "_law_turn", "_law_signs"] ["_law_well_here"] (defScope st__law_pair) := ⟨rfl, rfl, rfl, by decide +kernel, rfl, by decide +kernel, by decide +kernel⟩
theorem sc__law_lowest : FnScope ["_law_top", "_law_bottom", "_law_one", "_law_other"] ["_law_top", "_law_bottom"] (defScope st__law_lowest) := ⟨rfl, rfl, rfl, by decide +kernel, rfl, by decide +kernel, by decide +kernel⟩
theorem sc__law_shown_right : FnScope ["_law_pair_here", "_law_number", "_law_top", "_law_bottom", "_law_text", "_law_shown", "_law_found", "_law_whole"] ["_law_pair_here"] (defScope st__law_shown_right) := ⟨rfl, rfl, rfl, by decide +kernel, rfl, by decide +kernel, by decide +kernel⟩
theorem sc__law_equal_right : FnScope ["_law_one", "_law_other", "_law_here", "_law_there", "_law_due", "_law_found"] ["_law_one", "_law_other"] (defScope st__law_equal_right) := ⟨rfl, rfl, rfl, by decide +kernel, rfl, by decide +kernel, by decide +kernel⟩
theorem sc__law_unlike_right : FnScope ["_law_pair_here", "_law_number", "_law_some", "_law_thing"] ["_law_pair_here"] (defScope st__law_unlike_right) := ⟨rfl, rfl, rfl, by decide +kernel, rfl, by decide +kernel, by decide +kernel⟩
theorem sc_law : FnScope ["_law_script", "_law_k", "_law_well_here", "_law_way", "_law_one", "_law_many", "_law_near", "_law_small", "_law_other", "_law_pair_here"] ["_law_script"] (defScope st_law) := ⟨rfl, rfl, rfl, by decide +kernel, rfl, by decide +kernel, by decide +kernel⟩
structure Fx (K : PySem.W.Frag) (mg : Str → Option Value) (w : World) : Prop where
  g_Number : mg "Number" = some (.ref (He.ga K "Number"))
  g__law_equal_right : mg "_law_equal_right" = some (.ref (He.ga K "_law_equal_right"))
  g__law_lowest : mg "_law_lowest" = some (.ref (He.ga K "_law_lowest"))
  g__law_pair : mg "_law_pair" = some (.ref (He.ga K "_law_pair"))
  g__law_shown_right : mg "_law_shown_right" = some (.ref (He.ga K "_law_shown_right"))
  g__law_take : mg "_law_take" = some (.ref (He.ga K "_law_take"))
  g__law_ten : mg "_law_ten" = some (.ref (He.ga K "_law_ten"))
  g__law_unlike_right : mg "_law_unlike_right" = some (.ref (He.ga K "_law_unlike_right"))
  g__law_well : mg "_law_well" = some (.ref (He.ga K "_law_well"))
  g_divisor_of : mg "divisor_of" = some (.ref (He.ga K "divisor_of"))
  g_law : mg "law" = some (.ref (He.ga K "law"))
  f_abs : mg "abs" = none
  f_int : mg "int" = none
  f_isinstance : mg "isinstance" = none
  f_len : mg "len" = none
  f_list : mg "list" = none
  f_max : mg "max" = none
  f_min : mg "min" = none
  f_range : mg "range" = none
  f_repr : mg "repr" = none
  f_str : mg "str" = none
  cl : Cls K (cN K)
  na_top : NoAttr K (cN K) "top"
  na_bottom : NoAttr K (cN K) "bottom"
  mk_Number : Mk K (cN K) (He.fAd K ("Number", some "__init__"))
  mt___eq__ : Meth K (cN K) "__eq__" (He.fAd K ("Number", some "__eq__"))
  mt___str__ : Meth K (cN K) "__str__" (He.fAd K ("Number", some "__str__"))
  mt___repr__ : Meth K (cN K) "__repr__" (He.fAd K ("Number", some "__repr__"))
  num : NumI K
  isi_Number : Isi K (.ref (cN K)) (isP [] true)
  isi_str : Isi K (.type "str") (isP ["str"] false)
  ne : NeI K
  isg_Number : IsG K (.ref (He.ga K "Number")) [] [("Number", true)]
  eqk : EqK K (cN K) []
  fmk : FmtK K
  d_divisor_of : ∃ fd, FunD K "divisor_of" "divisor_of" (defArgs st_divisor_of) (defBody st_divisor_of) (defScope st_divisor_of) (He.DefD.dvs K LW.d_divisor_of) (He.DefD.kws K LW.d_divisor_of) (He.fAd K ("divisor_of", none)) fd
  d_N___init__ : ∃ fd, FunD K "__init__" "Number.__init__" (defArgs st_N___init__) (defBody st_N___init__) (defScope st_N___init__) (He.DefD.dvs K LW.d_N___init__) (He.DefD.kws K LW.d_N___init__) (He.fAd K ("Number", some "__init__")) fd
  d_N___eq__ : ∃ fd, FunD K "__eq__" "Number.__eq__" (defArgs st_N___eq__) (defBody st_N___eq__) (defScope st_N___eq__) (He.DefD.dvs K LW.d_N___eq__) (He.DefD.kws K LW.d_N___eq__) (He.fAd K ("Number", some "__eq__")) fd
  d_N___str__ : ∃ fd, FunD K "__str__" "Number.__str__" (defArgs st_N___str__) (defBody st_N___str__) (defScope st_N___str__) (He.DefD.dvs K LW.d_N___str__) (He.DefD.kws K LW.d_N___str__) (He.fAd K ("Number", some "__str__")) fd
  d_N___repr__ : ∃ fd, FunD K "__repr__" "Number.__repr__" (defArgs st_N___repr__) (defBody st_N___repr__) (defScope st_N___repr__) (He.DefD.dvs K LW.d_N___repr__) (He.DefD.kws K LW.d_N___repr__) (He.fAd K ("Number", some "__repr__")) fd
  d__law_well : ∃ fd, FunD K "_law_well" "_law_well" (defArgs st__law_well) (defBody st__law_well) (defScope st__law_well) (He.DefD.dvs K LW.d__law_well) (He.DefD.kws K LW.d__law_well) (He.fAd K ("_law_well", none)) fd
  d__law_take : ∃ fd, FunD K "_law_take" "_law_take" (defArgs st__law_take) (defBody st__law_take) (defScope st__law_take) (He.DefD.dvs K LW.d__law_take) (He.DefD.kws K LW.d__law_take) (He.fAd K ("_law_take", none)) fd
  d__law_ten : ∃ fd, FunD K "_law_ten" "_law_ten" (defArgs st__law_ten) (defBody st__law_ten) (defScope st__law_ten) (He.DefD.dvs K LW.d__law_ten) (He.DefD.kws K LW.d__law_ten) (He.fAd K ("_law_ten", none)) fd
  d__law_pair : ∃ fd, FunD K "_law_pair" "_law_pair" (defArgs st__law_pair) (defBody st__law_pair) (defScope st__law_pair) (He.DefD.dvs K LW.d__law_pair) (He.DefD.kws K LW.d__law_pair) (He.fAd K ("_law_pair", none)) fd
  d__law_lowest : ∃ fd, FunD K "_law_lowest" "_law_lowest" (defArgs st__law_lowest) (defBody st__law_lowest) (defScope st__law_lowest) (He.DefD.dvs K LW.d__law_lowest) (He.DefD.kws K LW.d__law_lowest) (He.fAd K ("_law_lowest", none)) fd
  d__law_shown_right : ∃ fd, FunD K "_law_shown_right" "_law_shown_right" (defArgs st__law_shown_right) (defBody st__law_shown_right) (defScope st__law_shown_right) (He.DefD.dvs K LW.d__law_shown_right) (He.DefD.kws K LW.d__law_shown_right) (He.fAd K ("_law_shown_right", none)) fd
  d__law_equal_right : ∃ fd, FunD K "_law_equal_right" "_law_equal_right" (defArgs st__law_equal_right) (defBody st__law_equal_right) (defScope st__law_equal_right) (He.DefD.dvs K LW.d__law_equal_right) (He.DefD.kws K LW.d__law_equal_right) (He.fAd K ("_law_equal_right", none)) fd
  d__law_unlike_right : ∃ fd, FunD K "_law_unlike_right" "_law_unlike_right" (defArgs st__law_unlike_right) (defBody st__law_unlike_right) (defScope st__law_unlike_right) (He.DefD.dvs K LW.d__law_unlike_right) (He.DefD.kws K LW.d__law_unlike_right) (He.fAd K ("_law_unlike_right", none)) fd
  d_law : ∃ fd, FunD K "law" "law" (defArgs st_law) (defBody st_law) (defScope st_law) (He.DefD.dvs K LW.d_law) (He.DefD.kws K LW.d_law) (He.fAd K ("law", none)) fd
section
variable {w : World} {K : PySem.W.Frag} {mg : Str → Option Value} {base : Heap}
theorem ok_divisor_of {fd : FuncData} (G : Fx K mg w) (F : FunD K "divisor_of" "divisor_of" (defArgs st_divisor_of) (defBody st_divisor_of) (defScope st_divisor_of) (He.DefD.dvs K d_divisor_of) (He.DefD.kws K d_divisor_of) (He.fAd K ("divisor_of", none)) fd) : FnG PR w K mg base 1 (He.fAd K ("divisor_of", none)) fd ["one", "other"] (lift K sp_gcd) := by
  refine d_fn F sc_divisor_of (fun ds w Q E h => by obtain ⟨_, _, rfl, _⟩ := h; rfl) (fun cdv A outer s H EL Ed bd => ⟨_, (dss_cons (ds_while bd.po (dt_cmp o_gt (de_var 1) de_int) (dss_one (ds_par 0 1 bd.calm bd.nd (da_cons (de_var 1) (da_cons (de_op o_mod (de_var 0) (de_var 1)) da_nil))))) (dss_one (ds_ret (de_var 0)))), fun ds w Q h => ?_⟩)
  obtain ⟨a, b, rfl, q⟩ := h
  refine ⟨fun m r w2 => ∃ x y : Nat, m = y ∧ r = [some (.int x), some (.int y)] ∧ w2 = w ∧ Nat.gcd x y = Nat.gcd a b, ⟨b, a, b, rfl, rfl, rfl, rfl⟩, ?_⟩
  rintro m r w2 ⟨x, y, rfl, rfl, rfl, e⟩
  refine br_dec (fun hc => ?_) (fun hc => ?_)
  · have hc : (0 : Int) < (m : Int) := hc
    have hm : 0 < m := by omega
    refine ⟨fun r' w' => ∃ x' y' : Nat, y' < m ∧ r' = [some (.int x'), some (.int y')] ∧ w' = w2 ∧ Nat.gcd x' y' = Nat.gcd a b, fun r' w' ⟨x', y', h1, h2, h3, h4⟩ => ⟨y', h1, x', y', rfl, h2, h3, h4⟩, hc, m, x % m, Nat.mod_lt _ hm, rfl, rfl, (gcd_step hm).trans e⟩
  · have hc : ¬ (0 : Int) < (m : Int) := hc
    have hm : m = 0 := by omega
    subst hm
    show Q (.int x) w2
    rw [← e, Nat.gcd_zero_right] at q
    exact q
theorem c_divisor_of (G : Fx K mg w) : Cal PR w K mg base "divisor_of" 1 [] sp_gcd := by
  obtain ⟨fd, F⟩ := G.d_divisor_of
  exact cal_plain F G.g_divisor_of (ok_divisor_of G F) (fun _ _ _ _ _ _ us hl => match us, hl with | [_, _], _ => rfl)
theorem ok_N___init__ {fd : FuncData} (G : Fx K mg w) (F : FunD K "__init__" "Number.__init__" (defArgs st_N___init__) (defBody st_N___init__) (defScope st_N___init__) (He.DefD.dvs K d_N___init__) (He.DefD.kws K d_N___init__) (He.fAd K ("Number", some "__init__")) fd) : FnG PR w K mg base 2 (He.fAd K ("Number", some "__init__")) fd ["self", "top", "bottom"] (lift K (sp_init K)) := by
  refine d_fn F sc_N___init__ (fun ds w Q E h => by obtain ⟨_, _, _, rfl, _⟩ := h; rfl) (fun cdv A outer s H EL Ed bd => ⟨_, (dss_cons (ds_set 3 bd.nd (de_call bd (c_divisor_of G) (da_cons (de_fn f_abs G.f_abs (da_cons (de_var 1) da_nil)) (da_cons (de_fn f_abs G.f_abs (da_cons (de_var 2) da_nil)) da_nil)))) (dss_cons (ds_if (dt_cmp o_lt (de_var 2) de_int) (dss_one (ds_set 3 bd.nd (de_op o_sub de_int (de_var 3)))) dss_nil) (dss_cons (ds_tryThru (dss_cons (ds_setF (cN K) G.cl G.na_bottom (de_var 0) (de_op o_fdivN (de_var 2) (de_var 3))) (dss_one (ds_setF (cN K) G.cl G.na_top (de_var 0) (de_op o_fdivN (de_var 1) (de_var 3)))))) (dss_one (ds_if (dt_cmp (o_eq bd.room.room) (de_var 2) de_int) (dss_one ds_never) dss_nil))))), fun ds w Q h => ?_⟩)
  obtain ⟨p, a, b, rfl, hp, hb, s1, s2, q⟩ := h
  refine ⟨a.natAbs, b.natAbs, by show [Dt.int _, Dt.int _] = _; rw [abs_if, abs_if], ?_⟩
  have sg : Sz 9000 (Nat.gcd a.natAbs b.natAbs : Nat) := s2.of_le (by rw [Int.natAbs_natCast]; exact Nat.gcd_le_right _ (Int.natAbs_pos.mpr hb))
  have by0 := byOf_ne (a := a) hb
  have e1 := bot_of (a := a) hb
  have e2 := top_of (a := a) hb
  refine br_dec (fun hc => ?_) (fun hc => ?_)
  · have hc : b < 0 := hc
    have eb : byOf a b = 0 - ((Nat.gcd a.natAbs b.natAbs : Nat) : Int) := if_pos hc
    have dv : DivN (byOf a b) := by
      refine Sz.divN (n := 9000) ?_ by0 (Nat.le_refl _)
      rw [eb, Int.zero_sub]
      exact sg.neg
    rw [eb] at dv e1 e2
    refine ⟨dv, [], hp, by decide, dv, _, put_same, by show 1 < 1000; decide, ?_⟩
    refine br_dec (fun hc2 => absurd hc2 hb) (fun _ => ?_)
    show Q .non (put (put w p _) p (.ins (cN K) [("bottom", .int (b.fdiv (0 - ((Nat.gcd a.natAbs b.natAbs : Nat) : Int)))), ("top", .int (a.fdiv (0 - ((Nat.gcd a.natAbs b.natAbs : Nat) : Int))))]))
    rw [e1, e2, put_put]
    exact q
  · have hc : ¬ b < 0 := hc
    have eb : byOf a b = ((Nat.gcd a.natAbs b.natAbs : Nat) : Int) := if_neg hc
    have dv : DivN (byOf a b) := by
      refine Sz.divN (n := 9000) ?_ by0 (Nat.le_refl _)
      rw [eb]
      exact sg
    rw [eb] at dv e1 e2
    refine ⟨dv, [], hp, by decide, dv, _, put_same, by show 1 < 1000; decide, ?_⟩
    refine br_dec (fun hc2 => absurd hc2 hb) (fun _ => ?_)
    show Q .non (put (put w p _) p (.ins (cN K) [("bottom", .int (b.fdiv ((Nat.gcd a.natAbs b.natAbs : Nat) : Int))), ("top", .int (a.fdiv ((Nat.gcd a.natAbs b.natAbs : Nat) : Int)))]))
    rw [e1, e2, put_put]
    exact q
theorem k_Number_0 (G : Fx K mg w) : CalC PR w K mg base "Number" 2 [] sp_num := by
  obtain ⟨fd, F⟩ := G.d_N___init__
  obtain ⟨ds, hv, hb⟩ := FunD.binds1 (ps := ["self", "top", "bottom"]) F 3 1 (fun z => nomatch z) rfl (fun T kV doc pm an cdv ct us its l1 l2 => match us, its, l1, l2 with | [a0, a1, a2], [b0], _, _ => ⟨_, rfl, rfl⟩)
  exact ⟨_, _, fd, _, _, ds, _, G.g_Number, G.mk_Number, ok_N___init__ G F, hb, hv, fun H => .nil, fun ds w Q E h p hp => made_num ds w Q E h p hp⟩
theorem k_Number_1 (G : Fx K mg w) : CalC PR w K mg base "Number" 2 [.int 1] sp_num := by
  obtain ⟨fd, F⟩ := G.d_N___init__
  obtain ⟨ds, hv, hb⟩ := FunD.binds1 (ps := ["self", "top", "bottom"]) F 2 0 (fun z => nomatch z) rfl (fun T kV doc pm an cdv ct us its l1 l2 => match us, its, l1, l2 with | [a0, a1], [b0], _, _ => ⟨_, rfl, rfl⟩)
  exact ⟨_, _, fd, _, _, ds, _, G.g_Number, G.mk_Number, ok_N___init__ G F, hb, hv, fun H => .cons .int .nil, fun ds w Q E h p hp => made_num ds w Q E h p hp⟩
theorem ok_N___eq__ {fd : FuncData} (G : Fx K mg w) (F : FunD K "__eq__" "Number.__eq__" (defArgs st_N___eq__) (defBody st_N___eq__) (defScope st_N___eq__) (He.DefD.dvs K d_N___eq__) (He.DefD.kws K d_N___eq__) (He.fAd K ("Number", some "__eq__")) fd) : FnG PR w K mg base 1 (He.fAd K ("Number", some "__eq__")) fd ["self", "other"] (lift K sp_eqX) := by
  refine d_fn F sc_N___eq__ (fun ds w Q E h => by obtain ⟨_, _, rfl, _⟩ := h; rfl) (fun cdv A outer s H EL Ed bd => ⟨_, (dss_cons (ds_if (dt_not (dt_val (de_fn (f_isK G.isg_Number (.own _) cdr_ptr) G.f_isinstance (da_cons (de_var 1) (da_cons (de_gref G.g_Number) da_nil))))) (dss_one (ds_ret de_bl)) dss_nil) (dss_one (ds_ret (de_and (de_cmp (o_eq bd.room.room) (de_top G.cl G.na_top (de_var 0)) (de_top G.cl G.na_top (de_var 1))) (de_one (de_cmp (o_eq bd.room.room) (de_bot G.cl G.na_bottom (de_var 0)) (de_bot G.cl G.na_bottom (de_var 1)))))))), fun ds w Q h => ?_⟩)
  obtain ⟨q, d, rfl, hd, h⟩ := h
  simp only [startD, List.length_cons, List.length_nil, List.map_cons, List.map_nil, List.cons_append, List.nil_append, Nat.reduceAdd, Nat.reduceSub, List.replicate_succ, List.replicate_zero, List.replicate]
  refine seq_op (fun N hN => ?_); (try dsimp only [dAsg, dOp, dVar, nth, dC, dB, dIfS, dIf, dOr, dAnd, dNot, dAndV, dOrV, dNotV, dNil, dCons, dTup, dLst, dLstM, dCall, dFn, gNm, pus, dNext, dRet, dRetN, dDrop, dPar, dAug, dSl, dNo, dPt, dNeg, dMt, dStr, dChain, DL.isNon, br_T, br_F, s1R, splitPR, splitR, joinR, startsR, endsR, catM, catL, gSubM, appendR, popR, dRevS, dFmt, dJoin, dJs, gTp_1, gTp_2, gTp_3, gTp_4, gTp_5, gTp_6, gTp_7, gTp_8, gsCons, gsNil, dFor_eq, dLcK_eq, dRng1, dRng2, dItL, dItS, dZip, dEnum, dEnumS, wipeD, dYes, eqR_i, neR_i, eqR_s, neR_s, eqR_b, neR_b, eqR_n, neR_n, itemR_t, itemR_l, itemR_r, itemR_p, itemR_s, addR_i, addR_b, addR_s, addR_l, addR_t, mulR_i, dI_i, dI0_i, isR_n, isR_b, lenR_t, listR_t, tupleR_t, sliceR_t, lenR_l, listR_l, tupleR_l, sliceR_l, lenR_r, listR_r, tupleR_r, sliceR_r, lenR_s, lenR_p, listR_p, tupleR_p, sliceR_p, sliceR_s, absR_i, max2R_i, min2R_i, intR_i, intR_b, strR_i, strR_s, mulSR_s, mulLR_l, gSubD, dGet, dDispV, dFrzD, dCallN, dFrz, dTop, dBot, dMethN, dRev, dRevM, dRevT, sumR, addSR_s, cxOf, fldR_i, fldR_p, dFld, hasM_i, hasM_p, dMethC, dMakeK, dMethK, dLenS, dDc, dGetK2, dGetK1, extendR, popAtR, dSetF, dCallV, dTab, dRaise, inCR_s, dFmtN, strNR, reprR, List.cons_append, List.nil_append, List.append_nil])
  refine ⟨⟨_, rfl⟩, ?_⟩
  cases d with
  | num p =>
    refine ⟨_, List.mem_cons_self, rfl, br_f rfl ?_⟩
    refine hN _ _ ?_; clear hN N
    (try dsimp only [dAsg, dOp, dVar, nth, dC, dB, dIfS, dIf, dOr, dAnd, dNot, dAndV, dOrV, dNotV, dNil, dCons, dTup, dLst, dLstM, dCall, dFn, gNm, pus, dNext, dRet, dRetN, dDrop, dPar, dAug, dSl, dNo, dPt, dNeg, dMt, dStr, dChain, DL.isNon, br_T, br_F, s1R, splitPR, splitR, joinR, startsR, endsR, catM, catL, gSubM, appendR, popR, dRevS, dFmt, dJoin, dJs, gTp_1, gTp_2, gTp_3, gTp_4, gTp_5, gTp_6, gTp_7, gTp_8, gsCons, gsNil, dFor_eq, dLcK_eq, dRng1, dRng2, dItL, dItS, dZip, dEnum, dEnumS, wipeD, dYes, eqR_i, neR_i, eqR_s, neR_s, eqR_b, neR_b, eqR_n, neR_n, itemR_t, itemR_l, itemR_r, itemR_p, itemR_s, addR_i, addR_b, addR_s, addR_l, addR_t, mulR_i, dI_i, dI0_i, isR_n, isR_b, lenR_t, listR_t, tupleR_t, sliceR_t, lenR_l, listR_l, tupleR_l, sliceR_l, lenR_r, listR_r, tupleR_r, sliceR_r, lenR_s, lenR_p, listR_p, tupleR_p, sliceR_p, sliceR_s, absR_i, max2R_i, min2R_i, intR_i, intR_b, strR_i, strR_s, mulSR_s, mulLR_l, gSubD, dGet, dDispV, dFrzD, dCallN, dFrz, dTop, dBot, dMethN, dRev, dRevM, dRevT, sumR, addSR_s, cxOf, fldR_i, fldR_p, dFld, hasM_i, hasM_p, dMethC, dMakeK, dMethK, dLenS, dDc, dGetK2, dGetK1, extendR, popAtR, dSetF, dCallV, dTab, dRaise, inCR_s, dFmtN, strNR, reprR, List.cons_append, List.nil_append, List.append_nil])
    have h : Q (.bl (decide (q = p))) w := h
    rw [← eq_txt] at h
    refine br_of (fun e => ?_) (fun e => ?_)
    · rw [e, Bool.true_and] at h
      exact h
    · rw [e, Bool.false_and] at h
      exact h
  | ptr => cases hd
  | ty => cases hd
  | ins => cases hd
  | _ => exact h
theorem m___eq__ (G : Fx K mg w) : CalM PR w K mg base (cN K) "__eq__" 1 [] sp_eqX := by
  obtain ⟨fd, F⟩ := G.d_N___eq__
  exact calm_plain F G.cl G.mt___eq__ (ok_N___eq__ G F) (fun _ _ _ _ _ _ us hl => match us, hl with | [_, _], _ => rfl)
theorem ok_N___str__ {fd : FuncData} (G : Fx K mg w) (F : FunD K "__str__" "Number.__str__" (defArgs st_N___str__) (defBody st_N___str__) (defScope st_N___str__) (He.DefD.dvs K d_N___str__) (He.DefD.kws K d_N___str__) (He.fAd K ("Number", some "__str__")) fd) : FnG PR w K mg base 1 (He.fAd K ("Number", some "__str__")) fd ["self"] (lift K sp_strn) := by
  refine d_fn F sc_N___str__ (fun ds w Q E h => by obtain ⟨_, rfl, _⟩ := h; rfl) (fun cdv A outer s H EL Ed bd => ⟨_, (dss_cons (ds_if (dt_cmp (o_eq bd.room.room) (de_bot G.cl G.na_bottom (de_var 0)) de_int) (dss_one (ds_ret (de_join1 (de_fmt (de_top G.cl G.na_top (de_var 0)))))) dss_nil) (dss_one (ds_ret (de_join (dj_cons (de_fmt (de_top G.cl G.na_top (de_var 0))) (dj_cons de_str (dj_cons (de_fmt (de_bot G.cl G.na_bottom (de_var 0))) dj_nil))))))), fun ds w Q h => ?_⟩)
  obtain ⟨q, rfl, sq, h⟩ := h
  have h1 := toS_len (sq.1.log (by decide))
  have h2 := toS_len (sq.2.log (by decide))
  have e2 : (("/" : Str)).length = 1 := rfl
  have e4 : (Str.empty).length = 0 := rfl
  refine br_dec (fun z => ?_) (fun z => ?_)
  · have z : q.den = 1 := by omega
    have e : strN q = toString q.num := if_pos z
    rw [e] at h
    exact ⟨sq.1.log (by decide), h⟩
  · have z : ¬ q.den = 1 := fun y => z (by omega)
    have e : strN q = Str.empty ++ toString q.num ++ ("/" : Str) ++ toString (q.den : Int) := if_neg z
    rw [e] at h
    exact ⟨sq.1.log (by decide), ltL (by rw [str_app]; omega), ltL (by rw [str_app, str_app]; omega), sq.2.log (by decide), ltL (by rw [str_app, str_app, str_app]; omega), h⟩
theorem m___str__ (G : Fx K mg w) : CalM PR w K mg base (cN K) "__str__" 1 [] sp_strn := by
  obtain ⟨fd, F⟩ := G.d_N___str__
  exact calm_plain F G.cl G.mt___str__ (ok_N___str__ G F) (fun _ _ _ _ _ _ us hl => match us, hl with | [_], _ => rfl)
theorem ok_N___repr__ {fd : FuncData} (G : Fx K mg w) (F : FunD K "__repr__" "Number.__repr__" (defArgs st_N___repr__) (defBody st_N___repr__) (defScope st_N___repr__) (He.DefD.dvs K d_N___repr__) (He.DefD.kws K d_N___repr__) (He.fAd K ("Number", some "__repr__")) fd) : FnG PR w K mg base 1 (He.fAd K ("Number", some "__repr__")) fd ["self"] (lift K sp_repn) := by
  refine d_fn F sc_N___repr__ (fun ds w Q E h => by obtain ⟨_, rfl, _⟩ := h; rfl) (fun cdv A outer s H EL Ed bd => ⟨_, (dss_one (ds_ret (de_join (dj_cons de_str (dj_cons (de_fmt (de_top G.cl G.na_top (de_var 0))) (dj_cons de_str (dj_cons (de_fmt (de_bot G.cl G.na_bottom (de_var 0))) (dj_cons de_str dj_nil)))))))), fun ds w Q h => ?_⟩)
  obtain ⟨q, rfl, sq, h⟩ := h
  have h1 := toS_len (sq.1.log (by decide))
  have h2 := toS_len (sq.2.log (by decide))
  have e1 : (("Number(" : Str)).length = 7 := rfl
  have e2 : ((", " : Str)).length = 2 := rfl
  have e3 : ((")" : Str)).length = 1 := rfl
  have e4 : (Str.empty).length = 0 := rfl
  refine ⟨ltL (by rw [str_app]; omega), sq.1.log (by decide), ltL (by rw [str_app, str_app]; omega), ltL (by rw [str_app, str_app, str_app]; omega), sq.2.log (by decide), ltL (by rw [str_app, str_app, str_app, str_app]; omega), ltL (by rw [str_app, str_app, str_app, str_app, str_app]; omega), h⟩
theorem m___repr__ (G : Fx K mg w) : CalM PR w K mg base (cN K) "__repr__" 1 [] sp_repn := by
  obtain ⟨fd, F⟩ := G.d_N___repr__
  exact calm_plain F G.cl G.mt___repr__ (ok_N___repr__ G F) (fun _ _ _ _ _ _ us hl => match us, hl with | [_], _ => rfl)
end
end LW
namespace LW
open PySem PySem.Spec PyProof.Rows L2 DL TL
section
variable {w : World} {K : PySem.W.Frag} {mg : Str → Option Value} {base : Heap}
theorem ok__law_well {fd : FuncData} (G : Fx K mg w) (F : FunD K "_law_well" "_law_well" (defArgs st__law_well) (defBody st__law_well) (defScope st__law_well) (He.DefD.dvs K d__law_well) (He.DefD.kws K d__law_well) (He.fAd K ("_law_well", none)) fd) : FnG PR w K mg base 1 (He.fAd K ("_law_well", none)) fd ["_law_script", "_law_k"] (lift K sp_well) := by
  refine d_fn F sc__law_well (fun ds w Q E h => by obtain ⟨_, _, rfl, _⟩ := h; rfl) (fun cdv A outer s H EL Ed bd => ⟨_, (dss_cons (ds_set 2 bd.nd de_int) (dss_cons (ds_if (dt_cmp o_lt (de_var 1) (de_fn f_len G.f_len (da_cons (de_var 0) da_nil))) (dss_one (ds_set 2 bd.nd (de_ix (de_var 0) (de_var 1)))) dss_nil) (dss_one (ds_ret (de_lstM (da_cons (de_op o_mul (de_var 2) (de_fnTy f_int G.f_int (da_cons (de_cmp o_ge (de_var 2) (de_op o_pow de_int de_int)) da_nil))) (da_cons (de_op o_add (de_op o_mod (de_var 2) de_int) (de_op o_mul de_int (de_var 1))) (da_cons de_int da_nil)))))))), fun ds w Q h => ?_⟩)
  obtain ⟨ns, k, rfl, k0, k1, q⟩ := h
  have fin : ∀ (a b : Int) (p : Addr), w p = none → Q (.ptr p) (put w p (.lst [.int a, .int b, .int 0])) := fun a b p hp => q p _ hp ⟨a, b, 0, put_same⟩ fun p h => put_ne h
  have two : ∀ (b : Bool), -(2 ^ 64) < (if b = true then (1 : Int) else 0) ∧ (if b = true then (1 : Int) else 0) < 2 ^ 64 := fun b => by cases b <;> decide
  refine br_dec (fun z => ?_) (fun z => ?_)
  · have z : k < ((ns.map Dt.int).length : Int) := z
    obtain ⟨d, hd⟩ : ∃ d, (ns.map Dt.int)[k.toNat]? = some d := ⟨_, List.getElem?_eq_getElem (by omega)⟩
    obtain ⟨n, rfl⟩ := int_of_mem hd
    refine ⟨.int n, by unfold L2.atI ixN; rw [if_pos k0, if_pos (by omega)]; exact hd, pow18, mulS' (two _), pB, mulS ⟨by decide, by decide⟩, sz3, fun p hp => fin _ _ p hp⟩
  · exact ⟨pow18, mulS' (two _), pB, mulS ⟨by decide, by decide⟩, sz3, fun p hp => fin _ _ p hp⟩
theorem c__law_well (G : Fx K mg w) : Cal PR w K mg base "_law_well" 1 [] sp_well := by
  obtain ⟨fd, F⟩ := G.d__law_well
  exact cal_plain F G.g__law_well (ok__law_well G F) (fun _ _ _ _ _ _ us hl => match us, hl with | [_, _], _ => rfl)
theorem ok__law_take {fd : FuncData} (G : Fx K mg w) (F : FunD K "_law_take" "_law_take" (defArgs st__law_take) (defBody st__law_take) (defScope st__law_take) (He.DefD.dvs K d__law_take) (He.DefD.kws K d__law_take) (He.fAd K ("_law_take", none)) fd) : FnG PR w K mg base 1 (He.fAd K ("_law_take", none)) fd ["_law_well_here", "_law_top"] (lift K sp_take) := by
  refine d_fn F sc__law_take (fun ds w Q E h => by obtain ⟨_, _, rfl, _⟩ := h; rfl) (fun cdv A outer s H EL Ed bd => ⟨_, (dss_cons (ds_if (dt_cmp o_gt (de_ix (de_var 0) de_int) de_int) (dss_cons (ds_set 2 bd.nd (de_op o_mod (de_ix (de_var 0) de_int) (de_var 1))) (dss_cons (ds_asg (de_op o_fdiv (de_ix (de_var 0) de_int) (de_var 1)) (dg_sub (de_var 0) de_int)) (dss_one (ds_ret (de_var 2))))) dss_nil) (dss_cons (ds_asg (de_op o_add (de_ix (de_var 0) de_int) de_int) (dg_sub (de_var 0) de_int)) (dss_cons (ds_set 3 bd.nd (de_op o_mod (de_op o_mul (de_op o_add (de_op o_add (de_ix (de_var 0) de_int) (de_op o_mul de_int (de_ix (de_var 0) de_int))) de_int) de_int) de_int)) (dss_cons (ds_set 3 bd.nd (de_op o_mod (de_op o_add (de_op o_mul (de_var 3) (de_var 3)) (de_op o_mul de_int (de_ix (de_var 0) de_int))) de_int)) (dss_cons (ds_set 3 bd.nd (de_op o_add (de_op o_mul (de_op o_mod (de_op o_mul (de_var 3) (de_op o_add (de_var 3) de_int)) de_int) de_int) (de_var 3))) (dss_one (ds_ret (de_op o_mod (de_op o_fdiv (de_op o_mod (de_op o_mul (de_var 3) de_int) de_int) de_int) (de_var 1))))))))), fun ds w Q h => ?_⟩)
  obtain ⟨W, n, rfl, n0, sn, ⟨a, b, c, hW⟩, q⟩ := h
  have fin : ∀ (x : Int) (a b c : Int) (w' : Om), w' = put w W (.lst [.int a, .int b, .int c]) → Q (.int (x % n)) w' := fun x a b c w' e => by
    subst e
    exact q _ _ (Int.emod_nonneg _ (Int.ne_of_gt n0)) (Int.emod_lt_of_pos _ n0) ⟨a, b, c, put_same⟩ fun p h => put_ne h
  refine ⟨_, hW, _, rfl, br_dec (fun z => ?_) (fun z => ?_)⟩
  · refine ⟨_, hW, _, rfl, n0, _, hW, _, rfl, wsz_take n0 sn, _, 0, hW, rfl, ?_⟩
    exact fin _ _ _ _ _ rfl
  · have pM : (0 : Int) < 2305843009213693951 := by decide
    refine ⟨_, hW, _, rfl, _, 2, hW, rfl, ?_⟩
    refine ⟨_, put_same, _, rfl, _, put_same, _, rfl, mulS ⟨by decide, by decide⟩, mulS' ⟨by decide, by decide⟩, pC, mC, _, put_same, _, rfl, mulS ⟨by decide, by decide⟩, pA, ?_⟩
    refine ⟨mA, pD, mulS' ⟨by decide, by decide⟩, mulS' ⟨by decide, by decide⟩, pM, d64, n0, ?_⟩
    exact fin _ _ _ _ _ rfl
theorem c__law_take (G : Fx K mg w) : Cal PR w K mg base "_law_take" 1 [] sp_take := by
  obtain ⟨fd, F⟩ := G.d__law_take
  exact cal_plain F G.g__law_take (ok__law_take G F) (fun _ _ _ _ _ _ us hl => match us, hl with | [_, _], _ => rfl)
theorem ok__law_ten {fd : FuncData} (G : Fx K mg w) (F : FunD K "_law_ten" "_law_ten" (defArgs st__law_ten) (defBody st__law_ten) (defScope st__law_ten) (He.DefD.dvs K d__law_ten) (He.DefD.kws K d__law_ten) (He.fAd K ("_law_ten", none)) fd) : FnG PR w K mg base 1 (He.fAd K ("_law_ten", none)) fd ["_law_power"] (lift K sp_lten) := by
  refine d_fn F sc__law_ten (fun ds w Q E h => by obtain ⟨_, rfl, _⟩ := h; rfl) (fun cdv A outer s H EL Ed bd => ⟨_, (dss_cons (ds_set 1 bd.nd de_int) (dss_cons (ds_for bd.po bd.calm (di_rng1 G.f_range (da_cons (de_var 0) da_nil)) (dg_name 2 bd.nd) (dss_one (ds_set 1 bd.nd (de_op o_mul (de_var 1) de_int)))) (dss_one (ds_ret (de_var 1))))), fun ds w Q h => ?_⟩)
  obtain ⟨k, rfl, k0, k1, h⟩ := h
  refine ⟨⟨by omega, by omega⟩, fun i r w' => w' = w ∧ ∃ x2, r = [some (.int k), some (.int ((10 : Int) ^ i)), x2], ⟨rfl, _, rfl⟩, ?_, ?_⟩
  · rintro i r w' hi ⟨rfl, x2, rfl⟩
    refine ⟨trivial, fun d hd => ?_⟩
    refine ⟨mulS' ⟨by decide, by decide⟩, rfl, some d, ?_⟩
    show [some (Dt.int k), some (Dt.int ((10 : Int) ^ i * 10)), some d] = _
    rw [Int.pow_succ]
  · rintro r w' ⟨rfl, x2, rfl⟩
    rw [iota_len]
    exact h
theorem c__law_ten (G : Fx K mg w) : Cal PR w K mg base "_law_ten" 1 [] sp_lten := by
  obtain ⟨fd, F⟩ := G.d__law_ten
  exact cal_plain F G.g__law_ten (ok__law_ten G F) (fun _ _ _ _ _ _ us hl => match us, hl with | [_], _ => rfl)
theorem ok__law_pair {fd : FuncData} (G : Fx K mg w) (F : FunD K "_law_pair" "_law_pair" (defArgs st__law_pair) (defBody st__law_pair) (defScope st__law_pair) (He.DefD.dvs K d__law_pair) (He.DefD.kws K d__law_pair) (He.fAd K ("_law_pair", none)) fd) : FnG PR w K mg base 2 (He.fAd K ("_law_pair", none)) fd ["_law_well_here"] (lift K sp_pair) := by
  refine d_fn F sc__law_pair (fun ds w Q E h => by obtain ⟨_, rfl, _⟩ := h; rfl) (fun cdv A outer s H EL Ed bd => ⟨_, (dss_cons (ds_set 1 bd.nd (de_call bd (c__law_take G) (da_cons (de_var 0) (da_cons de_int da_nil)))) (dss_cons (ds_set 2 bd.nd (de_op o_add de_int (de_call bd (c__law_take G) (da_cons (de_var 0) (da_cons de_int da_nil))))) (dss_cons (ds_set 3 bd.nd (de_call bd (c__law_take G) (da_cons (de_var 0) (da_cons de_int da_nil)))) (dss_cons (ds_set 4 bd.nd (de_ix (de_lst (da_cons (de_call bd (c__law_take G) (da_cons (de_var 0) (da_cons de_int da_nil))) (da_cons (de_call bd (c__law_take G) (da_cons (de_var 0) (da_cons (de_op o_pow de_int de_int) da_nil))) (da_cons (de_call bd (c__law_take G) (da_cons (de_var 0) (da_cons de_int da_nil))) (da_cons (de_call bd (c__law_take G) (da_cons (de_var 0) (da_cons (de_op o_pow de_int de_int) da_nil))) (da_cons de_int (da_cons de_int da_nil))))))) (de_var 1))) (dss_cons (ds_set 5 bd.nd (de_ix (de_lst (da_cons (de_var 2) (da_cons (de_call bd (c__law_ten G) (da_cons (de_var 3) da_nil)) (da_cons de_int (da_cons (de_op o_add de_int (de_call bd (c__law_take G) (da_cons (de_var 0) (da_cons (de_op o_pow de_int de_int) da_nil)))) (da_cons (de_var 2) (da_cons (de_var 2) da_nil))))))) (de_var 1))) (dss_cons (ds_if (dt_cmp (o_eq bd.room.room) (de_var 1) de_int) (dss_cons (ds_for bd.po bd.calm (di_rng1 G.f_range (da_cons (de_call bd (c__law_take G) (da_cons (de_var 0) (da_cons de_int da_nil))) da_nil)) (dg_name 6 bd.nd) (dss_one (ds_set 5 bd.nd (de_op o_mul (de_var 5) (de_ix (de_lst (da_cons de_int (da_cons de_int da_nil))) (de_call bd (c__law_take G) (da_cons (de_var 0) (da_cons de_int da_nil)))))))) (dss_one (ds_set 5 bd.nd (de_fn (f_min2 bd.calm) G.f_min (da_cons (de_var 5) (da_cons (de_op o_pow de_int de_int) da_nil)))))) dss_nil) (dss_cons (ds_if (dt_cmp (o_eq bd.room.room) (de_var 1) de_int) (dss_one (ds_set 4 bd.nd (de_op o_sub (de_op o_add (de_call bd (c__law_ten G) (da_cons (de_call bd (c__law_take G) (da_cons (de_var 0) (da_cons de_int da_nil))) da_nil)) (de_call bd (c__law_take G) (da_cons (de_var 0) (da_cons de_int da_nil)))) de_int))) dss_nil) (dss_cons (ds_if (dt_cmp o_lt (de_var 1) de_int) (dss_one (ds_par 4 5 bd.calm bd.nd (da_cons (de_op o_mul (de_var 4) (de_var 2)) (da_cons (de_fn (f_min2 bd.calm) G.f_min (da_cons (de_op o_pow de_int de_int) (da_cons (de_op o_mul (de_var 5) (de_var 2)) da_nil))) da_nil)))) dss_nil) (dss_cons (ds_set 7 bd.nd (de_lst (da_cons (de_call bd (c__law_take G) (da_cons (de_var 0) (da_cons de_int da_nil))) (da_cons (de_fnTy f_int G.f_int (da_cons (de_cmp (o_eq bd.room.room) (de_call bd (c__law_take G) (da_cons (de_var 0) (da_cons de_int da_nil))) de_int) da_nil)) da_nil)))) (dss_one (ds_ret (de_tup (da_cons (de_op o_mul (de_var 4) (de_ix (de_lst (da_cons de_int (da_cons (de_neg de_int) da_nil))) (de_ix (de_var 7) de_int))) (da_cons (de_op o_mul (de_var 5) (de_ix (de_lst (da_cons de_int (da_cons (de_neg de_int) da_nil))) (de_ix (de_var 7) de_int))) da_nil)))))))))))))), fun ds w Q h => ?_⟩)
  obtain ⟨W, rfl, wl, q⟩ := h
  have s200 : ∀ {i : Int}, -(2 ^ 64) < i ∧ i < 2 ^ 64 → Sz 200 i := fun h => (sz64 (by omega)).mono (by decide)
  refine ⟨W, 6, rfl, by decide, s200 (by decide), wl, fun r1 w1 a1 b1 wl1 o1 => ?_⟩
  refine ⟨W, 12, rfl, by decide, s200 (by decide), wl1, fun r2 w2 a2 b2 wl2 o2 => ?_⟩
  refine ⟨W, 13, rfl, by decide, s200 (by decide), wl2, fun r3 w3 a3 b3 wl3 o3 => ?_⟩
  refine ⟨W, 40, rfl, by decide, s200 (by decide), wl3, fun r4 w4 a4 b4 wl4 o4 => ?_⟩
  refine ⟨pw, W, (10 : Int) ^ (6 : Nat), rfl, by decide, s200 (by decide), wl4, fun r5 w5 a5 b5 wl5 o5 => ?_⟩
  refine ⟨W, 2000, rfl, by decide, s200 (by decide), wl5, fun r6 w6 a6 b6 wl6 o6 => ?_⟩
  refine ⟨pw, W, (10 : Int) ^ (30 : Nat), rfl, ten_pos 30, (sz_ten (m := 30) (Nat.le_refl _)).mono (by decide), wl6, fun r7 w7 a7 b7 wl7 o7 => ?_⟩
  rw [pow6] at b5
  rw [p30'] at b7
  obtain ⟨_, f1, T, rfl, T0, T1⟩ := at_all (P := TpD) (xs := [.int r4, .int r5, .int r6, .int r7, .int 0, .int 0]) a1 b1
    (all2 (tpI a4 (by omega)) (all2 (tpI a5 (by omega)) (all2 (tpI a6 (by omega)) (all2 (tpI a7 (by omega)) (all2 (tpI (by decide) (by decide)) (all2 (tpI (by decide) (by decide)) all0))))))
  refine ⟨sz6, _, f1, r3, rfl, a3, by omega, ?_⟩
  refine ⟨pw, W, (10 : Int) ^ (12 : Nat), rfl, by decide +kernel, s200 (by decide +kernel), wl7, fun r8 w8 a8 b8 wl8 o8 => ?_⟩
  rw [p12''] at b8
  have ht12 : (10 : Int) ^ r3.toNat ≤ 1000000000000 := by have := ten_le (k := r3.toNat) (m := 12) (by omega); rwa [p12''] at this
  obtain ⟨_, f2, B, rfl, B0, B1⟩ := at_all (P := BpD) (xs := [.int (1 + r2), .int ((10 : Int) ^ r3.toNat), .int 1, .int (1 + r8), .int (1 + r2), .int (1 + r2)]) a1 b1
    (all2 (bpI (by omega) (by omega)) (all2 (bpI (ten_pos _) ht12) (all2 (bpI (by decide) (by decide)) (all2 (bpI (by omega) (by omega)) (all2 (bpI (by omega) (by omega)) (all2 (bpI (by omega) (by omega)) all0))))))
  refine ⟨sz6, _, f2, ?_⟩
  have of8 : OffW w w8 W := o1.trans (o2.trans (o3.trans (o4.trans (o5.trans (o6.trans (o7.trans o8))))))
  dsimp only
  refine gif_join (fun r w' => Wl w' W ∧ OffW w w' W ∧ ∃ (B : Int) (x6 : Option Dt), 0 < B ∧ B ≤ 1000000000000 ∧ r = [some (.ptr W), some (.int r1), some (.int (1 + r2)), some (.int r3), some (.int T), some (.int B), x6, none]) ?_ (fun K hK => ?_)
  rotate_left
  · refine br_dec (fun e => ?_) (fun e => ?_)
    · refine ⟨W, 20, rfl, by decide, s200 (by decide), wl8, fun r9 w9 a9 b9 wl9 o9 => ?_⟩
      refine ⟨⟨by omega, by omega⟩, fun i r w' => Wl w' W ∧ OffW w w' W ∧ ∃ (B : Int) (x6 : Option Dt), 0 < B ∧ B ≤ 1000000000000 * (5 : Int) ^ i ∧ r = [some (.ptr W), some (.int r1), some (.int (1 + r2)), some (.int r3), some (.int T), some (.int B), x6, none], ⟨wl9, of8.trans o9, B, none, B0, by rw [Int.pow_zero]; omega, rfl⟩, ?_, ?_⟩
      · rintro i r w' hi ⟨wl', of', B, x6, B0, B1, rfl⟩
        refine ⟨trivial, fun d hd => ?_⟩
        refine ⟨sz2, W, 2, rfl, by decide, s200 (by decide), wl', fun r10 w10 a10 b10 wl10 o10 => ?_⟩
        obtain ⟨_, f3, t, rfl, ht⟩ := at_all (P := T25) (xs := [.int 2, .int 5]) a10 b10 (all2 ⟨2, rfl, .inl rfl⟩ (all2 ⟨5, rfl, .inr rfl⟩ all0))
        have p5 : (0 : Int) < 5 ^ i := Int.pow_pos (by decide)
        refine ⟨_, f3, mulS' (by omega), wl10, of'.trans o10, B * t, some d, by rcases ht with rfl | rfl <;> omega, ?_, rfl⟩
        rw [Int.pow_succ]
        rcases ht with rfl | rfl <;> omega
      · rintro r w' ⟨wl', of', B, x6, B0, B1, rfl⟩
        rw [iota_len] at B1
        refine ⟨pw, ?_⟩
        refine hK _ _ ⟨wl', of', _, x6, ?_, ?_, rfl⟩
        · show 0 < if (10 : Int) ^ (12 : Int).toNat < B then (10 : Int) ^ (12 : Int).toNat else B
          rw [show (10 : Int) ^ (12 : Int).toNat = 1000000000000 from p12'']; split <;> omega
        · show (if (10 : Int) ^ (12 : Int).toNat < B then (10 : Int) ^ (12 : Int).toNat else B) ≤ _
          rw [show (10 : Int) ^ (12 : Int).toNat = 1000000000000 from p12'']; split <;> omega
    · exact hK _ _ ⟨wl8, of8, B, none, B0, B1, rfl⟩
  rintro r w' ⟨wl', of', B, x6, B0, B1, rfl⟩
  have T1 : T ≤ 1000000000000000000000000000000 := by rw [← p30']; exact T1
  try dsimp only
  refine if_join (fun r w' => Wl w' W ∧ OffW w w' W ∧ ∃ (T : Int), 0 ≤ T ∧ T ≤ 1000000000000000000000000000000 ∧ r = [some (.ptr W), some (.int r1), some (.int (1 + r2)), some (.int r3), some (.int T), some (.int B), x6, none]) ?_ (fun K hK => ?_)
  rotate_left
  · refine br_dec (fun e => ?_) (fun e => ?_)
    · refine ⟨W, 29, rfl, by decide, s200 (by decide), wl', fun r9 w9 a9 b9 wl9 o9 => ?_⟩
      refine ⟨r9, rfl, a9, by omega, W, 3, rfl, by decide, s200 (by decide), wl9, fun r10 w10 a10 b10 wl10 o10 => ?_⟩
      have h1 := ten_pos r9.toNat
      have h2 := ten_le (k := r9.toNat) (m := 29) (by omega)
      have e29 : (10 : Int) ^ 29 = 100000000000000000000000000000 := by decide +kernel
      rw [e29] at h2
      exact hK _ _ ⟨wl10, (of'.trans o9).trans o10, (10 : Int) ^ r9.toNat + r10 - 1, by omega, by omega, rfl⟩
    · exact hK _ _ ⟨wl', of', T, T0, T1, rfl⟩
  rintro r w' ⟨wl', of', T, T0, T1, rfl⟩
  try dsimp only
  refine if_join (fun r w' => Wl w' W ∧ OffW w w' W ∧ ∃ (T B : Int), 0 ≤ T ∧ T ≤ 12000000000000000000000000000000 ∧ 0 < B ∧ B ≤ 1000000000000 ∧ r = [some (.ptr W), some (.int r1), some (.int (1 + r2)), some (.int r3), some (.int T), some (.int B), x6, none]) ?_ (fun K hK => ?_)
  rotate_left
  · refine br_dec (fun e => ?_) (fun e => ?_)
    · refine ⟨mulS' (by omega), pw, mulS' (by omega), ?_⟩
      have h1 : T * (1 + r2) ≤ 1000000000000000000000000000000 * 12 := Int.mul_le_mul T1 (by omega) (by omega) (by decide)
      have h2 : 0 ≤ T * (1 + r2) := Int.mul_nonneg T0 (by omega)
      have h3 : 0 < B * (1 + r2) := Int.mul_pos B0 (by omega)
      refine hK _ _ ⟨wl', of', T * (1 + r2), _, h2, by omega, ?_, ?_, rfl⟩
      · show 0 < if B * (1 + r2) < (10 : Int) ^ (12 : Int).toNat then B * (1 + r2) else (10 : Int) ^ (12 : Int).toNat
        rw [show (10 : Int) ^ (12 : Int).toNat = 1000000000000 from p12'']; split <;> omega
      · show (if B * (1 + r2) < (10 : Int) ^ (12 : Int).toNat then B * (1 + r2) else (10 : Int) ^ (12 : Int).toNat) ≤ _
        rw [show (10 : Int) ^ (12 : Int).toNat = 1000000000000 from p12'']; split <;> omega
    · exact hK _ _ ⟨wl', of', T, B, T0, by omega, B0, B1, rfl⟩
  rintro r w' ⟨wl', of', T, B, T0, T1, B0, B1, rfl⟩
  refine ⟨W, 2, rfl, by decide, s200 (by decide), wl', fun r9 w9 a9 b9 wl9 o9 => ?_⟩
  refine ⟨W, 4, rfl, by decide, s200 (by decide), wl9, fun r10 w10 a10 b10 wl10 o10 => ?_⟩
  refine ⟨sz2, sz2, _, rfl, ?_⟩
  obtain ⟨_, f3, sg, rfl, hs⟩ := at_all (P := SgnD) (xs := [.int 1, .int (-1)]) a9 b9 (all2 ⟨1, rfl, .inl rfl⟩ (all2 ⟨-1, rfl, .inr rfl⟩ all0))
  refine ⟨_, f3, mulS' ⟨by omega, by omega⟩, sz2, _, rfl, _, at2 (decide (r10 = 1)), ?_⟩
  have hs2 : (if decide (r10 = 1) = true then (-1 : Int) else 1) = 1 ∨ (if decide (r10 = 1) = true then (-1 : Int) else 1) = -1 := by split <;> simp
  generalize (if decide (r10 = 1) = true then (-1 : Int) else 1) = sb at *
  refine ⟨mulS' (by omega), sz2, ?_⟩
  refine q _ _ _ ⟨?_, ?_, ?_⟩ wl10 ((of'.trans o9).trans o10)
  · rcases hs2 with rfl | rfl <;> omega
  · rcases hs with rfl | rfl <;> exact sz110' (by omega)
  · rcases hs2 with rfl | rfl <;> exact sz41 (by omega)
theorem c__law_pair (G : Fx K mg w) : Cal PR w K mg base "_law_pair" 2 [] sp_pair := by
  obtain ⟨fd, F⟩ := G.d__law_pair
  exact cal_plain F G.g__law_pair (ok__law_pair G F) (fun _ _ _ _ _ _ us hl => match us, hl with | [_], _ => rfl)
theorem ok__law_lowest {fd : FuncData} (G : Fx K mg w) (F : FunD K "_law_lowest" "_law_lowest" (defArgs st__law_lowest) (defBody st__law_lowest) (defScope st__law_lowest) (He.DefD.dvs K d__law_lowest) (He.DefD.kws K d__law_lowest) (He.fAd K ("_law_lowest", none)) fd) : FnG PR w K mg base 1 (He.fAd K ("_law_lowest", none)) fd ["_law_top", "_law_bottom"] (lift K sp_lowest) := by
  refine d_fn F sc__law_lowest (fun ds w Q E h => by obtain ⟨_, _, rfl, _⟩ := h; rfl) (fun cdv A outer s H EL Ed bd => ⟨_, (dss_cons (ds_par 2 3 bd.calm bd.nd (da_cons (de_fn f_abs G.f_abs (da_cons (de_var 0) da_nil)) (da_cons (de_fn f_abs G.f_abs (da_cons (de_var 1) da_nil)) da_nil))) (dss_cons (ds_while bd.po (dt_cmp o_gt (de_var 3) de_int) (dss_one (ds_par 2 3 bd.calm bd.nd (da_cons (de_var 3) (da_cons (de_op o_mod (de_var 2) (de_var 3)) da_nil))))) (dss_cons (ds_if (dt_cmp o_lt (de_var 1) de_int) (dss_one (ds_set 2 bd.nd (de_op o_sub de_int (de_var 2)))) dss_nil) (dss_one (ds_ret (de_tup (da_cons (de_op o_fdivN (de_var 0) (de_var 2)) (da_cons (de_op o_fdivN (de_var 1) (de_var 2)) da_nil)))))))), fun ds w Q h => ?_⟩)
  obtain ⟨a, b, rfl, hb, sb, q⟩ := h
  refine ⟨fun m r w2 => ∃ x y : Nat, m = y ∧ r = [some (.int a), some (.int b), some (.int x), some (.int y)] ∧ w2 = w ∧ Nat.gcd x y = Nat.gcd a.natAbs b.natAbs, ⟨b.natAbs, a.natAbs, b.natAbs, rfl, ?_, rfl, rfl⟩, ?_⟩
  · show [some (Dt.int a), some (Dt.int b), some (Dt.int (if a < 0 then -a else a)), some (Dt.int (if b < 0 then -b else b))] = _
    rw [abs_if, abs_if]
  rintro m r w2 ⟨x, y, rfl, rfl, rfl, e⟩
  refine br_dec (fun hc => ?_) (fun hc => ?_)
  · have hc : (0 : Int) < (m : Int) := hc
    have hm : 0 < m := by omega
    exact ⟨fun r' w' => ∃ x' y' : Nat, y' < m ∧ r' = [some (.int a), some (.int b), some (.int x'), some (.int y')] ∧ w' = w2 ∧ Nat.gcd x' y' = Nat.gcd a.natAbs b.natAbs, fun r' w' ⟨x', y', h1, h2, h3, h4⟩ => ⟨y', h1, x', y', rfl, h2, h3, h4⟩, hc, m, x % m, Nat.mod_lt _ hm, rfl, rfl, (gcd_step hm).trans e⟩
  · have hc : ¬ (0 : Int) < (m : Int) := hc
    have hm : m = 0 := by omega
    subst hm
    rw [Nat.gcd_zero_right] at e
    subst e
    have by0 := byOf_ne (a := a) hb
    have e1 := bot_of (a := a) hb
    have e2 := top_of (a := a) hb
    have sg : Sz 9000 (Nat.gcd a.natAbs b.natAbs : Nat) := sb.of_le (by rw [Int.natAbs_natCast]; exact Nat.gcd_le_right _ (Int.natAbs_pos.mpr hb))
    refine br_dec (fun z => ?_) (fun z => ?_)
    · have z : b < 0 := z
      have eb : byOf a b = 0 - ((Nat.gcd a.natAbs b.natAbs : Nat) : Int) := if_pos z
      have dv : DivN (byOf a b) := by
        refine Sz.divN (n := 9000) ?_ by0 (Nat.le_refl _)
        rw [eb, Int.zero_sub]
        exact sg.neg
      rw [eb] at dv e1 e2
      refine ⟨dv, dv, sz2, ?_⟩
      show Q (.tup [.int (a.fdiv (0 - ((Nat.gcd a.natAbs b.natAbs : Nat) : Int))), .int (b.fdiv (0 - ((Nat.gcd a.natAbs b.natAbs : Nat) : Int)))]) w2
      rw [e1, e2]
      exact q
    · have z : ¬ b < 0 := z
      have eb : byOf a b = ((Nat.gcd a.natAbs b.natAbs : Nat) : Int) := if_neg z
      have dv : DivN (byOf a b) := by
        refine Sz.divN (n := 9000) ?_ by0 (Nat.le_refl _)
        rw [eb]
        exact sg
      rw [eb] at dv e1 e2
      refine ⟨dv, dv, sz2, ?_⟩
      show Q (.tup [.int (a.fdiv ((Nat.gcd a.natAbs b.natAbs : Nat) : Int)), .int (b.fdiv ((Nat.gcd a.natAbs b.natAbs : Nat) : Int))]) w2
      rw [e1, e2]
      exact q
theorem c__law_lowest (G : Fx K mg w) : Cal PR w K mg base "_law_lowest" 1 [] sp_lowest := by
  obtain ⟨fd, F⟩ := G.d__law_lowest
  exact cal_plain F G.g__law_lowest (ok__law_lowest G F) (fun _ _ _ _ _ _ us hl => match us, hl with | [_, _], _ => rfl)
end
end LW
namespace LW
open PySem PySem.Spec PyProof.Rows L2 DL TL
theorem ofs_ok (s : String) : ∀ c ∈ (Str.ofString s).cps.toList, c < 1114112 := by
  rw [Str.ofString_eq_toList]
  intro c hc
  obtain ⟨x, _, rfl⟩ := List.mem_map.mp (show c ∈ s.toList.map Char.toNat from hc)
  have h := x.valid
  have e : x.toNat = x.val.toNat := rfl
  rw [e]
  rcases h with h | ⟨_, h⟩ <;> omega
theorem okc_app {a b : Str} (ha : ∀ c ∈ a.cps.toList, c < 1114112) (hb : ∀ c ∈ b.cps.toList, c < 1114112) : ∀ c ∈ (a ++ b).cps.toList, c < 1114112 := fun c hc => by
  have hc : c ∈ tl (a ++ b) := hc
  rw [tl_append] at hc
  exact (List.mem_append.mp hc).elim (ha c) (hb c)
theorem okc_empty : ∀ c ∈ (Str.empty).cps.toList, c < 1114112 := fun c hc => absurd (show c ∈ ([] : List Nat) from hc) (by simp)
theorem okc_int (n : Int) : ∀ c ∈ ((toString n : Str)).cps.toList, c < 1114112 := ofs_ok _
theorem okc_strN (q : Rat) : ∀ c ∈ (strN q).cps.toList, c < 1114112 := by
  unfold strN
  split
  · exact okc_int _
  · exact okc_app (okc_app (okc_app okc_empty (okc_int _)) (ofs_ok "/")) (okc_int _)
theorem okc_num (q : Rat) : ∀ c ∈ (numText q).cps.toList, c < 1114112 := by
  unfold numText
  exact okc_app (okc_app (okc_app (okc_app (okc_app okc_empty (ofs_ok _)) (okc_int _)) (ofs_ok _)) (okc_int _)) (ofs_ok _)
theorem strN_cat {q : Rat} (h : q.den ≠ 1) : strN q = toString q.num ++ ("/" : Str) ++ toString (q.den : Int) := by
  refine ext_tl ?_
  unfold strN
  rw [if_neg h, tl_append, tl_append, tl_append, tl_append, tl_append, tl_empty, List.nil_append]
theorem num_cat (q : Rat) : ("Number(" : Str) ++ toString q.num ++ (", " : Str) ++ toString (q.den : Int) ++ (")" : Str) = numText q := by
  refine ext_tl ?_
  unfold numText
  simp only [tl_append, tl_empty, List.nil_append]
theorem int_len {i : Int} (h : Sz 130 i) : (toString i : Str).length ≤ 131 := by
  have := int_text_length_le (a := i) (k := 130) (by decide) (h.log (by decide))
  have e : (toString i : Str).length = (toString i : String).length := by
    show (Str.ofString (toString i)).cps.size = _
    rw [Str.ofString_eq_toList]
    simp [String.length]
  omega
theorem one_num (T : Int) : (Rat.divInt T 1).num = T ∧ (Rat.divInt T 1).den = 1 := by
  constructor
  · rw [Rat.num_divInt]; simp
  · rw [Rat.den_divInt]; simp
theorem cross {T B T2 B2 : Int} (h : B ≠ 0) (h2 : B2 ≠ 0) : (T * B2 = T2 * B) ↔ (Rat.divInt T B = Rat.divInt T2 B2) := (Rat.divInt_eq_divInt_iff h h2).symm
theorem cross_b {T B T2 B2 : Int} (h : B ≠ 0) (h2 : B2 ≠ 0) : decide (T * B2 = T2 * B) = decide (Rat.divInt T B = Rat.divInt T2 B2) := decide_eq_decide.mpr (cross h h2)
theorem own_in {K : PySem.W.Frag} {w : Om} {p q : Rat} : InOw K (cN K) [] sp_eqX (.num q) w (.num p) (decide (p = q)) :=
  ⟨.inl ⟨rfl, .inr (.inl .num), p, .num q, rfl, rfl, rfl, rfl⟩, fun _ _ H a r1 r2 => decide_eq_true (num_inj r1 r2)⟩
def NoNum (d : Dt) : Prop := isD d = true ∧ (∀ q, eqNX q d = false) ∧ ∀ K w, ∃ T ∈ KIN7, TyD K w d (.type T)
theorem nn_non : NoNum .non := ⟨rfl, fun _ => rfl, fun _ _ => ⟨_, by decide, .non⟩⟩
theorem nn_bl {b : Bool} : NoNum (.bl b) := ⟨rfl, fun _ => rfl, fun _ _ => ⟨_, by decide, .bl⟩⟩
theorem nn_int {i : Int} : NoNum (.int i) := ⟨rfl, fun _ => rfl, fun _ _ => ⟨_, by decide, .int⟩⟩
theorem nn_str {z : Str} : NoNum (.str z) := ⟨rfl, fun _ => rfl, fun _ _ => ⟨_, by decide, .str⟩⟩
theorem nn_tup {ds : List Dt} : NoNum (.tup ds) := ⟨rfl, fun _ => rfl, fun _ _ => ⟨_, by decide, .tup⟩⟩
theorem nn_lst {ds : List Dt} : NoNum (.lst ds) := ⟨rfl, fun _ => rfl, fun _ _ => ⟨_, by decide, .lst⟩⟩
theorem nn_dct {fs : List (Str × Dt)} : NoNum (.dct fs) := ⟨rfl, fun _ => rfl, fun _ _ => ⟨_, by decide, .dct⟩⟩
theorem no_back {K : PySem.W.Frag} {w : Om} {q : Rat} {d : Dt} (h : NoNum d) : OwnR K (cN K) [] sp_eqX w d (.num q) false := .inr ⟨h.2.2 K w, rfl, q, d, rfl, h.1, h.2.1 q ▸ rfl, rfl⟩
theorem no_left {K : PySem.W.Frag} {w : Om} {q : Rat} {d : Dt} (h : NoNum d) : OwnD K (cN K) (.num q) ∧ OthT K w (cN K) [] d ∧ sp_eqX [.num q, d] w (fun z w2 => z = .bl false ∧ w2 = w) fun _ _ _ => False := ⟨rfl, .inl (h.2.2 K w), q, d, rfl, h.1, h.2.1 q ▸ rfl, rfl⟩
theorem no_in {K : PySem.W.Frag} {w : Om} {q : Rat} {d : Dt} (h : NoNum d) : InOw K (cN K) [] sp_eqX (.num q) w d false := ⟨no_back h, fun g => by
  cases d with
  | num q0 => have := h.2.1 q0; simp [eqNX] at this
  | ins => exact absurd h.1 (fun z => nomatch z)
  | _ => exact g.elim⟩
theorem no_ins {K : PySem.W.Frag} {w : Om} {q : Rat} : ∀ {ds : List Dt}, (∀ d ∈ ds, NoNum d) → ∃ rs, Paired (fun d r => InOw K (cN K) [] sp_eqX (.num q) w d r) ds rs ∧ rs.any id = false
  | [], _ => ⟨[], .nil, rfl⟩
  | d :: ds, h => by
    obtain ⟨rs, h1, h2⟩ := no_ins (K := K) (w := w) (q := q) fun x hx => h x (List.mem_cons_of_mem _ hx)
    exact ⟨false :: rs, .cons (no_in (h d List.mem_cons_self)) h1, by rw [List.any_cons, h2]; rfl⟩
theorem eq_one {q p : Rat} : eqQL [.num q, .int 1] [.num p, .int 1] = some (decide (q = p)) := by
  unfold eqQL
  rw [show eqI (.num q) (.num p) = some (decide (q = p)) from rfl]
  generalize decide (q = p) = b
  cases b <;> rfl
def PrB (T B : Int) : Prop := B ≠ 0 ∧ Sz 120 T ∧ Sz 45 B
theorem PrI.b {T B : Int} (h : PrI T B) : PrB T B := ⟨h.1, h.2.1.mono (by decide), h.2.2.mono (by decide)⟩
theorem len_strN {q : Rat} (h : SzR 130 q) : (strN q).length ≤ 300 := by
  have a := int_len h.1
  have b := int_len (show Sz 130 (q.den : Int) by unfold Sz; exact h.2)
  have l1 : (("/" : Str)).length = 1 := by decide +kernel
  by_cases e : q.den = 1
  · unfold strN; rw [if_pos e]; omega
  · rw [strN_cat e, str_app, str_app]; omega
theorem len_num {q : Rat} (h : SzR 130 q) : (numText q).length ≤ 300 := by
  have a := int_len h.1
  have b := int_len (show Sz 130 (q.den : Int) by unfold Sz; exact h.2)
  have l1 : (("Number(" : Str)).length = 7 := by decide +kernel
  have l2 : ((", " : Str)).length = 2 := by decide +kernel
  have l3 : ((")" : Str)).length = 1 := by decide +kernel
  rw [← num_cat, str_app, str_app, str_app, str_app]; omega
def sp_shown1 : DSp := fun ds w Q _ => ∃ T B : Int, ds = [.tup [.int T, .int B]] ∧ PrB T B ∧ Q (.bl true) w
def sp_equal1 : DSp := fun ds w Q _ => ∃ T B T2 B2 : Int, ds = [.tup [.int T, .int B], .tup [.int T2, .int B2]] ∧ PrB T B ∧ PrB T2 B2 ∧ Q (.bl true) w
theorem sameS (x : Str) : (!decide (x = x)) = false := by rw [decide_eq_true rfl]; rfl
section
variable {w : World} {K : PySem.W.Frag} {mg : Str → Option Value} {base : Heap}
theorem ok__law_shown_right {fd : FuncData} (G : Fx K mg w) (F : FunD K "_law_shown_right" "_law_shown_right" (defArgs st__law_shown_right) (defBody st__law_shown_right) (defScope st__law_shown_right) (He.DefD.dvs K d__law_shown_right) (He.DefD.kws K d__law_shown_right) (He.fAd K ("_law_shown_right", none)) fd) : FnG PR w K mg base 102 (He.fAd K ("_law_shown_right", none)) fd ["_law_pair_here"] (lift K sp_shown1) := by
  refine d_fn F sc__law_shown_right (fun ds w Q E h => by obtain ⟨_, _, rfl, _⟩ := h; rfl) (fun cdv A outer s H EL Ed bd => ⟨_, (dss_cons (ds_set 1 bd.nd (de_make bd (k_Number_0 G) (da_cons (de_ix (de_var 0) de_int) (da_cons (de_ix (de_var 0) de_int) da_nil)))) (dss_cons (ds_asg (de_call bd (c__law_lowest G) (da_cons (de_ix (de_var 0) de_int) (da_cons (de_ix (de_var 0) de_int) da_nil))) (dg_tup (n := 2) bd.calm (dgs_cons (dg_name 2 bd.nd) (dgs_cons (dg_name 3 bd.nd) dgs_nil)))) (dss_cons (ds_set 4 bd.nd (de_fnTy f_str G.f_str (da_cons (de_var 2) da_nil))) (dss_cons (ds_if (dt_cmp o_gt (de_var 3) de_int) (dss_one (ds_set 4 bd.nd (de_op o_add (de_op o_add (de_var 4) de_str) (de_fnTy f_str G.f_str (da_cons (de_var 3) da_nil))))) dss_nil) (dss_cons (ds_set 5 bd.nd (de_op o_add (de_op o_add (de_op o_add (de_op o_add de_str (de_fnTy f_str G.f_str (da_cons (de_var 2) da_nil))) de_str) (de_fnTy f_str G.f_str (da_cons (de_var 3) da_nil))) de_str)) (dss_cons (ds_set 6 bd.nd (de_lst (da_cons (de_top G.cl G.na_top (de_var 1)) (da_cons (de_bot G.cl G.na_bottom (de_var 1)) (da_cons (de_fnTy (f_strN bd (m___str__ G) strSp) G.f_str (da_cons (de_var 1) da_nil)) (da_cons (de_fn (f_repr bd (m___repr__ G) repSp) G.f_repr (da_cons (de_var 1) da_nil)) (da_cons (de_join1 (de_fmtN bd (m___str__ G) strSp G.fmk (de_var 1))) da_nil))))))) (dss_cons (ds_if (dt_cmp (o_ne bd.room.room) (de_fn (f_reprP bd) G.f_repr (da_cons (de_var 6) da_nil)) (de_fn (f_reprP bd) G.f_repr (da_cons (de_lst (da_cons (de_var 2) (da_cons (de_var 3) (da_cons (de_var 4) (da_cons (de_var 5) (da_cons (de_var 4) da_nil)))))) da_nil))) (dss_one (ds_ret de_bl)) dss_nil) (dss_cons (ds_set 7 bd.nd (de_make bd (k_Number_1 G) (da_cons (de_ix (de_var 0) de_int) da_nil))) (dss_one (ds_ret (de_cmp (o_eq bd.room.room) (de_fn (f_reprP bd) G.f_repr (da_cons (de_lst (da_cons (de_top G.cl G.na_top (de_var 7)) (da_cons (de_bot G.cl G.na_bottom (de_var 7)) (da_cons (de_fnTy (f_strN bd (m___str__ G) strSp) G.f_str (da_cons (de_var 7) da_nil)) da_nil)))) da_nil)) (de_fn (f_reprP bd) G.f_repr (da_cons (de_lst (da_cons (de_ix (de_var 0) de_int) (da_cons de_int (da_cons (de_fnTy f_str G.f_str (da_cons (de_ix (de_var 0) de_int) da_nil)) da_nil)))) da_nil))))))))))))), fun ds w Q h => ?_⟩)
  obtain ⟨T, B, rfl, ⟨B0, sT, sB⟩, h⟩ := h
  have sq : SzR 130 (Rat.divInt T B) := szr_divInt (sT.mono (by decide)) (sB.mono (by decide)) B0
  simp only [startD, List.length_cons, List.length_nil, List.map_cons, List.map_nil, List.cons_append, List.nil_append, Nat.reduceAdd, Nat.reduceSub, List.replicate_succ, List.replicate_zero, List.replicate]
  refine seq_op (fun N hN => ?_); (try dsimp only [dAsg, dOp, dVar, nth, dC, dB, dIfS, dIf, dOr, dAnd, dNot, dAndV, dOrV, dNotV, dNil, dCons, dTup, dLst, dLstM, dCall, dFn, gNm, pus, dNext, dRet, dRetN, dDrop, dPar, dAug, dSl, dNo, dPt, dNeg, dMt, dStr, dChain, DL.isNon, br_T, br_F, s1R, splitPR, splitR, joinR, startsR, endsR, catM, catL, gSubM, appendR, popR, dRevS, dFmt, dJoin, dJs, gTp_1, gTp_2, gTp_3, gTp_4, gTp_5, gTp_6, gTp_7, gTp_8, gsCons, gsNil, dFor_eq, dLcK_eq, dRng1, dRng2, dItL, dItS, dZip, dEnum, dEnumS, wipeD, dYes, eqR_i, neR_i, eqR_s, neR_s, eqR_b, neR_b, eqR_n, neR_n, itemR_t, itemR_l, itemR_r, itemR_p, itemR_s, addR_i, addR_b, addR_s, addR_l, addR_t, mulR_i, dI_i, dI0_i, isR_n, isR_b, lenR_t, listR_t, tupleR_t, sliceR_t, lenR_l, listR_l, tupleR_l, sliceR_l, lenR_r, listR_r, tupleR_r, sliceR_r, lenR_s, lenR_p, listR_p, tupleR_p, sliceR_p, sliceR_s, absR_i, max2R_i, min2R_i, intR_i, intR_b, strR_i, strR_s, mulSR_s, mulLR_l, gSubD, dGet, dDispV, dFrzD, dCallN, dFrz, dTop, dBot, dMethN, dRev, dRevM, dRevT, sumR, addSR_s, cxOf, fldR_i, fldR_p, dFld, hasM_i, hasM_p, dMethC, dMakeK, dMethK, dLenS, dDc, dGetK2, dGetK1, extendR, popAtR, dSetF, dCallV, dTab, dRaise, inCR_s, dFmtN, strNR, reprR, List.cons_append, List.nil_append, List.append_nil])
  refine ⟨_, at0, _, at1, T, B, rfl, B0, sT.mono (by decide), sB.mono (by decide), ?_⟩
  refine hN _ _ ?_; clear hN N
  refine seq_op (fun N hN => ?_); (try dsimp only [dAsg, dOp, dVar, nth, dC, dB, dIfS, dIf, dOr, dAnd, dNot, dAndV, dOrV, dNotV, dNil, dCons, dTup, dLst, dLstM, dCall, dFn, gNm, pus, dNext, dRet, dRetN, dDrop, dPar, dAug, dSl, dNo, dPt, dNeg, dMt, dStr, dChain, DL.isNon, br_T, br_F, s1R, splitPR, splitR, joinR, startsR, endsR, catM, catL, gSubM, appendR, popR, dRevS, dFmt, dJoin, dJs, gTp_1, gTp_2, gTp_3, gTp_4, gTp_5, gTp_6, gTp_7, gTp_8, gsCons, gsNil, dFor_eq, dLcK_eq, dRng1, dRng2, dItL, dItS, dZip, dEnum, dEnumS, wipeD, dYes, eqR_i, neR_i, eqR_s, neR_s, eqR_b, neR_b, eqR_n, neR_n, itemR_t, itemR_l, itemR_r, itemR_p, itemR_s, addR_i, addR_b, addR_s, addR_l, addR_t, mulR_i, dI_i, dI0_i, isR_n, isR_b, lenR_t, listR_t, tupleR_t, sliceR_t, lenR_l, listR_l, tupleR_l, sliceR_l, lenR_r, listR_r, tupleR_r, sliceR_r, lenR_s, lenR_p, listR_p, tupleR_p, sliceR_p, sliceR_s, absR_i, max2R_i, min2R_i, intR_i, intR_b, strR_i, strR_s, mulSR_s, mulLR_l, gSubD, dGet, dDispV, dFrzD, dCallN, dFrz, dTop, dBot, dMethN, dRev, dRevM, dRevT, sumR, addSR_s, cxOf, fldR_i, fldR_p, dFld, hasM_i, hasM_p, dMethC, dMakeK, dMethK, dLenS, dDc, dGetK2, dGetK1, extendR, popAtR, dSetF, dCallV, dTab, dRaise, inCR_s, dFmtN, strNR, reprR, List.cons_append, List.nil_append, List.append_nil])
  refine ⟨_, at0, _, at1, T, B, rfl, B0, sB.mono (by decide), ?_⟩
  (try dsimp only [dAsg, dOp, dVar, nth, dC, dB, dIfS, dIf, dOr, dAnd, dNot, dAndV, dOrV, dNotV, dNil, dCons, dTup, dLst, dLstM, dCall, dFn, gNm, pus, dNext, dRet, dRetN, dDrop, dPar, dAug, dSl, dNo, dPt, dNeg, dMt, dStr, dChain, DL.isNon, br_T, br_F, s1R, splitPR, splitR, joinR, startsR, endsR, catM, catL, gSubM, appendR, popR, dRevS, dFmt, dJoin, dJs, gTp_1, gTp_2, gTp_3, gTp_4, gTp_5, gTp_6, gTp_7, gTp_8, gsCons, gsNil, dFor_eq, dLcK_eq, dRng1, dRng2, dItL, dItS, dZip, dEnum, dEnumS, wipeD, dYes, eqR_i, neR_i, eqR_s, neR_s, eqR_b, neR_b, eqR_n, neR_n, itemR_t, itemR_l, itemR_r, itemR_p, itemR_s, addR_i, addR_b, addR_s, addR_l, addR_t, mulR_i, dI_i, dI0_i, isR_n, isR_b, lenR_t, listR_t, tupleR_t, sliceR_t, lenR_l, listR_l, tupleR_l, sliceR_l, lenR_r, listR_r, tupleR_r, sliceR_r, lenR_s, lenR_p, listR_p, tupleR_p, sliceR_p, sliceR_s, absR_i, max2R_i, min2R_i, intR_i, intR_b, strR_i, strR_s, mulSR_s, mulLR_l, gSubD, dGet, dDispV, dFrzD, dCallN, dFrz, dTop, dBot, dMethN, dRev, dRevM, dRevT, sumR, addSR_s, cxOf, fldR_i, fldR_p, dFld, hasM_i, hasM_p, dMethC, dMakeK, dMethK, dLenS, dDc, dGetK2, dGetK1, extendR, popAtR, dSetF, dCallV, dTab, dRaise, inCR_s, dFmtN, strNR, reprR, List.cons_append, List.nil_append, List.append_nil])
  generalize hq : Rat.divInt T B = q at *
  have sn := int_len sq.1
  have sd := int_len (show Sz 130 (q.den : Int) by unfold Sz; exact sq.2)
  have ln := len_num sq
  have ls := len_strN sq
  have sqw : SzR 1920 q := sq.mono (by decide)
  refine hN _ _ ?_; clear hN N
  refine seq_op (fun N hN => ?_); (try dsimp only [dAsg, dOp, dVar, nth, dC, dB, dIfS, dIf, dOr, dAnd, dNot, dAndV, dOrV, dNotV, dNil, dCons, dTup, dLst, dLstM, dCall, dFn, gNm, pus, dNext, dRet, dRetN, dDrop, dPar, dAug, dSl, dNo, dPt, dNeg, dMt, dStr, dChain, DL.isNon, br_T, br_F, s1R, splitPR, splitR, joinR, startsR, endsR, catM, catL, gSubM, appendR, popR, dRevS, dFmt, dJoin, dJs, gTp_1, gTp_2, gTp_3, gTp_4, gTp_5, gTp_6, gTp_7, gTp_8, gsCons, gsNil, dFor_eq, dLcK_eq, dRng1, dRng2, dItL, dItS, dZip, dEnum, dEnumS, wipeD, dYes, eqR_i, neR_i, eqR_s, neR_s, eqR_b, neR_b, eqR_n, neR_n, itemR_t, itemR_l, itemR_r, itemR_p, itemR_s, addR_i, addR_b, addR_s, addR_l, addR_t, mulR_i, dI_i, dI0_i, isR_n, isR_b, lenR_t, listR_t, tupleR_t, sliceR_t, lenR_l, listR_l, tupleR_l, sliceR_l, lenR_r, listR_r, tupleR_r, sliceR_r, lenR_s, lenR_p, listR_p, tupleR_p, sliceR_p, sliceR_s, absR_i, max2R_i, min2R_i, intR_i, intR_b, strR_i, strR_s, mulSR_s, mulLR_l, gSubD, dGet, dDispV, dFrzD, dCallN, dFrz, dTop, dBot, dMethN, dRev, dRevM, dRevT, sumR, addSR_s, cxOf, fldR_i, fldR_p, dFld, hasM_i, hasM_p, dMethC, dMakeK, dMethK, dLenS, dDc, dGetK2, dGetK1, extendR, popAtR, dSetF, dCallV, dTab, dRaise, inCR_s, dFmtN, strNR, reprR, List.cons_append, List.nil_append, List.append_nil])
  refine ⟨sqw.1.log (by decide), ?_⟩
  refine hN _ _ ?_; clear hN N
  refine seq_op (fun N hN => ?_); (try dsimp only [dAsg, dOp, dVar, nth, dC, dB, dIfS, dIf, dOr, dAnd, dNot, dAndV, dOrV, dNotV, dNil, dCons, dTup, dLst, dLstM, dCall, dFn, gNm, pus, dNext, dRet, dRetN, dDrop, dPar, dAug, dSl, dNo, dPt, dNeg, dMt, dStr, dChain, DL.isNon, br_T, br_F, s1R, splitPR, splitR, joinR, startsR, endsR, catM, catL, gSubM, appendR, popR, dRevS, dFmt, dJoin, dJs, gTp_1, gTp_2, gTp_3, gTp_4, gTp_5, gTp_6, gTp_7, gTp_8, gsCons, gsNil, dFor_eq, dLcK_eq, dRng1, dRng2, dItL, dItS, dZip, dEnum, dEnumS, wipeD, dYes, eqR_i, neR_i, eqR_s, neR_s, eqR_b, neR_b, eqR_n, neR_n, itemR_t, itemR_l, itemR_r, itemR_p, itemR_s, addR_i, addR_b, addR_s, addR_l, addR_t, mulR_i, dI_i, dI0_i, isR_n, isR_b, lenR_t, listR_t, tupleR_t, sliceR_t, lenR_l, listR_l, tupleR_l, sliceR_l, lenR_r, listR_r, tupleR_r, sliceR_r, lenR_s, lenR_p, listR_p, tupleR_p, sliceR_p, sliceR_s, absR_i, max2R_i, min2R_i, intR_i, intR_b, strR_i, strR_s, mulSR_s, mulLR_l, gSubD, dGet, dDispV, dFrzD, dCallN, dFrz, dTop, dBot, dMethN, dRev, dRevM, dRevT, sumR, addSR_s, cxOf, fldR_i, fldR_p, dFld, hasM_i, hasM_p, dMethC, dMakeK, dMethK, dLenS, dDc, dGetK2, dGetK1, extendR, popAtR, dSetF, dCallV, dTab, dRaise, inCR_s, dFmtN, strNR, reprR, List.cons_append, List.nil_append, List.append_nil])
  suffices key : N [some (.tup [.int T, .int B]), some (.num q), some (.int q.num), some (.int (q.den : Int)), some (.str (strN q)), none, none, none] w by
    refine br_dec (fun e => ?_) (fun e => ?_)
    · have z : q.den ≠ 1 := by omega
      rw [strN_cat z] at key
      have l1 : (("/" : Str)).length = 1 := by decide +kernel
      have l2 : ((toString q.num : Str) ++ ("/" : Str)).length ≤ 200 := by rw [str_app]; omega
      refine ⟨by rw [sizeLine_eq]; omega, sqw.2.log (by decide), by rw [sizeLine_eq]; omega, key⟩
    · have z : q.den = 1 := by have := q.den_pos; omega
      have e : strN q = toString q.num := if_pos z
      rw [e] at key
      exact key
  refine hN _ _ ?_; clear hN N
  refine seq_op (fun N hN => ?_); (try dsimp only [dAsg, dOp, dVar, nth, dC, dB, dIfS, dIf, dOr, dAnd, dNot, dAndV, dOrV, dNotV, dNil, dCons, dTup, dLst, dLstM, dCall, dFn, gNm, pus, dNext, dRet, dRetN, dDrop, dPar, dAug, dSl, dNo, dPt, dNeg, dMt, dStr, dChain, DL.isNon, br_T, br_F, s1R, splitPR, splitR, joinR, startsR, endsR, catM, catL, gSubM, appendR, popR, dRevS, dFmt, dJoin, dJs, gTp_1, gTp_2, gTp_3, gTp_4, gTp_5, gTp_6, gTp_7, gTp_8, gsCons, gsNil, dFor_eq, dLcK_eq, dRng1, dRng2, dItL, dItS, dZip, dEnum, dEnumS, wipeD, dYes, eqR_i, neR_i, eqR_s, neR_s, eqR_b, neR_b, eqR_n, neR_n, itemR_t, itemR_l, itemR_r, itemR_p, itemR_s, addR_i, addR_b, addR_s, addR_l, addR_t, mulR_i, dI_i, dI0_i, isR_n, isR_b, lenR_t, listR_t, tupleR_t, sliceR_t, lenR_l, listR_l, tupleR_l, sliceR_l, lenR_r, listR_r, tupleR_r, sliceR_r, lenR_s, lenR_p, listR_p, tupleR_p, sliceR_p, sliceR_s, absR_i, max2R_i, min2R_i, intR_i, intR_b, strR_i, strR_s, mulSR_s, mulLR_l, gSubD, dGet, dDispV, dFrzD, dCallN, dFrz, dTop, dBot, dMethN, dRev, dRevM, dRevT, sumR, addSR_s, cxOf, fldR_i, fldR_p, dFld, hasM_i, hasM_p, dMethC, dMakeK, dMethK, dLenS, dDc, dGetK2, dGetK1, extendR, popAtR, dSetF, dCallV, dTab, dRaise, inCR_s, dFmtN, strNR, reprR, List.cons_append, List.nil_append, List.append_nil])
  have l1 : (("Number(" : Str)).length = 7 := by decide +kernel
  have l2 : ((", " : Str)).length = 2 := by decide +kernel
  have l3 : ((")" : Str)).length = 1 := by decide +kernel
  refine ⟨sqw.1.log (by decide), by rw [sizeLine_eq]; omega, by rw [sizeLine_eq, str_app]; omega, sqw.2.log (by decide), by rw [sizeLine_eq, str_app, str_app]; omega, by rw [sizeLine_eq, str_app, str_app, str_app]; omega, ?_⟩
  rw [num_cat]
  refine hN _ _ ?_; clear hN N
  refine seq_op (fun N hN => ?_); (try dsimp only [dAsg, dOp, dVar, nth, dC, dB, dIfS, dIf, dOr, dAnd, dNot, dAndV, dOrV, dNotV, dNil, dCons, dTup, dLst, dLstM, dCall, dFn, gNm, pus, dNext, dRet, dRetN, dDrop, dPar, dAug, dSl, dNo, dPt, dNeg, dMt, dStr, dChain, DL.isNon, br_T, br_F, s1R, splitPR, splitR, joinR, startsR, endsR, catM, catL, gSubM, appendR, popR, dRevS, dFmt, dJoin, dJs, gTp_1, gTp_2, gTp_3, gTp_4, gTp_5, gTp_6, gTp_7, gTp_8, gsCons, gsNil, dFor_eq, dLcK_eq, dRng1, dRng2, dItL, dItS, dZip, dEnum, dEnumS, wipeD, dYes, eqR_i, neR_i, eqR_s, neR_s, eqR_b, neR_b, eqR_n, neR_n, itemR_t, itemR_l, itemR_r, itemR_p, itemR_s, addR_i, addR_b, addR_s, addR_l, addR_t, mulR_i, dI_i, dI0_i, isR_n, isR_b, lenR_t, listR_t, tupleR_t, sliceR_t, lenR_l, listR_l, tupleR_l, sliceR_l, lenR_r, listR_r, tupleR_r, sliceR_r, lenR_s, lenR_p, listR_p, tupleR_p, sliceR_p, sliceR_s, absR_i, max2R_i, min2R_i, intR_i, intR_b, strR_i, strR_s, mulSR_s, mulLR_l, gSubD, dGet, dDispV, dFrzD, dCallN, dFrz, dTop, dBot, dMethN, dRev, dRevM, dRevT, sumR, addSR_s, cxOf, fldR_i, fldR_p, dFld, hasM_i, hasM_p, dMethC, dMakeK, dMethK, dLenS, dDc, dGetK2, dGetK1, extendR, popAtR, dSetF, dCallV, dTab, dRaise, inCR_s, dFmtN, strNR, reprR, List.cons_append, List.nil_append, List.append_nil])
  refine ⟨sqw, sqw, sqw, (Nat.le_of_ble_eq_true rfl), ?_⟩
  refine hN _ _ ?_; clear hN N
  refine seq_op (fun N hN => ?_); (try dsimp only [dAsg, dOp, dVar, nth, dC, dB, dIfS, dIf, dOr, dAnd, dNot, dAndV, dOrV, dNotV, dNil, dCons, dTup, dLst, dLstM, dCall, dFn, gNm, pus, dNext, dRet, dRetN, dDrop, dPar, dAug, dSl, dNo, dPt, dNeg, dMt, dStr, dChain, DL.isNon, br_T, br_F, s1R, splitPR, splitR, joinR, startsR, endsR, catM, catL, gSubM, appendR, popR, dRevS, dFmt, dJoin, dJs, gTp_1, gTp_2, gTp_3, gTp_4, gTp_5, gTp_6, gTp_7, gTp_8, gsCons, gsNil, dFor_eq, dLcK_eq, dRng1, dRng2, dItL, dItS, dZip, dEnum, dEnumS, wipeD, dYes, eqR_i, neR_i, eqR_s, neR_s, eqR_b, neR_b, eqR_n, neR_n, itemR_t, itemR_l, itemR_r, itemR_p, itemR_s, addR_i, addR_b, addR_s, addR_l, addR_t, mulR_i, dI_i, dI0_i, isR_n, isR_b, lenR_t, listR_t, tupleR_t, sliceR_t, lenR_l, listR_l, tupleR_l, sliceR_l, lenR_r, listR_r, tupleR_r, sliceR_r, lenR_s, lenR_p, listR_p, tupleR_p, sliceR_p, sliceR_s, absR_i, max2R_i, min2R_i, intR_i, intR_b, strR_i, strR_s, mulSR_s, mulLR_l, gSubD, dGet, dDispV, dFrzD, dCallN, dFrz, dTop, dBot, dMethN, dRev, dRevM, dRevT, sumR, addSR_s, cxOf, fldR_i, fldR_p, dFld, hasM_i, hasM_p, dMethC, dMakeK, dMethK, dLenS, dDc, dGetK2, dGetK1, extendR, popAtR, dSetF, dCallV, dTab, dRaise, inCR_s, dFmtN, strNR, reprR, List.cons_append, List.nil_append, List.append_nil])
  obtain ⟨t, ht⟩ := repr_p (d := .lst [.int q.num, .int (q.den : Int), .str (strN q), .str (numText q), .str (strN q)]) (sw_lst (n := 0) (b := 300) (DL.all2 ((sw_int (sqw.1.log (by decide))).mono (by decide) (by decide)) (DL.all2 ((sw_int (sqw.2.log (by decide))).mono (by decide) (by decide)) (DL.all2 (sw_str ls (okc_strN q)) (DL.all2 (sw_str ln (okc_num q)) (DL.all2 (sw_str ls (okc_strN q)) all0)))))) (by decide) (by show 301 * 5 ≤ 8000; decide)
  refine ht _ _ ⟨(Nat.le_of_ble_eq_true rfl), ht _ _ ?_⟩
  (try dsimp only [dAsg, dOp, dVar, nth, dC, dB, dIfS, dIf, dOr, dAnd, dNot, dAndV, dOrV, dNotV, dNil, dCons, dTup, dLst, dLstM, dCall, dFn, gNm, pus, dNext, dRet, dRetN, dDrop, dPar, dAug, dSl, dNo, dPt, dNeg, dMt, dStr, dChain, DL.isNon, br_T, br_F, s1R, splitPR, splitR, joinR, startsR, endsR, catM, catL, gSubM, appendR, popR, dRevS, dFmt, dJoin, dJs, gTp_1, gTp_2, gTp_3, gTp_4, gTp_5, gTp_6, gTp_7, gTp_8, gsCons, gsNil, dFor_eq, dLcK_eq, dRng1, dRng2, dItL, dItS, dZip, dEnum, dEnumS, wipeD, dYes, eqR_i, neR_i, eqR_s, neR_s, eqR_b, neR_b, eqR_n, neR_n, itemR_t, itemR_l, itemR_r, itemR_p, itemR_s, addR_i, addR_b, addR_s, addR_l, addR_t, mulR_i, dI_i, dI0_i, isR_n, isR_b, lenR_t, listR_t, tupleR_t, sliceR_t, lenR_l, listR_l, tupleR_l, sliceR_l, lenR_r, listR_r, tupleR_r, sliceR_r, lenR_s, lenR_p, listR_p, tupleR_p, sliceR_p, sliceR_s, absR_i, max2R_i, min2R_i, intR_i, intR_b, strR_i, strR_s, mulSR_s, mulLR_l, gSubD, dGet, dDispV, dFrzD, dCallN, dFrz, dTop, dBot, dMethN, dRev, dRevM, dRevT, sumR, addSR_s, cxOf, fldR_i, fldR_p, dFld, hasM_i, hasM_p, dMethC, dMakeK, dMethK, dLenS, dDc, dGetK2, dGetK1, extendR, popAtR, dSetF, dCallV, dTab, dRaise, inCR_s, dFmtN, strNR, reprR, List.cons_append, List.nil_append, List.append_nil])
  refine br_f (sameS t) ?_
  refine hN _ _ ?_; clear hN N
  refine seq_op (fun N hN => ?_); (try dsimp only [dAsg, dOp, dVar, nth, dC, dB, dIfS, dIf, dOr, dAnd, dNot, dAndV, dOrV, dNotV, dNil, dCons, dTup, dLst, dLstM, dCall, dFn, gNm, pus, dNext, dRet, dRetN, dDrop, dPar, dAug, dSl, dNo, dPt, dNeg, dMt, dStr, dChain, DL.isNon, br_T, br_F, s1R, splitPR, splitR, joinR, startsR, endsR, catM, catL, gSubM, appendR, popR, dRevS, dFmt, dJoin, dJs, gTp_1, gTp_2, gTp_3, gTp_4, gTp_5, gTp_6, gTp_7, gTp_8, gsCons, gsNil, dFor_eq, dLcK_eq, dRng1, dRng2, dItL, dItS, dZip, dEnum, dEnumS, wipeD, dYes, eqR_i, neR_i, eqR_s, neR_s, eqR_b, neR_b, eqR_n, neR_n, itemR_t, itemR_l, itemR_r, itemR_p, itemR_s, addR_i, addR_b, addR_s, addR_l, addR_t, mulR_i, dI_i, dI0_i, isR_n, isR_b, lenR_t, listR_t, tupleR_t, sliceR_t, lenR_l, listR_l, tupleR_l, sliceR_l, lenR_r, listR_r, tupleR_r, sliceR_r, lenR_s, lenR_p, listR_p, tupleR_p, sliceR_p, sliceR_s, absR_i, max2R_i, min2R_i, intR_i, intR_b, strR_i, strR_s, mulSR_s, mulLR_l, gSubD, dGet, dDispV, dFrzD, dCallN, dFrz, dTop, dBot, dMethN, dRev, dRevM, dRevT, sumR, addSR_s, cxOf, fldR_i, fldR_p, dFld, hasM_i, hasM_p, dMethC, dMakeK, dMethK, dLenS, dDc, dGetK2, dGetK1, extendR, popAtR, dSetF, dCallV, dTab, dRaise, inCR_s, dFmtN, strNR, reprR, List.cons_append, List.nil_append, List.append_nil])
  refine ⟨_, at0, T, 1, rfl, by decide, sT.mono (by decide), by unfold Sz; decide, ?_⟩
  refine hN _ _ ?_; clear hN N
  (try dsimp only [dAsg, dOp, dVar, nth, dC, dB, dIfS, dIf, dOr, dAnd, dNot, dAndV, dOrV, dNotV, dNil, dCons, dTup, dLst, dLstM, dCall, dFn, gNm, pus, dNext, dRet, dRetN, dDrop, dPar, dAug, dSl, dNo, dPt, dNeg, dMt, dStr, dChain, DL.isNon, br_T, br_F, s1R, splitPR, splitR, joinR, startsR, endsR, catM, catL, gSubM, appendR, popR, dRevS, dFmt, dJoin, dJs, gTp_1, gTp_2, gTp_3, gTp_4, gTp_5, gTp_6, gTp_7, gTp_8, gsCons, gsNil, dFor_eq, dLcK_eq, dRng1, dRng2, dItL, dItS, dZip, dEnum, dEnumS, wipeD, dYes, eqR_i, neR_i, eqR_s, neR_s, eqR_b, neR_b, eqR_n, neR_n, itemR_t, itemR_l, itemR_r, itemR_p, itemR_s, addR_i, addR_b, addR_s, addR_l, addR_t, mulR_i, dI_i, dI0_i, isR_n, isR_b, lenR_t, listR_t, tupleR_t, sliceR_t, lenR_l, listR_l, tupleR_l, sliceR_l, lenR_r, listR_r, tupleR_r, sliceR_r, lenR_s, lenR_p, listR_p, tupleR_p, sliceR_p, sliceR_s, absR_i, max2R_i, min2R_i, intR_i, intR_b, strR_i, strR_s, mulSR_s, mulLR_l, gSubD, dGet, dDispV, dFrzD, dCallN, dFrz, dTop, dBot, dMethN, dRev, dRevM, dRevT, sumR, addSR_s, cxOf, fldR_i, fldR_p, dFld, hasM_i, hasM_p, dMethC, dMakeK, dMethK, dLenS, dDc, dGetK2, dGetK1, extendR, popAtR, dSetF, dCallV, dTab, dRaise, inCR_s, dFmtN, strNR, reprR, List.cons_append, List.nil_append, List.append_nil])
  have n1 := one_num T
  have s1 : (strN (Rat.divInt T 1)) = toString T := by unfold strN; rw [if_pos n1.2, n1.1]
  have lT := int_len (sT.mono (by decide))
  have gT := (sT.mono (by decide : (120 : Nat) ≤ 1920)).log (by decide)
  obtain ⟨t2, ht2⟩ := repr_p (d := .lst [.int T, .int 1, .str (toString T)]) (sw_lst (n := 0) (b := 300) (DL.all2 ((sw_int gT).mono (by decide) (by decide)) (DL.all2 ((sw_int (by decide)).mono (by decide) (by decide)) (DL.all2 (sw_str (by omega) (okc_int T)) all0)))) (by decide) (by show 301 * 3 ≤ 8000; decide)
  refine ⟨szr_divInt (sT.mono (by decide)) (by unfold Sz; decide) (by decide), (Nat.le_of_ble_eq_true rfl), ?_⟩
  rw [n1.1, n1.2, s1]
  refine ht2 _ _ ⟨_, at0, _, at0, gT, (Nat.le_of_ble_eq_true rfl), ht2 _ _ ?_⟩
  show Q (.bl (decide (t2 = t2))) w
  rw [decide_eq_true rfl]
  exact h
theorem c__law_shown_right (G : Fx K mg w) : Cal PR w K mg base "_law_shown_right" 102 [] sp_shown1 := by
  obtain ⟨fd, F⟩ := G.d__law_shown_right
  exact cal_plain F G.g__law_shown_right (ok__law_shown_right G F) (fun _ _ _ _ _ _ us hl => match us, hl with | [_], _ => rfl)
end
end LW
namespace LW
open PySem PySem.Spec PyProof.Rows L2 DL TL
section
variable {w : World} {K : PySem.W.Frag} {mg : Str → Option Value} {base : Heap}
theorem ok__law_equal_right {fd : FuncData} (G : Fx K mg w) (F : FunD K "_law_equal_right" "_law_equal_right" (defArgs st__law_equal_right) (defBody st__law_equal_right) (defScope st__law_equal_right) (He.DefD.dvs K d__law_equal_right) (He.DefD.kws K d__law_equal_right) (He.fAd K ("_law_equal_right", none)) fd) : FnG PR w K mg base 102 (He.fAd K ("_law_equal_right", none)) fd ["_law_one", "_law_other"] (lift K sp_equal1) := by
  refine d_fn F sc__law_equal_right (fun ds w Q E h => by obtain ⟨_, _, _, _, rfl, _⟩ := h; rfl) (fun cdv A outer s H EL Ed bd => ⟨_, (dss_cons (ds_par 2 3 bd.calm bd.nd (da_cons (de_make bd (k_Number_0 G) (da_cons (de_ix (de_var 0) de_int) (da_cons (de_ix (de_var 0) de_int) da_nil))) (da_cons (de_make bd (k_Number_0 G) (da_cons (de_ix (de_var 1) de_int) (da_cons (de_ix (de_var 1) de_int) da_nil))) da_nil))) (dss_cons (ds_set 4 bd.nd (de_cmp (o_eq bd.room.room) (de_op o_mul (de_ix (de_var 0) de_int) (de_ix (de_var 1) de_int)) (de_op o_mul (de_ix (de_var 1) de_int) (de_ix (de_var 0) de_int)))) (dss_cons (ds_set 5 bd.nd (de_lst (da_cons (de_cmp (o_eqN bd (m___eq__ G) eqSpX) (de_var 2) (de_var 3)) (da_cons (de_cmp (o_eqN bd (m___eq__ G) eqSpX) (de_var 3) (de_var 2)) (da_cons (de_cmp (o_inO bd (m___eq__ G) G.eqk) (de_var 2) (de_lst (da_cons (de_var 3) da_nil))) (da_cons (de_cmp (o_inO bd (m___eq__ G) G.eqk) (de_var 2) (de_tup (da_cons de_non (da_cons (de_var 0) (da_cons (de_var 3) da_nil))))) (da_cons (de_cmp (o_eqQ bd (m___eq__ G) eqSpX) (de_tup (da_cons (de_var 2) (da_cons de_int da_nil))) (de_tup (da_cons (de_var 3) (da_cons de_int da_nil)))) da_nil))))))) (dss_one (ds_ret (de_and (de_cmp (o_eq bd.room.room) (de_fn (f_reprP bd) G.f_repr (da_cons (de_var 5) da_nil)) (de_fn (f_reprP bd) G.f_repr (da_cons (de_op o_mulL (de_lst (da_cons (de_var 4) da_nil)) de_int) da_nil))) (de_one (de_cmp (o_eq bd.room.room) (de_fn (f_reprP bd) G.f_repr (da_cons (de_cmp (o_neN bd (m___eq__ G) eqSpX G.ne) (de_var 2) (de_var 3)) da_nil)) (de_fn (f_reprP bd) G.f_repr (da_cons (de_not (de_var 4)) da_nil)))))))))), fun ds w Q h => ?_⟩)
  obtain ⟨T, B, T2, B2, rfl, ⟨B0, sT, sB⟩, ⟨B20, sT2, sB2⟩, h⟩ := h
  simp only [startD, List.length_cons, List.length_nil, List.map_cons, List.map_nil, List.cons_append, List.nil_append, Nat.reduceAdd, Nat.reduceSub, List.replicate_succ, List.replicate_zero, List.replicate]
  refine seq_op (fun N hN => ?_); (try dsimp only [dAsg, dOp, dVar, nth, dC, dB, dIfS, dIf, dOr, dAnd, dNot, dAndV, dOrV, dNotV, dNil, dCons, dTup, dLst, dLstM, dCall, dFn, gNm, pus, dNext, dRet, dRetN, dDrop, dPar, dAug, dSl, dNo, dPt, dNeg, dMt, dStr, dChain, DL.isNon, br_T, br_F, s1R, splitPR, splitR, joinR, startsR, endsR, catM, catL, gSubM, appendR, popR, dRevS, dFmt, dJoin, dJs, gTp_1, gTp_2, gTp_3, gTp_4, gTp_5, gTp_6, gTp_7, gTp_8, gsCons, gsNil, dFor_eq, dLcK_eq, dRng1, dRng2, dItL, dItS, dZip, dEnum, dEnumS, wipeD, dYes, eqR_i, neR_i, eqR_s, neR_s, eqR_b, neR_b, eqR_n, neR_n, itemR_t, itemR_l, itemR_r, itemR_p, itemR_s, addR_i, addR_b, addR_s, addR_l, addR_t, mulR_i, dI_i, dI0_i, isR_n, isR_b, lenR_t, listR_t, tupleR_t, sliceR_t, lenR_l, listR_l, tupleR_l, sliceR_l, lenR_r, listR_r, tupleR_r, sliceR_r, lenR_s, lenR_p, listR_p, tupleR_p, sliceR_p, sliceR_s, absR_i, max2R_i, min2R_i, intR_i, intR_b, strR_i, strR_s, mulSR_s, mulLR_l, gSubD, dGet, dDispV, dFrzD, dCallN, dFrz, dTop, dBot, dMethN, dRev, dRevM, dRevT, sumR, addSR_s, cxOf, fldR_i, fldR_p, dFld, hasM_i, hasM_p, dMethC, dMakeK, dMethK, dLenS, dDc, dGetK2, dGetK1, extendR, popAtR, dSetF, dCallV, dTab, dRaise, inCR_s, dFmtN, strNR, reprR, List.cons_append, List.nil_append, List.append_nil])
  refine ⟨_, at0, _, at1, T, B, rfl, B0, sT.mono (by decide), sB.mono (by decide), ?_⟩
  refine ⟨_, at0, _, at1, T2, B2, rfl, B20, sT2.mono (by decide), sB2.mono (by decide), ?_⟩
  refine hN _ _ ?_; clear hN N
  refine seq_op (fun N hN => ?_); (try dsimp only [dAsg, dOp, dVar, nth, dC, dB, dIfS, dIf, dOr, dAnd, dNot, dAndV, dOrV, dNotV, dNil, dCons, dTup, dLst, dLstM, dCall, dFn, gNm, pus, dNext, dRet, dRetN, dDrop, dPar, dAug, dSl, dNo, dPt, dNeg, dMt, dStr, dChain, DL.isNon, br_T, br_F, s1R, splitPR, splitR, joinR, startsR, endsR, catM, catL, gSubM, appendR, popR, dRevS, dFmt, dJoin, dJs, gTp_1, gTp_2, gTp_3, gTp_4, gTp_5, gTp_6, gTp_7, gTp_8, gsCons, gsNil, dFor_eq, dLcK_eq, dRng1, dRng2, dItL, dItS, dZip, dEnum, dEnumS, wipeD, dYes, eqR_i, neR_i, eqR_s, neR_s, eqR_b, neR_b, eqR_n, neR_n, itemR_t, itemR_l, itemR_r, itemR_p, itemR_s, addR_i, addR_b, addR_s, addR_l, addR_t, mulR_i, dI_i, dI0_i, isR_n, isR_b, lenR_t, listR_t, tupleR_t, sliceR_t, lenR_l, listR_l, tupleR_l, sliceR_l, lenR_r, listR_r, tupleR_r, sliceR_r, lenR_s, lenR_p, listR_p, tupleR_p, sliceR_p, sliceR_s, absR_i, max2R_i, min2R_i, intR_i, intR_b, strR_i, strR_s, mulSR_s, mulLR_l, gSubD, dGet, dDispV, dFrzD, dCallN, dFrz, dTop, dBot, dMethN, dRev, dRevM, dRevT, sumR, addSR_s, cxOf, fldR_i, fldR_p, dFld, hasM_i, hasM_p, dMethC, dMakeK, dMethK, dLenS, dDc, dGetK2, dGetK1, extendR, popAtR, dSetF, dCallV, dTab, dRaise, inCR_s, dFmtN, strNR, reprR, List.cons_append, List.nil_append, List.append_nil])
  refine ⟨_, at0, _, at1, Sz.mulC sT sB2 (by decide) (by decide) (by decide), _, at0, _, at1, Sz.mulC sT2 sB (by decide) (by decide) (by decide), ?_⟩
  (try dsimp only [dAsg, dOp, dVar, nth, dC, dB, dIfS, dIf, dOr, dAnd, dNot, dAndV, dOrV, dNotV, dNil, dCons, dTup, dLst, dLstM, dCall, dFn, gNm, pus, dNext, dRet, dRetN, dDrop, dPar, dAug, dSl, dNo, dPt, dNeg, dMt, dStr, dChain, DL.isNon, br_T, br_F, s1R, splitPR, splitR, joinR, startsR, endsR, catM, catL, gSubM, appendR, popR, dRevS, dFmt, dJoin, dJs, gTp_1, gTp_2, gTp_3, gTp_4, gTp_5, gTp_6, gTp_7, gTp_8, gsCons, gsNil, dFor_eq, dLcK_eq, dRng1, dRng2, dItL, dItS, dZip, dEnum, dEnumS, wipeD, dYes, eqR_i, neR_i, eqR_s, neR_s, eqR_b, neR_b, eqR_n, neR_n, itemR_t, itemR_l, itemR_r, itemR_p, itemR_s, addR_i, addR_b, addR_s, addR_l, addR_t, mulR_i, dI_i, dI0_i, isR_n, isR_b, lenR_t, listR_t, tupleR_t, sliceR_t, lenR_l, listR_l, tupleR_l, sliceR_l, lenR_r, listR_r, tupleR_r, sliceR_r, lenR_s, lenR_p, listR_p, tupleR_p, sliceR_p, sliceR_s, absR_i, max2R_i, min2R_i, intR_i, intR_b, strR_i, strR_s, mulSR_s, mulLR_l, gSubD, dGet, dDispV, dFrzD, dCallN, dFrz, dTop, dBot, dMethN, dRev, dRevM, dRevT, sumR, addSR_s, cxOf, fldR_i, fldR_p, dFld, hasM_i, hasM_p, dMethC, dMakeK, dMethK, dLenS, dDc, dGetK2, dGetK1, extendR, popAtR, dSetF, dCallV, dTab, dRaise, inCR_s, dFmtN, strNR, reprR, List.cons_append, List.nil_append, List.append_nil])
  rw [cross_b B0 B20]
  generalize Rat.divInt T B = q
  generalize Rat.divInt T2 B2 = p
  refine hN _ _ ?_; clear hN N
  refine seq_op (fun N hN => ?_); (try dsimp only [dAsg, dOp, dVar, nth, dC, dB, dIfS, dIf, dOr, dAnd, dNot, dAndV, dOrV, dNotV, dNil, dCons, dTup, dLst, dLstM, dCall, dFn, gNm, pus, dNext, dRet, dRetN, dDrop, dPar, dAug, dSl, dNo, dPt, dNeg, dMt, dStr, dChain, DL.isNon, br_T, br_F, s1R, splitPR, splitR, joinR, startsR, endsR, catM, catL, gSubM, appendR, popR, dRevS, dFmt, dJoin, dJs, gTp_1, gTp_2, gTp_3, gTp_4, gTp_5, gTp_6, gTp_7, gTp_8, gsCons, gsNil, dFor_eq, dLcK_eq, dRng1, dRng2, dItL, dItS, dZip, dEnum, dEnumS, wipeD, dYes, eqR_i, neR_i, eqR_s, neR_s, eqR_b, neR_b, eqR_n, neR_n, itemR_t, itemR_l, itemR_r, itemR_p, itemR_s, addR_i, addR_b, addR_s, addR_l, addR_t, mulR_i, dI_i, dI0_i, isR_n, isR_b, lenR_t, listR_t, tupleR_t, sliceR_t, lenR_l, listR_l, tupleR_l, sliceR_l, lenR_r, listR_r, tupleR_r, sliceR_r, lenR_s, lenR_p, listR_p, tupleR_p, sliceR_p, sliceR_s, absR_i, max2R_i, min2R_i, intR_i, intR_b, strR_i, strR_s, mulSR_s, mulLR_l, gSubD, dGet, dDispV, dFrzD, dCallN, dFrz, dTop, dBot, dMethN, dRev, dRevM, dRevT, sumR, addSR_s, cxOf, fldR_i, fldR_p, dFld, hasM_i, hasM_p, dMethC, dMakeK, dMethK, dLenS, dDc, dGetK2, dGetK1, extendR, popAtR, dSetF, dCallV, dTab, dRaise, inCR_s, dFmtN, strNR, reprR, List.cons_append, List.nil_append, List.append_nil])
  have sy : decide (p = q) = decide (q = p) := decide_eq_decide.mpr eq_comm
  refine ⟨(Nat.le_of_ble_eq_true rfl), [.num p], [_], rfl, .cons own_in .nil, (Nat.le_of_ble_eq_true rfl), _, [false, false, _], rfl, .cons (no_in nn_non) (.cons (no_in nn_tup) (.cons own_in .nil)), ?_⟩
  (try dsimp only [dAsg, dOp, dVar, nth, dC, dB, dIfS, dIf, dOr, dAnd, dNot, dAndV, dOrV, dNotV, dNil, dCons, dTup, dLst, dLstM, dCall, dFn, gNm, pus, dNext, dRet, dRetN, dDrop, dPar, dAug, dSl, dNo, dPt, dNeg, dMt, dStr, dChain, DL.isNon, br_T, br_F, s1R, splitPR, splitR, joinR, startsR, endsR, catM, catL, gSubM, appendR, popR, dRevS, dFmt, dJoin, dJs, gTp_1, gTp_2, gTp_3, gTp_4, gTp_5, gTp_6, gTp_7, gTp_8, gsCons, gsNil, dFor_eq, dLcK_eq, dRng1, dRng2, dItL, dItS, dZip, dEnum, dEnumS, wipeD, dYes, eqR_i, neR_i, eqR_s, neR_s, eqR_b, neR_b, eqR_n, neR_n, itemR_t, itemR_l, itemR_r, itemR_p, itemR_s, addR_i, addR_b, addR_s, addR_l, addR_t, mulR_i, dI_i, dI0_i, isR_n, isR_b, lenR_t, listR_t, tupleR_t, sliceR_t, lenR_l, listR_l, tupleR_l, sliceR_l, lenR_r, listR_r, tupleR_r, sliceR_r, lenR_s, lenR_p, listR_p, tupleR_p, sliceR_p, sliceR_s, absR_i, max2R_i, min2R_i, intR_i, intR_b, strR_i, strR_s, mulSR_s, mulLR_l, gSubD, dGet, dDispV, dFrzD, dCallN, dFrz, dTop, dBot, dMethN, dRev, dRevM, dRevT, sumR, addSR_s, cxOf, fldR_i, fldR_p, dFld, hasM_i, hasM_p, dMethC, dMakeK, dMethK, dLenS, dDc, dGetK2, dGetK1, extendR, popAtR, dSetF, dCallV, dTab, dRaise, inCR_s, dFmtN, strNR, reprR, List.cons_append, List.nil_append, List.append_nil])
  refine ⟨(Nat.le_of_ble_eq_true rfl), (Nat.le_of_ble_eq_true rfl), _, _, decide (q = p), rfl, rfl, eq_one, (Nat.le_of_ble_eq_true rfl), ?_⟩
  simp only [List.any_cons, List.any_nil, Bool.or_false, Bool.false_or, id, sy, Bool.false_eq_true, if_false]
  obtain ⟨t, ht⟩ := repr_p (d := .lst [.bl (decide (q = p)), .bl (decide (q = p)), .bl (decide (q = p)), .bl (decide (q = p)), .bl (decide (q = p))]) (sw_lst (n := 0) (b := 300) (fun e he => by
    simp only [List.mem_cons, List.not_mem_nil, or_false, or_self] at he
    subst he
    exact sw_bl.mono (by decide) (by decide))) (by decide) (by show 301 * 5 ≤ 8000; decide)
  obtain ⟨t2, ht2⟩ := repr_p (d := .bl (!decide (q = p))) sw_bl
  refine hN _ _ ?_; clear hN N
  (try dsimp only [dAsg, dOp, dVar, nth, dC, dB, dIfS, dIf, dOr, dAnd, dNot, dAndV, dOrV, dNotV, dNil, dCons, dTup, dLst, dLstM, dCall, dFn, gNm, pus, dNext, dRet, dRetN, dDrop, dPar, dAug, dSl, dNo, dPt, dNeg, dMt, dStr, dChain, DL.isNon, br_T, br_F, s1R, splitPR, splitR, joinR, startsR, endsR, catM, catL, gSubM, appendR, popR, dRevS, dFmt, dJoin, dJs, gTp_1, gTp_2, gTp_3, gTp_4, gTp_5, gTp_6, gTp_7, gTp_8, gsCons, gsNil, dFor_eq, dLcK_eq, dRng1, dRng2, dItL, dItS, dZip, dEnum, dEnumS, wipeD, dYes, eqR_i, neR_i, eqR_s, neR_s, eqR_b, neR_b, eqR_n, neR_n, itemR_t, itemR_l, itemR_r, itemR_p, itemR_s, addR_i, addR_b, addR_s, addR_l, addR_t, mulR_i, dI_i, dI0_i, isR_n, isR_b, lenR_t, listR_t, tupleR_t, sliceR_t, lenR_l, listR_l, tupleR_l, sliceR_l, lenR_r, listR_r, tupleR_r, sliceR_r, lenR_s, lenR_p, listR_p, tupleR_p, sliceR_p, sliceR_s, absR_i, max2R_i, min2R_i, intR_i, intR_b, strR_i, strR_s, mulSR_s, mulLR_l, gSubD, dGet, dDispV, dFrzD, dCallN, dFrz, dTop, dBot, dMethN, dRev, dRevM, dRevT, sumR, addSR_s, cxOf, fldR_i, fldR_p, dFld, hasM_i, hasM_p, dMethC, dMakeK, dMethK, dLenS, dDc, dGetK2, dGetK1, extendR, popAtR, dSetF, dCallV, dTab, dRaise, inCR_s, dFmtN, strNR, reprR, List.cons_append, List.nil_append, List.append_nil])
  refine ht _ _ ⟨(Nat.le_of_ble_eq_true rfl), ⟨by decide, by decide⟩, (Nat.le_of_ble_eq_true rfl), ht _ _ ?_⟩
  (try dsimp only [dAsg, dOp, dVar, nth, dC, dB, dIfS, dIf, dOr, dAnd, dNot, dAndV, dOrV, dNotV, dNil, dCons, dTup, dLst, dLstM, dCall, dFn, gNm, pus, dNext, dRet, dRetN, dDrop, dPar, dAug, dSl, dNo, dPt, dNeg, dMt, dStr, dChain, DL.isNon, br_T, br_F, s1R, splitPR, splitR, joinR, startsR, endsR, catM, catL, gSubM, appendR, popR, dRevS, dFmt, dJoin, dJs, gTp_1, gTp_2, gTp_3, gTp_4, gTp_5, gTp_6, gTp_7, gTp_8, gsCons, gsNil, dFor_eq, dLcK_eq, dRng1, dRng2, dItL, dItS, dZip, dEnum, dEnumS, wipeD, dYes, eqR_i, neR_i, eqR_s, neR_s, eqR_b, neR_b, eqR_n, neR_n, itemR_t, itemR_l, itemR_r, itemR_p, itemR_s, addR_i, addR_b, addR_s, addR_l, addR_t, mulR_i, dI_i, dI0_i, isR_n, isR_b, lenR_t, listR_t, tupleR_t, sliceR_t, lenR_l, listR_l, tupleR_l, sliceR_l, lenR_r, listR_r, tupleR_r, sliceR_r, lenR_s, lenR_p, listR_p, tupleR_p, sliceR_p, sliceR_s, absR_i, max2R_i, min2R_i, intR_i, intR_b, strR_i, strR_s, mulSR_s, mulLR_l, gSubD, dGet, dDispV, dFrzD, dCallN, dFrz, dTop, dBot, dMethN, dRev, dRevM, dRevT, sumR, addSR_s, cxOf, fldR_i, fldR_p, dFld, hasM_i, hasM_p, dMethC, dMakeK, dMethK, dLenS, dDc, dGetK2, dGetK1, extendR, popAtR, dSetF, dCallV, dTab, dRaise, inCR_s, dFmtN, strNR, reprR, List.cons_append, List.nil_append, List.append_nil])
  refine br_t (decide_eq_true rfl) ?_
  unfold neN
  refine ht2 _ _ ?_
  refine ht2 _ _ ?_
  show Q (.bl (decide (t2 = t2))) w
  rw [decide_eq_true rfl]
  exact h
theorem c__law_equal_right (G : Fx K mg w) : Cal PR w K mg base "_law_equal_right" 102 [] sp_equal1 := by
  obtain ⟨fd, F⟩ := G.d__law_equal_right
  exact cal_plain F G.g__law_equal_right (ok__law_equal_right G F) (fun _ _ _ _ _ _ us hl => match us, hl with | [_, _], _ => rfl)
end
end LW
namespace LW
open PySem PySem.Spec PyProof.Rows L2 DL TL
section
variable {w : World} {K : PySem.W.Frag} {mg : Str → Option Value} {base : Heap}
theorem ok__law_unlike_right {fd : FuncData} (G : Fx K mg w) (F : FunD K "_law_unlike_right" "_law_unlike_right" (defArgs st__law_unlike_right) (defBody st__law_unlike_right) (defScope st__law_unlike_right) (He.DefD.dvs K d__law_unlike_right) (He.DefD.kws K d__law_unlike_right) (He.fAd K ("_law_unlike_right", none)) fd) : FnG PR w K mg base 102 (He.fAd K ("_law_unlike_right", none)) fd ["_law_pair_here"] (lift K sp_shown1) := by
  refine d_fn F sc__law_unlike_right (fun ds w Q E h => by obtain ⟨_, _, rfl, _⟩ := h; rfl) (fun cdv A outer s H EL Ed bd => ⟨_, (dss_cons (ds_set 1 bd.nd (de_make bd (k_Number_0 G) (da_cons (de_ix (de_var 0) de_int) (da_cons (de_ix (de_var 0) de_int) da_nil)))) (dss_cons (ds_set 2 bd.nd (de_lst (da_cons (de_var 0) (da_cons (de_ix (de_var 0) de_int) (da_cons (de_top G.cl G.na_top (de_var 1)) (da_cons (de_fnTy f_list G.f_list (da_cons (de_var 0) da_nil)) (da_cons (de_fnTy (f_strN bd (m___str__ G) strSp) G.f_str (da_cons (de_var 1) da_nil)) (da_cons (de_fn (f_repr bd (m___repr__ G) repSp) G.f_repr (da_cons (de_var 1) da_nil)) (da_cons de_non (da_cons de_bl (da_cons de_int (da_cons (de_tup da_nil) (da_cons (de_lst (da_cons (de_var 1) da_nil)) da_nil))))))))))))) (dss_cons (ds_for bd.po bd.calm (di_list (de_op o_add (de_var 2) (de_lst (da_cons (de_tup (da_cons (de_var 1) da_nil)) (da_cons de_dict0 da_nil))))) (dg_name 3 bd.nd) (dss_one (ds_if (dw_or (dt_cmp o_isnot (de_cmp (o_eqO bd (m___eq__ G) G.eqk) (de_var 1) (de_var 3)) de_bl) (dw_or (dt_cmp o_isnot (de_cmp (o_eqO bd (m___eq__ G) G.eqk) (de_var 3) (de_var 1)) de_bl) (dw_or1 (dt_cmp o_isnot (de_cmp (o_neO bd (m___eq__ G) G.eqk) (de_var 1) (de_var 3)) de_bl)))).dt (dss_one (ds_ret de_bl)) dss_nil))) (dss_one (ds_ret (de_cmp (o_notInO bd (m___eq__ G) G.eqk) (de_var 1) (de_var 2))))))), fun ds w Q h => ?_⟩)
  obtain ⟨T, B, rfl, ⟨B0, sT, sB⟩, h⟩ := h
  have sq : SzR 130 (Rat.divInt T B) := szr_divInt (sT.mono (by decide)) (sB.mono (by decide)) B0
  simp only [startD, List.length_cons, List.length_nil, List.map_cons, List.map_nil, List.cons_append, List.nil_append, Nat.reduceAdd, Nat.reduceSub, List.replicate_succ, List.replicate_zero, List.replicate]
  refine seq_op (fun N hN => ?_); (try dsimp only [dAsg, dOp, dVar, nth, dC, dB, dIfS, dIf, dOr, dAnd, dNot, dAndV, dOrV, dNotV, dNil, dCons, dTup, dLst, dLstM, dCall, dFn, gNm, pus, dNext, dRet, dRetN, dDrop, dPar, dAug, dSl, dNo, dPt, dNeg, dMt, dStr, dChain, DL.isNon, br_T, br_F, s1R, splitPR, splitR, joinR, startsR, endsR, catM, catL, gSubM, appendR, popR, dRevS, dFmt, dJoin, dJs, gTp_1, gTp_2, gTp_3, gTp_4, gTp_5, gTp_6, gTp_7, gTp_8, gsCons, gsNil, dFor_eq, dLcK_eq, dRng1, dRng2, dItL, dItS, dZip, dEnum, dEnumS, wipeD, dYes, eqR_i, neR_i, eqR_s, neR_s, eqR_b, neR_b, eqR_n, neR_n, itemR_t, itemR_l, itemR_r, itemR_p, itemR_s, addR_i, addR_b, addR_s, addR_l, addR_t, mulR_i, dI_i, dI0_i, isR_n, isR_b, lenR_t, listR_t, tupleR_t, sliceR_t, lenR_l, listR_l, tupleR_l, sliceR_l, lenR_r, listR_r, tupleR_r, sliceR_r, lenR_s, lenR_p, listR_p, tupleR_p, sliceR_p, sliceR_s, absR_i, max2R_i, min2R_i, intR_i, intR_b, strR_i, strR_s, mulSR_s, mulLR_l, gSubD, dGet, dDispV, dFrzD, dCallN, dFrz, dTop, dBot, dMethN, dRev, dRevM, dRevT, sumR, addSR_s, cxOf, fldR_i, fldR_p, dFld, hasM_i, hasM_p, dMethC, dMakeK, dMethK, dLenS, dDc, dGetK2, dGetK1, extendR, popAtR, dSetF, dCallV, dTab, dRaise, inCR_s, dFmtN, strNR, reprR, List.cons_append, List.nil_append, List.append_nil])
  refine ⟨_, at0, _, at1, T, B, rfl, B0, sT.mono (by decide), sB.mono (by decide), ?_⟩
  generalize hq : Rat.divInt T B = q at *
  have sqw : SzR 1920 q := sq.mono (by decide)
  refine hN _ _ ?_; clear hN N
  refine seq_op (fun N hN => ?_); (try dsimp only [dAsg, dOp, dVar, nth, dC, dB, dIfS, dIf, dOr, dAnd, dNot, dAndV, dOrV, dNotV, dNil, dCons, dTup, dLst, dLstM, dCall, dFn, gNm, pus, dNext, dRet, dRetN, dDrop, dPar, dAug, dSl, dNo, dPt, dNeg, dMt, dStr, dChain, DL.isNon, br_T, br_F, s1R, splitPR, splitR, joinR, startsR, endsR, catM, catL, gSubM, appendR, popR, dRevS, dFmt, dJoin, dJs, gTp_1, gTp_2, gTp_3, gTp_4, gTp_5, gTp_6, gTp_7, gTp_8, gsCons, gsNil, dFor_eq, dLcK_eq, dRng1, dRng2, dItL, dItS, dZip, dEnum, dEnumS, wipeD, dYes, eqR_i, neR_i, eqR_s, neR_s, eqR_b, neR_b, eqR_n, neR_n, itemR_t, itemR_l, itemR_r, itemR_p, itemR_s, addR_i, addR_b, addR_s, addR_l, addR_t, mulR_i, dI_i, dI0_i, isR_n, isR_b, lenR_t, listR_t, tupleR_t, sliceR_t, lenR_l, listR_l, tupleR_l, sliceR_l, lenR_r, listR_r, tupleR_r, sliceR_r, lenR_s, lenR_p, listR_p, tupleR_p, sliceR_p, sliceR_s, absR_i, max2R_i, min2R_i, intR_i, intR_b, strR_i, strR_s, mulSR_s, mulLR_l, gSubD, dGet, dDispV, dFrzD, dCallN, dFrz, dTop, dBot, dMethN, dRev, dRevM, dRevT, sumR, addSR_s, cxOf, fldR_i, fldR_p, dFld, hasM_i, hasM_p, dMethC, dMakeK, dMethK, dLenS, dDc, dGetK2, dGetK1, extendR, popAtR, dSetF, dCallV, dTab, dRaise, inCR_s, dFmtN, strNR, reprR, List.cons_append, List.nil_append, List.append_nil])
  refine ⟨_, at0, sqw, sqw, (Nat.le_of_ble_eq_true rfl), (Nat.le_of_ble_eq_true rfl), (Nat.le_of_ble_eq_true rfl), ?_⟩
  generalize hL : ([.tup [.int T, .int B], .int T, .int q.num, .lst [.int T, .int B], .str (strN q), .str (numText q), .non, .bl true, .int 0, .tup [], .lst [.num q]] : List Dt) = L
  have nL : ∀ d ∈ L, NoNum d := by
    subst hL
    exact DL.all2 nn_tup (DL.all2 nn_int (DL.all2 nn_int (DL.all2 nn_lst (DL.all2 nn_str (DL.all2 nn_str (DL.all2 nn_non (DL.all2 nn_bl (DL.all2 nn_int (DL.all2 nn_tup (DL.all2 nn_lst all0))))))))))
  have lL : L.length = 11 := by subst hL; rfl
  clear hL
  refine hN _ _ ?_; clear hN N
  refine seq_op (fun N hN => ?_); (try dsimp only [dAsg, dOp, dVar, nth, dC, dB, dIfS, dIf, dOr, dAnd, dNot, dAndV, dOrV, dNotV, dNil, dCons, dTup, dLst, dLstM, dCall, dFn, gNm, pus, dNext, dRet, dRetN, dDrop, dPar, dAug, dSl, dNo, dPt, dNeg, dMt, dStr, dChain, DL.isNon, br_T, br_F, s1R, splitPR, splitR, joinR, startsR, endsR, catM, catL, gSubM, appendR, popR, dRevS, dFmt, dJoin, dJs, gTp_1, gTp_2, gTp_3, gTp_4, gTp_5, gTp_6, gTp_7, gTp_8, gsCons, gsNil, dFor_eq, dLcK_eq, dRng1, dRng2, dItL, dItS, dZip, dEnum, dEnumS, wipeD, dYes, eqR_i, neR_i, eqR_s, neR_s, eqR_b, neR_b, eqR_n, neR_n, itemR_t, itemR_l, itemR_r, itemR_p, itemR_s, addR_i, addR_b, addR_s, addR_l, addR_t, mulR_i, dI_i, dI0_i, isR_n, isR_b, lenR_t, listR_t, tupleR_t, sliceR_t, lenR_l, listR_l, tupleR_l, sliceR_l, lenR_r, listR_r, tupleR_r, sliceR_r, lenR_s, lenR_p, listR_p, tupleR_p, sliceR_p, sliceR_s, absR_i, max2R_i, min2R_i, intR_i, intR_b, strR_i, strR_s, mulSR_s, mulLR_l, gSubD, dGet, dDispV, dFrzD, dCallN, dFrz, dTop, dBot, dMethN, dRev, dRevM, dRevT, sumR, addSR_s, cxOf, fldR_i, fldR_p, dFld, hasM_i, hasM_p, dMethC, dMakeK, dMethK, dLenS, dDc, dGetK2, dGetK1, extendR, popAtR, dSetF, dCallV, dTab, dRaise, inCR_s, dFmtN, strNR, reprR, List.cons_append, List.nil_append, List.append_nil])
  have nA : ∀ d ∈ L ++ [.tup [.num q], .dct []], NoNum d := fun d hd => by
    rcases List.mem_append.mp hd with hd | hd
    · exact nL d hd
    · exact DL.all2 (P := NoNum) nn_tup (DL.all2 nn_dct all0) d hd
  refine ⟨(Nat.le_of_ble_eq_true rfl), (Nat.le_of_ble_eq_true rfl), by rw [sizeLine_eq, lL]; show 11 + 2 ≤ 16777216; decide, for_i (fun i r w' => w' = w ∧ ∃ x, r = [some (.tup [.int T, .int B]), some (.num q), some (.lst L), x]) ⟨rfl, _, rfl⟩ ?_ (fun _ _ _ => trivial) ?_⟩
  · rintro i r w' d N1 hd ⟨rfl, x, rfl⟩ hN1
    have nd := nA d (List.mem_of_getElem? hd)
    refine ⟨trivial, ?_⟩
    (try dsimp only [dAsg, dOp, dVar, nth, dC, dB, dIfS, dIf, dOr, dAnd, dNot, dAndV, dOrV, dNotV, dNil, dCons, dTup, dLst, dLstM, dCall, dFn, gNm, pus, dNext, dRet, dRetN, dDrop, dPar, dAug, dSl, dNo, dPt, dNeg, dMt, dStr, dChain, DL.isNon, br_T, br_F, s1R, splitPR, splitR, joinR, startsR, endsR, catM, catL, gSubM, appendR, popR, dRevS, dFmt, dJoin, dJs, gTp_1, gTp_2, gTp_3, gTp_4, gTp_5, gTp_6, gTp_7, gTp_8, gsCons, gsNil, dFor_eq, dLcK_eq, dRng1, dRng2, dItL, dItS, dZip, dEnum, dEnumS, wipeD, dYes, eqR_i, neR_i, eqR_s, neR_s, eqR_b, neR_b, eqR_n, neR_n, itemR_t, itemR_l, itemR_r, itemR_p, itemR_s, addR_i, addR_b, addR_s, addR_l, addR_t, mulR_i, dI_i, dI0_i, isR_n, isR_b, lenR_t, listR_t, tupleR_t, sliceR_t, lenR_l, listR_l, tupleR_l, sliceR_l, lenR_r, listR_r, tupleR_r, sliceR_r, lenR_s, lenR_p, listR_p, tupleR_p, sliceR_p, sliceR_s, absR_i, max2R_i, min2R_i, intR_i, intR_b, strR_i, strR_s, mulSR_s, mulLR_l, gSubD, dGet, dDispV, dFrzD, dCallN, dFrz, dTop, dBot, dMethN, dRev, dRevM, dRevT, sumR, addSR_s, cxOf, fldR_i, fldR_p, dFld, hasM_i, hasM_p, dMethC, dMakeK, dMethK, dLenS, dDc, dGetK2, dGetK1, extendR, popAtR, dSetF, dCallV, dTab, dRaise, inCR_s, dFmtN, strNR, reprR, List.cons_append, List.nil_append, List.append_nil])
    refine ⟨false, .inl (no_left nd), ?_⟩
    (try dsimp only [dAsg, dOp, dVar, nth, dC, dB, dIfS, dIf, dOr, dAnd, dNot, dAndV, dOrV, dNotV, dNil, dCons, dTup, dLst, dLstM, dCall, dFn, gNm, pus, dNext, dRet, dRetN, dDrop, dPar, dAug, dSl, dNo, dPt, dNeg, dMt, dStr, dChain, DL.isNon, br_T, br_F, s1R, splitPR, splitR, joinR, startsR, endsR, catM, catL, gSubM, appendR, popR, dRevS, dFmt, dJoin, dJs, gTp_1, gTp_2, gTp_3, gTp_4, gTp_5, gTp_6, gTp_7, gTp_8, gsCons, gsNil, dFor_eq, dLcK_eq, dRng1, dRng2, dItL, dItS, dZip, dEnum, dEnumS, wipeD, dYes, eqR_i, neR_i, eqR_s, neR_s, eqR_b, neR_b, eqR_n, neR_n, itemR_t, itemR_l, itemR_r, itemR_p, itemR_s, addR_i, addR_b, addR_s, addR_l, addR_t, mulR_i, dI_i, dI0_i, isR_n, isR_b, lenR_t, listR_t, tupleR_t, sliceR_t, lenR_l, listR_l, tupleR_l, sliceR_l, lenR_r, listR_r, tupleR_r, sliceR_r, lenR_s, lenR_p, listR_p, tupleR_p, sliceR_p, sliceR_s, absR_i, max2R_i, min2R_i, intR_i, intR_b, strR_i, strR_s, mulSR_s, mulLR_l, gSubD, dGet, dDispV, dFrzD, dCallN, dFrz, dTop, dBot, dMethN, dRev, dRevM, dRevT, sumR, addSR_s, cxOf, fldR_i, fldR_p, dFld, hasM_i, hasM_p, dMethC, dMakeK, dMethK, dLenS, dDc, dGetK2, dGetK1, extendR, popAtR, dSetF, dCallV, dTab, dRaise, inCR_s, dFmtN, strNR, reprR, List.cons_append, List.nil_append, List.append_nil])
    refine br_f rfl ⟨false, no_back nd, ?_⟩
    (try dsimp only [dAsg, dOp, dVar, nth, dC, dB, dIfS, dIf, dOr, dAnd, dNot, dAndV, dOrV, dNotV, dNil, dCons, dTup, dLst, dLstM, dCall, dFn, gNm, pus, dNext, dRet, dRetN, dDrop, dPar, dAug, dSl, dNo, dPt, dNeg, dMt, dStr, dChain, DL.isNon, br_T, br_F, s1R, splitPR, splitR, joinR, startsR, endsR, catM, catL, gSubM, appendR, popR, dRevS, dFmt, dJoin, dJs, gTp_1, gTp_2, gTp_3, gTp_4, gTp_5, gTp_6, gTp_7, gTp_8, gsCons, gsNil, dFor_eq, dLcK_eq, dRng1, dRng2, dItL, dItS, dZip, dEnum, dEnumS, wipeD, dYes, eqR_i, neR_i, eqR_s, neR_s, eqR_b, neR_b, eqR_n, neR_n, itemR_t, itemR_l, itemR_r, itemR_p, itemR_s, addR_i, addR_b, addR_s, addR_l, addR_t, mulR_i, dI_i, dI0_i, isR_n, isR_b, lenR_t, listR_t, tupleR_t, sliceR_t, lenR_l, listR_l, tupleR_l, sliceR_l, lenR_r, listR_r, tupleR_r, sliceR_r, lenR_s, lenR_p, listR_p, tupleR_p, sliceR_p, sliceR_s, absR_i, max2R_i, min2R_i, intR_i, intR_b, strR_i, strR_s, mulSR_s, mulLR_l, gSubD, dGet, dDispV, dFrzD, dCallN, dFrz, dTop, dBot, dMethN, dRev, dRevM, dRevT, sumR, addSR_s, cxOf, fldR_i, fldR_p, dFld, hasM_i, hasM_p, dMethC, dMakeK, dMethK, dLenS, dDc, dGetK2, dGetK1, extendR, popAtR, dSetF, dCallV, dTab, dRaise, inCR_s, dFmtN, strNR, reprR, List.cons_append, List.nil_append, List.append_nil])
    refine br_f rfl ⟨false, no_left nd, ?_⟩
    (try dsimp only [dAsg, dOp, dVar, nth, dC, dB, dIfS, dIf, dOr, dAnd, dNot, dAndV, dOrV, dNotV, dNil, dCons, dTup, dLst, dLstM, dCall, dFn, gNm, pus, dNext, dRet, dRetN, dDrop, dPar, dAug, dSl, dNo, dPt, dNeg, dMt, dStr, dChain, DL.isNon, br_T, br_F, s1R, splitPR, splitR, joinR, startsR, endsR, catM, catL, gSubM, appendR, popR, dRevS, dFmt, dJoin, dJs, gTp_1, gTp_2, gTp_3, gTp_4, gTp_5, gTp_6, gTp_7, gTp_8, gsCons, gsNil, dFor_eq, dLcK_eq, dRng1, dRng2, dItL, dItS, dZip, dEnum, dEnumS, wipeD, dYes, eqR_i, neR_i, eqR_s, neR_s, eqR_b, neR_b, eqR_n, neR_n, itemR_t, itemR_l, itemR_r, itemR_p, itemR_s, addR_i, addR_b, addR_s, addR_l, addR_t, mulR_i, dI_i, dI0_i, isR_n, isR_b, lenR_t, listR_t, tupleR_t, sliceR_t, lenR_l, listR_l, tupleR_l, sliceR_l, lenR_r, listR_r, tupleR_r, sliceR_r, lenR_s, lenR_p, listR_p, tupleR_p, sliceR_p, sliceR_s, absR_i, max2R_i, min2R_i, intR_i, intR_b, strR_i, strR_s, mulSR_s, mulLR_l, gSubD, dGet, dDispV, dFrzD, dCallN, dFrz, dTop, dBot, dMethN, dRev, dRevM, dRevT, sumR, addSR_s, cxOf, fldR_i, fldR_p, dFld, hasM_i, hasM_p, dMethC, dMakeK, dMethK, dLenS, dDc, dGetK2, dGetK1, extendR, popAtR, dSetF, dCallV, dTab, dRaise, inCR_s, dFmtN, strNR, reprR, List.cons_append, List.nil_append, List.append_nil])
    exact br_f rfl (hN1 _ _ ⟨rfl, _, rfl⟩)
  · rintro r w' ⟨rfl, x, rfl⟩
    refine hN _ _ ?_; clear hN N
    (try dsimp only [dAsg, dOp, dVar, nth, dC, dB, dIfS, dIf, dOr, dAnd, dNot, dAndV, dOrV, dNotV, dNil, dCons, dTup, dLst, dLstM, dCall, dFn, gNm, pus, dNext, dRet, dRetN, dDrop, dPar, dAug, dSl, dNo, dPt, dNeg, dMt, dStr, dChain, DL.isNon, br_T, br_F, s1R, splitPR, splitR, joinR, startsR, endsR, catM, catL, gSubM, appendR, popR, dRevS, dFmt, dJoin, dJs, gTp_1, gTp_2, gTp_3, gTp_4, gTp_5, gTp_6, gTp_7, gTp_8, gsCons, gsNil, dFor_eq, dLcK_eq, dRng1, dRng2, dItL, dItS, dZip, dEnum, dEnumS, wipeD, dYes, eqR_i, neR_i, eqR_s, neR_s, eqR_b, neR_b, eqR_n, neR_n, itemR_t, itemR_l, itemR_r, itemR_p, itemR_s, addR_i, addR_b, addR_s, addR_l, addR_t, mulR_i, dI_i, dI0_i, isR_n, isR_b, lenR_t, listR_t, tupleR_t, sliceR_t, lenR_l, listR_l, tupleR_l, sliceR_l, lenR_r, listR_r, tupleR_r, sliceR_r, lenR_s, lenR_p, listR_p, tupleR_p, sliceR_p, sliceR_s, absR_i, max2R_i, min2R_i, intR_i, intR_b, strR_i, strR_s, mulSR_s, mulLR_l, gSubD, dGet, dDispV, dFrzD, dCallN, dFrz, dTop, dBot, dMethN, dRev, dRevM, dRevT, sumR, addSR_s, cxOf, fldR_i, fldR_p, dFld, hasM_i, hasM_p, dMethC, dMakeK, dMethK, dLenS, dDc, dGetK2, dGetK1, extendR, popAtR, dSetF, dCallV, dTab, dRaise, inCR_s, dFmtN, strNR, reprR, List.cons_append, List.nil_append, List.append_nil])
    obtain ⟨rs, h1, h2⟩ := no_ins (K := K) (w := w') (q := q) nL
    refine ⟨L, rs, rfl, h1, ?_⟩
    rw [h2]
    exact h
theorem c__law_unlike_right (G : Fx K mg w) : Cal PR w K mg base "_law_unlike_right" 102 [] sp_shown1 := by
  obtain ⟨fd, F⟩ := G.d__law_unlike_right
  exact cal_plain F G.g__law_unlike_right (ok__law_unlike_right G F) (fun _ _ _ _ _ _ us hl => match us, hl with | [_], _ => rfl)
end
end LW
namespace LW
open PySem PySem.Spec PyProof.Rows L2 DL TL
def RowB (d : Dt) : Prop := ∃ T B : Int, d = .tup [.int T, .int B] ∧ PrB T B
def sp_law : DSp := fun ds w Q _ => ∃ ns : List Int, ds = [.rl (ns.map Dt.int)] ∧ ns.length ≤ 63 ∧ ∀ w', Q (.bl true) w'
theorem law_sp : LawSp 63 sp_law := fun ns hl _ => ⟨ns, rfl, hl, fun _ => rfl⟩
section
variable {w : World} {K : PySem.W.Frag} {mg : Str → Option Value} {base : Heap}
theorem ok_law {fd : FuncData} (G : Fx K mg w) (F : FunD K "law" "law" (defArgs st_law) (defBody st_law) (defScope st_law) (He.DefD.dvs K d_law) (He.DefD.kws K d_law) (He.fAd K ("law", none)) fd) : FnG PR w K mg base 104 (He.fAd K ("law", none)) fd ["_law_script"] (lift K sp_law) := by
  refine d_fn F sc_law (fun ds w Q E h => by obtain ⟨_, rfl, _⟩ := h; rfl) (fun cdv A outer s H EL Ed bd => ⟨_, (dss_cons (ds_for bd.po bd.calm (di_rng1 G.f_range (da_cons (de_fn (f_max2 bd.calm) G.f_max (da_cons de_int (da_cons (de_fn (f_min2 bd.calm) G.f_min (da_cons (de_fn f_len G.f_len (da_cons (de_var 0) da_nil)) (da_cons de_int da_nil))) da_nil))) da_nil)) (dg_name 1 bd.nd) (dss_cons (ds_set 2 bd.nd (de_call bd (c__law_well G) (da_cons (de_var 0) (da_cons (de_var 1) da_nil)))) (dss_cons (ds_set 3 bd.nd (de_call bd (c__law_take G) (da_cons (de_var 2) (da_cons de_int da_nil)))) (dss_cons (ds_set 4 bd.nd (de_call bd (c__law_pair G) (da_cons (de_var 2) da_nil))) (dss_cons (ds_set 5 bd.nd (de_op o_add de_int (de_call bd (c__law_take G) (da_cons (de_var 2) (da_cons de_int da_nil))))) (dss_cons (ds_set 6 bd.nd (de_tup (da_cons (de_op o_add (de_ix (de_var 4) de_int) (de_ix (de_lst (da_cons de_int (da_cons (de_neg de_int) da_nil))) (de_fnTy f_int G.f_int (da_cons (de_cmp o_gt (de_ix (de_var 4) de_int) de_int) da_nil)))) (da_cons (de_ix (de_var 4) de_int) da_nil)))) (dss_cons (ds_set 7 bd.nd (de_if (dt_cmp o_lt (de_fn (f_max2 bd.calm) G.f_max (da_cons (de_fn f_abs G.f_abs (da_cons (de_ix (de_var 4) de_int) da_nil)) (da_cons (de_fn f_abs G.f_abs (da_cons (de_ix (de_var 4) de_int) da_nil)) da_nil))) (de_op o_pow de_int de_int)) (de_tup (da_cons (de_op o_mul (de_ix (de_var 4) de_int) (de_var 5)) (da_cons (de_op o_mul (de_ix (de_var 4) de_int) (de_var 5)) da_nil))) (de_var 4))) (dss_cons (ds_set 8 bd.nd (de_ix (de_lst (da_cons (de_var 7) (da_cons (de_tup (da_cons (de_op o_sub de_int (de_ix (de_var 4) de_int)) (da_cons (de_op o_sub de_int (de_ix (de_var 4) de_int)) da_nil))) (da_cons (de_tup (da_cons (de_op o_sub de_int (de_ix (de_var 4) de_int)) (da_cons (de_ix (de_var 4) de_int) da_nil))) (da_cons (de_var 6) (da_cons (de_call bd (c__law_pair G) (da_cons (de_var 2) da_nil)) da_nil)))))) (de_var 3))) (dss_cons (ds_for bd.po bd.calm (di_tup (de_tup (da_cons (de_var 4) (da_cons (de_var 8) (da_cons (de_var 4) da_nil))))) (dg_name 9 bd.nd) (dss_one (ds_if (dw_or (dt_not (dt_val (de_call bd (c__law_shown_right G) (da_cons (de_var 9) da_nil)))) (dw_or1 (dt_not (dt_val (de_call bd (c__law_unlike_right G) (da_cons (de_var 9) da_nil)))))).dt (dss_one (ds_ret de_bl)) dss_nil))) (dss_one (ds_if (dw_or (dt_not (dt_val (de_call bd (c__law_equal_right G) (da_cons (de_var 4) (da_cons (de_var 8) da_nil))))) (dw_or (dt_not (dt_val (de_call bd (c__law_equal_right G) (da_cons (de_var 8) (da_cons (de_var 4) da_nil))))) (dw_or1 (dt_not (dt_val (de_call bd (c__law_equal_right G) (da_cons (de_var 4) (da_cons (de_var 4) da_nil)))))))).dt (dss_one (ds_ret de_bl)) dss_nil))))))))))) (dss_one (ds_ret de_bl))), fun ds w Q h => ?_⟩)
  obtain ⟨ns, rfl, hl, h⟩ := h
  simp only [startD, List.length_cons, List.length_nil, List.map_cons, List.map_nil, List.cons_append, List.nil_append, Nat.reduceAdd, Nat.reduceSub, List.replicate_succ, List.replicate_zero, List.replicate]
  refine seq_op (fun N hN => ?_); (try dsimp only [dAsg, dOp, dVar, nth, dC, dB, dIfS, dIf, dOr, dAnd, dNot, dAndV, dOrV, dNotV, dNil, dCons, dTup, dLst, dLstM, dCall, dFn, gNm, pus, dNext, dRet, dRetN, dDrop, dPar, dAug, dSl, dNo, dPt, dNeg, dMt, dStr, dChain, DL.isNon, br_T, br_F, s1R, splitPR, splitR, joinR, startsR, endsR, catM, catL, gSubM, appendR, popR, dRevS, dFmt, dJoin, dJs, gTp_1, gTp_2, gTp_3, gTp_4, gTp_5, gTp_6, gTp_7, gTp_8, gsCons, gsNil, dFor_eq, dLcK_eq, dRng1, dRng2, dItL, dItS, dZip, dEnum, dEnumS, wipeD, dYes, eqR_i, neR_i, eqR_s, neR_s, eqR_b, neR_b, eqR_n, neR_n, itemR_t, itemR_l, itemR_r, itemR_p, itemR_s, addR_i, addR_b, addR_s, addR_l, addR_t, mulR_i, dI_i, dI0_i, isR_n, isR_b, lenR_t, listR_t, tupleR_t, sliceR_t, lenR_l, listR_l, tupleR_l, sliceR_l, lenR_r, listR_r, tupleR_r, sliceR_r, lenR_s, lenR_p, listR_p, tupleR_p, sliceR_p, sliceR_s, absR_i, max2R_i, min2R_i, intR_i, intR_b, strR_i, strR_s, mulSR_s, mulLR_l, gSubD, dGet, dDispV, dFrzD, dCallN, dFrz, dTop, dBot, dMethN, dRev, dRevM, dRevT, sumR, addSR_s, cxOf, fldR_i, fldR_p, dFld, hasM_i, hasM_p, dMethC, dMakeK, dMethK, dLenS, dDc, dGetK2, dGetK1, extendR, popAtR, dSetF, dCallV, dTab, dRaise, inCR_s, dFmtN, strNR, reprR, List.cons_append, List.nil_append, List.append_nil])
  have s200 : ∀ {i : Int}, -(2 ^ 64) < i ∧ i < 2 ^ 64 → Sz 200 i := fun h => (sz64 (by omega)).mono (by decide)
  refine ⟨⟨by repeat' split
              all_goals omega, by repeat' split
                                  all_goals omega⟩, for_i (fun i r w' => ∃ x1 x2 x3 x4 x5 x6 x7 x8 x9, r = [some (.rl (ns.map Dt.int)), x1, x2, x3, x4, x5, x6, x7, x8, x9]) ⟨_, _, _, _, _, _, _, _, _, rfl⟩ ?_ (fun _ _ _ => trivial) ?_⟩
  · rintro i r w' d N1 hd ⟨x1, x2, x3, x4, x5, x6, x7, x8, x9, rfl⟩ hN1
    obtain ⟨li, rfl⟩ := iota_nat hd
    have i6 : i < 6 := by
      have : ∀ z : Int, i < (if (if 6 < z then 6 else z) > 2 then (if 6 < z then 6 else z) else 2).toNat → i < 6 := fun z hz => by
        split at hz <;> (try split at hz) <;> omega
      exact this _ li
    refine ⟨trivial, ?_⟩
    refine seq_op (fun N hN => ?_); (try dsimp only [dAsg, dOp, dVar, nth, dC, dB, dIfS, dIf, dOr, dAnd, dNot, dAndV, dOrV, dNotV, dNil, dCons, dTup, dLst, dLstM, dCall, dFn, gNm, pus, dNext, dRet, dRetN, dDrop, dPar, dAug, dSl, dNo, dPt, dNeg, dMt, dStr, dChain, DL.isNon, br_T, br_F, s1R, splitPR, splitR, joinR, startsR, endsR, catM, catL, gSubM, appendR, popR, dRevS, dFmt, dJoin, dJs, gTp_1, gTp_2, gTp_3, gTp_4, gTp_5, gTp_6, gTp_7, gTp_8, gsCons, gsNil, dFor_eq, dLcK_eq, dRng1, dRng2, dItL, dItS, dZip, dEnum, dEnumS, wipeD, dYes, eqR_i, neR_i, eqR_s, neR_s, eqR_b, neR_b, eqR_n, neR_n, itemR_t, itemR_l, itemR_r, itemR_p, itemR_s, addR_i, addR_b, addR_s, addR_l, addR_t, mulR_i, dI_i, dI0_i, isR_n, isR_b, lenR_t, listR_t, tupleR_t, sliceR_t, lenR_l, listR_l, tupleR_l, sliceR_l, lenR_r, listR_r, tupleR_r, sliceR_r, lenR_s, lenR_p, listR_p, tupleR_p, sliceR_p, sliceR_s, absR_i, max2R_i, min2R_i, intR_i, intR_b, strR_i, strR_s, mulSR_s, mulLR_l, gSubD, dGet, dDispV, dFrzD, dCallN, dFrz, dTop, dBot, dMethN, dRev, dRevM, dRevT, sumR, addSR_s, cxOf, fldR_i, fldR_p, dFld, hasM_i, hasM_p, dMethC, dMakeK, dMethK, dLenS, dDc, dGetK2, dGetK1, extendR, popAtR, dSetF, dCallV, dTab, dRaise, inCR_s, dFmtN, strNR, reprR, List.cons_append, List.nil_append, List.append_nil])
    refine ⟨ns, _, rfl, by omega, by omega, fun W w1 hW wl o1 => ?_⟩
    refine hN _ _ ?_; clear hN N
    refine seq_op (fun N hN => ?_); (try dsimp only [dAsg, dOp, dVar, nth, dC, dB, dIfS, dIf, dOr, dAnd, dNot, dAndV, dOrV, dNotV, dNil, dCons, dTup, dLst, dLstM, dCall, dFn, gNm, pus, dNext, dRet, dRetN, dDrop, dPar, dAug, dSl, dNo, dPt, dNeg, dMt, dStr, dChain, DL.isNon, br_T, br_F, s1R, splitPR, splitR, joinR, startsR, endsR, catM, catL, gSubM, appendR, popR, dRevS, dFmt, dJoin, dJs, gTp_1, gTp_2, gTp_3, gTp_4, gTp_5, gTp_6, gTp_7, gTp_8, gsCons, gsNil, dFor_eq, dLcK_eq, dRng1, dRng2, dItL, dItS, dZip, dEnum, dEnumS, wipeD, dYes, eqR_i, neR_i, eqR_s, neR_s, eqR_b, neR_b, eqR_n, neR_n, itemR_t, itemR_l, itemR_r, itemR_p, itemR_s, addR_i, addR_b, addR_s, addR_l, addR_t, mulR_i, dI_i, dI0_i, isR_n, isR_b, lenR_t, listR_t, tupleR_t, sliceR_t, lenR_l, listR_l, tupleR_l, sliceR_l, lenR_r, listR_r, tupleR_r, sliceR_r, lenR_s, lenR_p, listR_p, tupleR_p, sliceR_p, sliceR_s, absR_i, max2R_i, min2R_i, intR_i, intR_b, strR_i, strR_s, mulSR_s, mulLR_l, gSubD, dGet, dDispV, dFrzD, dCallN, dFrz, dTop, dBot, dMethN, dRev, dRevM, dRevT, sumR, addSR_s, cxOf, fldR_i, fldR_p, dFld, hasM_i, hasM_p, dMethC, dMakeK, dMethK, dLenS, dDc, dGetK2, dGetK1, extendR, popAtR, dSetF, dCallV, dTab, dRaise, inCR_s, dFmtN, strNR, reprR, List.cons_append, List.nil_append, List.append_nil])
    refine ⟨W, 5, rfl, by decide, s200 (by decide), wl, fun way w2 way0 way1 wl2 o2 => ?_⟩
    refine hN _ _ ?_; clear hN N
    refine seq_op (fun N hN => ?_); (try dsimp only [dAsg, dOp, dVar, nth, dC, dB, dIfS, dIf, dOr, dAnd, dNot, dAndV, dOrV, dNotV, dNil, dCons, dTup, dLst, dLstM, dCall, dFn, gNm, pus, dNext, dRet, dRetN, dDrop, dPar, dAug, dSl, dNo, dPt, dNeg, dMt, dStr, dChain, DL.isNon, br_T, br_F, s1R, splitPR, splitR, joinR, startsR, endsR, catM, catL, gSubM, appendR, popR, dRevS, dFmt, dJoin, dJs, gTp_1, gTp_2, gTp_3, gTp_4, gTp_5, gTp_6, gTp_7, gTp_8, gsCons, gsNil, dFor_eq, dLcK_eq, dRng1, dRng2, dItL, dItS, dZip, dEnum, dEnumS, wipeD, dYes, eqR_i, neR_i, eqR_s, neR_s, eqR_b, neR_b, eqR_n, neR_n, itemR_t, itemR_l, itemR_r, itemR_p, itemR_s, addR_i, addR_b, addR_s, addR_l, addR_t, mulR_i, dI_i, dI0_i, isR_n, isR_b, lenR_t, listR_t, tupleR_t, sliceR_t, lenR_l, listR_l, tupleR_l, sliceR_l, lenR_r, listR_r, tupleR_r, sliceR_r, lenR_s, lenR_p, listR_p, tupleR_p, sliceR_p, sliceR_s, absR_i, max2R_i, min2R_i, intR_i, intR_b, strR_i, strR_s, mulSR_s, mulLR_l, gSubD, dGet, dDispV, dFrzD, dCallN, dFrz, dTop, dBot, dMethN, dRev, dRevM, dRevT, sumR, addSR_s, cxOf, fldR_i, fldR_p, dFld, hasM_i, hasM_p, dMethC, dMakeK, dMethK, dLenS, dDc, dGetK2, dGetK1, extendR, popAtR, dSetF, dCallV, dTab, dRaise, inCR_s, dFmtN, strNR, reprR, List.cons_append, List.nil_append, List.append_nil])
    refine ⟨W, rfl, wl2, fun T B w3 pr wl3 o3 => ?_⟩
    refine hN _ _ ?_; clear hN N
    refine seq_op (fun N hN => ?_); (try dsimp only [dAsg, dOp, dVar, nth, dC, dB, dIfS, dIf, dOr, dAnd, dNot, dAndV, dOrV, dNotV, dNil, dCons, dTup, dLst, dLstM, dCall, dFn, gNm, pus, dNext, dRet, dRetN, dDrop, dPar, dAug, dSl, dNo, dPt, dNeg, dMt, dStr, dChain, DL.isNon, br_T, br_F, s1R, splitPR, splitR, joinR, startsR, endsR, catM, catL, gSubM, appendR, popR, dRevS, dFmt, dJoin, dJs, gTp_1, gTp_2, gTp_3, gTp_4, gTp_5, gTp_6, gTp_7, gTp_8, gsCons, gsNil, dFor_eq, dLcK_eq, dRng1, dRng2, dItL, dItS, dZip, dEnum, dEnumS, wipeD, dYes, eqR_i, neR_i, eqR_s, neR_s, eqR_b, neR_b, eqR_n, neR_n, itemR_t, itemR_l, itemR_r, itemR_p, itemR_s, addR_i, addR_b, addR_s, addR_l, addR_t, mulR_i, dI_i, dI0_i, isR_n, isR_b, lenR_t, listR_t, tupleR_t, sliceR_t, lenR_l, listR_l, tupleR_l, sliceR_l, lenR_r, listR_r, tupleR_r, sliceR_r, lenR_s, lenR_p, listR_p, tupleR_p, sliceR_p, sliceR_s, absR_i, max2R_i, min2R_i, intR_i, intR_b, strR_i, strR_s, mulSR_s, mulLR_l, gSubD, dGet, dDispV, dFrzD, dCallN, dFrz, dTop, dBot, dMethN, dRev, dRevM, dRevT, sumR, addSR_s, cxOf, fldR_i, fldR_p, dFld, hasM_i, hasM_p, dMethC, dMakeK, dMethK, dLenS, dDc, dGetK2, dGetK1, extendR, popAtR, dSetF, dCallV, dTab, dRaise, inCR_s, dFmtN, strNR, reprR, List.cons_append, List.nil_append, List.append_nil])
    refine ⟨W, 9, rfl, by decide, s200 (by decide), wl3, fun m w4 m0 m1 wl4 o4 => ?_⟩
    (try dsimp only [dAsg, dOp, dVar, nth, dC, dB, dIfS, dIf, dOr, dAnd, dNot, dAndV, dOrV, dNotV, dNil, dCons, dTup, dLst, dLstM, dCall, dFn, gNm, pus, dNext, dRet, dRetN, dDrop, dPar, dAug, dSl, dNo, dPt, dNeg, dMt, dStr, dChain, DL.isNon, br_T, br_F, s1R, splitPR, splitR, joinR, startsR, endsR, catM, catL, gSubM, appendR, popR, dRevS, dFmt, dJoin, dJs, gTp_1, gTp_2, gTp_3, gTp_4, gTp_5, gTp_6, gTp_7, gTp_8, gsCons, gsNil, dFor_eq, dLcK_eq, dRng1, dRng2, dItL, dItS, dZip, dEnum, dEnumS, wipeD, dYes, eqR_i, neR_i, eqR_s, neR_s, eqR_b, neR_b, eqR_n, neR_n, itemR_t, itemR_l, itemR_r, itemR_p, itemR_s, addR_i, addR_b, addR_s, addR_l, addR_t, mulR_i, dI_i, dI0_i, isR_n, isR_b, lenR_t, listR_t, tupleR_t, sliceR_t, lenR_l, listR_l, tupleR_l, sliceR_l, lenR_r, listR_r, tupleR_r, sliceR_r, lenR_s, lenR_p, listR_p, tupleR_p, sliceR_p, sliceR_s, absR_i, max2R_i, min2R_i, intR_i, intR_b, strR_i, strR_s, mulSR_s, mulLR_l, gSubD, dGet, dDispV, dFrzD, dCallN, dFrz, dTop, dBot, dMethN, dRev, dRevM, dRevT, sumR, addSR_s, cxOf, fldR_i, fldR_p, dFld, hasM_i, hasM_p, dMethC, dMakeK, dMethK, dLenS, dDc, dGetK2, dGetK1, extendR, popAtR, dSetF, dCallV, dTab, dRaise, inCR_s, dFmtN, strNR, reprR, List.cons_append, List.nil_append, List.append_nil])
    refine hN _ _ ?_; clear hN N
    refine seq_op (fun N hN => ?_); (try dsimp only [dAsg, dOp, dVar, nth, dC, dB, dIfS, dIf, dOr, dAnd, dNot, dAndV, dOrV, dNotV, dNil, dCons, dTup, dLst, dLstM, dCall, dFn, gNm, pus, dNext, dRet, dRetN, dDrop, dPar, dAug, dSl, dNo, dPt, dNeg, dMt, dStr, dChain, DL.isNon, br_T, br_F, s1R, splitPR, splitR, joinR, startsR, endsR, catM, catL, gSubM, appendR, popR, dRevS, dFmt, dJoin, dJs, gTp_1, gTp_2, gTp_3, gTp_4, gTp_5, gTp_6, gTp_7, gTp_8, gsCons, gsNil, dFor_eq, dLcK_eq, dRng1, dRng2, dItL, dItS, dZip, dEnum, dEnumS, wipeD, dYes, eqR_i, neR_i, eqR_s, neR_s, eqR_b, neR_b, eqR_n, neR_n, itemR_t, itemR_l, itemR_r, itemR_p, itemR_s, addR_i, addR_b, addR_s, addR_l, addR_t, mulR_i, dI_i, dI0_i, isR_n, isR_b, lenR_t, listR_t, tupleR_t, sliceR_t, lenR_l, listR_l, tupleR_l, sliceR_l, lenR_r, listR_r, tupleR_r, sliceR_r, lenR_s, lenR_p, listR_p, tupleR_p, sliceR_p, sliceR_s, absR_i, max2R_i, min2R_i, intR_i, intR_b, strR_i, strR_s, mulSR_s, mulLR_l, gSubD, dGet, dDispV, dFrzD, dCallN, dFrz, dTop, dBot, dMethN, dRev, dRevM, dRevT, sumR, addSR_s, cxOf, fldR_i, fldR_p, dFld, hasM_i, hasM_p, dMethC, dMakeK, dMethK, dLenS, dDc, dGetK2, dGetK1, extendR, popAtR, dSetF, dCallV, dTab, dRaise, inCR_s, dFmtN, strNR, reprR, List.cons_append, List.nil_append, List.append_nil])
    have nr : ∀ {T' : Int}, (T' = T + 1 ∨ T' = T + -1) → PrB T' B := fun {T'} h => ⟨pr.1, by have := pr.2.1; unfold Sz at *; omega, pr.2.2.mono (by decide)⟩
    suffices key : ∀ T' : Int, (T' = T + 1 ∨ T' = T + -1) → N [some (Dt.rl (ns.map Dt.int)), some (Dt.int i), some (Dt.ptr W), some (Dt.int way), some (Dt.tup [Dt.int T, Dt.int B]), some (Dt.int (1 + m)), some (Dt.tup [Dt.int T', Dt.int B]), x7, x8, x9] w4 by
      refine ⟨_, at0, (Nat.le_of_ble_eq_true rfl), _, at0, ?_⟩
      (try dsimp only [dAsg, dOp, dVar, nth, dC, dB, dIfS, dIf, dOr, dAnd, dNot, dAndV, dOrV, dNotV, dNil, dCons, dTup, dLst, dLstM, dCall, dFn, gNm, pus, dNext, dRet, dRetN, dDrop, dPar, dAug, dSl, dNo, dPt, dNeg, dMt, dStr, dChain, DL.isNon, br_T, br_F, s1R, splitPR, splitR, joinR, startsR, endsR, catM, catL, gSubM, appendR, popR, dRevS, dFmt, dJoin, dJs, gTp_1, gTp_2, gTp_3, gTp_4, gTp_5, gTp_6, gTp_7, gTp_8, gsCons, gsNil, dFor_eq, dLcK_eq, dRng1, dRng2, dItL, dItS, dZip, dEnum, dEnumS, wipeD, dYes, eqR_i, neR_i, eqR_s, neR_s, eqR_b, neR_b, eqR_n, neR_n, itemR_t, itemR_l, itemR_r, itemR_p, itemR_s, addR_i, addR_b, addR_s, addR_l, addR_t, mulR_i, dI_i, dI0_i, isR_n, isR_b, lenR_t, listR_t, tupleR_t, sliceR_t, lenR_l, listR_l, tupleR_l, sliceR_l, lenR_r, listR_r, tupleR_r, sliceR_r, lenR_s, lenR_p, listR_p, tupleR_p, sliceR_p, sliceR_s, absR_i, max2R_i, min2R_i, intR_i, intR_b, strR_i, strR_s, mulSR_s, mulLR_l, gSubD, dGet, dDispV, dFrzD, dCallN, dFrz, dTop, dBot, dMethN, dRev, dRevM, dRevT, sumR, addSR_s, cxOf, fldR_i, fldR_p, dFld, hasM_i, hasM_p, dMethC, dMakeK, dMethK, dLenS, dDc, dGetK2, dGetK1, extendR, popAtR, dSetF, dCallV, dTab, dRaise, inCR_s, dFmtN, strNR, reprR, List.cons_append, List.nil_append, List.append_nil])
      cases decide (0 < T) with
      | true => exact ⟨_, at1, _, at1, (Nat.le_of_ble_eq_true rfl), key _ (.inr rfl)⟩
      | false => exact ⟨_, at0, _, at1, (Nat.le_of_ble_eq_true rfl), key _ (.inl rfl)⟩
    intro T' hT'
    have pn := nr hT'
    clear hT' nr
    refine hN _ _ ?_; clear hN N
    refine seq_op (fun N hN => ?_); (try dsimp only [dAsg, dOp, dVar, nth, dC, dB, dIfS, dIf, dOr, dAnd, dNot, dAndV, dOrV, dNotV, dNil, dCons, dTup, dLst, dLstM, dCall, dFn, gNm, pus, dNext, dRet, dRetN, dDrop, dPar, dAug, dSl, dNo, dPt, dNeg, dMt, dStr, dChain, DL.isNon, br_T, br_F, s1R, splitPR, splitR, joinR, startsR, endsR, catM, catL, gSubM, appendR, popR, dRevS, dFmt, dJoin, dJs, gTp_1, gTp_2, gTp_3, gTp_4, gTp_5, gTp_6, gTp_7, gTp_8, gsCons, gsNil, dFor_eq, dLcK_eq, dRng1, dRng2, dItL, dItS, dZip, dEnum, dEnumS, wipeD, dYes, eqR_i, neR_i, eqR_s, neR_s, eqR_b, neR_b, eqR_n, neR_n, itemR_t, itemR_l, itemR_r, itemR_p, itemR_s, addR_i, addR_b, addR_s, addR_l, addR_t, mulR_i, dI_i, dI0_i, isR_n, isR_b, lenR_t, listR_t, tupleR_t, sliceR_t, lenR_l, listR_l, tupleR_l, sliceR_l, lenR_r, listR_r, tupleR_r, sliceR_r, lenR_s, lenR_p, listR_p, tupleR_p, sliceR_p, sliceR_s, absR_i, max2R_i, min2R_i, intR_i, intR_b, strR_i, strR_s, mulSR_s, mulLR_l, gSubD, dGet, dDispV, dFrzD, dCallN, dFrz, dTop, dBot, dMethN, dRev, dRevM, dRevT, sumR, addSR_s, cxOf, fldR_i, fldR_p, dFld, hasM_i, hasM_p, dMethC, dMakeK, dMethK, dLenS, dDc, dGetK2, dGetK1, extendR, popAtR, dSetF, dCallV, dTab, dRaise, inCR_s, dFmtN, strNR, reprR, List.cons_append, List.nil_append, List.append_nil])
    have sm : Sz 5 (1 + m) := by unfold Sz; omega
    suffices key : ∀ T2 B2 : Int, PrB T2 B2 → N [some (Dt.rl (ns.map Dt.int)), some (Dt.int i), some (Dt.ptr W), some (Dt.int way), some (Dt.tup [Dt.int T, Dt.int B]), some (Dt.int (1 + m)), some (Dt.tup [Dt.int T', Dt.int B]), some (Dt.tup [Dt.int T2, Dt.int B2]), x8, x9] w4 by
      refine ⟨_, at0, ?_⟩
      (try dsimp only [dAsg, dOp, dVar, nth, dC, dB, dIfS, dIf, dOr, dAnd, dNot, dAndV, dOrV, dNotV, dNil, dCons, dTup, dLst, dLstM, dCall, dFn, gNm, pus, dNext, dRet, dRetN, dDrop, dPar, dAug, dSl, dNo, dPt, dNeg, dMt, dStr, dChain, DL.isNon, br_T, br_F, s1R, splitPR, splitR, joinR, startsR, endsR, catM, catL, gSubM, appendR, popR, dRevS, dFmt, dJoin, dJs, gTp_1, gTp_2, gTp_3, gTp_4, gTp_5, gTp_6, gTp_7, gTp_8, gsCons, gsNil, dFor_eq, dLcK_eq, dRng1, dRng2, dItL, dItS, dZip, dEnum, dEnumS, wipeD, dYes, eqR_i, neR_i, eqR_s, neR_s, eqR_b, neR_b, eqR_n, neR_n, itemR_t, itemR_l, itemR_r, itemR_p, itemR_s, addR_i, addR_b, addR_s, addR_l, addR_t, mulR_i, dI_i, dI0_i, isR_n, isR_b, lenR_t, listR_t, tupleR_t, sliceR_t, lenR_l, listR_l, tupleR_l, sliceR_l, lenR_r, listR_r, tupleR_r, sliceR_r, lenR_s, lenR_p, listR_p, tupleR_p, sliceR_p, sliceR_s, absR_i, max2R_i, min2R_i, intR_i, intR_b, strR_i, strR_s, mulSR_s, mulLR_l, gSubD, dGet, dDispV, dFrzD, dCallN, dFrz, dTop, dBot, dMethN, dRev, dRevM, dRevT, sumR, addSR_s, cxOf, fldR_i, fldR_p, dFld, hasM_i, hasM_p, dMethC, dMakeK, dMethK, dLenS, dDc, dGetK2, dGetK1, extendR, popAtR, dSetF, dCallV, dTab, dRaise, inCR_s, dFmtN, strNR, reprR, List.cons_append, List.nil_append, List.append_nil])
      refine ⟨_, at1, ?_⟩
      (try dsimp only [dAsg, dOp, dVar, nth, dC, dB, dIfS, dIf, dOr, dAnd, dNot, dAndV, dOrV, dNotV, dNil, dCons, dTup, dLst, dLstM, dCall, dFn, gNm, pus, dNext, dRet, dRetN, dDrop, dPar, dAug, dSl, dNo, dPt, dNeg, dMt, dStr, dChain, DL.isNon, br_T, br_F, s1R, splitPR, splitR, joinR, startsR, endsR, catM, catL, gSubM, appendR, popR, dRevS, dFmt, dJoin, dJs, gTp_1, gTp_2, gTp_3, gTp_4, gTp_5, gTp_6, gTp_7, gTp_8, gsCons, gsNil, dFor_eq, dLcK_eq, dRng1, dRng2, dItL, dItS, dZip, dEnum, dEnumS, wipeD, dYes, eqR_i, neR_i, eqR_s, neR_s, eqR_b, neR_b, eqR_n, neR_n, itemR_t, itemR_l, itemR_r, itemR_p, itemR_s, addR_i, addR_b, addR_s, addR_l, addR_t, mulR_i, dI_i, dI0_i, isR_n, isR_b, lenR_t, listR_t, tupleR_t, sliceR_t, lenR_l, listR_l, tupleR_l, sliceR_l, lenR_r, listR_r, tupleR_r, sliceR_r, lenR_s, lenR_p, listR_p, tupleR_p, sliceR_p, sliceR_s, absR_i, max2R_i, min2R_i, intR_i, intR_b, strR_i, strR_s, mulSR_s, mulLR_l, gSubD, dGet, dDispV, dFrzD, dCallN, dFrz, dTop, dBot, dMethN, dRev, dRevM, dRevT, sumR, addSR_s, cxOf, fldR_i, fldR_p, dFld, hasM_i, hasM_p, dMethC, dMakeK, dMethK, dLenS, dDc, dGetK2, dGetK1, extendR, popAtR, dSetF, dCallV, dTab, dRaise, inCR_s, dFmtN, strNR, reprR, List.cons_append, List.nil_append, List.append_nil])
      have p11 : (10 : Int) ^ Int.toNat 11 = 100000000000 := by decide
      refine ⟨⟨by decide, by decide, by decide⟩, br_dec (fun e => ?_) (fun _ => key T B (PrI.b pr))⟩
      rw [p11] at e
      have eT : T.natAbs < 100000000000 ∧ B.natAbs < 100000000000 := by
        split at e <;> split at e <;> split at e <;> omega
      have m1 : (T * (1 + m)).natAbs < 100000000000 * 10 := by rw [Int.natAbs_mul]; exact Nat.mul_lt_mul'' eT.1 (by omega)
      have m2 : (B * (1 + m)).natAbs < 100000000000 * 10 := by rw [Int.natAbs_mul]; exact Nat.mul_lt_mul'' eT.2 (by omega)
      exact ⟨_, at0, Sz.mulC pr.2.1 sm (by decide) (by decide) (by decide), _, at1, Sz.mulC pr.2.2 sm (by decide) (by decide) (by decide), (Nat.le_of_ble_eq_true rfl), key _ _ ⟨Int.mul_ne_zero pr.1 (by omega), by unfold Sz; omega, by unfold Sz; omega⟩⟩
    intro T2 B2 ps
    refine hN _ _ ?_; clear hN N
    refine seq_op (fun N hN => ?_); (try dsimp only [dAsg, dOp, dVar, nth, dC, dB, dIfS, dIf, dOr, dAnd, dNot, dAndV, dOrV, dNotV, dNil, dCons, dTup, dLst, dLstM, dCall, dFn, gNm, pus, dNext, dRet, dRetN, dDrop, dPar, dAug, dSl, dNo, dPt, dNeg, dMt, dStr, dChain, DL.isNon, br_T, br_F, s1R, splitPR, splitR, joinR, startsR, endsR, catM, catL, gSubM, appendR, popR, dRevS, dFmt, dJoin, dJs, gTp_1, gTp_2, gTp_3, gTp_4, gTp_5, gTp_6, gTp_7, gTp_8, gsCons, gsNil, dFor_eq, dLcK_eq, dRng1, dRng2, dItL, dItS, dZip, dEnum, dEnumS, wipeD, dYes, eqR_i, neR_i, eqR_s, neR_s, eqR_b, neR_b, eqR_n, neR_n, itemR_t, itemR_l, itemR_r, itemR_p, itemR_s, addR_i, addR_b, addR_s, addR_l, addR_t, mulR_i, dI_i, dI0_i, isR_n, isR_b, lenR_t, listR_t, tupleR_t, sliceR_t, lenR_l, listR_l, tupleR_l, sliceR_l, lenR_r, listR_r, tupleR_r, sliceR_r, lenR_s, lenR_p, listR_p, tupleR_p, sliceR_p, sliceR_s, absR_i, max2R_i, min2R_i, intR_i, intR_b, strR_i, strR_s, mulSR_s, mulLR_l, gSubD, dGet, dDispV, dFrzD, dCallN, dFrz, dTop, dBot, dMethN, dRev, dRevM, dRevT, sumR, addSR_s, cxOf, fldR_i, fldR_p, dFld, hasM_i, hasM_p, dMethC, dMakeK, dMethK, dLenS, dDc, dGetK2, dGetK1, extendR, popAtR, dSetF, dCallV, dTab, dRaise, inCR_s, dFmtN, strNR, reprR, List.cons_append, List.nil_append, List.append_nil])
    have pb := PrI.b pr
    have ng : ∀ {n : Nat} {x : Int}, Sz n x → Sz n (0 - x) := fun h => by unfold Sz at *; omega
    refine ⟨_, at0, _, at1, (Nat.le_of_ble_eq_true rfl), _, at0, _, at1, (Nat.le_of_ble_eq_true rfl), W, rfl, wl4, fun T3 B3 w5 pr3 wl5 o5 => ⟨(Nat.le_of_ble_eq_true rfl), ?_⟩⟩
    obtain ⟨_, e1, T4, B4, rfl, p4⟩ := at_all (P := RowB) (xs := [.tup [.int T2, .int B2], .tup [.int (0 - T), .int (0 - B)], .tup [.int (0 - T), .int B], .tup [.int T', .int B], .tup [.int T3, .int B3]]) way0 way1
      (all2 ⟨_, _, rfl, ps⟩ (all2 ⟨_, _, rfl, by have := pb.1; omega, ng pb.2.1, ng pb.2.2⟩ (all2 ⟨_, _, rfl, pb.1, ng pb.2.1, pb.2.2⟩ (all2 ⟨_, _, rfl, pn⟩ (all2 ⟨_, _, rfl, PrI.b pr3⟩ all0)))))
    refine ⟨_, e1, ?_⟩
    refine hN _ _ ?_; clear hN N
    refine seq_op (fun N hN => ?_); (try dsimp only [dAsg, dOp, dVar, nth, dC, dB, dIfS, dIf, dOr, dAnd, dNot, dAndV, dOrV, dNotV, dNil, dCons, dTup, dLst, dLstM, dCall, dFn, gNm, pus, dNext, dRet, dRetN, dDrop, dPar, dAug, dSl, dNo, dPt, dNeg, dMt, dStr, dChain, DL.isNon, br_T, br_F, s1R, splitPR, splitR, joinR, startsR, endsR, catM, catL, gSubM, appendR, popR, dRevS, dFmt, dJoin, dJs, gTp_1, gTp_2, gTp_3, gTp_4, gTp_5, gTp_6, gTp_7, gTp_8, gsCons, gsNil, dFor_eq, dLcK_eq, dRng1, dRng2, dItL, dItS, dZip, dEnum, dEnumS, wipeD, dYes, eqR_i, neR_i, eqR_s, neR_s, eqR_b, neR_b, eqR_n, neR_n, itemR_t, itemR_l, itemR_r, itemR_p, itemR_s, addR_i, addR_b, addR_s, addR_l, addR_t, mulR_i, dI_i, dI0_i, isR_n, isR_b, lenR_t, listR_t, tupleR_t, sliceR_t, lenR_l, listR_l, tupleR_l, sliceR_l, lenR_r, listR_r, tupleR_r, sliceR_r, lenR_s, lenR_p, listR_p, tupleR_p, sliceR_p, sliceR_s, absR_i, max2R_i, min2R_i, intR_i, intR_b, strR_i, strR_s, mulSR_s, mulLR_l, gSubD, dGet, dDispV, dFrzD, dCallN, dFrz, dTop, dBot, dMethN, dRev, dRevM, dRevT, sumR, addSR_s, cxOf, fldR_i, fldR_p, dFld, hasM_i, hasM_p, dMethC, dMakeK, dMethK, dLenS, dDc, dGetK2, dGetK1, extendR, popAtR, dSetF, dCallV, dTab, dRaise, inCR_s, dFmtN, strNR, reprR, List.cons_append, List.nil_append, List.append_nil])
    refine ⟨(Nat.le_of_ble_eq_true rfl), for_i (fun j r w' => ∃ x9, r = [some (Dt.rl (ns.map Dt.int)), some (Dt.int i), some (Dt.ptr W), some (Dt.int way), some (Dt.tup [Dt.int T, Dt.int B]), some (Dt.int (1 + m)), some (Dt.tup [Dt.int T', Dt.int B]), some (Dt.tup [Dt.int T2, Dt.int B2]), some (Dt.tup [Dt.int T4, Dt.int B4]), x9]) ⟨_, rfl⟩ ?_ (fun _ _ _ => trivial) ?_⟩
    · rintro j r w6 e N2 hj ⟨x9, rfl⟩ hN2
      have ra : ∀ z ∈ ([.tup [.int T, .int B], .tup [.int T4, .int B4], .tup [.int T, .int B]] : List Dt), RowB z := DL.all2 ⟨_, _, rfl, pb⟩ (DL.all2 ⟨_, _, rfl, p4⟩ (DL.all2 ⟨_, _, rfl, pb⟩ all0))
      have re : RowB e := ra e (List.mem_of_getElem? hj)
      obtain ⟨T5, B5, rfl, p5⟩ := re
      refine ⟨trivial, ?_⟩
      (try dsimp only [dAsg, dOp, dVar, nth, dC, dB, dIfS, dIf, dOr, dAnd, dNot, dAndV, dOrV, dNotV, dNil, dCons, dTup, dLst, dLstM, dCall, dFn, gNm, pus, dNext, dRet, dRetN, dDrop, dPar, dAug, dSl, dNo, dPt, dNeg, dMt, dStr, dChain, DL.isNon, br_T, br_F, s1R, splitPR, splitR, joinR, startsR, endsR, catM, catL, gSubM, appendR, popR, dRevS, dFmt, dJoin, dJs, gTp_1, gTp_2, gTp_3, gTp_4, gTp_5, gTp_6, gTp_7, gTp_8, gsCons, gsNil, dFor_eq, dLcK_eq, dRng1, dRng2, dItL, dItS, dZip, dEnum, dEnumS, wipeD, dYes, eqR_i, neR_i, eqR_s, neR_s, eqR_b, neR_b, eqR_n, neR_n, itemR_t, itemR_l, itemR_r, itemR_p, itemR_s, addR_i, addR_b, addR_s, addR_l, addR_t, mulR_i, dI_i, dI0_i, isR_n, isR_b, lenR_t, listR_t, tupleR_t, sliceR_t, lenR_l, listR_l, tupleR_l, sliceR_l, lenR_r, listR_r, tupleR_r, sliceR_r, lenR_s, lenR_p, listR_p, tupleR_p, sliceR_p, sliceR_s, absR_i, max2R_i, min2R_i, intR_i, intR_b, strR_i, strR_s, mulSR_s, mulLR_l, gSubD, dGet, dDispV, dFrzD, dCallN, dFrz, dTop, dBot, dMethN, dRev, dRevM, dRevT, sumR, addSR_s, cxOf, fldR_i, fldR_p, dFld, hasM_i, hasM_p, dMethC, dMakeK, dMethK, dLenS, dDc, dGetK2, dGetK1, extendR, popAtR, dSetF, dCallV, dTab, dRaise, inCR_s, dFmtN, strNR, reprR, List.cons_append, List.nil_append, List.append_nil])
      refine ⟨_, _, rfl, p5, br_f rfl ⟨_, _, rfl, p5, br_f rfl (hN2 _ _ ⟨_, rfl⟩)⟩⟩
    · rintro r w6 ⟨x9, rfl⟩
      refine hN _ _ ?_; clear hN N
      (try dsimp only [dAsg, dOp, dVar, nth, dC, dB, dIfS, dIf, dOr, dAnd, dNot, dAndV, dOrV, dNotV, dNil, dCons, dTup, dLst, dLstM, dCall, dFn, gNm, pus, dNext, dRet, dRetN, dDrop, dPar, dAug, dSl, dNo, dPt, dNeg, dMt, dStr, dChain, DL.isNon, br_T, br_F, s1R, splitPR, splitR, joinR, startsR, endsR, catM, catL, gSubM, appendR, popR, dRevS, dFmt, dJoin, dJs, gTp_1, gTp_2, gTp_3, gTp_4, gTp_5, gTp_6, gTp_7, gTp_8, gsCons, gsNil, dFor_eq, dLcK_eq, dRng1, dRng2, dItL, dItS, dZip, dEnum, dEnumS, wipeD, dYes, eqR_i, neR_i, eqR_s, neR_s, eqR_b, neR_b, eqR_n, neR_n, itemR_t, itemR_l, itemR_r, itemR_p, itemR_s, addR_i, addR_b, addR_s, addR_l, addR_t, mulR_i, dI_i, dI0_i, isR_n, isR_b, lenR_t, listR_t, tupleR_t, sliceR_t, lenR_l, listR_l, tupleR_l, sliceR_l, lenR_r, listR_r, tupleR_r, sliceR_r, lenR_s, lenR_p, listR_p, tupleR_p, sliceR_p, sliceR_s, absR_i, max2R_i, min2R_i, intR_i, intR_b, strR_i, strR_s, mulSR_s, mulLR_l, gSubD, dGet, dDispV, dFrzD, dCallN, dFrz, dTop, dBot, dMethN, dRev, dRevM, dRevT, sumR, addSR_s, cxOf, fldR_i, fldR_p, dFld, hasM_i, hasM_p, dMethC, dMakeK, dMethK, dLenS, dDc, dGetK2, dGetK1, extendR, popAtR, dSetF, dCallV, dTab, dRaise, inCR_s, dFmtN, strNR, reprR, List.cons_append, List.nil_append, List.append_nil])
      refine ⟨_, _, _, _, rfl, pb, p4, br_f rfl ⟨_, _, _, _, rfl, p4, pb, br_f rfl ⟨_, _, _, _, rfl, pb, pb, br_f rfl (hN1 _ _ ⟨_, _, _, _, _, _, _, _, _, rfl⟩)⟩⟩⟩
  · rintro r w' ⟨x1, x2, x3, x4, x5, x6, x7, x8, x9, rfl⟩
    refine hN _ _ ?_; clear hN N
    (try dsimp only [dAsg, dOp, dVar, nth, dC, dB, dIfS, dIf, dOr, dAnd, dNot, dAndV, dOrV, dNotV, dNil, dCons, dTup, dLst, dLstM, dCall, dFn, gNm, pus, dNext, dRet, dRetN, dDrop, dPar, dAug, dSl, dNo, dPt, dNeg, dMt, dStr, dChain, DL.isNon, br_T, br_F, s1R, splitPR, splitR, joinR, startsR, endsR, catM, catL, gSubM, appendR, popR, dRevS, dFmt, dJoin, dJs, gTp_1, gTp_2, gTp_3, gTp_4, gTp_5, gTp_6, gTp_7, gTp_8, gsCons, gsNil, dFor_eq, dLcK_eq, dRng1, dRng2, dItL, dItS, dZip, dEnum, dEnumS, wipeD, dYes, eqR_i, neR_i, eqR_s, neR_s, eqR_b, neR_b, eqR_n, neR_n, itemR_t, itemR_l, itemR_r, itemR_p, itemR_s, addR_i, addR_b, addR_s, addR_l, addR_t, mulR_i, dI_i, dI0_i, isR_n, isR_b, lenR_t, listR_t, tupleR_t, sliceR_t, lenR_l, listR_l, tupleR_l, sliceR_l, lenR_r, listR_r, tupleR_r, sliceR_r, lenR_s, lenR_p, listR_p, tupleR_p, sliceR_p, sliceR_s, absR_i, max2R_i, min2R_i, intR_i, intR_b, strR_i, strR_s, mulSR_s, mulLR_l, gSubD, dGet, dDispV, dFrzD, dCallN, dFrz, dTop, dBot, dMethN, dRev, dRevM, dRevT, sumR, addSR_s, cxOf, fldR_i, fldR_p, dFld, hasM_i, hasM_p, dMethC, dMakeK, dMethK, dLenS, dDc, dGetK2, dGetK1, extendR, popAtR, dSetF, dCallV, dTab, dRaise, inCR_s, dFmtN, strNR, reprR, List.cons_append, List.nil_append, List.append_nil])
    exact h _
end
end LW
namespace LW
open PySem PySem.Spec PyProof.Rows L2 DL
theorem fx_of {K : PySem.W.Frag} {h : Heap} {mg : Str → Option Value} {w : World} (X : K.In h) (Gn : h.Ns mainGlobals mg) (c : SaysY ex fa fn ts w K) : Fx K mg w := by
  have e0 : ex K = true := c.x.ex
  unfold ex at e0
  obtain ⟨e0, x6⟩ := He.ba e0
  obtain ⟨e0, x5⟩ := He.ba e0
  obtain ⟨e0, x4⟩ := He.ba e0
  obtain ⟨e0, x3⟩ := He.ba e0
  obtain ⟨e0, x2⟩ := He.ba e0
  obtain ⟨e0, x1⟩ := He.ba e0
  obtain ⟨e0, x0⟩ := He.ba e0
  exact ⟨(He.glo_ok X Gn (c.x.d.fact 0 rfl)), (He.glo_ok X Gn (c.x.d.fact 1 rfl)), (He.glo_ok X Gn (c.x.d.fact 2 rfl)), (He.glo_ok X Gn (c.x.d.fact 3 rfl)), (He.glo_ok X Gn (c.x.d.fact 4 rfl)), (He.glo_ok X Gn (c.x.d.fact 5 rfl)), (He.glo_ok X Gn (c.x.d.fact 6 rfl)), (He.glo_ok X Gn (c.x.d.fact 7 rfl)), (He.glo_ok X Gn (c.x.d.fact 8 rfl)), (He.glo_ok X Gn (c.x.d.fact 9 rfl)), (He.glo_ok X Gn (c.x.d.fact 10 rfl)), (He.free_ok X Gn (c.x.d.fact 11 rfl)), (He.free_ok X Gn (c.x.d.fact 12 rfl)), (He.free_ok X Gn (c.x.d.fact 13 rfl)), (He.free_ok X Gn (c.x.d.fact 14 rfl)), (He.free_ok X Gn (c.x.d.fact 15 rfl)), (He.free_ok X Gn (c.x.d.fact 16 rfl)), (He.free_ok X Gn (c.x.d.fact 17 rfl)), (He.free_ok X Gn (c.x.d.fact 18 rfl)), (He.free_ok X Gn (c.x.d.fact 19 rfl)), (He.free_ok X Gn (c.x.d.fact 20 rfl)), (He.cls_ok (c.x.d.fact 21 rfl)), (He.noat_ok (c.x.d.fact 22 rfl)), (He.noat_ok (c.x.d.fact 23 rfl)), (He.mkr_ok (c.x.d.fact 24 rfl)), (He.meth_ok (c.x.d.fact 25 rfl)), (He.meth_ok (c.x.d.fact 26 rfl)), (He.meth_ok (c.x.d.fact 27 rfl)), (num_of x0), (isi_of x1), (isi_of x2), (ne_of x3), (isg_of x4), (eqK_of x5), (fmtK_of x6), (c.x.d.def_ 0 rfl), (c.x.d.def_ 1 rfl), (c.x.d.def_ 2 rfl), (c.x.d.def_ 3 rfl), (c.x.d.def_ 4 rfl), (c.x.d.def_ 5 rfl), (c.x.d.def_ 6 rfl), (c.x.d.def_ 7 rfl), (c.x.d.def_ 8 rfl), (c.x.d.def_ 9 rfl), (c.x.d.def_ 10 rfl), (c.x.d.def_ 11 rfl), (c.x.d.def_ 12 rfl), (c.x.d.def_ 13 rfl)⟩
theorem facts {K : PySem.W.Frag} {h : Heap} {mg : Str → Option Value} {w : World} {f : Addr} (X : K.In h) (Gn : h.Ns mainGlobals mg) (hf : mg ("law" : Str) = some (.ref f)) (c : SaysY ex fa fn ts w K) :
    ∃ (fd : FuncData) (sp : DSp), (∀ (s : Shared) (u : Value), BindsTo s fd ⟨[u], []⟩ [("_law_script", u)]) ∧ LawSp 63 sp ∧ ∀ base : Heap, K.In base → base.Ns mainGlobals mg → FnG PR w K mg base 104 f fd ["_law_script"] (lift K sp) := by
  have G := fx_of X Gn c
  obtain ⟨fd, F⟩ := G.d_law
  have e := hf.symm.trans G.g_law
  cases e
  have b := FunD.bindsA (ps := ["_law_script"]) F fun _ _ _ _ _ _ us hl => match us, hl with | [_], _ => rfl
  exact ⟨fd, sp_law, fun s v => b s [v] rfl, law_sp, fun base _ _ => ok_law G F⟩
end LW
open PySem PySem.W PySem.Calls PyProof.Rows
theorem PySem.Challenge.cw_figuretexts_k01_numbers_equal_and_shown_holds : PySem.Challenge.rw_figuretexts_k01_numbers_equal_and_shown.Holds := by
  w_on; o_law
  refine HandSHeadRun.head_any (r := OpenLaw.row PySem.Challenge.rw_figuretexts_k01_numbers_equal_and_shown) (q := view (OpenLaw.row PySem.Challenge.rw_figuretexts_k01_numbers_equal_and_shown).prog [15]) (H := LW.hk) (ob := LW.ob) (M := 20000) (loose := LW.names) (d := HandSHeadRun.topDef (OpenLaw.row PySem.Challenge.rw_figuretexts_k01_numbers_equal_and_shown).prog 15) (kwd := []) LW.ob_eq
    (by kernel_rfl) (fun s => by kernel_rfl) LW.run (by kernel_rfl) (by kernel_rfl) (by kernel_rfl) (by rfl) (by first | assumption | decide +kernel) (by decide +kernel) ⟨rfl, rfl, rfl, rfl, rfl, by decide +kernel⟩ ?hw ?hc
  case hw => w_witness2
  case hc =>
    refine DL.walk_law (l := PySem.Challenge.rw_figuretexts_k01_numbers_equal_and_shown) (n := 63) (k := 104) (x := "_law_script") rfl (by decide) (by kernel_rfl) ⟨rfl, by decide, by decide⟩ ?F
    intro w mg fa h Y Gn hmg0
    obtain ⟨K, KX, c⟩ := Y
    have hmg : mg ("law" : PySem.Str) = some (.ref fa) := by
      have e : (HandSHeadRun.topDef (OpenLaw.row PySem.Challenge.rw_figuretexts_k01_numbers_equal_and_shown).prog 15).name = ("law" : PySem.Str) := by kernel_rfl
      rw [← e]
      exact hmg0
    obtain ⟨fd, sp, hb, g, hF⟩ := LW.facts KX Gn hmg c
    exact ⟨K, fd, sp, KX, hb, g, hF⟩
