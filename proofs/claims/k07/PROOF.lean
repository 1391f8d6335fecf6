
import PyProof.Rows.All
import Wide.All
import OpenK.AllK
import Wide.FinOn
import HandS.ForMost
import HandS.ForExc
import HandS.IsInst
import PyProof.Rows.IntBool
import HandS.Wide
import HandS.SortInts
import HandS.SortRule
import HandS.TryMany
import HandS.TryOnly
import HandS.Lambda
import KE.SortData
import HandS.Defaults
import HandS.Head0
import HandS.Head1
import HandS.Head2
import HandS.HeadEnd
import HandS.HeadHook1
import HandS.HeadHook2
import HandS.HeadHook3
import HandS.HeadHook4
import HandS.HeadWalk
import HandS.ExcField
import HandS.Words
import KE.KExcInit
import HandS.ExcInit
import KE.DataEq
import KE.KEqNest
import HandS.SortKw
import HandS.Sort
import KE.DataMinMax
import HandS.More
import PyProof.Rows.SortShellAny
import HandS.SetFor
import HandS.Strs
import KE.KUnpackStar
import HandS.Style
import HandS.DictComp
import HandS.DictTup
import KE.GoesEnum
import HandS.Zip
import PyProof.Transfer
import KE.KRevSl
import HandS.Conv
import HandS.HotCalls
import HandS.ExcIs
import KE.KExcIs
import PySem.Challenge.RW_farmates_k07_matings_moved_swelled_clipp
set_option Elab.async false
set_option autoImplicit false
set_option linter.all false
set_option maxRecDepth 100000
set_option maxHeartbeats 0
/-! The engine, part 0: the language's terms, a law's whole text, what the head looks at. -/
namespace Fm
open PySem L2 PySem.Spec PyProof.Rows
/-- a value as data: tuples and lists that stay are values, what changes is told by its address -/
inductive Dt where
  | non | bl (b : Bool) | int (i : Int) | str (s : Str) | tup (ds : List Dt) | lst (ds : List Dt) | ref (a : Addr)
inductive BO where | add | sub | mul | fdiv | mod | pow | xor | cat | rep | catM | catS
  deriving DecidableEq
inductive CO where | eq | ne | lt | le | gt | ge | is_ | isnot | in_ | notin | inp | notinp | neT
  deriving DecidableEq
inductive BI where | len | min2 | max2 | maxL | minL | sumL | anyL | allL | listOf (live : Bool) | tupOf | dictOf | sorted (live : Bool) | abs | sortedK (live : Bool) | dictD | sortedKS (live : Bool)
  deriving DecidableEq
inductive MI where | append | pop | get1 | get2 | clear | reverse | popAt | dpop | insert | count | index
  deriving DecidableEq
inductive TyR where | ty (n : String) | cls (c : Nat)
  deriving DecidableEq
/-- what stands for a last argument that is not written -/
inductive Cst where | non | int (i : Int)
  deriving DecidableEq
/-- how a def takes its last parameter: as all; by its name alone, or left out; as all, or left out -/
inductive Op where | no | kw (x : Str) (c : Cst) | ps (c : Cst)
  deriving DecidableEq
def Cst.dv : Cst → He.Dv
  | .non => .non
  | .int i => .int i
def Op.dfl : Op → List He.Dv
  | .ps c => [c.dv]
  | _ => []
def Op.kwd : Op → List (Str × He.Dv)
  | .kw x c => [(x, c.dv)]
  | _ => []
mutual
inductive E where
  | var (i : Nat) | int (z : Int) | str (s : Str) | bl (b : Bool) | non | glob (g : Nat)
  | bin (o : BO) (a b : E) | neg (a : E) | cmp (o : CO) (a b : E) | cmp2 (o p : CO) (a b c : E)
  | bop (k : Bool) (as : Es) | not_ (a : E) | ite (c : T) (a b : E)
  | tup (as : Es) | lst (live : Bool) (as : Es) | ix (a b : E) | sl (a : E) (lo hi : EO)
  | call (g : Nat) (as : Es) | bi (f : BI) (as : Es) | mt (m : MI) (a : E) (as : Es)
  | fld (a : E) (f : Str) | isi (a : E) (ts : List TyR) (tup : Bool)
  | lc (live : Bool) (own : List (Str × Nat)) (t : Tg) (it : Ie) (cs : Ts) (e : E)
  | frz (a : E) | why (a : E) | mk (c : Nat) (as : Es) | meth (m : Str) (a : E) (as : Es)
  | mkO (k : Bool) (c : Nat) (as : Es) (e : E) | methO (k : Bool) (m : Str) (a : E) (as : Es) (e : E)
  | maxO (a : E) (e : E) | rev (a : E) | lrng (live : Bool) (a : E) | srtSet (live : Bool) (a : E) | lenSet (a : E)
  | dnew | lock (e : E) | sit (live : Bool) (a : E) | slT (a : E) (lo hi : EO)
  | dc (own : List (Str × Nat)) (t : Tg) (it : Ie) (cs : Ts) (ke ve : E)
inductive Es where | nil | cons (e : E) (es : Es)
inductive EO where | none | some (e : E)
inductive T where | val (a : E) | cmp (o : CO) (a b : E) | cmp2 (o p : CO) (a b c : E) | not_ (t : T) | all (ts : Ts) | any (ts : Ts)
inductive Ts where | nil | cons (t : T) (ts : Ts)
inductive Ie where | seq (a : E) | rng1 (a : E) | rng2 (a b : E) | zip (a b : E) | enm (a : E) | items (a : E)
inductive Tg where | name (i : Nat) | tup (gs : Tgs) | ix (a b : E) | star (gs : Tgs) | fld (a : E) (f : Str)
inductive Tgs where | nil | cons (g : Tg) (gs : Tgs)
end
mutual
inductive Sm where
  | asg (t : Tg) (e : E) | asgC (i : Nat) (e : E) | par (i j : Nat) (a b : E) | aug (i : Nat) (o : BO) (e : E) | expr (e : E)
  | if_ (c : T) (a b : Sms) | for_ (t : Tg) (it : Ie) (b : Sms) | while_ (c : T) (b : Sms)
  | ret (e : E) | retN | brk | cont | pass | never
  | raise (c : Nat) (as : Es) | setf (a : E) (f : Str) (e : E) | augf (a : E) (f : Str) (o : BO) (e : E) | tryR (b : Sms) (c : Nat) (e : E) | tryN (b : Sms) | delD (a i : E)
  | lock (s : Sm) | par3 (i j l : Nat) (a b c : E)
inductive Sms where | nil | cons (s : Sm) (ss : Sms)
end
inductive Bk where | ve | le | ie
  deriving DecidableEq
def Bk.nm : Bk → String
  | .ve => "ValueError" | .le => "LookupError" | .ie => "IndexError"
def Bk.nw : Bk → String
  | .ve => "ValueError.__new__" | .le => "LookupError.__new__" | .ie => "IndexError.__new__"
def Bk.ini : Bk → String
  | .ve => "ValueError.__init__" | .le => "LookupError.__init__" | .ie => "IndexError.__init__"
def Bk.mro : Bk → List Value
  | .ve => [.type "ValueError", .type "Exception", .type "BaseException", .type "object"]
  | .le => [.type "LookupError", .type "Exception", .type "BaseException", .type "object"]
  | .ie => [.type "IndexError", .type "LookupError", .type "Exception", .type "BaseException", .type "object"]
/-- classes of the module, then the base's own row -/
def ownRow (b : Bk) : List Value → Bool
  | .ref _ :: r => ownRow b r
  | l => l == b.mro
/-- how an __init__ of the module's exception classes goes: straight over a built-in base (the word is its parameter, or written), or over another such class -/
inductive ExI where
  | base (b : Bk) (c : Option Str)
  | sub (b : Bk) (word : Str) (fs : List (Str × Nat))
/-- if isinstance(e, ..): return e.f, or (e.f, e.g) -/
structure FRow where
  cs : List Nat
  one : Bool
  fs : List Str
  tup : Bool
/-- the classes by numbers, the names that they have -/
abbrev CN := List (Nat × Str)
abbrev whyN : List Str := ["_law_ask", "_law_found", "_law_e"]
/-- a class's def -/
def methOf (c : Stmt) (m : Str) : Stmt := match c with
  | .ClassDef _ _ _ body _ _ _ _ _ _ _ => (body.find? fun s => match s with
    | .FunctionDef n _ _ _ _ _ _ _ _ _ => decide (n = m)
    | _ => false).getD (.Pass ⟨0, 0, 0, 0⟩)
  | _ => .Pass ⟨0, 0, 0, 0⟩
structure DD where
  name : Str
  st : Stmt
  N : List Str
  np : Nat
  body : Sms
  cn : Option Str
  op : Op := .no
def DD.at_ (d : DD) : Str × Option Str := match d.cn with
  | none => (d.name, none)
  | some c => (c, some d.name)
def DD.qual (d : DD) : Str := match d.cn with
  | none => d.name
  | some c => c ++ "." ++ d.name
def DD.toD (d : DD) : He.DefD := ⟨d.at_, d.name, d.qual, defArgs d.st, defBody d.st, defScope d.st, d.op.dfl, d.op.kwd⟩
/-- an exception class: its __init__ -/
structure ExR where
  name : Str
  st : Stmt
  N : List Str
  sh : ExI
  par : Str
  hot : Bool := true
def ExR.dd (r : ExR) : DD := ⟨"__init__", r.st, r.N, r.N.length, .nil, some r.name, .no⟩
def ExI.bk : ExI → Bk
  | .base b _ => b
  | .sub b _ _ => b
def ExI.leaf : ExI → Bool
  | .base _ none => false
  | _ => true
/-- it is raised by the text, and may be caught -/
def ExR.leaf (r : ExR) : Bool := r.hot && r.sh.leaf
/-- a value that a name of the module holds -/
inductive Gv where | int (i : Int) | str (s : Str)
def Gv.fa (x : Str) : Gv → He.Fa
  | .int i => .int x i
  | .str s => .str x s
/-- the law's teller of refusals -/
structure WhyT where
  rows : List FRow
  stW : Stmt
  stF : Stmt
  ev : Str
def WhyT.ddW (t : WhyT) : DD := ⟨"_law_why", t.stW, whyN, 1, .nil, none, .no⟩
def WhyT.ddF (t : WhyT) : DD := ⟨"_law_fields", t.stF, [t.ev], 1, .nil, none, .no⟩
/-- all of a law's text; of an instance's class: its number, name, __init__'s number and how many arguments; methods by class and name -/
structure Txt where
  defs : List (Nat × DD)
  gls : List (Nat × Str × Gv)
  bis : List Str
  exs : List (Nat × ExR) := []
  cls : List (Nat × Str × Nat × Nat) := []
  mts : List ((Nat × Str) × Nat) := []
  flds : List Str := []
  why : Option WhyT := none
  nms : List (Nat × Str) := []
/-- exception classes by numbers -/
def Txt.cn (T : Txt) : CN := (T.exs.map fun p => (p.1, p.2.name)) ++ T.nms
def Txt.rowN (T : Txt) : CN := match T.why with
  | some t => T.cn.filter fun p => t.rows.any fun r => decide (p.1 ∈ r.cs)
  | none => []
/-- is the class c the class c', or under it -/
def Txt.sub (T : Txt) (c c' : Nat) : Option Bool := (T.exs.lookup c).bind fun r => if r.leaf = true then (T.exs.lookup c').map fun r' => decide (c = c') || decide (r.par = r'.name) else none
/-- all defs that are looked at -/
def Txt.all (T : Txt) : List DD := T.defs.map (·.2) ++ (T.exs.map (·.2.dd) ++ match T.why with
  | some t => [t.ddW, t.ddF]
  | none => [])
open He in
/-- an exception class -/
def exB (K : PySem.W.Frag) (T : Txt) (r : ExR) : Bool :=
  PySem.W.excInitIn K (ga K r.name) r.sh.bk.mro r.sh.bk.nw && ((PySem.W.clsIn K (ga K r.name)).any (fun cd => ownRow r.sh.bk cd.mro && cd.hasDict) && (decide (PySem.W.findIn K (.ref (ga K r.name)) "__setattr__" = some (some (.builtin "object.__setattr__"))) &&
  (decide (PySem.W.subIn K (.ref (ga K r.name)) (.type "BaseException") = some true) && (decide (PySem.W.typeIn K (.ref (ga K r.name)) = some (.type "type")) && (PySem.W.keepIn K (.ref (ga K r.name)) &&
  (decide (PySem.W.findIn K (.ref (ga K r.name)) "__init__" = some (some (.ref (ma K (ga K r.name) "__init__")))) && (decide (PySem.W.typeIn K (.ref (ma K (ga K r.name) "__init__")) = some (.type "function")) && (decide (PySem.W.findIn K (.ref (ga K r.name)) "word" = some none) &&
  (match r.sh with
    | .base b _ => decide (PySem.W.nsIn K mainGlobals (Str.ofString b.nm) = some none) && (match PySem.W.findCls K (.type b.nm) (.type "type") "__init__" with
      | some (.val (.builtin z)) => decide (z = b.ini)
      | _ => false)
    | .sub b _ fs => (fs.all fun p => decide (PySem.W.findIn K (.ref (ga K r.name)) p.1 = some none)) && ((T.exs.any fun q => decide (q.2.name = r.par) && (match q.2.sh with
        | .base b' none => decide (b' = b)
        | _ => false)) &&
      (decide (PySem.W.specialIn K (.ref (ga K r.par)) "__getattribute__" = some (some (.builtin "type.__getattribute__"))) && (PySem.W.readsIn K (ga K r.par) (.type "type") && (match PySem.W.findCls K (.ref (ga K r.par)) (.type "type") "__init__" with
      | some (.val (.ref z)) => decide (z = ma K (ga K r.par) "__init__")
      | _ => false)))))))))))))
open He in
/-- .. that may be caught -/
def ctB (K : PySem.W.Frag) (T : Txt) (t : WhyT) (c : Nat) (r : ExR) : Bool :=
  xfB K (ga K r.name) && ((PySem.W.clsIn K (ga K r.name)).isSome && (decide (PySem.W.findIn K (.ref (ga K r.name)) "__class__" = some (some (.builtin "object.__class__"))) && (decide (PySem.W.mroIn K (ga K r.name) (.type "object") = some true) &&
  ((t.rows.all fun row => row.fs.all fun f => decide (PySem.W.findIn K (.ref (ga K r.name)) f = some none)) && ((T.rowN.all fun q => decide (PySem.W.kitOne K (.ref (ga K r.name)) (.ref (ga K q.2)) = some (decide (c = q.1)))) &&
  (match PySem.W.exmOne K (.ref (ga K r.name)) (.ref (ga K "FarError")) with
    | some true => true
    | some false => (match PySem.W.exmOne K (.ref (ga K r.name)) (.ref (ga K "Missing")) with
      | some true => true
      | some false => decide (PySem.W.exmOne K (.ref (ga K r.name)) (.ref (ga K "NothingLeft")) = some true) && t.rows.all fun row => decide (c ∉ row.cs)
      | none => false)
    | none => false))))))
open He in
def Txt.ex (T : Txt) (tf : List Defn) (K : PySem.W.Frag) : Bool :=
  (T.exs.all fun p => exB K T p.2) && ((T.exs.all fun p => T.exs.all fun q => !(p.2.leaf) || decide (PySem.W.exmOne K (.ref (ga K p.2.name)) (.ref (ga K q.2.name)) = T.sub p.1 q.1)) && ((match T.why with
    | some t => decide (PySem.W.specialIn K (.builtin "object.__class__") "__get__" = some (some (.builtin "getset_descriptor.__get__"))) && (decide (PySem.W.takesIn K (.builtin "object.__class__") = some true) && T.exs.all fun p => !(p.2.leaf) || ctB K T t p.1 p.2)
    | none => true) && decide ((tf.map fun p => (cT K p).2).Nodup)))
def Txt.fn (T : Txt) : List He.DefD := T.all.map DD.toD
def Txt.fa (T : Txt) : List He.Fa := T.defs.filterMap (fun p => match p.2.cn with
    | none => some (.glo p.2.name)
    | some _ => none) ++ (T.bis.map .free ++ (T.gls.map (fun p => p.2.2.fa p.2.1) ++ (T.exs.map (fun p => .glo p.2.name) ++ (T.cls.flatMap (fun p => [.glo p.2.1, .cls p.2.1, .mkr p.2.1] ++ T.flds.map (fun f => .noat p.2.1 f)) ++
    (T.mts.filterMap (fun p => (T.cls.lookup p.1.1).map fun q => .meth q.1 p.1.2) ++ match T.why with
      | some _ => [.glo "_law_why", .glo "_law_fields", .glo "FarError", .glo "Missing", .glo "NothingLeft", .free "isinstance"] ++ T.nms.map fun p => .glo p.2
      | none => [])))))
/-- the defs whose tables of code objects may grow -/
def Txt.tf (T : Txt) : List He.Defn := if T.why.isSome = true then T.defs.map fun p => p.2.at_ else []
def refsF (g : Addr → Option Obj) (fr : List Addr) : List Addr := (fr.flatMap fun a => match g a with
  | some o => He.refsD o
  | none => []).filter fun a => !(a == mainGlobals)
def bfsF (g : Addr → Option Obj) : Nat → List Addr → List Addr
  | 0, fr => fr
  | n + 1, fr => fr ++ bfsF g n (refsF g fr)
def reachF (n : Nat) (g : Addr → Option Obj) : List Addr := bfsF g n [mainGlobals] ++ [PySem.cStatics]
def obsF (n : Nat) (T : Txt) (g : Addr → Option Obj) : He.AlX :=
  let K := He.frT g (reachF n g)
  (He.obsT T.fa T.fn [] K, T.ex T.tf K && He.tabsB g T.tf K)
end Fm

namespace Fm
open PySem L2 PySem.Spec PyProof.Rows
def b__law_pull_15 : Sms := .cons (.ret (.bin .mod (.bin .add (.bin .fdiv (.bin .pow (.ix (.var 0) (.int 3)) (.int 3)) (.int 17)) (.ix (.var 0) (.int 3))) (.var 1))) .nil
def b__law_pull_14 : Sms := .cons (.ret (.bin .mod (.bin .add (.bin .fdiv (.ix (.var 0) (.int 3)) (.int 61)) (.bin .mul (.bin .mod (.ix (.var 0) (.int 3)) (.int 6151)) (.int 29))) (.var 1))) .nil
def b__law_pull_13 : Sms := .cons (.if_ (.cmp .lt (.var 1) (.bin .pow (.int 10) (.int 8))) (b__law_pull_14) (.nil)) b__law_pull_15
def b__law_pull_12 : Sms := .cons (.asg (.ix (.var 0) (.int 3)) (.bin .mod (.bin .add (.bin .add (.bin .mul (.bin .mod (.bin .mul (.var 4) (.var 4)) (.int 2147483647)) (.int 3)) (.bin .mul (.var 4) (.int 45991))) (.int 746773)) (.int 2147483629))) b__law_pull_13
def b__law_pull_11 : Sms := .cons (.asg (.name 4) (.ix (.var 0) (.int 3))) b__law_pull_12
def b__law_pull_10 : Sms := .cons (.ret (.var 3)) .nil
def b__law_pull_9 : Sms := .cons (.asg (.ix (.var 0) (.int 2)) (.bin .fdiv (.ix (.var 0) (.int 2)) (.var 1))) b__law_pull_10
def b__law_pull_8 : Sms := .cons (.asg (.name 3) (.bin .mod (.ix (.var 0) (.int 2)) (.var 1))) b__law_pull_9
def b__law_pull_7 : Sms := .cons (.if_ (.cmp .ge (.ix (.var 0) (.int 2)) (.var 1)) (b__law_pull_8) (.nil)) b__law_pull_11
def b__law_pull_6 : Sms := .cons (.asg (.ix (.var 0) (.int 3)) (.bin .mod (.bin .add (.bin .add (.bin .mul (.ix (.var 0) (.int 3)) (.int 39373)) (.bin .mul (.bin .mod (.var 2) (.int 2147483647)) (.int 48271))) (.int 31)) (.int 2147483629))) .nil
def b__law_pull_5 : Sms := .cons (.asg (.ix (.var 0) (.int 2)) (.var 2)) .nil
def b__law_pull_4 : Sms := .cons (.if_ (.cmp .ge (.var 2) (.bin .pow (.int 10) (.int 18))) (b__law_pull_5) (b__law_pull_6)) .nil
def b__law_pull_3 : Sms := .cons (.asg (.ix (.var 0) (.int 2)) (.int 0)) b__law_pull_4
def b__law_pull_2 : Sms := .cons (.asg (.ix (.var 0) (.int 1)) (.bin .add (.ix (.var 0) (.int 1)) (.int 1))) b__law_pull_3
def b__law_pull_1 : Sms := .cons (.asg (.name 2) (.ix (.ix (.var 0) (.int 0)) (.ix (.var 0) (.int 1)))) b__law_pull_2
def b__law_pull_0 : Sms := .cons (.if_ (.all (.cons (.cmp .lt (.ix (.var 0) (.int 2)) (.var 1)) (.cons (.cmp .lt (.ix (.var 0) (.int 1)) (.bi (.len) (.cons (.ix (.var 0) (.int 0)) (.nil)))) (.nil)))) (b__law_pull_1) (.nil)) b__law_pull_7
abbrev b__law_pull : Sms := b__law_pull_0
abbrev n__law_pull : List Str := ["_law_draw", "_law_cap", "_law_cell", "_law_got", "_law_seed"]
def b__law_open_3 : Sms := .cons (.ret (.lst true (.cons (.bi (.listOf false) (.cons (.sl (.var 0) (.none) (.some (.int 63))) (.nil))) (.cons (.int 0) (.cons (.int 0) (.cons (.var 1) (.nil))))))) .nil
def b__law_open_2 : Sms := .cons (.asg (.name 1) (.bin .mod (.bin .add (.bin .add (.bin .mul (.var 1) (.int 69621)) (.bin .mod (.var 2) (.int 2147483587))) (.int 11)) (.int 2147483629))) .nil
def b__law_open_1 : Sms := .cons (.for_ (.name 2) (.seq (.sl (.var 0) (.none) (.some (.int 63)))) (b__law_open_2)) b__law_open_3
def b__law_open_0 : Sms := .cons (.asg (.name 1) (.int 9134)) b__law_open_1
abbrev b__law_open : Sms := b__law_open_0
abbrev n__law_open : List Str := ["_law_script", "_law_seed", "_law_cell"]
def b__law_like_12 : Sms := .cons (.ret (.bi (.allL) (.cons (.lc false [("_law_j", 2)] (.name 2) (.rng1 (.bi (.len) (.cons (.var 1) (.nil)))) (.nil) (.call 53 (.cons (.ix (.var 0) (.var 2)) (.cons (.ix (.var 1) (.var 2)) (.nil))))) (.nil)))) .nil
def b__law_like_11 : Sms := .cons (.ret (.bl false)) .nil
def b__law_like_10 : Sms := .cons (.if_ (.cmp .ne (.bi (.len) (.cons (.var 0) (.nil))) (.bi (.len) (.cons (.var 1) (.nil)))) (b__law_like_11) (.nil)) b__law_like_12
def b__law_like_9 : Sms := .cons (.ret (.bl false)) .nil
def b__law_like_8 : Sms := .cons (.if_ (.any (.cons (.cmp .ne (.isi (.var 1) [.ty "tuple"] false) (.isi (.var 0) [.ty "tuple"] false)) (.cons (.cmp .ne (.isi (.var 1) [.ty "list"] false) (.isi (.var 0) [.ty "list"] false)) (.nil)))) (b__law_like_9) (.nil)) b__law_like_10
def b__law_like_7 : Sms := .cons (.ret (.bop true (.cons (.isi (.var 0) [.ty "str"] false) (.cons (.cmp .eq (.var 0) (.var 1)) (.nil))))) .nil
def b__law_like_6 : Sms := .cons (.if_ (.val (.isi (.var 1) [.ty "str"] false)) (b__law_like_7) (.nil)) b__law_like_8
def b__law_like_5 : Sms := .cons (.ret (.bop true (.cons (.isi (.var 0) [.ty "int"] false) (.cons (.not_ (.isi (.var 0) [.ty "bool"] false)) (.cons (.cmp .eq (.var 0) (.var 1)) (.nil)))))) .nil
def b__law_like_4 : Sms := .cons (.if_ (.val (.isi (.var 1) [.ty "int"] false)) (b__law_like_5) (.nil)) b__law_like_6
def b__law_like_3 : Sms := .cons (.ret (.bop true (.cons (.isi (.var 0) [.ty "bool"] false) (.cons (.cmp .eq (.var 0) (.var 1)) (.nil))))) .nil
def b__law_like_2 : Sms := .cons (.if_ (.val (.isi (.var 1) [.ty "bool"] false)) (b__law_like_3) (.nil)) b__law_like_4
def b__law_like_1 : Sms := .cons (.ret (.cmp .is_ (.var 0) (.non))) .nil
def b__law_like_0 : Sms := .cons (.if_ (.cmp .is_ (.var 1) (.non)) (b__law_like_1) (.nil)) b__law_like_2
abbrev b__law_like : Sms := b__law_like_0
abbrev n__law_like : List Str := ["_law_found", "_law_due", "_law_j"]
def b_led_5 : Sms := .cons (.ret (.bin .sub (.bin .add (.var 3) (.var 1)) (.var 2))) .nil
def b_led_4 : Sms := .cons (.ret (.bin .sub (.bin .sub (.bin .add (.var 3) (.var 4)) (.int 1)) (.bin .sub (.var 1) (.var 2)))) .nil
def b_led_3 : Sms := .cons (.if_ (.cmp .eq (.var 5) (.int 1)) (b_led_4) (.nil)) b_led_5
def b_led_2 : Sms := .cons (.ret (.non)) .nil
def b_led_1 : Sms := .cons (.if_ (.any (.cons (.val (.isi (.var 1) [.ty "bool"] false)) (.cons (.not_ (.cmp2 .le .lt (.var 2) (.var 1) (.bin .add (.var 2) (.var 4)))) (.nil)))) (b_led_2) (.nil)) b_led_3
def b_led_0 : Sms := .cons (.asg (.tup (.cons (.name 2) (.cons (.name 3) (.cons (.name 4) (.cons (.name 5) (.nil)))))) (.var 0)) b_led_1
abbrev b_led : Sms := b_led_0
abbrev n_led : List Str := ["mating", "place", "one", "other", "many", "turned"]
def b__law_mating_4 : Sms := .cons (.ret (.tup (.cons (.call 51 (.cons (.var 0) (.cons (.var 3) (.nil)))) (.cons (.call 51 (.cons (.var 0) (.cons (.var 3) (.nil)))) (.cons (.var 2) (.cons (.call 51 (.cons (.var 0) (.cons (.int 2) (.nil)))) (.nil))))))) .nil
def b__law_mating_3 : Sms := .cons (.asg (.name 3) (.bin .add (.bin .sub (.var 1) (.var 2)) (.int 1))) b__law_mating_4
def b__law_mating_2 : Sms := .cons (.asg (.name 2) (.bin .add (.int 1) (.call 51 (.cons (.var 0) (.cons (.bi (.min2) (.cons (.var 2) (.cons (.int 5) (.nil)))) (.nil)))))) .nil
def b__law_mating_1 : Sms := .cons (.if_ (.cmp .eq (.call 51 (.cons (.var 0) (.cons (.int 2) (.nil)))) (.int 0)) (b__law_mating_2) (.nil)) b__law_mating_3
def b__law_mating_0 : Sms := .cons (.asg (.name 2) (.bin .add (.int 1) (.call 51 (.cons (.var 0) (.cons (.var 1) (.nil)))))) b__law_mating_1
abbrev b__law_mating : Sms := b__law_mating_0
abbrev n__law_mating : List Str := ["_law_draw", "_law_length", "_law_many", "_law_room"]
def b__law_ends_4 : Sms := .cons (.ret (.frz (.var 5))) .nil
def b__law_ends_3 : Sms := .cons (.expr (.mt .append (.var 5) (.cons (.tup (.cons (.bin .add (.var 1) (.var 6)) (.cons (.ite (.cmp .eq (.var 4) (.int 1)) (.bin .sub (.bin .sub (.bin .add (.var 2) (.var 3)) (.int 1)) (.var 6)) (.bin .add (.var 2) (.var 6))) (.nil)))) (.nil)))) .nil
def b__law_ends_2 : Sms := .cons (.for_ (.name 6) (.rng1 (.var 3)) (b__law_ends_3)) b__law_ends_4
def b__law_ends_1 : Sms := .cons (.asg (.name 5) (.lst true (.nil))) b__law_ends_2
def b__law_ends_0 : Sms := .cons (.asg (.tup (.cons (.name 1) (.cons (.name 2) (.cons (.name 3) (.cons (.name 4) (.nil)))))) (.var 0)) b__law_ends_1
abbrev b__law_ends : Sms := b__law_ends_0
abbrev n__law_ends : List Str := ["_law_mating_here", "_law_one", "_law_other", "_law_many", "_law_flips", "_law_found", "_law_k"]
def b_part_4 : Sms := .cons (.ret (.tup (.cons (.var 1) (.cons (.bi (.min2) (.cons (.call 6 (.cons (.var 0) (.cons (.var 1) (.nil)))) (.cons (.call 6 (.cons (.var 0) (.cons (.bin .sub (.bin .add (.var 1) (.var 2)) (.int 1)) (.nil)))) (.nil)))) (.cons (.var 2) (.cons (.ix (.var 0) (.int 3)) (.nil))))))) .nil
def b_part_3 : Sms := .cons (.raise 7 (.cons (.var 1) (.cons (.var 2) (.nil)))) .nil
def b_part_2 : Sms := .cons (.if_ (.any (.cons (.cmp .is_ (.call 6 (.cons (.var 0) (.cons (.var 1) (.nil)))) (.non)) (.cons (.cmp .is_ (.call 6 (.cons (.var 0) (.cons (.bin .sub (.bin .add (.var 1) (.var 2)) (.int 1)) (.nil)))) (.non)) (.nil)))) (b_part_3) (.nil)) b_part_4
def b_part_1 : Sms := .cons (.raise 7 (.cons (.var 1) (.cons (.var 2) (.nil)))) .nil
def b_part_0 : Sms := .cons (.if_ (.any (.cons (.val (.isi (.var 1) [.ty "bool"] false)) (.cons (.val (.isi (.var 2) [.ty "bool"] false)) (.cons (.cmp .lt (.var 2) (.int 1)) (.nil))))) (b_part_1) (.nil)) b_part_2
abbrev b_part : Sms := b_part_0
abbrev n_part : List Str := ["mating", "at", "many"]
def b_moved_0 : Sms := .cons (.ret (.tup (.cons (.bin .add (.ix (.var 0) (.int 0)) (.var 1)) (.cons (.bin .add (.ix (.var 0) (.int 1)) (.var 1)) (.cons (.ix (.var 0) (.int 2)) (.cons (.ix (.var 0) (.int 3)) (.nil))))))) .nil
abbrev b_moved : Sms := b_moved_0
abbrev n_moved : List Str := ["mating", "by"]
def b_swelled_0 : Sms := .cons (.ret (.tup (.cons (.bin .mul (.ix (.var 0) (.int 0)) (.var 1)) (.cons (.bin .mul (.ix (.var 0) (.int 1)) (.var 1)) (.cons (.bin .mul (.ix (.var 0) (.int 2)) (.var 1)) (.cons (.ix (.var 0) (.int 3)) (.nil))))))) .nil
abbrev b_swelled : Sms := b_swelled_0
abbrev n_swelled : List Str := ["mating", "times"]
def b_clipped_7 : Sms := .cons (.ret (.call 7 (.cons (.var 0) (.cons (.bin .add (.var 2) (.var 6)) (.cons (.bin .sub (.var 7) (.var 6)) (.nil)))))) .nil
def b_clipped_6 : Sms := .cons (.ret (.non)) .nil
def b_clipped_5 : Sms := .cons (.if_ (.cmp .ge (.var 6) (.var 7)) (b_clipped_6) (.nil)) b_clipped_7
def b_clipped_4 : Sms := .cons (.asg (.name 7) (.bi (.min2) (.cons (.var 7) (.cons (.bin .sub (.var 1) (.var 3)) (.nil))))) .nil
def b_clipped_3 : Sms := .cons (.asg (.name 6) (.bi (.max2) (.cons (.int 0) (.cons (.bin .sub (.bin .add (.var 3) (.var 4)) (.var 1)) (.nil))))) .nil
def b_clipped_2 : Sms := .cons (.if_ (.cmp .eq (.var 5) (.int 1)) (b_clipped_3) (b_clipped_4)) b_clipped_5
def b_clipped_1 : Sms := .cons (.par 6 7 (.int 0) (.bi (.min2) (.cons (.var 4) (.cons (.bin .sub (.var 1) (.var 2)) (.nil))))) b_clipped_2
def b_clipped_0 : Sms := .cons (.asg (.tup (.cons (.name 2) (.cons (.name 3) (.cons (.name 4) (.cons (.name 5) (.nil)))))) (.var 0)) b_clipped_1
abbrev b_clipped : Sms := b_clipped_0
abbrev n_clipped : List Str := ["mating", "length", "one", "other", "many", "turned", "low", "high"]
def b__law_scaled_0 : Sms := .cons (.ret (.lc false [("_law_one", 2), ("_law_other", 3), ("_law_many", 4), ("_law_flips", 5)] (.tup (.cons (.name 2) (.cons (.name 3) (.cons (.name 4) (.cons (.name 5) (.nil)))))) (.seq (.var 0)) (.nil) (.tup (.cons (.bin .mul (.var 2) (.var 1)) (.cons (.bin .mul (.var 3) (.var 1)) (.cons (.bin .mul (.var 4) (.var 1)) (.cons (.var 5) (.nil)))))))) .nil
abbrev b__law_scaled : Sms := b__law_scaled_0
abbrev n__law_scaled : List Str := ["_law_matings", "_law_times", "_law_one", "_law_other", "_law_many", "_law_flips"]
def b__law_cut_far_10 : Sms := .cons (.ret (.call 53 (.cons (.call 9 (.cons (.var 1) (.cons (.var 3) (.nil)))) (.cons (.tup (.cons (.var 4) (.cons (.var 5) (.cons (.var 6) (.cons (.var 7) (.nil)))))) (.nil))))) .nil
def b__law_cut_far_9 : Sms := .cons (.ret (.bl false)) .nil
def b__law_cut_far_8 : Sms := .cons (.if_ (.not_ (.val (.call 53 (.cons (.call 10 (.cons (.tup (.cons (.var 4) (.cons (.var 5) (.cons (.var 6) (.cons (.var 7) (.nil)))))) (.cons (.var 8) (.nil)))) (.cons (.ite (.cmp .lt (.var 9) (.var 10)) (.var 11) (.non)) (.nil)))))) (b__law_cut_far_9) (.nil)) b__law_cut_far_10
def b__law_cut_far_7 : Sms := .cons (.asg (.name 11) (.tup (.cons (.bin .add (.var 4) (.var 9)) (.cons (.ite (.cmp .eq (.var 7) (.int 1)) (.bin .sub (.bin .add (.var 5) (.var 6)) (.var 10)) (.bin .add (.var 5) (.var 9))) (.cons (.bin .sub (.var 10) (.var 9)) (.cons (.var 7) (.nil))))))) b__law_cut_far_8
def b__law_cut_far_6 : Sms := .cons (.asg (.name 10) (.bi (.min2) (.cons (.var 10) (.cons (.bin .sub (.var 8) (.var 5)) (.nil))))) .nil
def b__law_cut_far_5 : Sms := .cons (.asg (.name 9) (.bi (.max2) (.cons (.int 0) (.cons (.bin .sub (.bin .add (.var 5) (.var 6)) (.var 8)) (.nil))))) .nil
def b__law_cut_far_4 : Sms := .cons (.if_ (.cmp .eq (.var 7) (.int 1)) (b__law_cut_far_5) (b__law_cut_far_6)) b__law_cut_far_7
def b__law_cut_far_3 : Sms := .cons (.par 9 10 (.int 0) (.bi (.min2) (.cons (.var 6) (.cons (.bin .sub (.var 8) (.var 4)) (.nil))))) b__law_cut_far_4
def b__law_cut_far_2 : Sms := .cons (.asg (.name 8) (.ix (.lst false (.cons (.call 51 (.cons (.var 0) (.cons (.bin .add (.bin .mul (.var 2) (.var 3)) (.int 1)) (.nil)))) (.cons (.bin .add (.var 4) (.var 6)) (.cons (.bin .add (.var 5) (.var 6)) (.cons (.bin .sub (.bin .add (.var 5) (.var 6)) (.int 1)) (.nil)))))) (.call 51 (.cons (.var 0) (.cons (.int 4) (.nil)))))) b__law_cut_far_3
def b__law_cut_far_1 : Sms := .cons (.asg (.tup (.cons (.name 4) (.cons (.name 5) (.cons (.name 6) (.cons (.name 7) (.nil)))))) (.ix (.call 69 (.cons (.lst false (.cons (.var 1) (.nil))) (.cons (.var 3) (.nil)))) (.int 0))) b__law_cut_far_2
def b__law_cut_far_0 : Sms := .cons (.asg (.name 3) (.bin .add (.int 1) (.call 51 (.cons (.var 0) (.cons (.bin .pow (.int 10) (.int 15)) (.nil)))))) b__law_cut_far_1
abbrev b__law_cut_far : Sms := b__law_cut_far_0
abbrev n__law_cut_far : List Str := ["_law_draw", "_law_mating_here", "_law_length", "_law_times", "_law_one", "_law_other", "_law_many", "_law_flips", "_law_cut", "_law_low", "_law_high", "_law_due"]
end Fm
namespace K07
open Fm PySem L2 PySem.Spec PyProof.Rows
def top (i : Nat) : Stmt := PySem.Challenge.pw_farmates_k07_matings_moved_swelled_clipp.main.body.getD i (.Pass ⟨0, 0, 0, 0⟩)
def d_led : DD := ⟨"led", top 4, n_led, 2, b_led, none, .no⟩
def d_part : DD := ⟨"part", top 5, n_part, 3, b_part, none, .no⟩
def d_moved : DD := ⟨"moved", top 6, n_moved, 2, b_moved, none, .no⟩
def d_swelled : DD := ⟨"swelled", top 7, n_swelled, 2, b_swelled, none, .no⟩
def d_clipped : DD := ⟨"clipped", top 8, n_clipped, 2, b_clipped, none, .no⟩
def d__law_open : DD := ⟨"_law_open", top 10, n__law_open, 1, b__law_open, none, .no⟩
def d__law_pull : DD := ⟨"_law_pull", top 11, n__law_pull, 2, b__law_pull, none, .no⟩
def d__law_like : DD := ⟨"_law_like", top 12, n__law_like, 2, b__law_like, none, .no⟩
def d__law_mating : DD := ⟨"_law_mating", top 13, n__law_mating, 2, b__law_mating, none, .no⟩
def d__law_ends : DD := ⟨"_law_ends", top 14, n__law_ends, 1, b__law_ends, none, .no⟩
def d__law_scaled : DD := ⟨"_law_scaled", top 15, n__law_scaled, 2, b__law_scaled, none, .no⟩
def d__law_cut_far : DD := ⟨"_law_cut_far", top 16, n__law_cut_far, 3, b__law_cut_far, none, .no⟩
def b_law_24 : Sms := .cons (.ret (.bl true)) .nil
def b_law_23 : Sms := .cons (.ret (.bl false)) .nil
def b_law_22 : Sms := .cons (.if_ (.not_ (.val (.call 75 (.cons (.var 1) (.cons (.var 4) (.cons (.var 3) (.nil))))))) (b_law_23) (.nil)) .nil
def b_law_21 : Sms := .cons (.ret (.bl false)) .nil
def b_law_20 : Sms := .cons (.if_ (.any (.cons (.not_ (.val (.isi (.var 14) [.ty "tuple"] false))) (.cons (.not_ (.val (.call 53 (.cons (.call 66 (.cons (.var 14) (.nil))) (.cons (.var 13) (.nil)))))) (.cons (.cmp .ne (.ix (.var 14) (.int 3)) (.ix (.var 4) (.int 3))) (.nil))))) (b_law_21) (.nil)) .nil
def b_law_19 : Sms := .cons (.ret (.bl false)) .nil
def b_law_18 : Sms := .cons (.if_ (.cmp .isnot (.var 14) (.non)) (b_law_19) (.nil)) .nil
def b_law_17 : Sms := .cons (.if_ (.cmp .eq (.var 13) (.lst false (.nil))) (b_law_18) (b_law_20)) .nil
def b_law_16 : Sms := .cons (.asg (.name 14) (.call 10 (.cons (.var 4) (.cons (.var 12) (.nil))))) b_law_17
def b_law_15 : Sms := .cons (.asgC 13 (.lc false [("_law_pair", 15)] (.name 15) (.seq (.var 7)) (.cons (.cmp .lt (.bi (.maxL) (.cons (.var 15) (.nil))) (.var 12)) (.nil)) (.var 15))) b_law_16
def b_law_14 : Sms := .cons (.for_ (.name 12) (.rng1 (.bin .add (.var 3) (.int 1))) (b_law_15)) b_law_22
def b_law_13 : Sms := .cons (.ret (.bl false)) .nil
def b_law_12 : Sms := .cons (.if_ (.not_ (.val (.call 53 (.cons (.call 66 (.cons (.call 9 (.cons (.var 4) (.cons (.var 6) (.nil)))) (.nil))) (.cons (.var 8) (.nil)))))) (b_law_13) (.nil)) b_law_14
def b_law_11 : Sms := .cons (.expr (.mt .append (.var 8) (.cons (.tup (.cons (.bin .add (.bin .mul (.var 9) (.var 6)) (.var 11)) (.cons (.bin .add (.bin .mul (.var 10) (.var 6)) (.ite (.cmp .eq (.ix (.var 4) (.int 3)) (.int 1)) (.bin .sub (.bin .sub (.var 6) (.int 1)) (.var 11)) (.var 11))) (.nil)))) (.nil)))) .nil
def b_law_10 : Sms := .cons (.for_ (.name 11) (.rng1 (.var 6)) (b_law_11)) .nil
def b_law_9 : Sms := .cons (.for_ (.tup (.cons (.name 9) (.cons (.name 10) (.nil)))) (.seq (.var 7)) (b_law_10)) b_law_12
def b_law_8 : Sms := .cons (.asg (.name 8) (.lst true (.nil))) b_law_9
def b_law_7 : Sms := .cons (.ret (.bl false)) .nil
def b_law_6 : Sms := .cons (.if_ (.not_ (.val (.call 53 (.cons (.call 66 (.cons (.call 8 (.cons (.var 4) (.cons (.var 5) (.nil)))) (.nil))) (.cons (.lc false [("_law_one", 9), ("_law_other", 10)] (.tup (.cons (.name 9) (.cons (.name 10) (.nil)))) (.seq (.var 7)) (.nil) (.tup (.cons (.bin .add (.var 9) (.var 5)) (.cons (.bin .add (.var 10) (.var 5)) (.nil))))) (.nil)))))) (b_law_7) (.nil)) b_law_8
def b_law_5 : Sms := .cons (.asg (.name 7) (.call 66 (.cons (.var 4) (.nil)))) b_law_6
def b_law_4 : Sms := .cons (.asg (.tup (.cons (.name 5) (.cons (.name 6) (.nil)))) (.tup (.cons (.call 51 (.cons (.var 1) (.cons (.bin .pow (.int 10) (.int 17)) (.nil)))) (.cons (.bin .add (.int 1) (.call 51 (.cons (.var 1) (.cons (.int 4) (.nil))))) (.nil))))) b_law_5
def b_law_3 : Sms := .cons (.asg (.name 4) (.call 65 (.cons (.var 1) (.cons (.var 3) (.nil))))) b_law_4
def b_law_2 : Sms := .cons (.asg (.name 3) (.bin .add (.int 1) (.call 51 (.cons (.var 1) (.cons (.int 16) (.nil)))))) b_law_3
def b_law_1 : Sms := .cons (.for_ (.name 2) (.rng1 (.int 4)) (b_law_2)) b_law_24
def b_law_0 : Sms := .cons (.asg (.name 1) (.call 50 (.cons (.var 0) (.nil)))) b_law_1
abbrev b_law : Sms := b_law_0
abbrev n_law : List Str := ["_law_script", "_law_draw", "_law_turn", "_law_length", "_law_mating_here", "_law_by", "_law_times", "_law_ends_here", "_law_wide", "_law_one", "_law_other", "_law_k", "_law_short", "_law_due", "_law_told", "_law_pair"]
def d_law : DD := ⟨"law", top 17, n_law, 1, b_law, none, .no⟩
def txt : Txt where
  defs := [(6, d_led), (7, d_part), (8, d_moved), (9, d_swelled), (10, d_clipped), (50, d__law_open), (51, d__law_pull), (53, d__law_like), (65, d__law_mating), (66, d__law_ends), (69, d__law_scaled), (75, d__law_cut_far), (76, d_law)]
  gls := []
  bis := ["range", "max", "isinstance", "tuple", "min", "bool", "len", "int", "str", "list", "all"]
  exs := [(0, ⟨"FarError", methOf (top 1) "__init__", ["self", "word"], .base .ve none, "", false⟩),
    (7, ⟨"BadStretch", methOf (top 2) "__init__", ["self", "at", "many"], .sub .ve "BadStretch" [("at", 1), ("many", 2)], "FarError", true⟩)]
  cls := []
  mts := []
  flds := []
  why := none
end K07
namespace K07
open Fm PySem L2 PySem.Spec PyProof.Rows
abbrev R : PySem.W.OpenRow := PySem.W.OpenLaw.row PySem.Challenge.rw_farmates_k07_matings_moved_swelled_clipp
/-- what the run is looked at by; the hook proper has the same -/
def hk0 : PySem.W.Hook where
  α := He.AlX
  obs := fun s => obsF 4 txt s.heap.get?
  val := fun w => He.valX txt.fn [] w
  says := fun _ _ => True
  of := fun _ _ _ => trivial
  keeps := fun _ _ _ _ _ => trivial
def ob (s : PySem.W.SharedT) : He.AlX := obsF 4 txt (HandSHeadRun.getT s)
def loose : List PySem.Str := (["FarError", "BadStretch", "led", "part", "moved", "swelled", "clipped", "_law_open", "_law_pull", "_law_like", "_law_mating", "_law_ends", "_law_scaled", "_law_cut_far"] : List PySem.Str)
open PySem.W HandSHeadRun
/-- the head's end; what is looked at there. The run's equation is proved by parts: each wants much memory -/
noncomputable def rs (w : World) (os : OsState) : Option SharedT := endF (stepQ (denQ tabQ) R.prog w) 20000 R.prog w os
def gK (s : SharedT) : Frag := He.frT (getT s) (reachF 4 (getT s))
theorem runA (w : World) (os : OsState) : (rs w os).map (fun s => (looksF R.prog (boot_heap w.params) s.abs, seenQ (view R.prog [17]) loose (importedModules R.prog.main.body) (fun s => xlAt (view R.prog [17]) [] s && recOk R.toRowW.records s) s.abs, txt.fa.all (fun f => f.ok (gK s)), txt.fn.map fun d => He.fnW (gK s) d.at_)) = some (true, openGood (view R.prog [17]) loose, true, txt.fn.map He.DefD.val) := by kernel_rfl
theorem runF (w : World) (os : OsState) : (rs w os).map (fun s => txt.fn.all fun d => d.ok (gK s)) = some true := by kernel_rfl
theorem runE (w : World) (os : OsState) : (rs w os).map (fun s => txt.ex txt.tf (gK s)) = some true := by kernel_rfl
theorem runT (w : World) (os : OsState) : (rs w os).map (fun s => He.tabsB (getT s) txt.tf (gK s)) = some true := by kernel_rfl
theorem got {α β : Type} {x : Option α} {f : α → β} {b : β} (h : x.map f = some b) : ∃ s, x = some s ∧ f s = b := by
  cases x with
  | none => cases h
  | some s => exact ⟨s, rfl, Option.some.inj h⟩
theorem at_ {α β : Type} {x : Option α} {f : α → β} {b : β} {s : α} (h : x.map f = some b) (e : x = some s) : f s = b := by
  subst e
  exact Option.some.inj h
theorem join4 {α A B D E : Type} {x : Option α} {fa : α → A} {fb : α → B} {f1 f2 f3 f4 : α → Bool} {fw : α → D} {a : A} {b : B} {v : D} {z : E}
    (h1 : x.map (fun s => (fa s, fb s, f1 s, fw s)) = some (a, b, true, v)) (h2 : x.map f2 = some true) (h3 : x.map f3 = some true) (h4 : x.map f4 = some true) :
    x.map (fun s => (fa s, fb s, (((f1 s && f2 s, fw s), z), f3 s && f4 s))) = some (a, b, (((true, v), z), true)) := by
  obtain ⟨s, rfl, e⟩ := got h1
  obtain ⟨e1, e⟩ := Prod.mk.inj e
  obtain ⟨e2, e⟩ := Prod.mk.inj e
  obtain ⟨e3, e4⟩ := Prod.mk.inj e
  have g2 := at_ h2 rfl
  have g3 := at_ h3 rfl
  have g4 := at_ h4 rfl
  show some (fa s, fb s, (((f1 s && f2 s, fw s), z), f3 s && f4 s)) = _
  rw [e1, e2, e3, e4, g2, g3, g4]
  rfl
theorem run0 (w : World) : HandSHeadRun.RunEq R (PySem.W.view R.prog [17]) hk0 ob 20000 loose w := fun os => join4 (runA w os) (runF w os) (runE w os) (runT w os)
end K07
/-! The engine, part A: data without the heap, what stands for it, steps. -/
namespace Fm
open PySem L2


/-- what stands at an address that may change -/
inductive Mo where
  | lst (ds : List Dt) | dK (kvs : List (Key × Dt)) | dT (kvs : List (List Key × Dt)) | ins (c : Nat) (fs : List (Str × Dt))
  | dF (kvs : List (Key × Dt)) (u : HO)
abbrev Mm := Addr → Option Mo
def mset (M : Mm) (a : Addr) (o : Option Mo) : Mm := fun b => if b = a then o else M b
theorem mset_same {M : Mm} {a : Addr} {o : Option Mo} : mset M a o a = o := if_pos rfl
theorem mset_ne {M : Mm} {a b : Addr} {o : Option Mo} (h : b ≠ a) : mset M a o b = M b := if_neg h
theorem mset_mset {M : Mm} {a : Addr} {o u : Option Mo} : mset (mset M a o) a u = mset M a u := by
  funext b; unfold mset; split <;> rfl
theorem mset_self {M : Mm} {a : Addr} {u : Option Mo} (h : M a = u) : mset M a u = M := by
  funext b; unfold mset; split
  · rename_i e; rw [e, h]
  · rfl
/-- a list of the written part -/
def LstK (K : PySem.W.Frag) (a : Addr) (xs : List V) : Prop :=
  ∃ (o : Obj) (its : Array Value) (n : Nat), K.lookup a = some o ∧ o.cls = .type "list" ∧ o.dict = none ∧ o.data = .seq its n ∧ its.size ≤ sizeLine ∧ Vals xs its.toList

mutual
/-- a value of the layer that stands for data -/
inductive RelD (K : PySem.W.Frag) (S : Addr → Prop) (M : Mm) (H : Hp) : Dt → V → Prop where
  | non : RelD K S M H .non .non
  | bl (b : Bool) : RelD K S M H (.bl b) (.bl b)
  | int (i : Int) : RelD K S M H (.int i) (.int i)
  | str (s : Str) : RelD K S M H (.str s) (.str s)
  | tup {a : Addr} {xs : List V} {ds : List Dt} (h : SqT K H a xs) (r : RelDs K S M H ds xs) : RelD K S M H (.tup ds) (.ref a)
  | lst {a : Addr} {xs : List V} {ds : List Dt} (n : M a = none) (ns : ¬ S a) (h : Rd H a (.lst xs)) (r : RelDs K S M H ds xs) : RelD K S M H (.lst ds) (.ref a)
  | lstK {a : Addr} {xs : List V} {ds : List Dt} (h : LstK K a xs) (r : RelDs K S M H ds xs) : RelD K S M H (.lst ds) (.ref a)
  | ref (a : Addr) : RelD K S M H (.ref a) (.ref a)
inductive RelDs (K : PySem.W.Frag) (S : Addr → Prop) (M : Mm) (H : Hp) : List Dt → List V → Prop where
  | nil : RelDs K S M H [] []
  | cons {d : Dt} {v : V} {ds : List Dt} {vs : List V} (r : RelD K S M H d v) (t : RelDs K S M H ds vs) : RelDs K S M H (d :: ds) (v :: vs)
end
section
variable {K : PySem.W.Frag} {S : Addr → Prop} {M M' : Mm} {H H' : Hp}
theorem RelDs.length : ∀ {ds : List Dt} {vs : List V}, RelDs K S M H ds vs → ds.length = vs.length
  | _, _, .nil => rfl
  | _, _, .cons _ t => by rw [List.length_cons, List.length_cons, RelDs.length t]
theorem RelDs.get : ∀ {ds : List Dt} {vs : List V} {i : Nat} {d : Dt}, RelDs K S M H ds vs → ds[i]? = some d → ∃ v, vs[i]? = some v ∧ RelD K S M H d v
  | _, _, _, _, .nil, e => by simp at e
  | _, _, 0, _, .cons r _, e => by simp at e; subst e; exact ⟨_, rfl, r⟩
  | _, _, i + 1, d, .cons _ t, e => by
    obtain ⟨v, h1, h2⟩ := RelDs.get (i := i) (d := d) t (by simpa using e)
    exact ⟨v, by simpa using h1, h2⟩
theorem RelDs.append : ∀ {ds es : List Dt} {vs us : List V}, RelDs K S M H ds vs → RelDs K S M H es us → RelDs K S M H (ds ++ es) (vs ++ us)
  | _, _, _, _, .nil, s => s
  | _, _, _, _, .cons r t, s => .cons r (RelDs.append t s)
theorem RelDs.set {d : Dt} {v : V} (r : RelD K S M H d v) : ∀ {ds : List Dt} {vs : List V} (i : Nat), RelDs K S M H ds vs → RelDs K S M H (ds.set i d) (vs.set i v)
  | _, _, _, .nil => .nil
  | _, _, 0, .cons _ t => .cons r t
  | _, _, i + 1, .cons q t => .cons q (RelDs.set r i t)
theorem RelDs.take : ∀ {ds : List Dt} {vs : List V} (n : Nat), RelDs K S M H ds vs → RelDs K S M H (ds.take n) (vs.take n)
  | _, _, 0, _ => .nil
  | _, _, _ + 1, .nil => .nil
  | _, _, n + 1, .cons r t => .cons r (RelDs.take n t)
theorem RelDs.drop : ∀ {ds : List Dt} {vs : List V} (n : Nat), RelDs K S M H ds vs → RelDs K S M H (ds.drop n) (vs.drop n)
  | _, _, 0, r => r
  | _, _, _ + 1, .nil => .nil
  | _, _, n + 1, .cons _ t => RelDs.drop n t
theorem RelDs.eraseIdx : ∀ {ds : List Dt} {vs : List V} (n : Nat), RelDs K S M H ds vs → RelDs K S M H (ds.eraseIdx n) (vs.eraseIdx n)
  | _, _, _, .nil => .nil
  | _, _, 0, .cons _ t => t
  | _, _, n + 1, .cons r t => .cons r (RelDs.eraseIdx n t)
theorem RelDs.reverse : ∀ {ds : List Dt} {vs : List V}, RelDs K S M H ds vs → RelDs K S M H ds.reverse vs.reverse
  | _, _, .nil => .nil
  | _, _, .cons r t => by
    rw [List.reverse_cons, List.reverse_cons]
    exact RelDs.append (RelDs.reverse t) (.cons r .nil)
theorem RelDs.dropLast : ∀ {ds : List Dt} {vs : List V}, RelDs K S M H ds vs → RelDs K S M H ds.dropLast vs.dropLast := fun {ds vs} r => by
  rw [List.dropLast_eq_take, List.dropLast_eq_take, r.length]
  exact r.take _
/-- the classes by numbers, the tables of code objects -/
structure Cl where
  of : Nat → Addr
  T : List (Addr × Str)
  ok : Nat → Prop
instance : CoeFun Cl fun _ => Nat → Addr := ⟨Cl.of⟩
/-- how it is carried: the tuples stay, the lists that stay stay -/
structure Keeps (K : PySem.W.Frag) (M : Mm) (H : Hp) (M' : Mm) (H' : Hp) : Prop where
  tup : ∀ a xs, SqT K H a xs → SqT K H' a xs
  stay : ∀ a u, M a = none → H a = some u → (∀ ps, u ≠ .tbl ps) → M' a = none ∧ H' a = some u
theorem Keeps.lst (k : Keeps K M H M' H') (a : Addr) (xs : List V) (m : M a = none) (h : Rd H a (.lst xs)) : M' a = none ∧ Rd H' a (.lst xs) := by
  rcases h with h | ⟨b, h⟩
  · have z := k.stay a _ m h (fun ps e => by cases e)
    exact ⟨z.1, .inl z.2⟩
  · have z := k.stay a _ m h (fun ps e => by cases e)
    exact ⟨z.1, .inr ⟨b, z.2⟩⟩
mutual
theorem RelD.keep (k : Keeps K M H M' H') : ∀ {d : Dt} {v : V}, RelD K S M H d v → RelD K S M' H' d v
  | _, _, .non => .non
  | _, _, .bl b => .bl b
  | _, _, .int b => .int b
  | _, _, .str b => .str b
  | _, _, .tup h r => .tup (k.tup _ _ h) (RelDs.keep k r)
  | _, _, .lst n ns h r => .lst (k.lst _ _ n h).1 ns (k.lst _ _ n h).2 (RelDs.keep k r)
  | _, _, .lstK h r => .lstK h (RelDs.keep k r)
  | _, _, .ref a => .ref a
theorem RelDs.keep (k : Keeps K M H M' H') : ∀ {ds : List Dt} {vs : List V}, RelDs K S M H ds vs → RelDs K S M' H' ds vs
  | _, _, .nil => .nil
  | _, _, .cons r t => .cons (RelD.keep k r) (RelDs.keep k t)
end
theorem Keeps.refl : Keeps K M H M H := ⟨fun _ _ h => h, fun _ _ n h _ => ⟨n, h⟩⟩
theorem Keeps.trans {M1 : Mm} {H1 : Hp} (a : Keeps K M H M1 H1) (b : Keeps K M1 H1 M' H') : Keeps K M H M' H' :=
  ⟨fun x xs h => b.tup x xs (a.tup x xs h), fun x xs n h t => b.stay x xs (a.stay x xs n h t).1 (a.stay x xs n h t).2 t⟩
end

/-- the written tuples and lists -/
theorem Rd.some {H : Hp} {a : Addr} {u : HO} (h : Rd H a u) : ∃ o, H a = some o := by
  rcases h with h | ⟨o, h⟩ <;> exact ⟨_, h⟩
theorem sqT_upd {K : PySem.W.Frag} {H : Hp} {p : Addr} {o : HO} (h : ∀ u, H p = some u → (∀ xs, u ≠ .tup xs) ∧ ∀ b xs, u ≠ .frz b (.tup xs)) : ∀ a xs, SqT K H a xs → SqT K (upd H p o) a xs := fun a xs q => by
  rcases q with (q | ⟨b, q⟩) | q
  · exact .inl (.inl (by rw [upd_ne (fun e => by subst e; exact (h _ q).1 _ rfl)]; exact q))
  · exact .inl (.inr ⟨b, by rw [upd_ne (fun e => by subst e; exact (h _ q).2 _ _ rfl)]; exact q⟩)
  · exact .inr q

/-- what stands in the memory stands in the heap -/
def MoAt (K : PySem.W.Frag) (S : Addr → Prop) (cls : Cl) (M : Mm) (H : Hp) (a : Addr) : Mo → Prop
  | .lst ds => ∃ xs, H a = some (.lst xs) ∧ RelDs K S M H ds xs
  | .dK kvs => ∃ ks, H a = some (.dK ks) ∧ Paired (fun (p : Key × Dt) (q : Key × V) => p.1 = q.1 ∧ RelD K S M H p.2 q.2) kvs ks
  | .dT kvs => ∃ ks, H a = some (.dT ks) ∧ Paired (fun (p : List Key × Dt) (q : List Key × V) => p.1 = q.1 ∧ RelD K S M H p.2 q.2) kvs ks
  | .ins c fs => cls.ok c ∧ ∃ dx gs, H a = some (.ins (cls c) dx gs) ∧ Paired (fun (p : Str × Dt) (q : Str × V) => p.1 = q.1 ∧ RelD K S M H p.2 q.2) fs gs
  | .dF kvs u => H a = some u ∧ ∃ od ks, u = .frz od (.dK ks) ∧ Paired (fun (p : Key × Dt) (q : Key × V) => p.1 = q.1 ∧ RelD K S M H p.2 q.2) kvs ks
/-- memory and heap; at S stand lists that nobody may speak of yet -/
structure Hold (K : PySem.W.Frag) (S : Addr → Prop) (cls : Cl) (M : Mm) (H : Hp) : Prop where
  at_ : ∀ a o, M a = some o → MoAt K S cls M H a o
  hid : ∀ a, S a → M a = none ∧ ∃ xs, H a = some (.lst xs)
  tab : LamX.Tabs cls.T H
instance {K : PySem.W.Frag} {S : Addr → Prop} {cls : Cl} {M : Mm} {H : Hp} : CoeFun (Hold K S cls M H) fun _ => ∀ a o, M a = some o → MoAt K S cls M H a o := ⟨Hold.at_⟩
section
variable {K : PySem.W.Frag} {S : Addr → Prop} {cls : Cl} {M M' : Mm} {H H' : Hp} {a p : Addr} {o : Mo}
theorem MoAt.some (h : MoAt K S cls M H a o) : ∃ u, H a = some u ∧ (∀ xs, u ≠ .tup xs) ∧ (∀ b xs, u ≠ .frz b (.tup xs)) ∧ (∀ x, u ≠ .own x) ∧ (∀ ps, u ≠ .tbl ps) ∧ ∀ f, u ≠ .ext f := by
  cases o with
  | lst ds => obtain ⟨xs, e, _⟩ := h; exact ⟨_, e, ⟨(fun _ z => by cases z), (fun _ _ z => by cases z), (fun _ z => by cases z), (fun _ z => by cases z), (fun _ z => by cases z)⟩⟩
  | dK ds => obtain ⟨xs, e, _⟩ := h; exact ⟨_, e, ⟨(fun _ z => by cases z), (fun _ _ z => by cases z), (fun _ z => by cases z), (fun _ z => by cases z), (fun _ z => by cases z)⟩⟩
  | dT ds => obtain ⟨xs, e, _⟩ := h; exact ⟨_, e, ⟨(fun _ z => by cases z), (fun _ _ z => by cases z), (fun _ z => by cases z), (fun _ z => by cases z), (fun _ z => by cases z)⟩⟩
  | ins c fs => obtain ⟨_, dx, xs, e, _⟩ := h; exact ⟨_, e, ⟨(fun _ z => by cases z), (fun _ _ z => by cases z), (fun _ z => by cases z), (fun _ z => by cases z), (fun _ z => by cases z)⟩⟩
  | dF ds u => obtain ⟨e, od, xs, rfl, _⟩ := h; exact ⟨_, e, ⟨(fun _ z => by cases z), (fun _ _ z => by cases z), (fun _ z => by cases z), (fun _ z => by cases z), (fun _ z => by cases z)⟩⟩
theorem Hold.none (h : Hold K S cls M H) (n : H p = Option.none) : M p = Option.none := by
  cases e : M p with
  | none => rfl
  | some o =>
    obtain ⟨u, q, _⟩ := (h p o e).some
    rw [n] at q; cases q
theorem MoAt.keep (h : MoAt K S cls M H a o) (k : Keeps K M H M' H') (e : H' a = H a) : MoAt K S cls M' H' a o := by
  cases o with
  | lst ds => obtain ⟨xs, q, r⟩ := h; exact ⟨xs, e.trans q, r.keep k⟩
  | dK ds => obtain ⟨xs, q, r⟩ := h; exact ⟨xs, e.trans q, Paired.mapP r fun _ _ z => ⟨z.1, z.2.keep k⟩⟩
  | dT ds => obtain ⟨xs, q, r⟩ := h; exact ⟨xs, e.trans q, Paired.mapP r fun _ _ z => ⟨z.1, z.2.keep k⟩⟩
  | ins c fs => obtain ⟨ok, dx, xs, q, r⟩ := h; exact ⟨ok, dx, xs, e.trans q, Paired.mapP r fun _ _ z => ⟨z.1, z.2.keep k⟩⟩
  | dF ds u => obtain ⟨q, od, xs, z, r⟩ := h; exact ⟨e.trans q, od, xs, z, Paired.mapP r fun _ _ z => ⟨z.1, z.2.keep k⟩⟩

theorem tabs_new {T : List (Addr × Str)} {u : HO} (t : LamX.Tabs T H) (n : H p = Option.none) : LamX.Tabs T (upd H p u) := t.ext fun b o e => by rw [upd_ne (ne_of_none e n)]; exact e
theorem tabs_upd {T : List (Addr × Str)} {u v : HO} (t : LamX.Tabs T H) (e : H p = Option.some v) (h1 : ∀ ps, v ≠ .tbl ps) (h2 : ∀ f, v ≠ .ext f) : LamX.Tabs T (upd H p u) := fun q hq => by
  obtain ⟨ps, g1, g2, g3⟩ := t q hq
  refine ⟨ps, ?_, g2, fun pos cv hc => ?_⟩
  · rw [upd_ne (fun z => by rw [z, e] at g1; exact h1 _ (Option.some.inj g1))]
    exact g1
  · obtain ⟨c, e1, e2⟩ := g3 pos cv hc
    exact ⟨c, e1, by rw [upd_ne (fun z => by rw [z, e] at e2; exact h2 _ (Option.some.inj e2))]; exact e2⟩
/-! ### the four moves -/
/-- a new object of the heap that the memory does not tell of -/
theorem Keeps.newH {u : HO} (n : H p = Option.none) : Keeps K M H M (upd H p u) :=
  ⟨sqT_upd (fun v q => by rw [n] at q; cases q), fun a v m h _ => ⟨m, by rw [upd_ne (ne_of_none h n)]; exact h⟩⟩
theorem Hold.noS (h : Hold K S cls M H) (n : H p = Option.none) : ¬ S p := fun s => by
  obtain ⟨_, xs, q⟩ := h.hid p s
  rw [n] at q; cases q
theorem Hold.newH {u : HO} (h : Hold K S cls M H) (n : H p = Option.none) : Hold K S cls M (upd H p u) := ⟨fun a o e => by
  obtain ⟨v, q, _⟩ := (h a o e).some
  exact (h a o e).keep (Keeps.newH n) (upd_ne (ne_of_none q n)), fun a s => by
  obtain ⟨m, xs, q⟩ := h.hid a s
  exact ⟨m, xs, by rw [upd_ne (ne_of_none q n)]; exact q⟩, tabs_new h.tab n⟩
/-- a new object that may change -/
theorem Keeps.newM {u : HO} (n : H p = Option.none) : Keeps K M H (mset M p (some o)) (upd H p u) :=
  ⟨sqT_upd (fun v q => by rw [n] at q; cases q), fun a v m h _ => by
    have hne : a ≠ p := ne_of_none h n
    exact ⟨by rw [mset_ne hne]; exact m, by rw [upd_ne hne]; exact h⟩⟩
theorem Hold.newM {u : HO} (h : Hold K S cls M H) (n : H p = Option.none) (new : MoAt K S cls (mset M p (some o)) (upd H p u) p o) : Hold K S cls (mset M p (some o)) (upd H p u) := ⟨fun a o' e => by
  by_cases ha : a = p
  · subst ha; rw [mset_same] at e; cases e; exact new
  · rw [mset_ne ha] at e
    exact (h a o' e).keep (Keeps.newM n) (upd_ne ha), fun a s => by
  obtain ⟨m, xs, q⟩ := h.hid a s
  have hne := ne_of_none q n
  exact ⟨by rw [mset_ne hne]; exact m, xs, by rw [upd_ne hne]; exact q⟩, tabs_new h.tab n⟩
/-- an object changes -/
theorem Keeps.write {u : HO} {o' : Mo} (h : Hold K S cls M H) (e : M p = some o) : Keeps K M H (mset M p (some o')) (upd H p u) := by
  obtain ⟨v, q, nt, nf, _⟩ := (h p o e).some
  refine ⟨sqT_upd (fun w z => by rw [q] at z; cases z; exact ⟨nt, nf⟩), fun a xs m r _ => ?_⟩
  have hne : a ≠ p := fun z => by rw [z, e] at m; cases m
  exact ⟨by rw [mset_ne hne]; exact m, by rw [upd_ne hne]; exact r⟩
theorem Hold.write {u : HO} {o' : Mo} (h : Hold K S cls M H) (e : M p = some o) (new : MoAt K S cls (mset M p (some o')) (upd H p u) p o') : Hold K S cls (mset M p (some o')) (upd H p u) := ⟨fun a v q => by
  by_cases ha : a = p
  · subst ha; rw [mset_same] at q; cases q; exact new
  · rw [mset_ne ha] at q
    exact (h a v q).keep (Keeps.write h e) (upd_ne ha), fun a s => by
  obtain ⟨m, xs, q⟩ := h.hid a s
  have hne : a ≠ p := fun z => by rw [z, e] at m; cases m
  exact ⟨by rw [mset_ne hne]; exact m, xs, by rw [upd_ne hne]; exact q⟩, by
  obtain ⟨v, q, _, _, _, h1, h2⟩ := (h p o e).some
  exact tabs_upd h.tab q h1 h2⟩
/-- a list stays from now on -/
theorem Keeps.freeze : Keeps K M H (mset M p none) H := ⟨fun _ _ h => h, fun a xs m h _ => ⟨by
  unfold mset
  split
  · rfl
  · exact m, h⟩⟩
theorem Hold.freeze (h : Hold K S cls M H) : Hold K S cls (mset M p Option.none) H := ⟨fun a v q => by
  by_cases ha : a = p
  · subst ha; rw [mset_same] at q; cases q
  · rw [mset_ne ha] at q
    exact (h a v q).keep Keeps.freeze rfl, fun a s => by
  obtain ⟨m, q⟩ := h.hid a s
  refine ⟨?_, q⟩
  unfold mset
  split
  · rfl
  · exact m, h.tab⟩
theorem relD_freeze {ds : List Dt} (h : Hold K S cls M H) (e : M p = some (.lst ds)) : RelD K S (mset M p Option.none) H (.lst ds) (.ref p) := by
  obtain ⟨xs, q, r⟩ := h p _ e
  exact .lst mset_same (fun s => by have := (h.hid p s).1; rw [e] at this; cases this) (.inl q) (r.keep Keeps.freeze)
end

/-! ### hidden lists -/
section
variable {K : PySem.W.Frag} {S : Addr → Prop} {cls : Cl} {M : Mm} {H : Hp} {D : Addr}
/-- a new list is hidden -/
def hidS (S : Addr → Prop) (D : Addr) : Addr → Prop := fun a => S a ∨ a = D
mutual
theorem RelD.more {S' : Addr → Prop} (hs : ∀ a, S' a → S a ∨ H a = none) : ∀ {d : Dt} {v : V}, RelD K S M H d v → RelD K S' M H d v
  | _, _, .non => .non
  | _, _, .bl b => .bl b
  | _, _, .int b => .int b
  | _, _, .str b => .str b
  | _, _, .tup h r => .tup h (RelDs.more hs r)
  | _, _, .lst m ns h r => .lst m (fun s => (hs _ s).elim ns fun n => by
      rcases h with h | ⟨b, h⟩ <;> (rw [n] at h; cases h)) h (RelDs.more hs r)
  | _, _, .lstK h r => .lstK h (RelDs.more hs r)
  | _, _, .ref a => .ref a
theorem RelDs.more {S' : Addr → Prop} (hs : ∀ a, S' a → S a ∨ H a = none) : ∀ {ds : List Dt} {vs : List V}, RelDs K S M H ds vs → RelDs K S' M H ds vs
  | _, _, .nil => .nil
  | _, _, .cons r t => .cons (RelD.more hs r) (RelDs.more hs t)
end
theorem hidS_new (n : H D = none) : ∀ a, hidS S D a → S a ∨ H a = none := fun a s => s.elim .inl fun e => .inr (by rw [e]; exact n)
theorem RelD.hide (n : H D = none) {d : Dt} {v : V} (r : RelD K S M H d v) : RelD K (hidS S D) M H d v := r.more (hidS_new n)
theorem RelDs.hide (n : H D = none) {d : List Dt} {v : List V} (r : RelDs K S M H d v) : RelDs K (hidS S D) M H d v := r.more (hidS_new n)
/- the hidden list is told of from now on -/
mutual
theorem RelD.thaw {o : Option Mo} : ∀ {d : Dt} {v : V}, RelD K (hidS S D) M H d v → RelD K S (mset M D o) H d v
  | _, _, .non => .non
  | _, _, .bl b => .bl b
  | _, _, .int b => .int b
  | _, _, .str b => .str b
  | _, _, .tup h r => .tup h (RelDs.thaw r)
  | _, _, .lst m ns h r => .lst (by rw [mset_ne fun e => ns (.inr e)]; exact m) (fun s => ns (.inl s)) h (RelDs.thaw r)
  | _, _, .lstK h r => .lstK h (RelDs.thaw r)
  | _, _, .ref a => .ref a
theorem RelDs.thaw {o : Option Mo} : ∀ {ds : List Dt} {vs : List V}, RelDs K (hidS S D) M H ds vs → RelDs K S (mset M D o) H ds vs
  | _, _, .nil => .nil
  | _, _, .cons r t => .cons (RelD.thaw r) (RelDs.thaw t)
end
mutual
theorem RelD.show : ∀ {d : Dt} {v : V}, RelD K (hidS S D) M H d v → RelD K S M H d v
  | _, _, .non => .non
  | _, _, .bl b => .bl b
  | _, _, .int b => .int b
  | _, _, .str b => .str b
  | _, _, .tup h r => .tup h (RelDs.show r)
  | _, _, .lst m ns h r => .lst m (fun s => ns (.inl s)) h (RelDs.show r)
  | _, _, .lstK h r => .lstK h (RelDs.show r)
  | _, _, .ref a => .ref a
theorem RelDs.show : ∀ {ds : List Dt} {vs : List V}, RelDs K (hidS S D) M H ds vs → RelDs K S M H ds vs
  | _, _, .nil => .nil
  | _, _, .cons r t => .cons (RelD.show r) (RelDs.show t)
end
/-- the hidden list grows -/
theorem sqT_hid {xs : List V} {u : HO} (e : H D = some (.lst xs)) : ∀ a zs, SqT K H a zs → SqT K (upd H D u) a zs := sqT_upd fun v q => by
  rw [e] at q; cases q
  exact ⟨(fun _ z => by cases z), (fun _ _ z => by cases z)⟩
mutual
theorem RelD.grow {xs : List V} {u : HO} (s : S D) (e : H D = some (.lst xs)) : ∀ {d : Dt} {v : V}, RelD K S M H d v → RelD K S M (upd H D u) d v
  | _, _, .non => .non
  | _, _, .bl b => .bl b
  | _, _, .int b => .int b
  | _, _, .str b => .str b
  | _, _, .tup h r => .tup (sqT_hid e _ _ h) (RelDs.grow s e r)
  | _, _, .lst (a := a) m ns h r => .lst m ns (by
      have hne : a ≠ D := fun z => ns (by rw [z]; exact s)
      rcases h with h | ⟨b, h⟩
      · exact .inl (by rw [upd_ne hne]; exact h)
      · exact .inr ⟨b, by rw [upd_ne hne]; exact h⟩) (RelDs.grow s e r)
  | _, _, .lstK h r => .lstK h (RelDs.grow s e r)
  | _, _, .ref a => .ref a
theorem RelDs.grow {xs : List V} {u : HO} (s : S D) (e : H D = some (.lst xs)) : ∀ {ds : List Dt} {vs : List V}, RelDs K S M H ds vs → RelDs K S M (upd H D u) ds vs
  | _, _, .nil => .nil
  | _, _, .cons r t => .cons (RelD.grow s e r) (RelDs.grow s e t)
end
theorem MoAt.hide {a : Addr} {o : Mo} (n : H D = Option.none) (h : MoAt K S cls M H a o) : MoAt K (hidS S D) cls M H a o := by
  cases o with
  | lst ds => obtain ⟨xs, q, r⟩ := h; exact ⟨xs, q, r.hide n⟩
  | dK ds => obtain ⟨xs, q, r⟩ := h; exact ⟨xs, q, Paired.mapP r fun _ _ z => ⟨z.1, z.2.hide n⟩⟩
  | dT ds => obtain ⟨xs, q, r⟩ := h; exact ⟨xs, q, Paired.mapP r fun _ _ z => ⟨z.1, z.2.hide n⟩⟩
  | ins c fs => obtain ⟨ok, dx, xs, q, r⟩ := h; exact ⟨ok, dx, xs, q, Paired.mapP r fun _ _ z => ⟨z.1, z.2.hide n⟩⟩
  | dF ds u => obtain ⟨q, od, xs, z, r⟩ := h; exact ⟨q, od, xs, z, Paired.mapP r fun _ _ z => ⟨z.1, z.2.hide n⟩⟩
theorem MoAt.show {a : Addr} {o : Mo} (h : MoAt K (hidS S D) cls M H a o) : MoAt K S cls M H a o := by
  cases o with
  | lst ds => obtain ⟨xs, q, r⟩ := h; exact ⟨xs, q, r.show⟩
  | dK ds => obtain ⟨xs, q, r⟩ := h; exact ⟨xs, q, Paired.mapP r fun _ _ z => ⟨z.1, z.2.show⟩⟩
  | dT ds => obtain ⟨xs, q, r⟩ := h; exact ⟨xs, q, Paired.mapP r fun _ _ z => ⟨z.1, z.2.show⟩⟩
  | ins c fs => obtain ⟨ok, dx, xs, q, r⟩ := h; exact ⟨ok, dx, xs, q, Paired.mapP r fun _ _ z => ⟨z.1, z.2.show⟩⟩
  | dF ds u => obtain ⟨q, od, xs, z, r⟩ := h; exact ⟨q, od, xs, z, Paired.mapP r fun _ _ z => ⟨z.1, z.2.show⟩⟩
theorem MoAt.grow {a : Addr} {o : Mo} {xs : List V} {u : HO} (s : S D) (e : H D = Option.some (HO.lst xs)) (hne : a ≠ D) (h : MoAt K S cls M H a o) : MoAt K S cls M (upd H D u) a o := by
  cases o with
  | lst ds => obtain ⟨xs, q, r⟩ := h; exact ⟨xs, (upd_ne hne).trans q, r.grow s e⟩
  | dK ds => obtain ⟨xs, q, r⟩ := h; exact ⟨xs, (upd_ne hne).trans q, Paired.mapP r fun _ _ z => ⟨z.1, z.2.grow s e⟩⟩
  | dT ds => obtain ⟨xs, q, r⟩ := h; exact ⟨xs, (upd_ne hne).trans q, Paired.mapP r fun _ _ z => ⟨z.1, z.2.grow s e⟩⟩
  | ins c fs => obtain ⟨ok, dx, xs, q, r⟩ := h; exact ⟨ok, dx, xs, (upd_ne hne).trans q, Paired.mapP r fun _ _ z => ⟨z.1, z.2.grow s e⟩⟩
  | dF ds u => obtain ⟨q, od, xs, z, r⟩ := h; exact ⟨(upd_ne hne).trans q, od, xs, z, Paired.mapP r fun _ _ z => ⟨z.1, z.2.grow s e⟩⟩
theorem MoAt.thaw {a : Addr} {o : Mo} {z : Option Mo} (h : MoAt K (hidS S D) cls M H a o) : MoAt K S cls (mset M D z) H a o := by
  cases o with
  | lst ds => obtain ⟨xs, q, r⟩ := h; exact ⟨xs, q, r.thaw⟩
  | dK ds => obtain ⟨xs, q, r⟩ := h; exact ⟨xs, q, Paired.mapP r fun _ _ z => ⟨z.1, z.2.thaw⟩⟩
  | dT ds => obtain ⟨xs, q, r⟩ := h; exact ⟨xs, q, Paired.mapP r fun _ _ z => ⟨z.1, z.2.thaw⟩⟩
  | ins c fs => obtain ⟨ok, dx, xs, q, r⟩ := h; exact ⟨ok, dx, xs, q, Paired.mapP r fun _ _ z => ⟨z.1, z.2.thaw⟩⟩
  | dF ds u => obtain ⟨q, od, xs, z, r⟩ := h; exact ⟨q, od, xs, z, Paired.mapP r fun _ _ z => ⟨z.1, z.2.thaw⟩⟩
/-- from ahead of the list's making to behind it -/
theorem Hold.hide (h : Hold K S cls M H) (n : H D = Option.none) (xs : List V) : Hold K (hidS S D) cls M (upd H D (.lst xs)) := ⟨fun a o e => by
  obtain ⟨v, q, _⟩ := (h a o e).some
  exact ((h a o e).hide n).keep (Keeps.newH n) (upd_ne (ne_of_none q n)), fun a s => by
  rcases s with s | rfl
  · obtain ⟨m, xs, q⟩ := h.hid a s
    exact ⟨m, xs, by rw [upd_ne (ne_of_none q n)]; exact q⟩
  · exact ⟨h.none n, xs, upd_same⟩, tabs_new h.tab n⟩
theorem Hold.grow {xs : List V} (h : Hold K S cls M H) (s : S D) (ys : List V) (e : H D = Option.some (HO.lst xs)) : Hold K S cls M (upd H D (.lst ys)) := ⟨fun a o q => (h a o q).grow s e (fun z => by
  rw [z, (h.hid D s).1] at q
  cases q), fun a sa => by
  obtain ⟨m, zs, q⟩ := h.hid a sa
  refine ⟨m, ?_⟩
  by_cases ha : a = D
  · exact ⟨ys, by rw [ha]; exact upd_same⟩
  · exact ⟨zs, by rw [upd_ne ha]; exact q⟩, tabs_upd h.tab e (fun _ z => by cases z) (fun _ z => by cases z)⟩
theorem Hold.show (h : Hold K (hidS S D) cls M H) : Hold K S cls M H := ⟨fun a o e => (h a o e).show, fun a s => h.hid a (.inl s), h.tab⟩
theorem Hold.thaw {ds : List Dt} {xs : List V} (h : Hold K (hidS S D) cls M H) (ns : ¬ S D) (e : H D = Option.some (HO.lst xs)) (r : RelDs K (hidS S D) M H ds xs) : Hold K S cls (mset M D (Option.some (Mo.lst ds))) H := ⟨fun a o q => by
  by_cases ha : a = D
  · subst ha
    rw [mset_same] at q
    cases q
    exact ⟨xs, e, r.thaw⟩
  · rw [mset_ne ha] at q
    exact (h a o q).thaw, fun a s => by
  obtain ⟨m, q⟩ := h.hid a (.inl s)
  exact ⟨by rw [mset_ne fun z => ns (by rw [← z]; exact s)]; exact m, q⟩, h.tab⟩
/-- what stood ahead of the list's making is kept while it grows, and where it is told of -/
theorem Keeps.grown {M0 : Mm} {H0 : Hp} {xs ys : List V} (k : Keeps K M0 H0 M H) (n : H0 D = Option.none) (e : H D = Option.some (HO.lst xs)) : Keeps K M0 H0 M (upd H D (.lst ys)) :=
  ⟨fun a zs q => sqT_hid e a zs (k.tup a zs q), fun a u m q t => ⟨(k.stay a u m q t).1, by rw [upd_ne (ne_of_none q n)]; exact (k.stay a u m q t).2⟩⟩
theorem Keeps.told {M0 : Mm} {H0 : Hp} {o : Option Mo} (k : Keeps K M0 H0 M H) (n : H0 D = Option.none) : Keeps K M0 H0 (mset M D o) H :=
  ⟨k.tup, fun a u m q t => ⟨by rw [mset_ne (ne_of_none q n)]; exact (k.stay a u m q t).1, (k.stay a u m q t).2⟩⟩
end

/-! ### carried along, whatever -/
section
variable {K : PySem.W.Frag} {S : Addr → Prop} {cls : Cl} {M M' : Mm} {H H' : Hp} {D : Addr}
mutual
theorem RelD.chg (t : ∀ a xs, SqT K H a xs → SqT K H' a xs) (l : ∀ a xs, M a = none → Rd H a (.lst xs) → M' a = none ∧ Rd H' a (.lst xs)) : ∀ {d : Dt} {v : V}, RelD K S M H d v → RelD K S M' H' d v
  | _, _, .non => .non
  | _, _, .bl b => .bl b
  | _, _, .int b => .int b
  | _, _, .str b => .str b
  | _, _, .tup h r => .tup (t _ _ h) (RelDs.chg t l r)
  | _, _, .lst n ns h r => .lst (l _ _ n h).1 ns (l _ _ n h).2 (RelDs.chg t l r)
  | _, _, .lstK h r => .lstK h (RelDs.chg t l r)
  | _, _, .ref a => .ref a
theorem RelDs.chg (t : ∀ a xs, SqT K H a xs → SqT K H' a xs) (l : ∀ a xs, M a = none → Rd H a (.lst xs) → M' a = none ∧ Rd H' a (.lst xs)) : ∀ {ds : List Dt} {vs : List V}, RelDs K S M H ds vs → RelDs K S M' H' ds vs
  | _, _, .nil => .nil
  | _, _, .cons r s => .cons (RelD.chg t l r) (RelDs.chg t l s)
end
theorem MoAt.chg {a : Addr} {o : Mo} (t : ∀ a xs, SqT K H a xs → SqT K H' a xs) (l : ∀ a xs, M a = Option.none → Rd H a (.lst xs) → M' a = Option.none ∧ Rd H' a (.lst xs)) (e : H' a = H a) (h : MoAt K S cls M H a o) : MoAt K S cls M' H' a o := by
  cases o with
  | lst ds => obtain ⟨xs, q, r⟩ := h; exact ⟨xs, e.trans q, r.chg t l⟩
  | dK ds => obtain ⟨xs, q, r⟩ := h; exact ⟨xs, e.trans q, Paired.mapP r fun _ _ z => ⟨z.1, z.2.chg t l⟩⟩
  | dT ds => obtain ⟨xs, q, r⟩ := h; exact ⟨xs, e.trans q, Paired.mapP r fun _ _ z => ⟨z.1, z.2.chg t l⟩⟩
  | ins c fs => obtain ⟨ok, dx, xs, q, r⟩ := h; exact ⟨ok, dx, xs, e.trans q, Paired.mapP r fun _ _ z => ⟨z.1, z.2.chg t l⟩⟩
  | dF ds u => obtain ⟨q, od, xs, z, r⟩ := h; exact ⟨e.trans q, od, xs, z, Paired.mapP r fun _ _ z => ⟨z.1, z.2.chg t l⟩⟩
theorem rd_ne {xs : List V} {ks : List (Key × V)} {a : Addr} (e : H D = some (.dK ks)) (h : Rd H a (.lst xs)) : a ≠ D := fun z => by
  subst z
  rcases h with h | ⟨b, h⟩ <;> (rw [e] at h; cases h)
theorem dict_t {ks : List (Key × V)} {u : HO} (e : H D = some (.dK ks)) : ∀ a xs, SqT K H a xs → SqT K (upd H D u) a xs := sqT_upd fun v q => by
  rw [e] at q; cases q
  exact ⟨(fun _ z => by cases z), (fun _ _ z => by cases z)⟩
theorem dict_l {ks : List (Key × V)} {u : HO} (e : H D = some (.dK ks)) : ∀ a xs, M a = none → Rd H a (.lst xs) → M a = none ∧ Rd (upd H D u) a (.lst xs) := fun a xs m h => by
  have hne := rd_ne e h
  refine ⟨m, ?_⟩
  rcases h with h | ⟨b, h⟩
  · exact .inl (by rw [upd_ne hne]; exact h)
  · exact .inr ⟨b, by rw [upd_ne hne]; exact h⟩
theorem dict_o {ks : List (Key × V)} {o : Option Mo} (e : H D = some (.dK ks)) : ∀ a xs, M a = none → Rd H a (.lst xs) → mset M D o a = none ∧ Rd H a (.lst xs) := fun a xs m h => ⟨by rw [mset_ne (rd_ne e h)]; exact m, h⟩
/-- a dict that the memory does not tell of changes -/
theorem Hold.growD {ks ls : List (Key × V)} (h : Hold K S cls M H) (m : M D = Option.none) (e : H D = Option.some (HO.dK ks)) : Hold K S cls M (upd H D (.dK ls)) := by
  refine ⟨fun a o q => ?_, fun a sa => ?_, tabs_upd h.tab e (fun _ z => by cases z) (fun _ z => by cases z)⟩
  · have hne : a ≠ D := fun z => by rw [z, m] at q; cases q
    exact (h a o q).chg (dict_t e) (dict_l e) (upd_ne hne)
  · obtain ⟨m, zs, q⟩ := h.hid a sa
    exact ⟨m, zs, by rw [upd_ne (fun z => by rw [z, e] at q; cases q)]; exact q⟩
theorem Hold.thawD {kvs : List (Key × Dt)} {ks : List (Key × V)} (h : Hold K S cls M H) (e : H D = Option.some (HO.dK ks)) (r : Paired (fun (p : Key × Dt) (q : Key × V) => p.1 = q.1 ∧ RelD K S M H p.2 q.2) kvs ks) : Hold K S cls (mset M D (Option.some (Mo.dK kvs))) H := by
  refine ⟨fun a o q => ?_, fun a sa => ?_, h.tab⟩
  · by_cases ha : a = D
    · subst ha
      rw [mset_same] at q
      cases q
      exact ⟨ks, e, Paired.mapP r fun _ _ z => ⟨z.1, z.2.chg (fun _ _ x => x) (dict_o e)⟩⟩
    · rw [mset_ne ha] at q
      exact (h a o q).chg (fun _ _ x => x) (dict_o e) rfl
  · obtain ⟨m, zs, q⟩ := h.hid a sa
    exact ⟨by rw [mset_ne (fun z => by rw [z, e] at q; cases q)]; exact m, zs, q⟩
theorem Keeps.grownD {M0 : Mm} {H0 : Hp} {ks : List (Key × V)} {u : HO} (k : Keeps K M0 H0 M H) (n : H0 D = Option.none) (e : H D = Option.some (HO.dK ks)) : Keeps K M0 H0 M (upd H D u) :=
  ⟨fun a zs q => dict_t e a zs (k.tup a zs q), fun a u m q t => ⟨(k.stay a u m q t).1, by rw [upd_ne (ne_of_none q n)]; exact (k.stay a u m q t).2⟩⟩
/-- a dict is read while it stays -/
theorem lock_in {kvs : List (Key × Dt)} {ks : List (Key × V)} {od : Obj} (h : Hold K S cls M H) (e : M D = some (.dK kvs)) (e1 : H D = some (.dK ks)) (r : Paired (fun (p : Key × Dt) (q : Key × V) => p.1 = q.1 ∧ RelD K S M H p.2 q.2) kvs ks) :
    Hold K S cls (mset M D (some (.dF kvs (.frz od (.dK ks))))) (upd H D (.frz od (.dK ks))) ∧ Keeps K M H (mset M D (some (.dF kvs (.frz od (.dK ks))))) (upd H D (.frz od (.dK ks))) := by
  have k : Keeps K M H (mset M D (some (.dF kvs (.frz od (.dK ks))))) (upd H D (.frz od (.dK ks))) := Keeps.write h e
  exact ⟨h.write e ⟨upd_same, od, ks, rfl, Paired.mapP r fun _ _ z => ⟨z.1, z.2.keep k⟩⟩, k⟩
theorem lock_out {kvs : List (Key × Dt)} {ks : List (Key × V)} {od : Obj} (h : Hold K S cls M H) (e : M D = some (.dF kvs (.frz od (.dK ks)))) :
    H D = some (.frz od (.dK ks)) ∧ Hold K S cls (mset M D (some (.dK kvs))) (upd H D (.dK ks)) ∧ Keeps K M H (mset M D (some (.dK kvs))) (upd H D (.dK ks)) := by
  obtain ⟨q, od', ks', z, r⟩ := h D _ e
  cases z
  have k : Keeps K M H (mset M D (some (.dK kvs))) (upd H D (.dK ks)) := Keeps.write h e
  exact ⟨q, h.write e ⟨ks, upd_same, Paired.mapP r fun _ _ z => ⟨z.1, z.2.keep k⟩⟩, k⟩
end

/-! ### reading -/
section
variable {K : PySem.W.Frag} {S : Addr → Prop} {cls : Cl} {M M' : Mm} {H H' : Hp} {a p : Addr} {ds : List Dt} {v : V}
theorem RelD.ofLst (r : RelD K S M H (.lst ds) v) : ∃ a xs, v = .ref a ∧ SqL K H a xs ∧ RelDs K S M H ds xs := by
  cases r with
  | lst n ns h r => exact ⟨_, _, rfl, .inl h, r⟩
  | lstK h r => exact ⟨_, _, rfl, .inr h, r⟩
theorem RelD.ofTup (r : RelD K S M H (.tup ds) v) : ∃ a xs, v = .ref a ∧ SqT K H a xs ∧ RelDs K S M H ds xs := by
  cases r with
  | tup h r => exact ⟨_, _, rfl, h, r⟩
/-- a list, a tuple that is read: its items -/
def seqL (M : Mm) : Dt → Option (List Dt)
  | .lst ds => some ds
  | .ref a => match M a with
    | some (.lst ds) => some ds
    | _ => none
  | _ => none
theorem seqL_rel {d : Dt} (h : Hold K S cls M H) (r : RelD K S M H d v) (e : seqL M d = some ds) : ∃ a xs, v = .ref a ∧ SqL K H a xs ∧ RelDs K S M H ds xs := by
  cases d with
  | lst es => cases e; exact r.ofLst
  | ref a =>
    cases r with
    | ref a =>
      simp only [seqL] at e
      split at e
      · rename_i es q
        cases e
        obtain ⟨xs, q1, q2⟩ := h _ _ q
        exact ⟨a, xs, rfl, .inl (.inl q1), q2⟩
      · cases e
  | non => cases e
  | bl _ => cases e
  | int _ => cases e
  | str _ => cases e
  | tup _ => cases e
end
end Fm

/-! The engine, part B: a small language, what its texts want (wp), and that wishes may be weakened. -/
namespace Fm
open PySem L2

abbrev Rho := List (Option Dt)
structure Xc where
  c : Nat
  fs : List (Str × Dt)
abbrev QD := Dt → Mm → Prop
abbrev QL := List Dt → Mm → Prop
abbrev QB := Bool → Mm → Prop
abbrev QX := Xc → Mm → Prop
abbrev QR := Rho → Mm → Prop
/-- what a def does -/
structure Wf where
  run : List Dt → Mm → QD → QX → Prop
  mono : ∀ {ds M} {q q' : QD} {x x' : QX}, (∀ d M, q d M → q' d M) → (∀ e M, x e M → x' e M) → run ds M q x → run ds M q' x'



def Tgs.len : Tgs → Nat
  | .nil => 0
  | .cons _ gs => gs.len + 1

/-! ### what operations do -/
def kD : Key → Dt
  | .inl i => .int i
  | .inr s => .str s
def keyOf : Dt → Option Key
  | .int i => some (.inl i)
  | .str s => some (.inr s)
  | _ => none
def valD {κ : Type} [DecidableEq κ] (kvs : List (κ × Dt)) (k : κ) : Option Dt := (kvs.find? fun kv => decide (kv.1 = k)).map (·.2)
def putD {κ : Type} [DecidableEq κ] (kvs : List (κ × Dt)) (k : κ) (v : Dt) : List (κ × Dt) :=
  if (kvs.any fun kv => decide (kv.1 = k)) = true then kvs.map fun kv => if kv.1 = k then (kv.1, v) else kv else kvs ++ [(k, v)]
def mergeD {κ : Type} [DecidableEq κ] (kvs more : List (κ × Dt)) : List (κ × Dt) := more.foldl (fun acc kv => putD acc kv.1 kv.2) kvs
mutual
/-- plain data -/
def pyD : Dt → Option PyData
  | .non => some .none
  | .bl b => some (.bool b)
  | .int i => some (.int i)
  | .str s => some (.str s)
  | .tup ds => (pyDs ds).map .tuple
  | .lst ds => (pyDs ds).map .list
  | .ref _ => none
def pyDs : List Dt → Option (List PyData)
  | [] => some []
  | d :: ds => (pyD d).bind fun p => (pyDs ds).map fun r => p :: r
end
/-- a list that changes is read as it stands -/
def pyM (M : Mm) : Dt → Option PyData
  | .ref a => match M a with
    | some (.lst ds) => (pyDs ds).map .list
    | _ => none
  | d => pyD d

/-- the items of a tuple, of a list -/
def itemsD (M : Mm) : Dt → Option (List Dt)
  | .tup ds => some ds
  | d => seqL M d
def enD (d : Dt) : PyData := (pyD d).getD .none
def newL (live : Bool) (ds : List Dt) (M : Mm) (q : QD) : Prop :=
  if live = true then ∀ p, M p = none → q (.ref p) (mset M p (some (.lst ds))) else q (.lst ds) M

def mulOk (i j : Int) : Prop := CMul i j ∨ CMulW i j
def binD (o : BO) (x y : Dt) (M : Mm) (q : QD) : Prop :=
  match o, x, y with
  | .add, .int i, .int j => q (.int (i + j)) M
  | .add, .str i, .str j => i.length + j.length ≤ sizeLine ∧ q (.str (i ++ j)) M
  | .sub, .int i, .int j => q (.int (i - j)) M
  | .sub, .int i, .bl j => q (.int (i - if j = true then 1 else 0)) M
  | .sub, .bl i, .int j => q (.int ((if i = true then 1 else 0) - j)) M
  | .add, .bl i, .int j => q (.int ((if i = true then 1 else 0) + j)) M
  | .mul, .int i, .int j => mulOk i j ∧ q (.int (i * j)) M
  | .fdiv, .int i, .int j => CDivW i j ∧ q (.int (i / j)) M
  | .mod, .int i, .int j => 0 < j ∧ q (.int (i % j)) M
  | .pow, .int i, .int j => CPow i j ∧ q (.int (i ^ j.toNat)) M
  | .xor, .int i, .int j => q (.int (Builtin.bitXor i j)) M
  | .cat, .lst xs, .lst ys => xs.length + ys.length ≤ sizeLine ∧ q (.lst (xs ++ ys)) M
  | .rep, .lst xs, .int k => -(2 ^ 63) ≤ k ∧ k < 2 ^ 63 ∧ xs.length * k.toNat ≤ sizeLine ∧ q (.lst (List.replicate k.toNat xs).flatten) M
  | .catM, x, y => ∃ xs ys, seqL M x = some xs ∧ seqL M y = some ys ∧ xs.length + ys.length ≤ sizeLine ∧ newL true (xs ++ ys) M q
  | .catS, x, y => ∃ xs ys, seqL M x = some xs ∧ seqL M y = some ys ∧ xs.length + ys.length ≤ sizeLine ∧ q (.lst (xs ++ ys)) M
  | _, _, _ => False
def flatD : Dt → Option V
  | .non => some .non
  | .bl b => some (.bl b)
  | .int i => some (.int i)
  | .str s => some (.str s)
  | _ => none
def flatDs : List Dt → Option (List V)
  | [] => some []
  | d :: ds => (flatD d).bind fun v => (flatDs ds).map fun r => v :: r
/-- is it among the items (flat ones) or among the keys -/
def inD (M : Mm) (x y : Dt) : Option Bool :=
  match y with
  | .tup ds => (flatD x).bind fun v => (flatDs ds).map fun vs => inV v vs
  | .lst ds => (flatD x).bind fun v => (flatDs ds).map fun vs => inV v vs
  | .ref a => match M a with
    | some (.lst ds) => (flatD x).bind fun v => (flatDs ds).map fun vs => inV v vs
    | some (.dK kvs) => (keyOf x).map fun k => (valD kvs k).isSome
    | _ => none
  | _ => none
def eqD (M : Mm) (x y : Dt) : Option Bool :=
  match x, y with
  | .int i, .int j => some (decide (i = j))
  | .str i, .str j => some (decide (i = j))
  | .bl i, .bl j => some (decide (i = j))
  | x, y => match pyM M x, pyM M y with
    | some d, some e => if SeqAt.shaped d = true ∧ SeqAt.shaped e = true then some (PyData.eqv d e) else none
    | _, _ => none
/-- are two data equal, no list that changes among them -/
def eqW (x y : Dt) : Option Bool := match pyD x, pyD y with
  | some d, some e => if SeqAt.shaped d = true ∧ SeqAt.shaped e = true then some (PyData.eqv d e) else none
  | _, _ => none
/-- are all of these pairs in the other dict, too -/
def eqKs (ls : List (Key × Dt)) : List (Key × Dt) → Option Bool
  | [] => some true
  | (k, v) :: r => match valD ls k with
    | none => some false
    | some u => match eqW v u, eqKs ls r with
      | some a, some b => some (a && b)
      | _, _ => none
/-- are two items of tuples equal: a dict and itself, two dicts, two data -/
def eqI (M : Mm) (x y : Dt) : Option Bool := match x, y with
  | .ref a, .ref b => if a = b then some true else match M a, M b with
    | some (.dK ks), some (.dK ls) => (eqKs ls ks).map fun r => ks.length == ls.length && r
    | _, _ => none
  | x, y => eqW x y
def eqIs (M : Mm) : List Dt → List Dt → Option Bool
  | [], [] => some true
  | x :: xs, y :: ys => match eqI M x y, eqIs M xs ys with
    | some a, some b => some (a && b)
    | _, _ => none
  | _, _ => none
/-- max(d, default=i) -/
def maxOD (u d : Dt) (M : Mm) (q : QD) : Prop := ∃ (p : Addr) (kvs : List (Key × Dt)) (ns : List Int) (i : Int), u = .ref p ∧ d = .int i ∧ M p = some (.dK kvs) ∧ kvs.map (·.1) = ns.map Sum.inl ∧
  ∀ m, ((ns = [] ∧ m = i) ∨ (m ∈ ns ∧ ∀ j ∈ ns, j ≤ m)) → q (.int m) M
/-- is it among the items, whatever deep -/
def inpD (M : Mm) (x : Dt) (ds : List Dt) : Option Bool :=
  match pyM M x, pyDs ds with
  | some d, some es => if d.plain = true ∧ PyData.plainAll es = true ∧ d.depth ≤ 60 then some (es.any fun y => PyData.eqv y d) else none
  | _, _ => none
def cmpD (o : CO) (x y : Dt) (M : Mm) : Option Bool :=
  match o, x, y with
  | .lt, .int i, .int j => some (decide (i < j))
  | .lt, .str i, .str j => some (decide (i.cps.toList < j.cps.toList))
  | .le, .int i, .int j => some (decide (i ≤ j))
  | .gt, .int i, .int j => some (decide (j < i))
  | .ge, .int i, .int j => some (decide (j ≤ i))
  | .eq, x, y => eqD M x y
  | .ne, x, y => (eqD M x y).map (!·)
  | .is_, .non, .non => some true
  | .is_, _, .non => some false
  | .isnot, .non, .non => some false
  | .isnot, _, .non => some true
  | .in_, x, y => inD M x y
  | .notin, x, y => (inD M x y).map (!·)
  | .inp, x, .tup ds => inpD M x ds
  | .notinp, x, .tup ds => (inpD M x ds).map (!·)
  | .neT, .tup xs, .tup ys => (eqIs M xs ys).map (!·)
  | _, _, _ => none
def truMo : Option Mo → Option Bool
  | some (.lst ds) => some (!ds.isEmpty)
  | some (.dK ds) => some (!ds.isEmpty)
  | _ => none
def truD (M : Mm) : Dt → Option Bool
  | .bl b => some b
  | .non => some false
  | .int i => some (i != 0)
  | .lst ds => some (!ds.isEmpty)
  | .tup ds => some (!ds.isEmpty)
  | .ref a => truMo (M a)
  | .str _ => none
def ixMo : Option Mo → Dt → Option Dt
  | some (.lst ds), .int i => atI ds i
  | some (.dK kvs), y => (keyOf y).bind fun k => valD kvs k
  | _, _ => none
def ixD (M : Mm) (x y : Dt) : Option Dt :=
  match x, y with
  | .tup ds, .int i => atI ds i
  | .lst ds, .int i => atI ds i
  | .ref a, y => ixMo (M a) y
  | _, _ => none
def cutD (xs : List Dt) (lo hi : Option Int) : List Dt := (xs.drop (HT.sIx xs.length 0 lo)).take (HT.sIx xs.length xs.length hi - HT.sIx xs.length 0 lo)
def biD (f : BI) (ds : List Dt) (M : Mm) (q : QD) : Prop :=
  match f, ds with
  | .len, [.str s] => s.length ≤ sizeLine ∧ q (.int s.length) M
  | .len, [.tup ds] => q (.int ds.length) M
  | .len, [.lst ds] => q (.int ds.length) M
  | .len, [.ref a] => (match M a with
    | some (.lst ds) => q (.int ds.length) M
    | some (.dK ds) => q (.int ds.length) M
    | _ => False)
  | .min2, [.int i, .int j] => q (.int (if j < i then j else i)) M
  | .max2, [.int i, .int j] => q (.int (if j > i then j else i)) M
  | .maxL, [d] => ∃ ns : List Int, itemsD M d = some (ns.map .int) ∧ 0 < ns.length ∧ ∀ m, m ∈ ns → (∀ y, y ∈ ns → y ≤ m) → q (.int m) M
  | .minL, [d] => ∃ ns : List Int, itemsD M d = some (ns.map .int) ∧ 0 < ns.length ∧ ∀ m, m ∈ ns → (∀ y, y ∈ ns → m ≤ y) → q (.int m) M
  | .sumL, [d] => ∃ ns : List Int, seqL M d = some (ns.map .int) ∧ q (.int ns.sum) M
  | .anyL, [d] => ∃ bs : List Bool, seqL M d = some (bs.map .bl) ∧ q (.bl (bs.any id)) M
  | .allL, [d] => ∃ bs : List Bool, seqL M d = some (bs.map .bl) ∧ q (.bl (bs.all id)) M
  | .listOf live, [.tup ds] => newL live ds M q
  | .listOf live, [d] => ∃ ds, seqL M d = some ds ∧ newL live ds M q
  | .tupOf, [.tup ds] => q (.tup ds) M
  | .tupOf, [d] => ∃ ds, seqL M d = some ds ∧ q (.tup ds) M
  | .dictOf, [d] => ∃ kvs : List (Key × Dt), seqL M d = some (kvs.map fun p => .tup [kD p.1, p.2]) ∧ ∀ p, M p = none → q (.ref p) (mset M p (some (.dK (mergeD [] kvs))))
  | .sorted live, [d] => ∃ ds : List Dt, seqL M d = some ds ∧ (∀ d, d ∈ ds → (pyD d).isSome = true ∧ (enD d).depth ≤ 60) ∧ PySem.W.AllAlike (ds.map enD) ∧ PySem.W.Sortable (ds.map enD) ∧ newL live (ds.mergeSort (PySem.W.dataLe false enD)) M q
  | .abs, [.int i] => q (.int (if i < 0 then -i else i)) M
  | .sortedK live, [.ref a] => ∃ (kvs : List (Key × Dt)) (ks : List Int), M a = some (.dK kvs) ∧ kvs.map (·.1) = ks.map Sum.inl ∧ ks.length ≤ 16000000 ∧ ∀ ys : List Int, ys.Perm ks → ys.Pairwise (· ≤ ·) → newL live (ys.map .int) M q
  | .dictD, [.ref a] => ∃ kvs : List (Key × Dt), M a = some (.dK kvs) ∧ ∀ p, M p = none → q (.ref p) (mset M p (some (.dK kvs)))
  | .sortedKS live, [.ref a] => ∃ (kvs : List (Key × Dt)) (ks : List Str), M a = some (.dK kvs) ∧ kvs.map (·.1) = ks.map Sum.inr ∧ ks.length ≤ 16000000 ∧ ∀ ys : List Str, ys.Perm ks → PyProof.Rows.sortedS ys = true → newL live (ys.map .str) M q
  | _, _ => False
def exceptD (kvs : List (Key × Dt)) (k : Key) : List (Key × Dt) := kvs.filter fun kv => decide (kv.1 ≠ k)
/-- has the value this method -/
def mtOkMo : MI → Option Mo → Bool
  | .append, some (.lst _) => true
  | .pop, some (.lst _) => true
  | .clear, some (.lst _) => true
  | .reverse, some (.lst _) => true
  | .get1, some (.dK _) => true
  | .get2, some (.dK _) => true
  | .popAt, some (.lst _) => true
  | .insert, some (.lst _) => true
  | .dpop, some (.dK _) => true
  | .count, some (.lst _) => true
  | .index, some (.lst _) => true
  | _, _ => false
def mtOk (m : MI) (M : Mm) : Dt → Bool
  | .ref a => mtOkMo m (M a)
  | .lst _ => decide (m = .count) || decide (m = .index)
  | _ => false
def mtD (m : MI) (x : Dt) (ds : List Dt) (M : Mm) (q : QD) : Prop :=
  match m, x, ds with
  | .append, .ref a, [d] => (match M a with
    | some (.lst xs) => xs.length < sizeLine ∧ q .non (mset M a (some (.lst (xs ++ [d]))))
    | _ => False)
  | .pop, .ref a, [] => (match M a with
    | some (.lst xs) => ∃ d, xs[xs.length - 1]? = some d ∧ q d (mset M a (some (.lst xs.dropLast)))
    | _ => False)
  | .clear, .ref a, [] => (match M a with
    | some (.lst xs) => q .non (mset M a (some (.lst [])))
    | _ => False)
  | .reverse, .ref a, [] => (match M a with
    | some (.lst xs) => q .non (mset M a (some (.lst xs.reverse)))
    | _ => False)
  | .get1, .ref a, [k] => (match M a, keyOf k with
    | some (.dK kvs), some k => q ((valD kvs k).getD .non) M
    | _, _ => False)
  | .get2, .ref a, [k, z] => (match M a, keyOf k with
    | some (.dK kvs), some k => q ((valD kvs k).getD z) M
    | _, _ => False)
  | .popAt, .ref a, [.int i] => (match M a with
    | some (.lst xs) => -(2 ^ 63) ≤ i ∧ i < 2 ^ 63 ∧ ∃ k d, ixN xs.length i = some k ∧ xs[k]? = some d ∧ q d (mset M a (some (.lst (xs.eraseIdx k))))
    | _ => False)
  | .insert, .ref a, [.int i, d] => (match M a with
    | some (.lst xs) => 0 ≤ i ∧ i < 2 ^ 63 ∧ xs.length < sizeLine ∧ q .non (mset M a (some (.lst (xs.take i.toNat ++ [d] ++ xs.drop i.toNat))))
    | _ => False)
  | .dpop, .ref a, [k] => (match M a, keyOf k with
    | some (.dK kvs), some k => ∃ d, valD kvs k = some d ∧ q d (mset M a (some (.dK (exceptD kvs k))))
    | _, _ => False)
  | .count, x, [.int k] => ∃ ns : List Int, seqL M x = some (ns.map .int) ∧ q (.int (ns.count k : Nat)) M
  | .index, x, [d] => ∃ (ks : List Key) (k : Key) (j : Nat), seqL M x = some (ks.map kD) ∧ d = kD k ∧ ks[j]? = some k ∧ (∀ m, m < j → ks[m]? ≠ some k) ∧ q (.int (j : Nat)) M
  | _, _, _ => False
def tyMo : Option Mo → Option String
  | some (.lst _) => some "list"
  | some (.dK _) => some "dict"
  | some (.dT _) => some "dict"
  | _ => none
def tyD (M : Mm) : Dt → Option String
  | .non => some "NoneType"
  | .bl _ => some "bool"
  | .int _ => some "int"
  | .str _ => some "str"
  | .tup _ => some "tuple"
  | .lst _ => some "list"
  | .ref a => tyMo (M a)
/-- isinstance of data, of built-in types -/
def isiD (M : Mm) (d : Dt) : List TyR → Option Bool
  | [] => some false
  | .ty n :: r => match tyD M d with
    | some t => match kitB t n with
      | some true => some true
      | some false => isiD M d r
      | none => none
    | none => none
  | .cls _ :: _ => none

/-! ### runs over items -/
def lcRun (step : Dt → Mm → (Option Dt → Mm → Prop) → Prop) : List Dt → List Dt → Mm → QL → Prop
  | [], acc, M, q => q acc M
  | d :: r, acc, M, q => step d M fun o M' => match o with
    | some y => acc.length < sizeLine ∧ lcRun step r (acc ++ [y]) M' q
    | none => lcRun step r acc M' q
def dcRun (step : Dt → Mm → (Option (Dt × Dt) → Mm → Prop) → Prop) : List Dt → List (Key × Dt) → Mm → (List (Key × Dt) → Mm → Prop) → Prop
  | [], acc, M, q => q acc M
  | d :: r, acc, M, q => step d M fun o M' => match o with
    | some y => ∃ k, keyOf y.1 = some k ∧ acc.length < sizeLine ∧ dcRun step r (putD acc k y.2) M' q
    | none => dcRun step r acc M' q
def kvD (kvs : List (Key × Dt)) : List Dt := kvs.map fun p => .tup [kD p.1, p.2]
def forRun (keep : Mm → Prop) (step : Dt → Rho → Mm → QR → Prop) : List Dt → Rho → Mm → QR → Prop
  | [], ρ, M, q => keep M ∧ q ρ M
  | d :: r, ρ, M, q => keep M ∧ step d ρ M fun ρ' M' => forRun keep step r ρ' M' q
def whRun (step : QR → Rho → Mm → Prop) : Nat → Rho → Mm → Prop
  | 0, _, _ => False
  | n + 1, ρ, M => step (whRun step n) ρ M
def wipeR (ρ : Rho) : List Nat → Rho
  | [] => ρ
  | v :: vs => (wipeR ρ vs).set v none

/-! ### what texts want -/
structure Gt where
  call : Nat → Wf
  gval : Nat → Dt
  exc : Nat → List Dt → Option (List (Str × Dt))
  told : Nat → List (Str × Dt) → Option Dt
  sub : Nat → Nat → Option Bool
  init : Nat → Wf
  meth : Nat → Str → Option Wf
/-- a field of an instance is set -/
def putFd (f : Str) (v : Dt) : List (Str × Dt) → List (Str × Dt)
  | [] => [(f, v)]
  | (g, x) :: r => if g = f then (g, v) :: r else (g, x) :: putFd f v r
/-- a list's items -/
def lsD (M : Mm) : Dt → Option (List Dt)
  | .lst ds => some ds
  | .ref p => (match M p with
    | some (.lst ds) => some ds
    | _ => none)
  | _ => none
def zipD (ds es : List Dt) : List Dt := List.zipWith (fun u v => .tup [u, v]) ds es
def enmD (ds : List Dt) : List Dt := List.zipWith (fun i v => .tup [.int (i : Nat), v]) (List.range ds.length) ds
mutual
def wpE (G : Gt) : E → Rho → Mm → QD → QX → Prop
  | .var i, ρ, M, q, _ => ∃ d, ρ[i]? = some (some d) ∧ q d M
  | .int z, _, M, q, _ => q (.int z) M
  | .str s, _, M, q, _ => q (.str s) M
  | .bl b, _, M, q, _ => q (.bl b) M
  | .non, _, M, q, _ => q .non M
  | .dnew, _, M, q, _ => ∀ p, M p = none → q (.ref p) (mset M p (some (.dK [])))
  | .glob g, _, M, q, _ => q (G.gval g) M
  | .bin o a b, ρ, M, q, x => wpE G a ρ M (fun u M1 => wpE G b ρ M1 (fun v M2 => binD o u v M2 q) x) x
  | .neg a, ρ, M, q, x => wpE G a ρ M (fun u M1 => ∃ i, u = .int i ∧ q (.int (-i)) M1) x
  | .cmp o a b, ρ, M, q, x => wpE G a ρ M (fun u M1 => wpE G b ρ M1 (fun v M2 => ∃ k, cmpD o u v M2 = some k ∧ q (.bl k) M2) x) x
  | .cmp2 o p a b c, ρ, M, q, x => wpE G a ρ M (fun u M1 => wpE G b ρ M1 (fun v M2 => ∃ k, cmpD o u v M2 = some k ∧
      if k = true then wpE G c ρ M2 (fun w M3 => ∃ k, cmpD p v w M3 = some k ∧ q (.bl k) M3) x else q (.bl false) M2) x) x
  | .bop k as, ρ, M, q, x => wpB G k as ρ M q x
  | .not_ a, ρ, M, q, x => wpE G a ρ M (fun u M1 => ∃ k, u = .bl k ∧ q (.bl (!k)) M1) x
  | .ite c a b, ρ, M, q, x => wpT G c ρ M (fun k M1 => if k = true then wpE G a ρ M1 q x else wpE G b ρ M1 q x) x
  | .tup as, ρ, M, q, x => wpEs G as ρ M (fun ds M1 => ds.length ≤ sizeLine ∧ q (.tup ds) M1) x
  | .lst live as, ρ, M, q, x => wpEs G as ρ M (fun ds M1 => ds.length ≤ sizeLine ∧ newL live ds M1 q) x
  | .ix a b, ρ, M, q, x => wpE G a ρ M (fun u M1 => wpE G b ρ M1 (fun v M2 => ∃ d, ixD M2 u v = some d ∧ q d M2) x) x
  | .sl a lo hi, ρ, M, q, x => wpE G a ρ M (fun u M1 => wpO G lo ρ M1 (fun l M2 => wpO G hi ρ M2 (fun h M3 => ∃ ds, seqL M3 u = some ds ∧ q (.lst (cutD ds l h)) M3) x) x) x
  | .call g as, ρ, M, q, x => wpEs G as ρ M (fun ds M1 => (G.call g).run ds M1 q x) x
  | .bi f as, ρ, M, q, x => wpEs G as ρ M (fun ds M1 => biD f ds M1 q) x
  | .mt m a as, ρ, M, q, x => wpE G a ρ M (fun u M1 => mtOk m M1 u = true ∧ wpEs G as ρ M1 (fun ds M2 => mtD m u ds M2 q) x) x
  | .fld a f, ρ, M, q, x => wpE G a ρ M (fun u M1 => ∃ p c fs d, u = .ref p ∧ M1 p = some (.ins c fs) ∧ fs.lookup f = some d ∧ q d M1) x
  | .isi a ts _, ρ, M, q, x => wpE G a ρ M (fun u M1 => ∃ k, isiD M1 u ts = some k ∧ q (.bl k) M1) x
  | .lc live own t it cs e, ρ, M, q, x => wpI G it ρ M (fun ds keep M1 => lcRun (fun d M2 k => keep M2 ∧ wpG G t d (wipeR ρ (own.map (·.2))) M2 (fun ρ3 M3 =>
      wpAll G cs ρ3 M3 (fun b M4 => if b = true then wpE G e ρ3 M4 (fun y M5 => k (some y) M5) (fun _ _ => False) else k none M4) (fun _ _ => False)) (fun _ _ => False)) ds [] M1
      (fun acc M2 => keep M2 ∧ newL live acc M2 q)) x
  | .lock e, ρ, M, q, x => ∃ p kvs, M p = some (.dK kvs) ∧ ∀ u, wpE G e ρ (mset M p (some (.dF kvs u))) (fun d M' => M' p = some (.dF kvs u) ∧ q d (mset M' p (some (.dK kvs)))) x
  | .slT a lo hi, ρ, M, q, x => wpE G a ρ M (fun u M1 => wpO G lo ρ M1 (fun l M2 => wpO G hi ρ M2 (fun h M3 => ∃ ds, u = .tup ds ∧ ¬ (HT.sIx ds.length 0 l = 0 ∧ HT.sIx ds.length ds.length h = ds.length) ∧ q (.tup (cutD ds l h)) M3) x) x) x
  | .sit live a, ρ, M, q, x => wpE G a ρ M (fun u M1 => ∃ p kvs, u = .ref p ∧ M1 p = some (.dK kvs) ∧ kvs.length ≤ 1000 ∧ (∀ d, d ∈ kvD kvs → (pyD d).isSome = true ∧ (enD d).depth ≤ 60) ∧ PySem.W.AllAlike ((kvD kvs).map enD) ∧ PySem.W.Sortable ((kvD kvs).map enD) ∧ newL live ((kvD kvs).mergeSort (PySem.W.dataLe false enD)) M1 q) x
  | .srtSet live a, ρ, M, q, x => wpE G a ρ M (fun u M1 => ∃ ns : List Int, seqL M1 u = some (ns.map .int) ∧ ns.length < 64 ∧ ∀ zs : List Int, zs.Pairwise (· < ·) → (∀ k : Int, k ∈ zs ↔ k ∈ ns) → newL live (zs.map .int) M1 q) x
  | .lenSet a, ρ, M, q, x => wpE G a ρ M (fun u M1 => ∃ ns : List Int, seqL M1 u = some (ns.map .int) ∧ ns.length < 64 ∧ ∀ zs : List Int, zs.Nodup → (∀ k : Int, k ∈ zs ↔ k ∈ ns) → q (.int zs.length) M1) x
  | .dc own t it cs ke ve, ρ, M, q, x => wpI G it ρ M (fun ds keep M1 => dcRun (fun d M2 k => keep M2 ∧ wpG G t d (wipeR ρ (own.map (·.2))) M2 (fun ρ3 M3 =>
      wpAll G cs ρ3 M3 (fun b M4 => if b = true then wpE G ke ρ3 M4 (fun y M5 => wpE G ve ρ3 M5 (fun z M6 => k (some (y, z)) M6) (fun _ _ => False)) (fun _ _ => False) else k none M4) (fun _ _ => False)) (fun _ _ => False)) ds [] M1
      (fun acc M2 => keep M2 ∧ ∀ p, M2 p = none → q (.ref p) (mset M2 p (some (.dK acc))))) x
  | .frz a, ρ, M, q, x => wpE G a ρ M (fun u M1 => match u with
    | .ref p => (match M1 p with
      | some (.lst ds) => q (.lst ds) (mset M1 p none)
      | _ => q u M1)
    | u => q u M1) x
  | .why a, ρ, M, q, _ => wpE G a ρ M (fun _ M1 => q (.tup [.str "", .non]) M1) fun z M1 => ∃ w d, z.fs.lookup ("word" : Str) = some w ∧ G.told z.c z.fs = some d ∧ q (.tup [w, d]) M1
  | .mk c as, ρ, M, q, x => wpEs G as ρ M (fun ds M1 => ∀ p, M1 p = none → (G.init c).run (.ref p :: ds) (mset M1 p (some (.ins c []))) (fun v M2 => v = .non ∧ q (.ref p) M2) x) x
  | .mkO _ c as e, ρ, M, q, x => wpEs G as ρ M (fun ds M1 => wpE G e ρ M1 (fun d M2 => ∀ p, M2 p = none → (G.init c).run (.ref p :: (ds ++ [d])) (mset M2 p (some (.ins c []))) (fun v M3 => v = .non ∧ q (.ref p) M3) x) x) x
  | .rev a, ρ, M, q, x => wpE G a ρ M (fun u M1 => ∃ ds, seqL M1 u = some ds ∧ q (.lst ds.reverse) M1) x
  | .lrng live a, ρ, M, q, x => wpE G a ρ M (fun u M1 => ∃ n, u = .int n ∧ -(2 ^ 62) ≤ n ∧ n ≤ 2 ^ 24 ∧ newL live ((List.range n.toNat).map fun (k : Nat) => .int (k : Int)) M1 q) x
  | .maxO a e, ρ, M, q, x => wpE G a ρ M (fun u M1 => wpE G e ρ M1 (fun d M2 => maxOD u d M2 q) x) x
  | .methO _ m a as e, ρ, M, q, x => wpE G a ρ M (fun u M1 => ∃ p c fs F, u = .ref p ∧ M1 p = some (.ins c fs) ∧ fs.lookup m = none ∧ G.meth c m = some F ∧ wpEs G as ρ M1 (fun ds M2 => wpE G e ρ M2 (fun d M3 => F.run (.ref p :: (ds ++ [d])) M3 q x) x) x) x
  | .meth m a as, ρ, M, q, x => wpE G a ρ M (fun u M1 => ∃ p c fs F, u = .ref p ∧ M1 p = some (.ins c fs) ∧ fs.lookup m = none ∧ G.meth c m = some F ∧ wpEs G as ρ M1 (fun ds M2 => F.run (.ref p :: ds) M2 q x) x) x
def wpEs (G : Gt) : Es → Rho → Mm → QL → QX → Prop
  | .nil, _, M, q, _ => q [] M
  | .cons e es, ρ, M, q, x => wpE G e ρ M (fun d M1 => wpEs G es ρ M1 (fun ds M2 => q (d :: ds) M2) x) x
def wpO (G : Gt) : EO → Rho → Mm → (Option Int → Mm → Prop) → QX → Prop
  | .none, _, M, q, _ => q none M
  | .some e, ρ, M, q, x => wpE G e ρ M (fun d M1 => ∃ i, d = .int i ∧ q (some i) M1) x
/-- and, or as values -/
def wpB (G : Gt) (k : Bool) : Es → Rho → Mm → QD → QX → Prop
  | .nil, _, _, _, _ => False
  | .cons e es, ρ, M, q, x => wpE G e ρ M (fun d M1 => match es with
    | .nil => q d M1
    | es => ∃ b, d = .bl b ∧ if b = k then wpB G k es ρ M1 q x else q (.bl b) M1) x
def wpT (G : Gt) : T → Rho → Mm → QB → QX → Prop
  | .val a, ρ, M, q, x => wpE G a ρ M (fun d M1 => ∃ b, truD M1 d = some b ∧ q b M1) x
  | .cmp o a b, ρ, M, q, x => wpE G a ρ M (fun u M1 => wpE G b ρ M1 (fun v M2 => ∃ k, cmpD o u v M2 = some k ∧ q k M2) x) x
  | .cmp2 o p a b c, ρ, M, q, x => wpE G a ρ M (fun u M1 => wpE G b ρ M1 (fun v M2 => ∃ k, cmpD o u v M2 = some k ∧
      if k = true then wpE G c ρ M2 (fun w M3 => ∃ k, cmpD p v w M3 = some k ∧ q k M3) x else q false M2) x) x
  | .not_ t, ρ, M, q, x => wpT G t ρ M (fun b M1 => q (!b) M1) x
  | .all ts, ρ, M, q, x => wpAll G ts ρ M q x
  | .any ts, ρ, M, q, x => wpAny' G ts ρ M q x
def wpAll (G : Gt) : Ts → Rho → Mm → QB → QX → Prop
  | .nil, _, M, q, _ => q true M
  | .cons t ts, ρ, M, q, x => wpT G t ρ M (fun b M1 => if b = true then wpAll G ts ρ M1 q x else q false M1) x
def wpAny' (G : Gt) : Ts → Rho → Mm → QB → QX → Prop
  | .nil, _, M, q, _ => q false M
  | .cons t ts, ρ, M, q, x => wpT G t ρ M (fun b M1 => if b = true then q true M1 else wpAny' G ts ρ M1 q x) x
def wpI (G : Gt) : Ie → Rho → Mm → (List Dt → (Mm → Prop) → Mm → Prop) → QX → Prop
  | .seq a, ρ, M, q, x => wpE G a ρ M (fun d M1 => match d with
    | .tup ds => q ds (fun _ => True) M1
    | .lst ds => q ds (fun _ => True) M1
    | .ref p => (match M1 p with
      | some (.lst ds) => q ds (fun M => M p = some (.lst ds)) M1
      | _ => False)
    | _ => False) x
  | .rng1 a, ρ, M, q, x => wpE G a ρ M (fun d M1 => ∃ j, d = .int j ∧ -(2 ^ 62) ≤ j ∧ j < 2 ^ 62 ∧ q ((List.range j.toNat).map fun (k : Nat) => .int (k : Int)) (fun _ => True) M1) x
  | .rng2 a b, ρ, M, q, x => wpE G a ρ M (fun d M1 => wpE G b ρ M1 (fun e M2 => ∃ i j, d = .int i ∧ e = .int j ∧ (-(2 ^ 62) ≤ i ∧ i < 2 ^ 62 ∧ -(2 ^ 62) ≤ j ∧ j < 2 ^ 62) ∧
      q ((List.range (j - i).toNat).map fun (k : Nat) => .int (i + (k : Int))) (fun _ => True) M2) x) x
  | .zip a b, ρ, M, q, x => wpE G a ρ M (fun d M1 => wpE G b ρ M1 (fun e M2 => ∃ ds es, lsD M2 d = some ds ∧ lsD M2 e = some es ∧ q (zipD ds es) (fun M => lsD M d = some ds ∧ lsD M e = some es) M2) x) x
  | .enm a, ρ, M, q, x => wpE G a ρ M (fun d M1 => ∃ ds, itemsD M1 d = some ds ∧ q (enmD ds) (fun M => itemsD M d = some ds) M1) x
  | .items a, ρ, M, q, x => wpE G a ρ M (fun d M1 => ∃ p kvs u, d = .ref p ∧ M1 p = some (.dF kvs u) ∧ q (kvD kvs) (fun M => M p = some (.dF kvs u)) M1) x
def wpG (G : Gt) : Tg → Dt → Rho → Mm → QR → QX → Prop
  | .name i, d, ρ, M, q, _ => q (ρ.set i (some d)) M
  | .tup gs, d, ρ, M, q, x => ∃ ds, itemsD M d = some ds ∧ ds.length = gs.len ∧ wpGs G gs ds ρ M q (fun _ _ => False)
  | .star gs, d, ρ, M, q, x => ∃ ds es, d = .tup (ds ++ es) ∧ ds.length + 1 = gs.len ∧ es.length < 16384 ∧ wpGs G gs (ds ++ [.lst es]) ρ M q (fun _ _ => False)
  | .ix a b, d, ρ, M, q, x => wpE G a ρ M (fun u M1 => wpE G b ρ M1 (fun v M2 => match u with
    | .ref p => (match M2 p with
      | some (.lst ds) => ∃ i j, v = .int i ∧ ixN ds.length i = some j ∧ q ρ (mset M2 p (some (.lst (ds.set j d))))
      | some (.dK kvs) => ∃ k, keyOf v = some k ∧ kvs.length < sizeLine ∧ q ρ (mset M2 p (some (.dK (putD kvs k d))))
      | _ => False)
    | _ => False) x) x
  | .fld a f, d, ρ, M, q, x => wpE G a ρ M (fun u M1 => ∃ p c fs, u = .ref p ∧ M1 p = some (.ins c fs) ∧ fs.length < 1000 ∧ q ρ (mset M1 p (some (.ins c (putFd f d fs))))) x
def wpGs (G : Gt) : Tgs → List Dt → Rho → Mm → QR → QX → Prop
  | .nil, ds, ρ, M, q, _ => ds = [] ∧ q ρ M
  | .cons g gs, ds, ρ, M, q, x => ∃ d r, ds = d :: r ∧ wpG G g d ρ M (fun ρ1 M1 => wpGs G gs r ρ1 M1 q x) x
end
/-- what is wanted behind a statement -/
structure Kn where
  nx : QR
  rt : QD
  bk : QR
  ct : QR
  xx : Xc → Rho → Mm → Prop
/-- a dict stands still meanwhile -/
def lockK (p : Addr) (kvs : List (Key × Dt)) (u : HO) (k : Kn) : Kn where
  nx := fun ρ' M' => M' p = some (.dF kvs u) ∧ k.nx ρ' (mset M' p (some (.dK kvs)))
  rt := fun d M' => M' p = some (.dF kvs u) ∧ k.rt d (mset M' p (some (.dK kvs)))
  bk := fun ρ' M' => M' p = some (.dF kvs u) ∧ k.bk ρ' (mset M' p (some (.dK kvs)))
  ct := fun ρ' M' => M' p = some (.dF kvs u) ∧ k.ct ρ' (mset M' p (some (.dK kvs)))
  xx := k.xx
mutual
def wpS (G : Gt) : Sm → Kn → Rho → Mm → Prop
  | .asg t e, k, ρ, M => wpE G e ρ M (fun d M1 => wpG G t d ρ M1 k.nx fun z M' => k.xx z ρ M') fun z M' => k.xx z ρ M'
  | .asgC i e, k, ρ, M => wpE G e ρ M (fun d M1 => k.nx (ρ.set i (some d)) M1) fun z M' => k.xx z ρ M'
  | .par i j a b, k, ρ, M => wpE G a ρ M (fun u M1 => wpE G b ρ M1 (fun v M2 => k.nx ((ρ.set i (some u)).set j (some v)) M2) fun z M' => k.xx z ρ M') fun z M' => k.xx z ρ M'
  | .aug i o e, k, ρ, M => ∃ u, ρ[i]? = some (some u) ∧ wpE G e ρ M (fun v M1 => binD o u v M1 fun w M2 => k.nx (ρ.set i (some w)) M2) fun z M' => k.xx z ρ M'
  | .expr e, k, ρ, M => wpE G e ρ M (fun _ M1 => k.nx ρ M1) fun z M' => k.xx z ρ M'
  | .delD a i, k, ρ, M => wpE G a ρ M (fun u M1 => wpE G i ρ M1 (fun v M2 => ∃ p kvs y, u = .ref p ∧ M2 p = some (.dK kvs) ∧ keyOf v = some y ∧ (valD kvs y).isSome = true ∧ k.nx ρ (mset M2 p (some (.dK (exceptD kvs y))))) fun z M' => k.xx z ρ M') fun z M' => k.xx z ρ M'
  | .if_ c a b, k, ρ, M => wpT G c ρ M (fun t M1 => if t = true then wpSs G a k ρ M1 else wpSs G b k ρ M1) fun z M' => k.xx z ρ M'
  | .for_ t it b, k, ρ, M => wpI G it ρ M (fun ds keep M1 => forRun keep (fun d ρ2 M2 n => wpG G t d ρ2 M2 (fun ρ3 M3 => wpSs G b { k with nx := n, ct := n, bk := k.nx } ρ3 M3) fun z M' => k.xx z ρ2 M') ds ρ M1 k.nx) fun z M' => k.xx z ρ M'
  | .while_ c b, k, ρ, M => ∃ n, whRun (fun n ρ M => wpT G c ρ M (fun t M1 => if t = true then wpSs G b { k with nx := n, ct := n, bk := k.nx } ρ M1 else k.nx ρ M1) fun z M' => k.xx z ρ M') n ρ M
  | .ret e, k, ρ, M => wpE G e ρ M k.rt fun z M' => k.xx z ρ M'
  | .retN, k, _, M => k.rt .non M
  | .brk, k, ρ, M => k.bk ρ M
  | .cont, k, ρ, M => k.ct ρ M
  | .pass, k, ρ, M => k.nx ρ M
  | .never, _, _, _ => False
  | .raise c as, k, ρ, M => wpEs G as ρ M (fun ds M1 => ∃ fs, G.exc c ds = some fs ∧ k.xx ⟨c, fs⟩ ρ M1) fun z M' => k.xx z ρ M'
  | .setf a f e, k, ρ, M => wpE G e ρ M (fun d M1 => wpE G a ρ M1 (fun u M2 => ∃ p c fs, u = .ref p ∧ M2 p = some (.ins c fs) ∧ fs.length < 1000 ∧ k.nx ρ (mset M2 p (some (.ins c (putFd f d fs))))) fun z M' => k.xx z ρ M') fun z M' => k.xx z ρ M'
  | .augf a f o e, k, ρ, M => wpE G a ρ M (fun u M1 => ∃ p c fs y, u = .ref p ∧ M1 p = some (.ins c fs) ∧ fs.lookup f = some y ∧ wpE G e ρ M1 (fun v M2 => binD o y v M2 fun w M3 => ∃ fs', M3 p = some (.ins c fs') ∧ fs'.length < 1000 ∧ k.nx ρ (mset M3 p (some (.ins c (putFd f w fs'))))) fun z M' => k.xx z ρ M') fun z M' => k.xx z ρ M'
  | .tryN b, k, ρ, M => wpSs G b { k with xx := fun _ _ _ => False } ρ M
  | .tryR b c e, k, ρ, M => wpSs G b { k with xx := fun z ρ' M' => ∃ b, G.sub z.c c = some b ∧ if b = true then wpE G e ρ' M' k.rt (fun _ _ => False) else k.xx z ρ' M' } ρ M
  | .lock s, k, ρ, M => ∃ p kvs, M p = some (.dK kvs) ∧ ∀ u, wpS G s (lockK p kvs u k) ρ (mset M p (some (.dF kvs u)))
  | .par3 i j l a b c, k, ρ, M => wpE G a ρ M (fun u M1 => wpE G b ρ M1 (fun v M2 => wpE G c ρ M2 (fun w M3 => k.nx (((ρ.set i (some u)).set j (some v)).set l (some w)) M3) fun z M' => k.xx z ρ M') fun z M' => k.xx z ρ M') fun z M' => k.xx z ρ M'
def wpSs (G : Gt) : Sms → Kn → Rho → Mm → Prop
  | .nil, k, ρ, M => k.nx ρ M
  | .cons s ss, k, ρ, M => wpS G s { k with nx := wpSs G ss k } ρ M
end
end Fm

/-! The engine, part C: wishes may be weakened. -/
namespace Fm
open PySem L2

example (G : Gt) (ρ : Rho) (M : Mm) (q : QD) (x : QX) : wpE G (.bin .add (.int 3) (.var 0)) ρ M q x = ∃ d, ρ[0]? = some (some d) ∧ binD .add (.int 3) d M q := rfl

theorem newL_mono {live : Bool} {ds : List Dt} {M : Mm} {q q' : QD} (h : ∀ d M, q d M → q' d M) : newL live ds M q → newL live ds M q' := by
  unfold newL
  split
  · exact fun k p n => h _ _ (k p n)
  · exact h _ _
theorem binD_mono {o : BO} {u v : Dt} {M : Mm} {q q' : QD} (h : ∀ d M, q d M → q' d M) : binD o u v M q → binD o u v M q' := by
  unfold binD
  split <;> first | exact h _ _ | exact fun z => ⟨z.1, h _ _ z.2⟩ | exact fun z => ⟨z.1, z.2.1, z.2.2.1, h _ _ z.2.2.2⟩ | exact fun ⟨xs, ys, e1, e2, e3, k⟩ => ⟨xs, ys, e1, e2, e3, newL_mono h k⟩ | exact fun ⟨xs, ys, e1, e2, e3, k⟩ => ⟨xs, ys, e1, e2, e3, h _ _ k⟩ | exact id
theorem biD_mono {f : BI} {ds : List Dt} {M : Mm} {q q' : QD} (h : ∀ d M, q d M → q' d M) : biD f ds M q → biD f ds M q' := by
  unfold biD
  split
  · exact fun z => ⟨z.1, h _ _ z.2⟩
  · exact h _ _
  · exact h _ _
  · split <;> first | exact h _ _ | exact id
  · exact h _ _
  · exact h _ _
  · rintro ⟨ns, h1, h2, h3⟩; exact ⟨ns, h1, h2, fun m a b => h _ _ (h3 m a b)⟩
  · rintro ⟨ns, h1, h2, h3⟩; exact ⟨ns, h1, h2, fun m a b => h _ _ (h3 m a b)⟩
  · rintro ⟨ns, h1, h2⟩; exact ⟨ns, h1, h _ _ h2⟩
  · rintro ⟨ns, h1, h2⟩; exact ⟨ns, h1, h _ _ h2⟩
  · rintro ⟨ns, h1, h2⟩; exact ⟨ns, h1, h _ _ h2⟩
  · exact newL_mono h
  · rintro ⟨ds, h1, h2⟩; exact ⟨ds, h1, newL_mono h h2⟩
  · exact h _ _
  · rintro ⟨ns, h1, h2⟩; exact ⟨ns, h1, h _ _ h2⟩
  · rintro ⟨ns, h1, h2⟩; exact ⟨ns, h1, fun p n => h _ _ (h2 p n)⟩
  · rintro ⟨ns, h1, h2, h3, h4, h5⟩; exact ⟨ns, h1, h2, h3, h4, newL_mono h h5⟩
  · exact h _ _
  · rintro ⟨kvs, ks, h1, h2, h3, h4⟩; exact ⟨kvs, ks, h1, h2, h3, fun ys a b => newL_mono h (h4 ys a b)⟩
  · rintro ⟨kvs, h1, h2⟩; exact ⟨kvs, h1, fun p n => h _ _ (h2 p n)⟩
  · rintro ⟨kvs, ks, h1, h2, h3, h4⟩; exact ⟨kvs, ks, h1, h2, h3, fun ys a b => newL_mono h (h4 ys a b)⟩
  · exact id
theorem mtD_mono {f : MI} {u : Dt} {ds : List Dt} {M : Mm} {q q' : QD} (h : ∀ d M, q d M → q' d M) : mtD f u ds M q → mtD f u ds M q' := by
  unfold mtD
  split
  · split
    · exact fun z => ⟨z.1, h _ _ z.2⟩
    · exact id
  · split
    · rintro ⟨d, h1, h2⟩; exact ⟨d, h1, h _ _ h2⟩
    · exact id
  · split <;> first | exact h _ _ | exact id
  · split <;> first | exact h _ _ | exact id
  · split <;> first | exact h _ _ | exact id
  · split <;> first | exact h _ _ | exact id
  · split
    · rintro ⟨a, b, k, d, e1, e2, z⟩; exact ⟨a, b, k, d, e1, e2, h _ _ z⟩
    · exact id
  · split
    · rintro ⟨a, b, c, z⟩; exact ⟨a, b, c, h _ _ z⟩
    · exact id
  · split
    · rintro ⟨d, e, z⟩; exact ⟨d, e, h _ _ z⟩
    · exact id
  · rintro ⟨ns, e, z⟩; exact ⟨ns, e, h _ _ z⟩
  · rintro ⟨ks, k, j, e1, e2, e3, e4, z⟩; exact ⟨ks, k, j, e1, e2, e3, e4, h _ _ z⟩
  · exact id
theorem lcRun_mono {step step' : Dt → Mm → (Option Dt → Mm → Prop) → Prop} {q q' : QL} (hs : ∀ d M k k', (∀ o M, k o M → k' o M) → step d M k → step' d M k') (h : ∀ d M, q d M → q' d M) :
    ∀ (ds acc : List Dt) (M : Mm), lcRun step ds acc M q → lcRun step' ds acc M q'
  | [], _, _, k => h _ _ k
  | d :: r, acc, M, k => hs _ _ _ _ (fun o M' z => by
      cases o with
      | none => exact lcRun_mono hs h r acc M' z
      | some y => exact ⟨z.1, lcRun_mono hs h r _ M' z.2⟩) k
theorem dcRun_mono {step step' : Dt → Mm → (Option (Dt × Dt) → Mm → Prop) → Prop} {q q' : List (Key × Dt) → Mm → Prop} (hs : ∀ d M k k', (∀ o M, k o M → k' o M) → step d M k → step' d M k') (h : ∀ d M, q d M → q' d M) :
    ∀ (ds : List Dt) (acc : List (Key × Dt)) (M : Mm), dcRun step ds acc M q → dcRun step' ds acc M q'
  | [], _, _, k => h _ _ k
  | d :: r, acc, M, k => hs _ _ _ _ (fun o M' z => by
      cases o with
      | none => exact dcRun_mono hs h r acc M' z
      | some y => obtain ⟨ky, e, l, z⟩ := z; exact ⟨ky, e, l, dcRun_mono hs h r _ M' z⟩) k
theorem forRun_mono {keep : Mm → Prop} {step step' : Dt → Rho → Mm → QR → Prop} {q q' : QR} (hs : ∀ d ρ M k k', (∀ ρ M, k ρ M → k' ρ M) → step d ρ M k → step' d ρ M k') (h : ∀ d M, q d M → q' d M) :
    ∀ (ds : List Dt) (ρ : Rho) (M : Mm), forRun keep step ds ρ M q → forRun keep step' ds ρ M q'
  | [], _, _, k => ⟨k.1, h _ _ k.2⟩
  | d :: r, ρ, M, k => ⟨k.1, hs _ _ _ _ _ (fun ρ' M' z => forRun_mono hs h r ρ' M' z) k.2⟩
theorem whRun_mono {step step' : QR → Rho → Mm → Prop} (hs : ∀ k k' ρ M, (∀ ρ M, k ρ M → k' ρ M) → step k ρ M → step' k' ρ M) :
    ∀ (n : Nat) (ρ : Rho) (M : Mm), whRun step n ρ M → whRun step' n ρ M
  | 0, _, _, k => k
  | n + 1, ρ, M, k => hs _ _ _ _ (fun ρ' M' z => whRun_mono hs n ρ' M' z) k

section
variable {G : Gt}
mutual
theorem wpE_mono : ∀ (e : E) {ρ : Rho} {M : Mm} {q q' : QD} {x x' : QX}, (∀ d M, q d M → q' d M) → (∀ z M, x z M → x' z M) → wpE G e ρ M q x → wpE G e ρ M q' x'
  | .var i, _, _, _, _, _, _, h, _, ⟨d, e, k⟩ => ⟨d, e, h _ _ k⟩
  | .int z, _, _, _, _, _, _, h, _, k => h _ _ k
  | .str z, _, _, _, _, _, _, h, _, k => h _ _ k
  | .bl z, _, _, _, _, _, _, h, _, k => h _ _ k
  | .non, _, _, _, _, _, _, h, _, k => h _ _ k
  | .dnew, _, _, _, _, _, _, h, _, k => fun p hp => h _ _ (k p hp)
  | .glob z, _, _, _, _, _, _, h, _, k => h _ _ k
  | .bin o a b, _, _, _, _, _, _, h, g, k => wpE_mono a (fun _ _ k => wpE_mono b (fun _ _ k => binD_mono h k) g k) g k
  | .neg a, _, _, _, _, _, _, h, g, k => wpE_mono a (fun _ _ ⟨i, e, k⟩ => ⟨i, e, h _ _ k⟩) g k
  | .cmp o a b, _, _, _, _, _, _, h, g, k => wpE_mono a (fun _ _ k => wpE_mono b (fun _ _ ⟨i, e, k⟩ => ⟨i, e, h _ _ k⟩) g k) g k
  | .cmp2 o p a b c, _, _, _, _, _, _, h, g, k => wpE_mono a (fun _ _ k => wpE_mono b (fun _ _ ⟨i, e, k⟩ => ⟨i, e, by
      split
      · rename_i hi
        rw [if_pos hi] at k
        exact wpE_mono c (fun _ _ ⟨i, e, k⟩ => ⟨i, e, h _ _ k⟩) g k
      · rename_i hi
        rw [if_neg hi] at k
        exact h _ _ k⟩) g k) g k
  | .bop kk as, _, _, _, _, _, _, h, g, k => wpB_mono as h g k
  | .not_ a, _, _, _, _, _, _, h, g, k => wpE_mono a (fun _ _ ⟨i, e, k⟩ => ⟨i, e, h _ _ k⟩) g k
  | .ite c a b, _, _, _, _, _, _, h, g, k => wpT_mono c (fun t _ k => by
      split
      · rename_i hi
        rw [if_pos hi] at k
        exact wpE_mono a h g k
      · rename_i hi
        rw [if_neg hi] at k
        exact wpE_mono b h g k) g k
  | .tup as, _, _, _, _, _, _, h, g, k => wpEs_mono as (fun _ _ ⟨z, k⟩ => ⟨z, h _ _ k⟩) g k
  | .lst l as, _, _, _, _, _, _, h, g, k => wpEs_mono as (fun _ _ ⟨z, k⟩ => ⟨z, newL_mono h k⟩) g k
  | .ix a b, _, _, _, _, _, _, h, g, k => wpE_mono a (fun _ _ k => wpE_mono b (fun _ _ ⟨i, e, k⟩ => ⟨i, e, h _ _ k⟩) g k) g k
  | .sl a lo hi, _, _, _, _, _, _, h, g, k => wpE_mono a (fun _ _ k => wpO_mono lo (fun _ _ k => wpO_mono hi (fun _ _ ⟨i, e, k⟩ => ⟨i, e, h _ _ k⟩) g k) g k) g k
  | .call gg as, _, _, _, _, _, _, h, g, k => wpEs_mono as (fun _ _ k => (G.call gg).mono h g k) g k
  | .bi f as, _, _, _, _, _, _, h, g, k => wpEs_mono as (fun _ _ k => biD_mono h k) g k
  | .mt m a as, _, _, _, _, _, _, h, g, k => wpE_mono a (fun _ _ k => ⟨k.1, wpEs_mono as (fun _ _ k => mtD_mono h k) g k.2⟩) g k
  | .fld a f, _, _, _, _, _, _, h, g, k => wpE_mono a (fun _ _ ⟨p, c, fs, d, e1, e2, e3, k⟩ => ⟨p, c, fs, d, e1, e2, e3, h _ _ k⟩) g k
  | .isi a ts _, _, _, _, _, _, _, h, g, k => wpE_mono a (fun _ _ ⟨i, e, k⟩ => ⟨i, e, h _ _ k⟩) g k
  | .lc live own t it cs e, _, _, _, _, _, _, h, g, k => wpI_mono it (fun ds keep _ k => lcRun_mono (fun d M kk kk' hk z => ⟨z.1, wpG_mono t (fun _ _ z => wpAll_mono cs (fun b _ z => by
      split
      · rename_i hi
        rw [if_pos hi] at z
        exact wpE_mono e (fun _ _ z => hk _ _ z) (fun _ _ z => z) z
      · rename_i hi
        rw [if_neg hi] at z
        exact hk _ _ z) (fun _ _ z => z) z) (fun _ _ z => z) z.2⟩) (fun _ _ z => ⟨z.1, newL_mono h z.2⟩) _ _ _ k) g k
  | .lock e, _, _, _, _, _, _, h, g, ⟨p, kvs, em, k⟩ => ⟨p, kvs, em, fun u => wpE_mono e (fun _ _ z => ⟨z.1, h _ _ z.2⟩) g (k u)⟩
  | .slT a lo hi, _, _, _, _, _, _, h, g, k => wpE_mono a (fun _ _ k => wpO_mono lo (fun _ _ k => wpO_mono hi (fun _ _ ⟨i, e, c, k⟩ => ⟨i, e, c, h _ _ k⟩) g k) g k) g k
  | .sit live a, _, _, _, _, _, _, h, g, k => wpE_mono a (fun _ _ ⟨p, kvs, e1, e2, e3, e4, e5, e6, z⟩ => ⟨p, kvs, e1, e2, e3, e4, e5, e6, newL_mono h z⟩) g k
  | .srtSet live a, _, _, _, _, _, _, h, g, k => wpE_mono a (fun _ _ ⟨ns, e1, e2, z⟩ => ⟨ns, e1, e2, fun zs a b => newL_mono h (z zs a b)⟩) g k
  | .lenSet a, _, _, _, _, _, _, h, g, k => wpE_mono a (fun _ _ ⟨ns, e1, e2, z⟩ => ⟨ns, e1, e2, fun zs a b => h _ _ (z zs a b)⟩) g k
  | .dc own t it cs ke ve, _, _, _, _, _, _, h, g, k => wpI_mono it (fun ds keep _ k => dcRun_mono (fun d M kk kk' hk z => ⟨z.1, wpG_mono t (fun _ _ z => wpAll_mono cs (fun b _ z => by
      split
      · rename_i hi
        rw [if_pos hi] at z
        exact wpE_mono ke (fun _ _ z => wpE_mono ve (fun _ _ z => hk _ _ z) (fun _ _ z => z) z) (fun _ _ z => z) z
      · rename_i hi
        rw [if_neg hi] at z
        exact hk _ _ z) (fun _ _ z => z) z) (fun _ _ z => z) z.2⟩) (fun _ _ z => ⟨z.1, fun p n => h _ _ (z.2 p n)⟩) _ _ _ k) g k
  | .frz a, _, _, _, _, _, _, h, g, k => wpE_mono a (fun u M1 k => by
      cases u with
      | ref p =>
        dsimp only at k ⊢
        cases e : M1 p with
        | none =>
          simp only [e] at k ⊢
          exact h _ _ k
        | some o =>
          simp only [e] at k ⊢
          cases o <;> exact h _ _ k
      | _ => exact h _ _ k) g k
  | .why a, _, _, _, _, _, _, h, g, k => wpE_mono a (fun _ _ k => h _ _ k) (fun _ _ ⟨w, d, e1, e2, k⟩ => ⟨w, d, e1, e2, h _ _ k⟩) k
  | .mk c as, _, _, _, _, _, _, h, g, k => wpEs_mono as (fun _ _ k p n => (G.init c).mono (fun _ _ z => ⟨z.1, h _ _ z.2⟩) g (k p n)) g k
  | .mkO _ c as e, _, _, _, _, _, _, h, g, k => wpEs_mono as (fun _ _ k => wpE_mono e (fun _ _ k p n => (G.init c).mono (fun _ _ z => ⟨z.1, h _ _ z.2⟩) g (k p n)) g k) g k
  | .rev a, _, _, _, _, _, _, h, g, k => wpE_mono a (fun _ _ ⟨i, e, k⟩ => ⟨i, e, h _ _ k⟩) g k
  | .lrng l a, _, _, _, _, _, _, h, g, k => wpE_mono a (fun _ _ ⟨i, e, e1, e2, k⟩ => ⟨i, e, e1, e2, newL_mono h k⟩) g k
  | .maxO a e, _, _, _, _, _, _, h, g, k => wpE_mono a (fun _ _ k => wpE_mono e (fun _ _ ⟨p, kvs, ns, i, e1, e2, e3, e4, k⟩ => ⟨p, kvs, ns, i, e1, e2, e3, e4, fun m hm => h _ _ (k m hm)⟩) g k) g k
  | .methO _ m a as e, _, _, _, _, _, _, h, g, k => wpE_mono a (fun _ _ ⟨p, c, fs, F, e1, e2, e3, e4, k⟩ => ⟨p, c, fs, F, e1, e2, e3, e4, wpEs_mono as (fun _ _ k => wpE_mono e (fun _ _ k => F.mono h g k) g k) g k⟩) g k
  | .meth m a as, _, _, _, _, _, _, h, g, k => wpE_mono a (fun _ _ ⟨p, c, fs, F, e1, e2, e3, e4, k⟩ => ⟨p, c, fs, F, e1, e2, e3, e4, wpEs_mono as (fun _ _ k => F.mono h g k) g k⟩) g k
theorem wpEs_mono : ∀ (es : Es) {ρ : Rho} {M : Mm} {q q' : QL} {x x' : QX}, (∀ d M, q d M → q' d M) → (∀ z M, x z M → x' z M) → wpEs G es ρ M q x → wpEs G es ρ M q' x'
  | .nil, _, _, _, _, _, _, h, _, k => h _ _ k
  | .cons e es, _, _, _, _, _, _, h, g, k => wpE_mono e (fun _ _ k => wpEs_mono es (fun _ _ k => h _ _ k) g k) g k
theorem wpO_mono : ∀ (es : EO) {ρ : Rho} {M : Mm} {q q' : Option Int → Mm → Prop} {x x' : QX}, (∀ d M, q d M → q' d M) → (∀ z M, x z M → x' z M) → wpO G es ρ M q x → wpO G es ρ M q' x'
  | .none, _, _, _, _, _, _, h, _, k => h _ _ k
  | .some e, _, _, _, _, _, _, h, g, k => wpE_mono e (fun _ _ ⟨i, e, k⟩ => ⟨i, e, h _ _ k⟩) g k
theorem wpB_mono : ∀ (es : Es) {kk : Bool} {ρ : Rho} {M : Mm} {q q' : QD} {x x' : QX}, (∀ d M, q d M → q' d M) → (∀ z M, x z M → x' z M) → wpB G kk es ρ M q x → wpB G kk es ρ M q' x'
  | .nil, _, _, _, _, _, _, _, _, _, k => k
  | .cons e .nil, _, _, _, _, _, _, _, h, g, k => wpE_mono e (fun _ _ k => h _ _ k) g k
  | .cons e (.cons e2 es), _, _, _, _, _, _, _, h, g, k => wpE_mono e (fun _ _ ⟨b, e, k⟩ => ⟨b, e, by
      split
      · rename_i hi
        rw [if_pos hi] at k
        exact wpB_mono (.cons e2 es) h g k
      · rename_i hi
        rw [if_neg hi] at k
        exact h _ _ k⟩) g k
theorem wpT_mono : ∀ (t : T) {ρ : Rho} {M : Mm} {q q' : QB} {x x' : QX}, (∀ d M, q d M → q' d M) → (∀ z M, x z M → x' z M) → wpT G t ρ M q x → wpT G t ρ M q' x'
  | .val a, _, _, _, _, _, _, h, g, k => wpE_mono a (fun _ _ ⟨i, e, k⟩ => ⟨i, e, h _ _ k⟩) g k
  | .cmp o a b, _, _, _, _, _, _, h, g, k => wpE_mono a (fun _ _ k => wpE_mono b (fun _ _ ⟨i, e, k⟩ => ⟨i, e, h _ _ k⟩) g k) g k
  | .cmp2 o p a b c, _, _, _, _, _, _, h, g, k => wpE_mono a (fun _ _ k => wpE_mono b (fun _ _ ⟨i, e, k⟩ => ⟨i, e, by
      split
      · rename_i hi
        rw [if_pos hi] at k
        exact wpE_mono c (fun _ _ ⟨i, e, k⟩ => ⟨i, e, h _ _ k⟩) g k
      · rename_i hi
        rw [if_neg hi] at k
        exact h _ _ k⟩) g k) g k
  | .not_ t, _, _, _, _, _, _, h, g, k => wpT_mono t (fun _ _ k => h _ _ k) g k
  | .all ts, _, _, _, _, _, _, h, g, k => wpAll_mono ts h g k
  | .any ts, _, _, _, _, _, _, h, g, k => wpAny_mono' ts h g k
theorem wpAll_mono : ∀ (t : Ts) {ρ : Rho} {M : Mm} {q q' : QB} {x x' : QX}, (∀ d M, q d M → q' d M) → (∀ z M, x z M → x' z M) → wpAll G t ρ M q x → wpAll G t ρ M q' x'
  | .nil, _, _, _, _, _, _, h, _, k => h _ _ k
  | .cons t ts, _, _, _, _, _, _, h, g, k => wpT_mono t (fun b _ k => by
      split
      · rename_i hi
        rw [if_pos hi] at k
        exact wpAll_mono ts h g k
      · rename_i hi
        rw [if_neg hi] at k
        exact h _ _ k) g k
theorem wpAny_mono' : ∀ (t : Ts) {ρ : Rho} {M : Mm} {q q' : QB} {x x' : QX}, (∀ d M, q d M → q' d M) → (∀ z M, x z M → x' z M) → wpAny' G t ρ M q x → wpAny' G t ρ M q' x'
  | .nil, _, _, _, _, _, _, h, _, k => h _ _ k
  | .cons t ts, _, _, _, _, _, _, h, g, k => wpT_mono t (fun b _ k => by
      split
      · rename_i hi
        rw [if_pos hi] at k
        exact h _ _ k
      · rename_i hi
        rw [if_neg hi] at k
        exact wpAny_mono' ts h g k) g k
theorem wpI_mono : ∀ (it : Ie) {ρ : Rho} {M : Mm} {q q' : List Dt → (Mm → Prop) → Mm → Prop} {x x' : QX}, (∀ d p M, q d p M → q' d p M) → (∀ z M, x z M → x' z M) → wpI G it ρ M q x → wpI G it ρ M q' x'
  | .seq a, _, _, _, _, _, _, h, g, k => wpE_mono a (fun u _ k => by
      cases u with
      | ref p =>
        dsimp only at k ⊢
        split
        · rename_i e
          simp only [e] at k
          exact h _ _ _ k
        · rename_i hn
          split at k
          · rename_i ds e
            exact absurd e (hn ds)
          · exact k
      | tup ds => exact h _ _ _ k
      | lst ds => exact h _ _ _ k
      | non => exact k
      | bl _ => exact k
      | int _ => exact k
      | str _ => exact k) g k
  | .rng1 a, _, _, _, _, _, _, h, g, k => wpE_mono a (fun _ _ ⟨j, e, h1, h2, k⟩ => ⟨j, e, h1, h2, h _ _ _ k⟩) g k
  | .rng2 a b, _, _, _, _, _, _, h, g, k => wpE_mono a (fun _ _ k => wpE_mono b (fun _ _ ⟨i, j, e1, e2, hb, k⟩ => ⟨i, j, e1, e2, hb, h _ _ _ k⟩) g k) g k
  | .zip a b, _, _, _, _, _, _, h, g, k => wpE_mono a (fun _ _ k => wpE_mono b (fun _ _ ⟨u, v, e1, e2, k⟩ => ⟨u, v, e1, e2, h _ _ _ k⟩) g k) g k
  | .enm a, _, _, _, _, _, _, h, g, k => wpE_mono a (fun _ _ ⟨u, e1, k⟩ => ⟨u, e1, h _ _ _ k⟩) g k
  | .items a, _, _, _, _, _, _, h, g, k => wpE_mono a (fun _ _ ⟨p, kvs, u, e1, e2, k⟩ => ⟨p, kvs, u, e1, e2, h _ _ _ k⟩) g k
theorem wpG_mono : ∀ (t : Tg) {d : Dt} {ρ : Rho} {M : Mm} {q q' : QR} {x x' : QX}, (∀ d M, q d M → q' d M) → (∀ z M, x z M → x' z M) → wpG G t d ρ M q x → wpG G t d ρ M q' x'
  | .name i, _, _, _, _, _, _, _, h, _, k => h _ _ k
  | .tup gs, d, _, _, _, _, _, _, h, g, ⟨ds, e, k1, k2⟩ => ⟨ds, e, k1, wpGs_mono gs h (fun _ _ z => z) k2⟩
  | .star gs, d, _, _, _, _, _, _, h, g, ⟨e, es, k1, k0, k2, k3⟩ => ⟨e, es, k1, k0, k2, wpGs_mono gs h (fun _ _ z => z) k3⟩
  | .ix a b, d, _, _, _, _, _, _, h, g, k => wpE_mono a (fun u _ k => wpE_mono b (fun v _ k => by
      cases u with
      | ref p =>
        dsimp only at k ⊢
        split
        · rename_i e
          simp only [e] at k
          obtain ⟨i, j, e1, e2, k⟩ := k
          exact ⟨i, j, e1, e2, h _ _ k⟩
        · rename_i e
          simp only [e] at k
          obtain ⟨i, e1, e2, k⟩ := k
          exact ⟨i, e1, e2, h _ _ k⟩
        · rename_i h1 h2
          split at k
          · rename_i ds e; exact absurd e (h1 ds)
          · rename_i ds e; exact absurd e (h2 ds)
          · exact k
      | _ => exact k) g k) g k
  | .fld a f, d, _, _, _, _, _, _, h, g, k => wpE_mono a (fun _ _ ⟨p, c, fs, e1, e2, e3, k⟩ => ⟨p, c, fs, e1, e2, e3, h _ _ k⟩) g k
theorem wpGs_mono : ∀ (t : Tgs) {d : List Dt} {ρ : Rho} {M : Mm} {q q' : QR} {x x' : QX}, (∀ d M, q d M → q' d M) → (∀ z M, x z M → x' z M) → wpGs G t d ρ M q x → wpGs G t d ρ M q' x'
  | .nil, _, _, _, _, _, _, _, h, _, k => ⟨k.1, h _ _ k.2⟩
  | .cons t ts, _, _, _, _, _, _, _, h, g, ⟨d, r, e, k⟩ => ⟨d, r, e, wpG_mono t (fun _ _ k => wpGs_mono ts h g k) g k⟩
end
def Es.len : Es → Nat
  | .nil => 0
  | .cons _ es => es.len + 1
theorem wpEs_monoL : ∀ (es : Es) {ρ : Rho} {M : Mm} {q q' : QL} {x x' : QX}, (∀ d M, d.length = es.len → q d M → q' d M) → (∀ z M, x z M → x' z M) → wpEs G es ρ M q x → wpEs G es ρ M q' x'
  | .nil, _, _, _, _, _, _, h, _, k => h _ _ rfl k
  | .cons e es, _, _, _, _, _, _, h, g, k => wpE_mono e (fun d _ k => wpEs_monoL es (fun ds _ l k => h (d :: ds) _ (by rw [List.length_cons, l]; rfl) k) g k) g k
/-- weaker wishes of a statement -/
structure Kn.Le (k k' : Kn) : Prop where
  nx : ∀ ρ M, k.nx ρ M → k'.nx ρ M
  rt : ∀ ρ M, k.rt ρ M → k'.rt ρ M
  bk : ∀ ρ M, k.bk ρ M → k'.bk ρ M
  ct : ∀ ρ M, k.ct ρ M → k'.ct ρ M
  xx : ∀ z ρ M, k.xx z ρ M → k'.xx z ρ M
theorem lockK_le {p : Addr} {kvs : List (Key × Dt)} {u : HO} {k k' : Kn} (h : Kn.Le k k') : Kn.Le (lockK p kvs u k) (lockK p kvs u k') :=
  ⟨fun _ _ z => ⟨z.1, h.nx _ _ z.2⟩, fun _ _ z => ⟨z.1, h.rt _ _ z.2⟩, fun _ _ z => ⟨z.1, h.bk _ _ z.2⟩, fun _ _ z => ⟨z.1, h.ct _ _ z.2⟩, h.xx⟩
mutual
theorem wpS_mono : ∀ (s : Sm) {k k' : Kn} {ρ : Rho} {M : Mm}, Kn.Le k k' → wpS G s k ρ M → wpS G s k' ρ M
  | .asg t e, _, _, _, _, h, k => wpE_mono e (fun _ _ k => wpG_mono t h.nx (fun _ _ k => h.xx _ _ _ k) k) (fun _ _ k => h.xx _ _ _ k) k
  | .asgC i e, _, _, _, _, h, k => wpE_mono e (fun _ _ k => h.nx _ _ k) (fun _ _ k => h.xx _ _ _ k) k
  | .par i j a b, _, _, _, _, h, k => wpE_mono a (fun _ _ k => wpE_mono b (fun _ _ k => h.nx _ _ k) (fun _ _ k => h.xx _ _ _ k) k) (fun _ _ k => h.xx _ _ _ k) k
  | .aug i o e, _, _, _, _, h, ⟨u, e1, k⟩ => ⟨u, e1, wpE_mono e (fun _ _ k => binD_mono (fun _ _ k => h.nx _ _ k) k) (fun _ _ k => h.xx _ _ _ k) k⟩
  | .expr e, _, _, _, _, h, k => wpE_mono e (fun _ _ k => h.nx _ _ k) (fun _ _ k => h.xx _ _ _ k) k
  | .delD a i, _, _, _, _, h, k => wpE_mono a (fun _ _ k => wpE_mono i (fun _ _ ⟨p, kvs, y, e1, e2, e3, e4, k⟩ => ⟨p, kvs, y, e1, e2, e3, e4, h.nx _ _ k⟩) (fun _ _ k => h.xx _ _ _ k) k) (fun _ _ k => h.xx _ _ _ k) k
  | .if_ c a b, _, _, _, _, h, k => wpT_mono c (fun _ _ k => by
      split
      · rename_i hi
        rw [if_pos hi] at k
        exact wpSs_mono a h k
      · rename_i hi
        rw [if_neg hi] at k
        exact wpSs_mono b h k) (fun _ _ k => h.xx _ _ _ k) k
  | .for_ t it b, k0, k1, _, _, h, k => wpI_mono it (fun _ _ _ k => forRun_mono (fun _ _ _ n n' hn k => wpG_mono t (fun _ _ k => wpSs_mono b (Kn.Le.mk (k := { k0 with nx := n, ct := n, bk := k0.nx }) (k' := { k1 with nx := n', ct := n', bk := k1.nx }) hn h.rt h.nx hn h.xx) k) (fun _ _ k => h.xx _ _ _ k) k) h.nx _ _ _ k) (fun _ _ k => h.xx _ _ _ k) k
  | .while_ c b, k0, k1, _, _, h, ⟨n, k⟩ => ⟨n, whRun_mono (fun n n' _ _ hn k => wpT_mono c (fun _ _ k => by
      split
      · rename_i hi
        rw [if_pos hi] at k
        exact wpSs_mono b (Kn.Le.mk (k := { k0 with nx := n, ct := n, bk := k0.nx }) (k' := { k1 with nx := n', ct := n', bk := k1.nx }) hn h.rt h.nx hn h.xx) k
      · rename_i hi
        rw [if_neg hi] at k
        exact h.nx _ _ k) (fun _ _ k => h.xx _ _ _ k) k) n _ _ k⟩
  | .ret e, _, _, _, _, h, k => wpE_mono e h.rt (fun _ _ k => h.xx _ _ _ k) k
  | .retN, _, _, _, _, h, k => h.rt _ _ k
  | .brk, _, _, _, _, h, k => h.bk _ _ k
  | .cont, _, _, _, _, h, k => h.ct _ _ k
  | .pass, _, _, _, _, h, k => h.nx _ _ k
  | .never, _, _, _, _, _, k => k
  | .raise c as, _, _, _, _, h, k => wpEs_mono as (fun _ _ ⟨fs, e, k⟩ => ⟨fs, e, h.xx _ _ _ k⟩) (fun _ _ k => h.xx _ _ _ k) k
  | .setf a f e, _, _, _, _, h, k => wpE_mono e (fun _ _ k => wpE_mono a (fun _ _ ⟨p, c, fs, e1, e2, e3, k⟩ => ⟨p, c, fs, e1, e2, e3, h.nx _ _ k⟩) (fun _ _ k => h.xx _ _ _ k) k) (fun _ _ k => h.xx _ _ _ k) k
  | .augf a f o e, _, _, _, _, h, k => wpE_mono a (fun _ _ ⟨p, c, fs, y, e1, e2, e3, k⟩ => ⟨p, c, fs, y, e1, e2, e3, wpE_mono e (fun _ _ k => binD_mono (fun _ _ ⟨fs', e4, e5, k⟩ => ⟨fs', e4, e5, h.nx _ _ k⟩) k) (fun _ _ k => h.xx _ _ _ k) k⟩) (fun _ _ k => h.xx _ _ _ k) k
  | .tryN b, k0, k1, _, _, h, k => wpSs_mono b (Kn.Le.mk (k := { k0 with xx := fun _ _ _ => False }) (k' := { k1 with xx := fun _ _ _ => False }) h.nx h.rt h.bk h.ct fun _ _ _ z => z) k
  | .tryR b c e, k0, k1, _, _, h, k => wpSs_mono b (Kn.Le.mk (k := { k0 with xx := fun z ρ' M' => ∃ b, G.sub z.c c = some b ∧ if b = true then wpE G e ρ' M' k0.rt (fun _ _ => False) else k0.xx z ρ' M' }) (k' := { k1 with xx := fun z ρ' M' => ∃ b, G.sub z.c c = some b ∧ if b = true then wpE G e ρ' M' k1.rt (fun _ _ => False) else k1.xx z ρ' M' }) h.nx h.rt h.bk h.ct fun z ρ' M' ⟨b, e1, q⟩ => ⟨b, e1, by
      cases b with
      | true => exact wpE_mono e h.rt (fun _ _ z => z) q
      | false => exact h.xx _ _ _ q⟩) k
  | .lock s, k0, k1, _, _, h, ⟨p, kvs, em, k⟩ => ⟨p, kvs, em, fun u => wpS_mono s (lockK_le h) (k u)⟩
  | .par3 i j l a b c, _, _, _, _, h, k => wpE_mono a (fun _ _ k => wpE_mono b (fun _ _ k => wpE_mono c (fun _ _ k => h.nx _ _ k) (fun _ _ k => h.xx _ _ _ k) k) (fun _ _ k => h.xx _ _ _ k) k) (fun _ _ k => h.xx _ _ _ k) k
theorem wpSs_mono : ∀ (s : Sms) {k k' : Kn} {ρ : Rho} {M : Mm}, Kn.Le k k' → wpSs G s k ρ M → wpSs G s k' ρ M
  | .nil, _, _, _, _, h, k => h.nx _ _ k
  | .cons s ss, k0, k1, _, _, h, k => wpS_mono s (Kn.Le.mk (k := { k0 with nx := wpSs G ss k0 }) (k' := { k1 with nx := wpSs G ss k1 }) (fun _ _ z => wpSs_mono ss h z) h.rt h.bk h.ct h.xx) k
end
end
end Fm

/-! The engine, part Z: tuples that hold dicts, compared by != -/
namespace PySem.SeqAt
open AutoSeq1 (wpAny_loadPart')
open MeetsSeq MeetsSeq2 MeetsSeq3 SeqRoads2
section
variable {P : Program} {w : World}
/-- the items of two rows, one by one; whether all are equal -/
inductive EqL (P : Program) (w : World) (A : Around) (s : Shared) : List Value → List Value → Bool → Prop
  | nil : EqL P w A s [] [] true
  | cons {x y : Value} {xs ys : List Value} {a b : Bool} : EqIn P w A s x y a → EqL P w A s xs ys b → EqL P w A s (x :: xs) (y :: ys) (a && b)
theorem EqL.len {A : Around} {s : Shared} {xs ys : List Value} {k : Bool} (h : EqL P w A s xs ys k) : xs.length = ys.length := by
  induction h with
  | nil => rfl
  | cons _ _ ih => simp [ih]
theorem tup_neL (l b : Addr) (as bs : List Value) (n n2 : Nat) (dd dd2 : Option Addr) (sl sl2 : Array (Option Value)) (k : Bool) :
    MeetsIn P w (Builtin.«tuple.__ne__» ⟨[.ref l, .ref b], []⟩) (fun A R s => s.heap.get? l = some ⟨.type "tuple", dd, .seq as.toArray n, sl⟩ ∧ s.heap.get? b = some ⟨.type "tuple", dd2, .seq bs.toArray n2, sl2⟩ ∧
      EqL P w A.in1 s as bs k ∧ R (.ok (.ret (.bool (!k)))) s) := by
  refine .of_wp fun A R s h => ?_
  obtain ⟨hp, gg, dr, tk, os⟩ := s
  obtain ⟨hl, hb, he, hR⟩ := h
  have len := he.len
  have two := AutoSeq1.sub_tuple_tuple
  wp_walk using wpAny_loadPart' hl, wpAny_loadPart' hb, wpAny_forIn_list _ (fun rest z t => z.1 = none ∧ t = ⟨hp, gg, dr, tk, os⟩ ∧ ∃ xs ys j, rest = xs.zip ys ∧ EqL P w A.in1 ⟨hp, gg, dr, tk, os⟩ xs ys j ∧ R (.ok (.ret (.bool (!j)))) ⟨hp, gg, dr, tk, os⟩) _
  case turn =>
    rintro ⟨y, x⟩ rest z t ⟨z1, rfl, xs, ys, j, hz, ej, rj⟩
    cases ej with
    | nil => cases hz
    | @cons x1 y1 xs1 ys1 a c e1 e2 =>
      rw [List.zip_cons_cons] at hz
      injection hz with z2 z3
      cases z2
      refine wpAny_bind (e1 _ _ ?_)
      cases a with
      | true =>
        rw [Bool.true_and] at rj
        wp_walk
        exact ⟨rfl, rfl, xs1, ys1, c, z3, e2, rj⟩
      | false =>
        rw [Bool.false_and] at rj
        wp_walk
        exact ⟨_, rfl, rj⟩
  case fin =>
    rintro ⟨z1, z2⟩ t ⟨z3, rfl, xs, ys, j, hz, ej, rj⟩
    simp only at z3
    subst z3
    cases ej with
    | cons _ _ => rw [List.zip_cons_cons] at hz; cases hz
    | nil =>
      wp_walk
      refine ⟨_, rfl, ?_⟩
      have : (as.length == bs.length) = true := by simp [len]
      simpa [Builtin.Tuple.tupleCompareSizes, bne, this] using rj
  case h => exact ⟨rfl, rfl, as, bs, k, by simp, he, hR⟩
theorem rc_neL {E Q : Value → Shared → Prop} {A : Around} {s : Shared} {l b : Addr} {as bs : List Value} {k : Bool} (hl : s.heap.IsTuple l as.toArray) (hb : s.heap.IsTuple b bs.toArray) (room : A.units < cLine)
    (he : EqL P w A.in1 s as bs k) (q : Q (.bool (!k)) s) : wpAny (model P w) A (richCompare .NotEq (.ref l) (.ref b)) Q E s := by
  obtain ⟨⟨c1, d1, t1, s1⟩, o1, e1, n1, f1⟩ := id hl
  obtain ⟨⟨c2, d2, t2, s2⟩, o2, e2, n2, f2⟩ := id hb
  simp only at e1 f1 e2 f2
  subst e1 f1 e2 f2
  exact wpAny_richCompare_same_room (T := "tuple") (op := .NotEq) ⟨_, o1, rfl⟩ ⟨_, o2, rfl⟩ F.slot_tuple_ne (call_meetsIn F.slot_tuple_ne ⟨_, o1, rfl⟩ F.entry_tuple_ne (F.args_tuple_ne_2 _ _) (tup_neL l b as bs n1 n2 d1 d2 s1 s2 k)
    ⟨o1, o2, he, (fun x => nomatch x), q⟩) room
end
end PySem.SeqAt

/-! The engine, part D: operations of the layer upon data. -/
namespace Fm
open PySem L2 PySem.Spec PyProof.Rows

/-- what is told on of a value -/
def Fin (K : PySem.W.Frag) (S : Addr → Prop) (cls : Cl) (M : Mm) (H : Hp) (q : QD) (Q : VK) : Prop :=
  ∀ d M' z H', q d M' → RelD K S M' H' d z → Hold K S cls M' H' → Keeps K M H M' H' → Q z H'
section
variable {X : Cx} {K : PySem.W.Frag} {S : Addr → Prop} {cls : Cl} {M M' : Mm} {H H' : Hp} {q : QD} {Q : VK}
theorem Fin.here (f : Fin K S cls M H q Q) (h : Hold K S cls M H) {d : Dt} {z : V} (r : RelD K S M H d z) (k : q d M) : Q z H := f d M z H k r h Keeps.refl
theorem Fin.at (f : Fin K S cls M H q Q) {d : Dt} {z : V} (k : q d M') (r : RelD K S M' H' d z) (h : Hold K S cls M' H') (kp : Keeps K M H M' H') : Q z H' := f d M' z H' k r h kp
/-- a new list -/
theorem Fin.newL {live : Bool} {ds : List Dt} {xs : List V} (f : Fin K S cls M H q Q) (h : Hold K S cls M H) (r : RelDs K S M H ds xs) (k : newL live ds M q) : ∀ p, H p = none → Q (.ref p) (upd H p (.lst xs)) := fun p n => by
  unfold Fm.newL at k
  have m := h.none n
  split at k
  · refine f.at (k p m) (.ref p) (h.newM n ⟨xs, upd_same, r.keep (Keeps.newM n)⟩) (Keeps.newM n)
  · exact f.at k (.lst m (h.noS n) (.inl upd_same) (r.keep (Keeps.newH n))) (h.newH n) (Keeps.newH n)
theorem Fin.newT {ds : List Dt} {xs : List V} (f : Fin K S cls M H q Q) (h : Hold K S cls M H) (r : RelDs K S M H ds xs) (k : q (.tup ds) M) : ∀ p, H p = none → Q (.ref p) (upd H p (.tup xs)) := fun p n =>
  f.at k (.tup (.inl (.inl upd_same)) (r.keep (Keeps.newH n))) (h.newH n) (Keeps.newH n)

def opOf : BO → Operator
  | .add => .Add | .sub => .Sub | .mul => .Mult | .fdiv => .FloorDiv | .mod => .Mod | .pow => .Pow | .xor => .BitXor | .cat => .Add | .rep => .Mult | .catM => .Add | .catS => .Add
def rBin (K : PySem.W.Frag) (cls : Cl) (o : BO) : R2 := fun x y H Q => ∃ S M u v q, RelD K S M H u x ∧ RelD K S M H v y ∧ Hold K S cls M H ∧ binD o u v M q ∧ Fin K S cls M H q Q
/-- lists that are read, one behind another -/
theorem cat_run {pins : List (Addr × Obj)} {s : Shared} {σ : L2.St} {a b : Addr} {xs ys : List V} (I : Inv X pins σ H s) (ha : SqL X.K H a xs) (hb : SqL X.K H b ys) (hz : xs.length + ys.length ≤ sizeLine) (h : ∀ p, H p = none → Q (.ref p) (upd H p (.lst (xs ++ ys)))) :
    wpAny (model X.prog X.w) X.A (binaryOp .Add (.ref a) (.ref b)) (EP X pins σ Q) X.xe s := by
  obtain ⟨vs, r1, p1, _⟩ := I.list ha
  obtain ⟨us, r2, p2, _⟩ := I.list hb
  obtain ⟨o1, n1, g1, c1, d1, q1⟩ := p1
  obtain ⟨o2, n2, g2, c2, d2, q2⟩ := p2
  have l1 := r1.length
  have l2 := r2.length
  obtain ⟨cl1, dd1, dt1, sl1⟩ := o1
  obtain ⟨cl2, dd2, dt2, sl2⟩ := o2
  simp only at c1 d1 q1 c2 d2 q2
  subst c1 d1 q1 c2 d2 q2
  have e : vs.toArray ++ us.toArray = (vs ++ us).toArray := by simp
  refine concat_meets ⟨_, g1, rfl⟩ ⟨_, g2, rfl⟩ noFill_list_add seq_list_add PySem.F.slot_list_add PySem.F.entry_list_add (PySem.F.args_list_add_2 _ _) (PyProof.Rows.list_addW a b vs.toArray us.toArray n1 n2 _ _ sl1 sl2 (by rw [List.size_toArray, List.size_toArray]; omega)) ⟨g1, g2, ?_⟩
  rw [e]
  have n : H s.heap.objs.size = none := I.hok.fresh (Nat.le_refl _)
  exact ⟨.ref s.heap.objs.size, upd H s.heap.objs.size (.lst (xs ++ ys)), I.laid (a := s.heap.objs.size) (o := .lst (xs ++ ys)) (t' := s.toks) (fun _ _ q => Heap.get?_push_of_some _ q) (Nat.le_refl _) ⟨by rw [List.length_append]; exact hz, vs ++ us, 0, r1.append r2, Heap.get?_push_size _ rfl⟩, rfl, h _ n⟩
/-- a list that is read, so many times -/
theorem q_times (l : Addr) (its : Array Value) (n : Nat) (d : Option Addr) (sl : Array (Option Value)) (k : Int) (t : Tok) (c0 : ¬ (!Builtin.List.listFitsIndex k) = true) (c1 : ¬ its.size * k.toNat > (2 ^ 63 - 1) / 8) (c2 : ¬ Builtin.List.listTooLong (its.size * k.toNat) = true) :
    Meets (Builtin.«list.__mul__» ⟨[.ref l, .int k t], []⟩) (fun _ R s => s.heap.get? l = some ⟨.type "list", d, .seq its n, sl⟩ ∧
      R (.ok (.ret (.ref s.heap.objs.size))) { s with heap := s.heap.push { cls := .type "list", data := .seq (List.foldl (fun a b => a ++ b) #[] (List.replicate (if its.isEmpty = true then 0 else k.toNat) its)) }, toks := s.toks }) := by
  refine .of_wp fun prog w A R s h => ?_
  obtain ⟨hp, gg, dr, tk, os⟩ := s
  obtain ⟨hl, h⟩ := h
  have fits := AutoListH.joined_fits c2
  wp_walk
  refine wpAny_ite_false (decide_eq_false (Nat.not_lt.mpr fits)) ?_
  wp_walk
  exact ⟨_, rfl, h⟩
theorem q_rtimes (k : Int) (t : Tok) (l : Addr) (its : Array Value) (n : Nat) (d : Option Addr) (sl : Array (Option Value)) :
    Meets (Builtin.«int.__rmul__» ⟨[.int k t, .ref l], []⟩) (fun _ R s => s.heap.get? l = some ⟨.type "list", d, .seq its n, sl⟩ ∧ R (.ok (.ret Value.notImplemented)) s) := by
  refine .of_wp fun prog w A R s h => ?_
  obtain ⟨hp, gg, dr, tk, os⟩ := s
  obtain ⟨hl, h⟩ := h
  wp_walk
  exact ⟨_, rfl, h⟩
theorem rep_run {pins : List (Addr × Obj)} {s : Shared} {σ : L2.St} {a : Addr} {k : Int} {t : Tok} {xs : List V} (I : Inv X pins σ H s) (ha : SqL X.K H a xs) (h1 : -(2 ^ 63) ≤ k) (h2 : k < 2 ^ 63) (hz : xs.length * k.toNat ≤ sizeLine)
    (h : ∀ p, H p = none → Q (.ref p) (upd H p (.lst (List.replicate k.toNat xs).flatten))) :
    wpAny (model X.prog X.w) X.A (binaryOp .Mult (.ref a) (.int k t)) (EP X pins σ Q) X.xe s := by
  obtain ⟨vs, r1, p1, _⟩ := I.list ha
  obtain ⟨o1, n1, g1, c1, d1, q1⟩ := p1
  have l1 := r1.length
  obtain ⟨cl1, dd1, dt1, sl1⟩ := o1
  simp only at c1 d1 q1
  subst c1 d1 q1
  have hlen : vs.toArray.size * k.toNat ≤ sizeLine := by rw [List.size_toArray, ← l1]; exact hz
  have hcap : ¬ vs.toArray.size * k.toNat > (2 ^ 63 - 1) / 8 := by
    have : (sizeLine : Nat) ≤ (2 ^ 63 - 1) / 8 := by decide
    omega
  have hfit : ¬ (!Builtin.List.listFitsIndex k) = true := by rw [fitsIndex_both h1 h2]; exact Bool.false_ne_true
  have hlong : ¬ Builtin.List.listTooLong (vs.toArray.size * k.toNat) = true := by rw [notLongL hlen]; exact Bool.false_ne_true
  have same : List.foldl (fun a b => a ++ b) #[] (List.replicate (if vs.toArray.isEmpty = true then 0 else k.toNat) vs.toArray) = (List.replicate k.toNat vs).flatten.toArray := by
    have f0 : ∀ m : Nat, List.foldl (fun a b => a ++ b) #[] (List.replicate m vs.toArray) = (List.replicate m vs).flatten.toArray := fun m => by
      have z := L2.foldl_rep vs m []
      rw [List.nil_append] at z
      exact z
    rw [f0]
    cases vs with
    | nil => simp
    | cons _ _ => rw [if_neg (by simp)]
  refine wpAny_binaryOp_repeat_ref (T := "list") (U := "int") (by decide) ⟨_, g1, rfl⟩ (fun s' => typeIs_int s' k t) noFill_list_mul PySem.F.fills_int_mul PySem.F.slot_int_rmul repeat_list PySem.F.slot_int_index.lookup
    (call_meets PySem.F.slot_int_rmul (typeIs_int s k t) PySem.F.entry_int_rmul (PySem.F.args_int_rmul_2 _ _) (q_rtimes k t a vs.toArray n1 _ _)
      ⟨g1, rfl, ⟨_, g1, rfl⟩, call_meets PySem.F.slot_list_mul ⟨_, g1, rfl⟩ PySem.F.entry_list_mul (PySem.F.args_list_mul_2 _ _) (q_times a vs.toArray n1 _ _ k t hfit hcap hlong) ⟨g1, ?_⟩⟩)
  rw [same]
  have n : H s.heap.objs.size = none := I.hok.fresh (Nat.le_refl _)
  refine ⟨.ref s.heap.objs.size, upd H s.heap.objs.size (.lst (List.replicate k.toNat xs).flatten), I.laid (a := s.heap.objs.size) (o := .lst (List.replicate k.toNat xs).flatten) (t' := s.toks) (fun _ _ q => Heap.get?_push_of_some _ q) (Nat.le_refl _) ⟨?_, (List.replicate k.toNat vs).flatten, 0, r1.rep k.toNat, Heap.get?_push_size _ rfl⟩, rfl, h _ n⟩
  rw [PyProof.Rows.lm_len_rep_flat, Nat.mul_comm]
  exact hz
theorem RelDs.rep {K : PySem.W.Frag} {S : Addr → Prop} {M : Mm} {H : Hp} {ds : List Dt} {vs : List V} (r : RelDs K S M H ds vs) : ∀ n : Nat, RelDs K S M H (List.replicate n ds).flatten (List.replicate n vs).flatten
  | 0 => .nil
  | n + 1 => by
    rw [List.replicate_succ, List.replicate_succ, List.flatten_cons, List.flatten_cons]
    exact r.append (RelDs.rep r n)
theorem opr_bin (o : BO) : OpR X (binaryOp (opOf o)) (rBin X.K cls o) := by
  intro pins s σ H x y v u Q I rx ry h
  obtain ⟨S, M, a, b, q, ra, rb, hh, k, f⟩ := h
  unfold binD at k
  split at k
  · cases ra; cases rb; exact op_add pins s σ H _ _ v u Q I rx ry ⟨_, _, rfl, rfl, f.here hh (.int _) k⟩
  · cases ra; cases rb; exact op_add_str pins s σ H _ _ v u Q I rx ry ⟨_, _, rfl, rfl, k.1, f.here hh (.str _) k.2⟩
  · cases ra; cases rb; exact op_sub pins s σ H _ _ v u Q I rx ry ⟨_, _, rfl, rfl, f.here hh (.int _) k⟩
  · cases ra
    cases rb
    obtain ⟨tk, rfl⟩ := rx
    cases (show u = Value.bool _ from ry)
    exact PySem.IntBool.sub_int_bool ⟨.int _, H, I.tok _, ⟨_, rfl⟩, f.here hh (.int _) k⟩
  · cases ra
    cases rb
    obtain ⟨tk, rfl⟩ := ry
    cases (show v = Value.bool _ from rx)
    exact PySem.IntBool.sub_bool_int ⟨.int _, H, I.tok _, ⟨_, rfl⟩, f.here hh (.int _) k⟩
  · cases ra
    cases rb
    obtain ⟨tk, rfl⟩ := ry
    cases (show v = Value.bool _ from rx)
    exact PySem.IntBool.add_bool_int ⟨.int _, H, I.tok _, ⟨_, rfl⟩, f.here hh (.int _) k⟩
  · cases ra; cases rb
    rcases k with ⟨c | c, k⟩
    · exact op_mul pins s σ H _ _ v u Q I rx ry ⟨_, _, rfl, rfl, c, f.here hh (.int _) k⟩
    · exact op_mulW pins s σ H _ _ v u Q I rx ry ⟨_, _, rfl, rfl, c, f.here hh (.int _) k⟩
  · cases ra; cases rb; exact op_fdivW pins s σ H _ _ v u Q I rx ry ⟨_, _, rfl, rfl, k.1, f.here hh (.int _) k.2⟩
  · cases ra; cases rb; exact op_mod pins s σ H _ _ v u Q I rx ry ⟨_, _, rfl, rfl, k.1, f.here hh (.int _) k.2⟩
  · cases ra; cases rb; exact op_pow pins s σ H _ _ v u Q I rx ry ⟨_, _, rfl, rfl, k.1, f.here hh (.int _) k.2⟩
  · cases ra; cases rb; exact op_xor pins s σ H _ _ v u Q I rx ry ⟨_, _, rfl, rfl, f.here hh (.int _) k⟩
  · obtain ⟨p1, xs, rfl, h1, r1⟩ := ra.ofLst
    obtain ⟨p2, ys, rfl, h2, r2⟩ := rb.ofLst
    obtain rfl : v = Value.ref p1 := rx
    obtain rfl : u = Value.ref p2 := ry
    refine cat_run I h1 h2 (by rw [← r1.length, ← r2.length]; exact k.1) fun p n => ?_
    exact f.at k.2 (.lst (hh.none n) (hh.noS n) (.inl upd_same) ((r1.append r2).keep (Keeps.newH n))) (hh.newH n) (Keeps.newH n)
  · obtain ⟨p1, xs, rfl, h1, r1⟩ := ra.ofLst
    cases rb
    obtain rfl : v = Value.ref p1 := rx
    obtain ⟨t, rfl⟩ := ry
    refine rep_run I h1 k.1 k.2.1 (by rw [← r1.length]; exact k.2.2.1) fun p n => ?_
    exact f.at k.2.2.2 (.lst (hh.none n) (hh.noS n) (.inl upd_same) ((r1.rep _).keep (Keeps.newH n))) (hh.newH n) (Keeps.newH n)
  · obtain ⟨ds, es, e1, e2, hl, k⟩ := k
    obtain ⟨p1, xs, rfl, h1, r1⟩ := seqL_rel hh ra e1
    obtain ⟨p2, ys, rfl, h2, r2⟩ := seqL_rel hh rb e2
    obtain rfl : v = Value.ref p1 := rx
    obtain rfl : u = Value.ref p2 := ry
    exact cat_run I h1 h2 (by rw [← r1.length, ← r2.length]; exact hl) (f.newL hh (r1.append r2) k)
  · obtain ⟨ds, es, e1, e2, hl, k⟩ := k
    obtain ⟨p1, xs, rfl, h1, r1⟩ := seqL_rel hh ra e1
    obtain ⟨p2, ys, rfl, h2, r2⟩ := seqL_rel hh rb e2
    obtain rfl : v = Value.ref p1 := rx
    obtain rfl : u = Value.ref p2 := ry
    refine cat_run I h1 h2 (by rw [← r1.length, ← r2.length]; exact hl) fun p n => ?_
    exact f.at k (.lst (hh.none n) (hh.noS n) (.inl upd_same) ((r1.append r2).keep (Keeps.newH n))) (hh.newH n) (Keeps.newH n)
  · exact k.elim

/-! ### comparisons -/
theorem flatD_rel {d : Dt} {x w : V} (r : RelD K S M H d x) (e : flatD d = some w) : x = w ∧ flatV x = true := by
  cases d <;> first | (cases e; cases r; exact ⟨rfl, rfl⟩) | cases e
theorem flatDs_rel : ∀ {ds : List Dt} {xs ws : List V}, RelDs K S M H ds xs → flatDs ds = some ws → xs = ws ∧ xs.all flatV = true
  | _, _, _, .nil, e => by cases e; exact ⟨rfl, rfl⟩
  | _, _, _, .cons (d := d) (ds := ds) r t, e => by
    unfold flatDs at e
    cases h1 : flatD d with
    | none => rw [h1] at e; cases e
    | some v =>
      cases h2 : flatDs ds with
      | none => rw [h1, h2] at e; cases e
      | some vs =>
        rw [h1, h2] at e
        cases e
        obtain ⟨rfl, f1⟩ := flatD_rel r h1
        obtain ⟨rfl, f2⟩ := flatDs_rel t h2
        exact ⟨rfl, by rw [List.all_cons, f1, f2]; rfl⟩
theorem keyV {d : Dt} {x : V} {k : Key} (r : RelD K S M H d x) (e : keyOf d = some k) : x = kV k := by
  cases d <;> first | (cases e; cases r; rfl) | cases e
theorem exceptKD (k : Key) : ∀ {kvs : List (Key × Dt)} {ks : List (Key × V)}, Paired (fun (p : Key × Dt) (q : Key × V) => p.1 = q.1 ∧ RelD K S M H p.2 q.2) kvs ks →
    Paired (fun (p : Key × Dt) (q : Key × V) => p.1 = q.1 ∧ RelD K S M H p.2 q.2) (exceptD kvs k) (dropK ks k)
  | _, _, .nil => .nil
  | _, _, .cons (a := a) (b := b) h t => by
    unfold exceptD dropK
    rw [List.filter_cons, List.filter_cons, ← h.1]
    split
    · exact .cons h (exceptKD k t)
    · exact exceptKD k t
theorem valKD : ∀ {kvs : List (Key × Dt)} {ks : List (Key × V)} (k : Key), Paired (fun (p : Key × Dt) (q : Key × V) => p.1 = q.1 ∧ RelD K S M H p.2 q.2) kvs ks →
    (valD kvs k = none ∧ valV ks k = none) ∨ ∃ d v, valD kvs k = some d ∧ valV ks k = some v ∧ RelD K S M H d v
  | _, _, k, .nil => .inl ⟨rfl, rfl⟩
  | _, _, k, .cons (a := p) (b := p') r t => by
    obtain ⟨j, d⟩ := p
    obtain ⟨j', v⟩ := p'
    obtain ⟨e, rd⟩ := r
    dsimp only at e rd
    subst e
    by_cases h : j = k
    · refine .inr ⟨d, v, ?_, valV_pos h, rd⟩
      unfold valD
      rw [List.find?_cons_of_pos (by simp [h])]
      rfl
    · have hd : ∀ l : List (Key × Dt), valD ((j, d) :: l) k = valD l k := fun l => by
        unfold valD
        rw [List.find?_cons_of_neg (by simp [h])]
      rw [hd, valV_neg h]
      exact valKD k t
theorem isSomeKD {kvs : List (Key × Dt)} {ks : List (Key × V)} (k : Key) (r : Paired (fun (p : Key × Dt) (q : Key × V) => p.1 = q.1 ∧ RelD K S M H p.2 q.2) kvs ks) : (valV ks k).isSome = (valD kvs k).isSome := by
  rcases valKD k r with ⟨h1, h2⟩ | ⟨d, v, h1, h2, _⟩
  · rw [h1, h2]; rfl
  · rw [h1, h2]; rfl
mutual
theorem dp_of : ∀ {d : Dt} {v : V} {p : PyData}, RelD K S M H d v → pyD d = some p → Dp K H v p
  | _, _, _, .non, e => by cases e; exact .non
  | _, _, _, .bl b, e => by cases e; exact .bl b
  | _, _, _, .int b, e => by cases e; exact .int b
  | _, _, _, .str b, e => by cases e; exact .str b
  | _, _, _, .tup (ds := ds) h r, e => by
    unfold pyD at e
    cases q : pyDs ds with
    | none => rw [q] at e; cases e
    | some l => rw [q] at e; cases e; exact .tup h (dpAll_of r q)
  | _, _, _, .lst (ds := ds) n ns h r, e => by
    unfold pyD at e
    cases q : pyDs ds with
    | none => rw [q] at e; cases e
    | some l => rw [q] at e; cases e; exact .lst (.inl h) (dpAll_of r q)
  | _, _, _, .lstK (ds := ds) h r, e => by
    unfold pyD at e
    cases q : pyDs ds with
    | none => rw [q] at e; cases e
    | some l => rw [q] at e; cases e; exact .lst (.inr h) (dpAll_of r q)
  | _, _, _, .ref a, e => by cases e
theorem dpAll_of : ∀ {ds : List Dt} {vs : List V} {ps : List PyData}, RelDs K S M H ds vs → pyDs ds = some ps → DpAll K H vs ps
  | _, _, _, .nil, e => by cases e; exact .nil
  | _, _, _, .cons (d := d) (ds := ds) r t, e => by
    unfold pyDs at e
    cases h1 : pyD d with
    | none => rw [h1] at e; cases e
    | some p =>
      cases h2 : pyDs ds with
      | none => rw [h1, h2] at e; cases e
      | some l =>
        rw [h1, h2] at e
        cases e
        exact .cons (dp_of r h1) (dpAll_of t h2)
end
theorem dpM_of {d : Dt} {v : V} {p : PyData} (h : Hold K S cls M H) (r : RelD K S M H d v) (e : pyM M d = some p) : Dp K H v p := by
  cases d with
  | ref a =>
    cases r
    have e' : (match M a with
      | some (.lst ds) => (pyDs ds).map PyData.list
      | _ => none) = some p := e
    cases em : M a with
    | none => simp [em] at e'
    | some o =>
      cases o with
      | lst ds =>
        simp only [em] at e'
        obtain ⟨xs, h1, h2⟩ := h _ _ em
        cases q2 : pyDs ds with
        | none => rw [q2] at e'; cases e'
        | some l => rw [q2] at e'; cases e'; exact .lst (.inl (.inl h1)) (dpAll_of h2 q2)
      | _ => simp [em] at e'
  | _ => exact dp_of r e
def copOf : CO → CmpOp
  | .eq => .Eq | .ne => .NotEq | .lt => .Lt | .le => .LtE | .gt => .Gt | .ge => .GtE | .is_ => .Is | .isnot => .IsNot | .in_ => .In | .notin => .NotIn | .inp => .In | .notinp => .NotIn | .neT => .NotEq
def rCmp (K : PySem.W.Frag) (cls : Cl) (o : CO) : R2 := fun x y H Q => ∃ S M u v k, RelD K S M H u x ∧ RelD K S M H v y ∧ Hold K S cls M H ∧ cmpD o u v M = some k ∧ Q (.bl k) H
theorem eqD_run (neg : Bool) (hu : X.A.units + 64 < cLine) {pins : List (Addr × Obj)} {s : Shared} {σ : L2.St} {H : Hp} {x y : V} {v u : Value} {Q : VK} {a b : Dt} {k : Bool} (I : Inv X pins σ H s) (rx : RelV x v) (ry : RelV y u)
    (ra : RelD X.K S M H a x) (rb : RelD X.K S M H b y) (hh : Hold X.K S cls M H) (e : eqD M a b = some k) (q : Q (.bl (if neg then !k else k)) H) :
    wpAny (model X.prog X.w) X.A (compareOp (if neg then .NotEq else .Eq) v u) (EP X pins σ Q) X.xe s := by
  unfold eqD at e
  have sc : ∀ (x y : V), scal x y = true → k = decide (x = y) → RelV x v → RelV y u → wpAny (model X.prog X.w) X.A (compareOp (if neg then .NotEq else .Eq) v u) (EP X pins σ Q) X.xe s := fun x y hs e rx ry => by
    cases neg with
    | false => exact op_eq pins s σ H x y v u Q I rx ry ⟨hs, by rw [e] at q; exact q⟩
    | true => exact op_ne pins s σ H x y v u Q I rx ry ⟨hs, by rw [e] at q; exact q⟩
  split at e
  · rename_i i j
    cases ra; cases rb
    refine sc (.int i) (.int j) rfl ?_ rx ry
    rw [dec_int, Bool.beq_eq_decide_eq]
    exact (Option.some.inj e).symm
  · rename_i i j
    cases ra; cases rb
    refine sc (.str i) (.str j) rfl ?_ rx ry
    rw [dec_str, Bool.beq_eq_decide_eq]
    exact (Option.some.inj e).symm
  · rename_i i j
    cases ra; cases rb
    refine sc (.bl i) (.bl j) rfl ?_ rx ry
    rw [dec_bl, Bool.beq_eq_decide_eq]
    exact (Option.some.inj e).symm
  · split at e
    · rename_i d1 d2 e1 e2
      split at e
      · rename_i hs
        cases e
        cases neg with
        | false => exact op_eqD hu pins s σ H x y v u Q I rx ry ⟨_, _, dpM_of hh ra e1, dpM_of hh rb e2, hs.1, hs.2, q⟩
        | true => exact op_neD hu pins s σ H x y v u Q I rx ry ⟨_, _, dpM_of hh ra e1, dpM_of hh rb e2, hs.1, hs.2, q⟩
      · cases e
    · cases e
theorem inD_run (neg : Bool) (hu : X.A.units + 1 < cLine) {pins : List (Addr × Obj)} {s : Shared} {σ : L2.St} {H : Hp} {x y : V} {v u : Value} {Q : VK} {a b : Dt} {k : Bool} (I : Inv X pins σ H s) (rx : RelV x v) (ry : RelV y u)
    (ra : RelD X.K S M H a x) (rb : RelD X.K S M H b y) (hh : Hold X.K S cls M H) (e : inD M a b = some k) (q : Q (.bl (if neg then !k else k)) H) :
    wpAny (model X.prog X.w) X.A (compareOp (if neg then .NotIn else .In) v u) (EP X pins σ Q) X.xe s := by
  have seq : ∀ (p : Addr) (xs : List V) (ds : List Dt), y = .ref p → (SqL X.K H p xs ∨ SqT X.K H p xs) → RelDs X.K S M H ds xs → ((flatD a).bind fun v => (flatDs ds).map fun vs => inV v vs) = some k →
      wpAny (model X.prog X.w) X.A (compareOp (if neg then .NotIn else .In) v u) (EP X pins σ Q) X.xe s := fun p xs ds ey hs r e => by
    cases h1 : flatD a with
    | none => rw [h1] at e; cases e
    | some w =>
      cases h2 : flatDs ds with
      | none => rw [h1, h2] at e; cases e
      | some ws =>
        rw [h1, h2] at e
        cases e
        obtain ⟨rfl, f1⟩ := flatD_rel ra h1
        obtain ⟨rfl, f2⟩ := flatDs_rel r h2
        cases neg with
        | false => exact op_in_seq pins s σ H _ _ v u Q I rx ry ⟨p, _, ey, hs, f1, f2, q⟩
        | true => exact op_notIn_seq pins s σ H _ _ v u Q I rx ry ⟨p, _, ey, hs, f1, f2, q⟩
  unfold inD at e
  split at e
  · obtain ⟨p, xs, ey, hs, r⟩ := rb.ofTup
    exact seq p xs _ ey (.inr hs) r e
  · obtain ⟨p, xs, ey, hs, r⟩ := rb.ofLst
    exact seq p xs _ ey (.inl hs) r e
  · rename_i p
    cases rb
    split at e
    · rename_i ds em
      obtain ⟨xs, h1, r⟩ := hh _ _ em
      exact seq p xs _ rfl (.inl (.inl (.inl h1))) r e
    · rename_i kvs em
      obtain ⟨ks, h1, r⟩ := hh _ _ em
      cases hk : keyOf a with
      | none => rw [hk] at e; cases e
      | some key =>
        rw [hk] at e
        cases e
        obtain rfl := keyV ra hk
        dsimp only at q
        rw [← isSomeKD key r] at q
        obtain rfl : u = Value.ref p := ry
        cases neg with
        | false => exact d_in hu I (DGet.k (k := key) h1) rx fun s' I' => ⟨.bl _, H, I', rfl, q⟩
        | true => exact d_notIn hu I (DGet.k (k := key) h1) rx fun s' I' => ⟨.bl _, H, I', rfl, q⟩
    · cases e
  · cases e
theorem inp_run (neg : Bool) (hu : X.A.units + 64 < cLine) {pins : List (Addr × Obj)} {s : Shared} {σ : L2.St} {H : Hp} {x y : V} {v u : Value} {Q : VK} {a : Dt} {ds : List Dt} {k : Bool} (I : Inv X pins σ H s) (rx : RelV x v) (ry : RelV y u)
    (ra : RelD X.K S M H a x) (rb : RelD X.K S M H (.tup ds) y) (hh : Hold X.K S cls M H) (e : inpD M a ds = some k) (q : Q (.bl (if neg then !k else k)) H) :
    wpAny (model X.prog X.w) X.A (compareOp (if neg then .NotIn else .In) v u) (EP X pins σ Q) X.xe s := by
  unfold inpD at e
  split at e
  · rename_i d es e1 e2
    split at e
    · rename_i hs
      cases e
      obtain ⟨h1, h2, h3⟩ := hs
      have dy : Dp X.K H y (.tuple es) := by
        obtain ⟨p, xs, rfl, hq, r⟩ := rb.ofTup
        exact .tup hq (dpAll_of r e2)
      obtain ⟨as, r1⟩ := Dp.reads I d x v (dpM_of hh ra e1) rx
      obtain ⟨bs, r2⟩ := Dp.reads I (.tuple es) y u dy ry
      have room : X.A.units + 1 + min (PyData.depthAll es) d.depth < cLine := by have := Nat.min_le_right (PyData.depthAll es) d.depth; omega
      cases neg with
      | false => exact PySem.SeqAt.in_tuple_data r2 r1 h2 h1 room ⟨.bl _, H, I, rfl, q⟩
      | true => exact PySem.SeqAt.notIn_tuple_data r2 r1 h2 h1 room ⟨.bl _, H, I, rfl, q⟩
    · cases e
  · cases e
theorem eqW_run {pins : List (Addr × Obj)} {s : Shared} {σ : L2.St} {H : Hp} {x y : V} {v u : Value} {a b : Dt} {k : Bool} {A : Around} (hu : A.units + 64 < cLine) (I : Inv X pins σ H s) (rx : RelV x v) (ry : RelV y u)
    (ra : RelD X.K S M H a x) (rb : RelD X.K S M H b y) (e : eqW a b = some k) : SeqAt.EqIn X.prog X.w A s v u k := by
  unfold eqW at e
  split at e
  · rename_i d1 d2 h1 h2
    split at e
    · rename_i hs
      cases e
      obtain ⟨as, r1⟩ := Dp.reads I d1 x v (dp_of ra h1) rx
      obtain ⟨bs, r2⟩ := Dp.reads I d2 y u (dp_of rb h2) ry
      exact (SeqAt.eqAt_reads d1 d2 A s v u as bs r1 r2 (SeqAt.canLay_of_shaped hs.1) (SeqAt.canLay_of_shaped hs.2) (SeqAt.room_of_shaped hs.1 hu)).inModel _ _
    · cases e
  · cases e
theorem eqKs_run {pins : List (Addr × Obj)} {s : Shared} {σ : L2.St} {H : Hp} {A : Around} (hu : A.units + 64 < cLine) (I : Inv X pins σ H s) {ls : List (Key × Dt)} {lv : List (Key × V)} {vb : List (Key × Value)}
    (pl : Paired (fun (p : Key × Dt) (q : Key × V) => p.1 = q.1 ∧ RelD X.K S M H p.2 q.2) ls lv) (rb : KV lv vb) : ∀ {ks : List (Key × Dt)} {kv : List (Key × V)} {va : List (Key × Value)} {r : Bool},
    Paired (fun (p : Key × Dt) (q : Key × V) => p.1 = q.1 ∧ RelD X.K S M H p.2 q.2) ks kv → KV kv va → eqKs ls ks = some r → PySem.W.KeqHitsIn X.prog X.w A s vb va r := by
  intro ks kv va r pk
  induction pk generalizing va r with
  | nil =>
    intro ra e
    cases ra
    cases e
    exact .nil
  | @cons p q ks kv h t ih =>
    intro ra e
    obtain ⟨key, d⟩ := p
    obtain ⟨key', x⟩ := q
    obtain ⟨h1, h2⟩ := h
    dsimp only at h1 h2
    subst h1
    cases ra with
    | @cons _ z _ va h3 rt =>
      obtain ⟨key', v⟩ := z
      obtain ⟨h3, h4⟩ := h3
      have h3 : key = key' := h3
      subst h3
      have h4 : RelV x v := h4
      have rl := rb.val key
      unfold eqKs at e
      rcases valKD key pl with ⟨n1, n2⟩ | ⟨u, uv, n1, n2, n3⟩
      · rw [n1] at e
        cases e
        rw [n2] at rl
        exact .miss (RelO.none_of rl)
      · rw [n1] at e
        rw [n2] at rl
        obtain ⟨uu, hu1, hu2⟩ := rl.some_of
        dsimp only at e
        split at e
        · rename_i a b ea eb
          cases e
          exact .hit hu1 (eqW_run hu I h4 hu2 h2 n3 ea) (ih rt eb)
        · cases e
theorem eqI_run {pins : List (Addr × Obj)} {s : Shared} {σ : L2.St} {H : Hp} {x y : V} {v u : Value} {a b : Dt} {k : Bool} {A : Around} (hu : A.units + 66 < cLine) (I : Inv X pins σ H s) (rx : RelV x v) (ry : RelV y u)
    (ra : RelD X.K S M H a x) (rb : RelD X.K S M H b y) (hh : Hold X.K S cls M H) (e : eqI M a b = some k) : SeqAt.EqIn X.prog X.w A s v u k := by
  unfold eqI at e
  split at e
  · rename_i p r
    cases ra
    cases rb
    cases rx
    cases ry
    split at e
    · rename_i hpr
      subst hpr
      cases e
      exact (SeqAt.EqAt.same _).inModel _ _
    · rename_i hpr
      split at e
      · rename_i ks ls e1 e2
        obtain ⟨kv, a1, a2⟩ := hh _ _ e1
        obtain ⟨lv, b1, b2⟩ := hh _ _ e2
        cases q : eqKs ls ks with
        | none => rw [q] at e; cases e
        | some z =>
          rw [q] at e
          cases e
          obtain ⟨_, sa, va, ra, da⟩ := dk_of I.hok a1
          obtain ⟨_, sb, vb, rb, db⟩ := dk_of I.hok b1
          have la : ks.length = va.length := (Paired.length a2).trans (KV.length ra)
          have lb : ls.length = vb.length := (Paired.length b2).trans (KV.length rb)
          refine SeqAt.EqIn.of_refs hpr fun E Q hq => PySem.W.keq_eqIn sa sb da db (by omega) (fun _ => eqKs_run (A := A.in1) (by show A.units + 1 + 64 < cLine; omega) I b2 rb a2 ra q) ?_
          rw [← la, ← lb]
          exact hq
      · cases e
  · exact eqW_run (by omega) I rx ry ra rb e
theorem eqIs_run {pins : List (Addr × Obj)} {s : Shared} {σ : L2.St} {H : Hp} {A : Around} (hu : A.units + 66 < cLine) (I : Inv X pins σ H s) (hh : Hold X.K S cls M H) : ∀ {xs ys : List Dt} {vs us : List V} {va ua : List Value} {k : Bool},
    RelDs X.K S M H xs vs → RelDs X.K S M H ys us → Vals vs va → Vals us ua → eqIs M xs ys = some k → SeqAt.EqL X.prog X.w A s va ua k := by
  intro xs
  induction xs with
  | nil =>
    intro ys vs us va ua k r1 r2 v1 v2 e
    cases ys with
    | cons _ _ => cases e
    | nil => cases r1; cases r2; cases v1; cases v2; cases e; exact .nil
  | cons x xs ih =>
    intro ys vs us va ua k r1 r2 v1 v2 e
    cases ys with
    | nil => cases e
    | cons y ys =>
      cases r1 with
      | cons r1 t1 =>
        cases r2 with
        | cons r2 t2 =>
          cases v1 with
          | cons v1 w1 =>
            cases v2 with
            | cons v2 w2 =>
              unfold eqIs at e
              split at e
              · rename_i a b ea eb
                cases e
                exact .cons (eqI_run hu I v1 v2 r1 r2 hh ea) (ih t1 t2 w1 w2 eb)
              · cases e
theorem neT_run (hu : X.A.units + 70 < cLine) {pins : List (Addr × Obj)} {s : Shared} {σ : L2.St} {H : Hp} {x y : V} {v u : Value} {Q : VK} {xs ys : List Dt} {k : Bool} (I : Inv X pins σ H s) (rx : RelV x v) (ry : RelV y u)
    (ra : RelD X.K S M H (.tup xs) x) (rb : RelD X.K S M H (.tup ys) y) (hh : Hold X.K S cls M H) (e : eqIs M xs ys = some k) (q : Q (.bl (!k)) H) :
    wpAny (model X.prog X.w) X.A (compareOp .NotEq v u) (EP X pins σ Q) X.xe s := by
  obtain ⟨p, vs, rfl, h1, r1⟩ := ra.ofTup
  obtain ⟨p2, us, rfl, h2, r2⟩ := rb.ofTup
  cases rx
  cases ry
  obtain ⟨va, v1, t1, _⟩ := I.tuple h1
  obtain ⟨ua, v2, t2, _⟩ := I.tuple h2
  exact SeqAt.rc_neL t1 t2 (by omega) (eqIs_run (A := X.A.in1) (by show X.A.units + 1 + 66 < cLine; omega) I hh r1 r2 v1 v2 e) ⟨.bl _, H, I, rfl, q⟩
/-- max(d, default=i) -/
def rMaxO (K : PySem.W.Frag) (cls : Cl) : List V → List V → Hp → VK → Prop := fun xs zs H Q => ∃ S M x z u d q, xs = [x] ∧ zs = [z] ∧ RelD K S M H u x ∧ RelD K S M H d z ∧ Hold K S cls M H ∧ maxOD u d M q ∧ Fin K S cls M H q Q
theorem crk_max (hc : X.calm = true) : CallRK X (.builtin "max") [("default" : Str)] (rMaxO X.K cls) := by
  intro pins s σ H xs zs us ws Q I rx rz h
  obtain ⟨S, M, x, z, u, d, q, rfl, rfl, ru, rd, hh, ⟨p, kvs, ns, i, rfl, rfl, em, hkeys, qq⟩, fin⟩ := h
  cases ru
  cases rd
  obtain ⟨ks, hp, pr⟩ := hh _ _ em
  match us, ws, rx, rz with
  | [_], [_], .cons rx .nil, .cons rz .nil =>
    cases rx
    obtain ⟨tz, rfl⟩ := (show ∃ t, _ = Value.int i t from rz)
    obtain ⟨lsz, sm, va, rv, da⟩ := dk_of I.hok hp
    obtain ⟨ep, dat⟩ := da.dictAt
    obtain ⟨ob, es, ho, _⟩ := id dat
    have below : p < s.heap.objs.size := Heap.lt_size ho
    have keys : va.map (·.1) = ns.map Sum.inl := by
      rw [← KV.keys rv, ← hkeys]
      clear hp hkeys rv em lsz
      induction pr with
      | nil => rfl
      | cons h _ ih => rw [List.map_cons, List.map_cons, ih, h.1]
    have many : va.length = ns.length := by
      have := congrArg List.length keys
      rwa [List.length_map, List.length_map] at this
    have each : ∀ (j : Nat) (v : Value), (∃ k x, va[j]? = some (k, x) ∧ (mixKind X.prog X.w).is k v = true) → ∃ t, v = Value.int (ns.getD j 0) t := by
      rintro j v ⟨k, x, hk, hv⟩
      have e1 : (va.map (·.1))[j]? = some k := by rw [List.getElem?_map, hk]; rfl
      rw [keys, List.getElem?_map] at e1
      obtain ⟨n, hn, rfl⟩ := Option.map_eq_some_iff.mp e1
      obtain ⟨t, ht⟩ := Value.isInt_shape (k := n) (v := v) hv
      exact ⟨t, by rw [ht, List.getD_eq_getElem?_getD, hn]; rfl⟩
    have out : ∀ (m : Int) (t : Nat) (v : Value) (s' : Shared), v = .int m t → ((ns = [] ∧ m = i) ∨ (m ∈ ns ∧ ∀ j ∈ ns, j ≤ m)) → (∀ b o, s.heap.get? b = some o → s'.heap.get? b = some o) → s'.gens = s.gens → s'.drawn = s.drawn → s'.os = s.os → EP X pins σ Q v s' := by
      rintro m t v ⟨h', g', d', t', o'⟩ rfl hm keep rfl rfl rfl
      exact ⟨.int m, H, I.kept (t' := t') keep, ⟨t, rfl⟩, fin.here hh (.int m) (qq m hm)⟩
    show wpAny _ _ (call (.builtin "max") [.ref p] [(Str.ofString "default", .int i tz)]) _ _ s
    refine call_max_walkD (wpAny_pyIter_dict (knd := mixKind X.prog X.w) sm dat ?_)
    have fresh : ∀ b o, s.heap.get? b = some o → b ≠ s.heap.objs.size := fun b o e z => by
      have lt := Heap.lt_size e
      rw [z] at lt
      exact absurd lt (Nat.lt_irrefl _)
    refine ⟨_, _, _, _, _, _, _, s.heap, _, rfl, (Walks.dictKeys (knd := mixKind X.prog X.w) (A := X.A.in1) (I.ok.hd hc) s.heap.objs.size p (Nat.ne_of_lt below) va ep).toS,
      ⟨⟨_, Heap.get?_push_size _ rfl, rfl, rfl⟩, dat.keep fun b u e => Heap.get?_push_of_some _ e⟩, fun b hb => ?_, fun b o e hb => fresh b o e (List.mem_singleton.mp hb), fun b o e => Heap.get?_push_of_some _ e, fun h0 s' mv => ?_, fun h0 => ⟨fun i j vi vj s Q E _ => CmpOf.ints_gt (fun i => ns.getD i 0) each i j vi vj s Q E, fun v s' hP mv => ?_⟩⟩
    · show b < (s.heap.push _).objs.size
      rw [Heap.size_push]
      rcases List.mem_cons.mp hb with e | hb
      · rw [e]; exact Nat.lt_succ_self _
      · rw [List.mem_singleton.mp hb]; exact Nat.lt_succ_of_lt below
    · refine out i tz _ s' rfl (.inl ⟨List.length_eq_zero_iff.mp (by omega), rfl⟩) (fun b o e => mv.heap b o (fun hb => fresh b o e (List.mem_singleton.mp hb)) (Heap.get?_push_of_some _ e)) mv.gens mv.drawn mv.os
    · obtain ⟨t, rfl⟩ := each _ v hP
      obtain ⟨b1, b2⟩ := argBest_gt (fun i => ns.getD i 0) (va.length - 1)
      refine out _ t _ s' rfl (.inr ⟨?_, fun j hj => ?_⟩) (fun b o e => mv.heap b o (fun hb => fresh b o e (List.mem_singleton.mp hb)) (Heap.get?_push_of_some _ e)) mv.gens mv.drawn mv.os
      · have hb : argBest (fun i j => decide (ns.getD i 0 > ns.getD j 0)) (va.length - 1) < ns.length := by omega
        rw [List.getD_eq_getElem?_getD, List.getElem?_eq_getElem hb]
        exact List.getElem_mem hb
      · obtain ⟨n, hn, e⟩ := List.mem_iff_getElem.mp hj
        have e2 : ns.getD n 0 = j := by rw [List.getD_eq_getElem?_getD, List.getElem?_eq_getElem hn, ← e]; rfl
        rw [← e2]
        exact b2 n (by omega)
theorem opr_cmp (hu : X.A.units + 70 < cLine) (o : CO) : OpR X (compareOp (copOf o)) (rCmp X.K cls o) := by
  intro pins s σ H x y v u Q I rx ry h
  obtain ⟨S, M, a, b, k, ra, rb, hh, e, f⟩ := h
  unfold cmpD at e
  have hu1 : X.A.units + 1 < cLine := by omega
  have hu4 := hu
  have hu : X.A.units + 64 < cLine := by omega
  split at e
  · cases ra; cases rb; cases e; exact op_lt pins s σ H _ _ v u Q I rx ry ⟨_, _, rfl, rfl, f⟩
  · cases ra; cases rb; cases e; exact op_lt_str pins s σ H _ _ v u Q I rx ry ⟨_, _, rfl, rfl, f⟩
  · cases ra; cases rb; cases e; exact op_le pins s σ H _ _ v u Q I rx ry ⟨_, _, rfl, rfl, f⟩
  · cases ra; cases rb; cases e; exact op_gt pins s σ H _ _ v u Q I rx ry ⟨_, _, rfl, rfl, f⟩
  · cases ra; cases rb; cases e; exact op_ge pins s σ H _ _ v u Q I rx ry ⟨_, _, rfl, rfl, f⟩
  · exact eqD_run false hu I rx ry ra rb hh e f
  · cases h : eqD M a b with
    | none => rw [h] at e; cases e
    | some j => rw [h] at e; cases e; exact eqD_run true hu I rx ry ra rb hh h f
  · cases ra; cases rb; cases e; exact op_isN pins s σ H _ _ v u Q I rx ry ⟨rfl, f⟩
  · rename_i hn
    cases rb; cases e
    refine op_isN pins s σ H _ _ v u Q I rx ry ⟨rfl, ?_⟩
    rw [decide_eq_false (fun z => by subst z; cases ra; exact hn rfl)]
    exact f
  · cases ra; cases rb; cases e; exact op_notN pins s σ H _ _ v u Q I rx ry ⟨rfl, f⟩
  · rename_i hn
    cases rb; cases e
    refine op_notN pins s σ H _ _ v u Q I rx ry ⟨rfl, ?_⟩
    rw [decide_eq_false (fun z => by subst z; cases ra; exact hn rfl)]
    exact f
  · exact inD_run false hu1 I rx ry ra rb hh e f
  · cases h : inD M a b with
    | none => rw [h] at e; cases e
    | some j => rw [h] at e; cases e; exact inD_run true hu1 I rx ry ra rb hh h f
  · exact inp_run false hu I rx ry ra rb hh e f
  · rename_i ds
    cases h : inpD M a ds with
    | none => rw [h] at e; cases e
    | some j => rw [h] at e; cases e; exact inp_run true hu I rx ry ra rb hh h f
  · rename_i xs ys
    cases h : eqIs M xs ys with
    | none => rw [h] at e; cases e
    | some j => rw [h] at e; cases e; exact neT_run hu4 I rx ry ra rb hh h f
  · cases e
end
end Fm

/-! The engine, part 1: a dict's keys sorted, any many. -/
namespace Fm
open PySem L2 PySem.Spec PyProof.Rows
section
variable {X : Cx}
/-- sorted(d): the keys, all ints -/
def rSDI : List V → Hp → VK → Prop := fun vs H Q => ∃ (d : Addr) (kx : List (Key × V)) (is : List Int), vs = [V.ref d] ∧ Rd H d (.dK kx) ∧ kx.map (·.1) = is.map Sum.inl ∧ is.length ≤ sizeLine ∧
    ∀ (zs : List Int) (p : Addr), zs.Perm is → zs.Pairwise (· ≤ ·) → H p = none → Q (.ref p) (upd H p (.lst (zs.map V.int)))
theorem srt_dI (calm : X.calm = true) : CallR X (.builtin "sorted") rSDI := by
  rintro pins s σ H _ us Q I rel ⟨d, kx, is, rfl, rd, ek, small, fin⟩
  obtain ⟨_, rfl, rv⟩ := vals1 rel
  cases rv
  obtain ⟨_, loo, ps, rl, dd⟩ := dk_rd I.hok rd
  obtain ⟨_, at_⟩ := dd.dictAt
  have kk : ps.map (·.1) = is.map Sum.inl := rl.keys.symm.trans ek
  have ll : ps.length = is.length := by simpa using congrArg List.length kk
  refine Calls.call_function_entry kind_sorted plain_sorted entry_sorted (args_sorted1 _) ?_
  unfold Builtin.«sorted»
  refine wpAny_bind (m := checkCount "sorted" 1 1 _) (wpAny_pure ?_)
  refine wpAny_bind (PySem.W.kdu_collect (A := X.A.in1) (PySem.W.kdl_dict (knd := mixKind X.prog X.w) loo) (I.ok.hd calm) at_ (by omega) fun hp2 tk2 got keep has => ?_)
  have gl : got.toList.length = is.length := by rw [Array.length_toList, has.1, ll]
  have gi : IntsAre got.toList is := ints_each gl fun j v e => by
    obtain ⟨k, x, f1, f2⟩ := has.2 j v (by simpa using e)
    have f3 : (is.map Sum.inl : List Key)[j]? = some k := by rw [← kk, List.getElem?_map, f1]; rfl
    rw [List.getElem?_map] at f3
    obtain ⟨y, f4, rfl⟩ := Option.map_eq_some_iff.mp f3
    rcases keyIs_shape (show keyIs (Sum.inl y) v = true from f2) with ⟨i, t, g1, g2⟩ | ⟨i, t, g1, g2⟩
    · cases g1
      exact ⟨_, t, f4, g2⟩
    · cases g1
  have J : Inv X pins σ H { s with heap := hp2, toks := tk2 } := I.kept keep
  refine wpAny_bind (wpAny_newList ?_ (by have := sizeLine_eq; omega))
  have there : (hp2.push (seqObj "list" got.toList.toArray 0)).get? hp2.objs.size = some (seqObj "list" got.toList.toArray 0) := Heap.get?_push_size _ rfl
  show wpAny _ _ _ _ _ { s with heap := hp2.push (seqObj "list" got.toList.toArray 0), toks := tk2 }
  refine wpAny_bind (wpAny_holding (wpAny_call_entry slot_list_sort ⟨_, there, rfl⟩ entry_list_sort (list_sort_treeAny (s := { s with heap := hp2.push (seqObj "list" got.toList.toArray 0), toks := tk2 }) there gi (by omega)
    fun res zs a1 a2 a3 => ⟨_, rfl, ?_⟩) (args_list_sort _)))
  obtain ⟨nn, hn⟩ := sortedHeap_at (vs := got.toList) (out := res) there
  have zl : (zs.map V.int).length ≤ sizeLine := by rw [List.length_map, a2.length_eq]; exact small
  refine wpAny_pure ⟨_, rfl, .ref hp2.objs.size, upd H hp2.objs.size (.lst (zs.map V.int)), J.laid (t' := tk2) (fun b u e => ?_) (Nat.le_refl _) ?_, rfl, fin zs _ a2 a3 (J.hok.fresh (Nat.le_refl _))⟩
  · have lt : b < hp2.objs.size := Heap.lt_size e
    rw [sortedHeap_old (Nat.ne_of_lt lt) (by rw [size_push']; exact Nat.lt_succ_of_lt lt)]
    exact Heap.get?_push_of_some _ e
  · exact ⟨zl, res.toList, nn, vals_of_ints a1, by rw [Array.toArray_toList]; exact hn⟩
/-- sorted(d): the keys, all texts -/
def rSDS : List V → Hp → VK → Prop := fun vs H Q => ∃ (d : Addr) (kx : List (Key × V)) (is : List Str), vs = [V.ref d] ∧ Rd H d (.dK kx) ∧ kx.map (·.1) = is.map Sum.inr ∧ is.length ≤ sizeLine ∧
    ∀ (zs : List Str) (p : Addr), zs.Perm is → sortedS zs = true → H p = none → Q (.ref p) (upd H p (.lst (zs.map V.str)))
theorem srt_dS (calm : X.calm = true) : CallR X (.builtin "sorted") rSDS := by
  rintro pins s σ H _ us Q I rel ⟨d, kx, is, rfl, rd, ek, small, fin⟩
  obtain ⟨_, rfl, rv⟩ := vals1 rel
  cases rv
  obtain ⟨_, loo, ps, rl, dd⟩ := dk_rd I.hok rd
  obtain ⟨_, at_⟩ := dd.dictAt
  have kk : ps.map (·.1) = is.map Sum.inr := rl.keys.symm.trans ek
  have ll : ps.length = is.length := by simpa using congrArg List.length kk
  refine Calls.call_function_entry kind_sorted plain_sorted entry_sorted (args_sorted1 _) ?_
  unfold Builtin.«sorted»
  refine wpAny_bind (m := checkCount "sorted" 1 1 _) (wpAny_pure ?_)
  refine wpAny_bind (PySem.W.kdu_collect (A := X.A.in1) (PySem.W.kdl_dict (knd := mixKind X.prog X.w) loo) (I.ok.hd calm) at_ (by omega) fun hp2 tk2 got keep has => ?_)
  have gl : got.toList.length = is.length := by rw [Array.length_toList, has.1, ll]
  have gi : StrsAre got.toList is := strs_at gl fun j v e => by
    obtain ⟨k, x, f1, f2⟩ := has.2 j v (by simpa using e)
    have f3 : (is.map Sum.inr : List Key)[j]? = some k := by rw [← kk, List.getElem?_map, f1]; rfl
    rw [List.getElem?_map] at f3
    obtain ⟨y, f4, rfl⟩ := Option.map_eq_some_iff.mp f3
    rcases keyIs_shape (show keyIs (Sum.inr y) v = true from f2) with ⟨i, t, g1, g2⟩ | ⟨i, t, g1, g2⟩
    · cases g1
    · cases g1
      exact ⟨_, t, f4, g2⟩
  have J : Inv X pins σ H { s with heap := hp2, toks := tk2 } := I.kept keep
  refine wpAny_bind (wpAny_newList ?_ (by have := sizeLine_eq; omega))
  have there : (hp2.push (seqObj "list" got.toList.toArray 0)).get? hp2.objs.size = some (seqObj "list" got.toList.toArray 0) := Heap.get?_push_size _ rfl
  show wpAny _ _ _ _ _ { s with heap := hp2.push (seqObj "list" got.toList.toArray 0), toks := tk2 }
  refine wpAny_bind (wpAny_holding (wpAny_call_entry slot_list_sort ⟨_, there, rfl⟩ entry_list_sort (list_sort_treeKAny strKind_oneLt (s := { s with heap := hp2.push (seqObj "list" got.toList.toArray 0), toks := tk2 }) there gi.keysOf
    (fun v₁ v₂ rest e => keyKind_strs (by rw [← e]; exact gi)) (by omega) fun st2 c1 c2 => ⟨_, rfl, ?_⟩) (args_list_sort _)))
  obtain ⟨zs, a1, a2, a3⟩ := sorted_out_str gi c1 c2
  obtain ⟨nn, hn⟩ := sortedHeap_at (vs := got.toList) (out := (arrOf st2).map (·.2)) there
  have zl : (zs.map V.str).length ≤ sizeLine := by rw [List.length_map, a2.length_eq]; exact small
  refine wpAny_pure ⟨_, rfl, .ref hp2.objs.size, upd H hp2.objs.size (.lst (zs.map V.str)), J.laid (t' := tk2) (fun b u e => ?_) (Nat.le_refl _) ?_, rfl, fin zs _ a2 a3 (J.hok.fresh (Nat.le_refl _))⟩
  · have lt : b < hp2.objs.size := Heap.lt_size e
    rw [sortedHeap_old (Nat.ne_of_lt lt) (by rw [size_push']; exact Nat.lt_succ_of_lt lt)]
    exact Heap.get?_push_of_some _ e
  · exact ⟨zl, ((arrOf st2).map (·.2)).toList, nn, vals_of_strs a1, by rw [Array.toArray_toList]; exact hn⟩
end
end Fm

/-! The engine, part E: items, slices, built-ins, methods, isinstance, truth upon data. -/
namespace Fm
open PySem L2 PySem.Spec PyProof.Rows
section
variable {prog : Program} {w : World} {A : Around} {E : Value → Shared → Prop} {s : Shared} {l : Addr}
theorem tup_walk {items : Array Value} (hl : s.heap.IsTuple l items) : l < s.heap.objs.size := by obtain ⟨_, e, _⟩ := hl; exact Heap.lt_size e
theorem old_keptT {h' : Heap} {o1 : Obj} (hk : ∀ b o, b ∉ [s.heap.objs.size] → (s.heap.push o1).get? b = some o → h'.get? b = some o) :
    ∀ b o, s.heap.get? b = some o → h'.get? b = some o := fun b o e => by
  refine hk b o (fun hm => ?_) (Heap.get?_push_of_some _ e)
  rcases List.mem_cons.mp hm with e1 | hm
  · exact absurd (e1 ▸ Heap.lt_size e) (Nat.lt_irrefl _)
  · cases hm
theorem max_intTup {xs : Array (Int × Tok)} {Q : Value → Shared → Prop} (hh : A.handled = none) (hl : s.heap.IsTuple l (intItems xs)) (hne : 0 < xs.size)
    (h : ∀ v h' tk, (intItems xs)[argBest (fun i j => decide (numAt xs i > numAt xs j)) (xs.size - 1)]? = some v → (∀ b o, s.heap.get? b = some o → h'.get? b = some o) → Q v { s with heap := h', toks := tk }) :
    wpAny (model prog w) A (call (.builtin "max") [.ref l]) Q E s := by
  have hlt := tup_walk hl
  refine call_max_walk (wpAny_pyIter_tuple hl ?_)
  refine ⟨_, [_, l], [_], _, _, _, _, rfl, Walks.tuple (A := A.in1) hh _ l (Nat.ne_of_lt hlt) (intItems xs),
    ⟨⟨_, Heap.get?_push_size _ rfl, rfl, rfl⟩, hl.push _⟩, fun c hc => ?_, by simpa [intItems] using hne, CmpOf.ints_gt (numAt xs) (fun _ _ => intItems_at), fun v h' tk hP hk => ?_⟩
  · show c < (s.heap.push _).objs.size
    rw [Heap.size_push]
    rcases List.mem_cons.mp hc with rfl | hc
    · exact Nat.lt_succ_self _
    · rcases List.mem_cons.mp hc with rfl | hc
      · exact Nat.lt_succ_of_lt hlt
      · cases hc
  · exact h v h' tk (by simpa [intItems] using hP) (old_keptT hk)
theorem min_intTup {xs : Array (Int × Tok)} {Q : Value → Shared → Prop} (hh : A.handled = none) (hl : s.heap.IsTuple l (intItems xs)) (hne : 0 < xs.size)
    (h : ∀ v h' tk, (intItems xs)[argBest (fun i j => decide (numAt xs i < numAt xs j)) (xs.size - 1)]? = some v → (∀ b o, s.heap.get? b = some o → h'.get? b = some o) → Q v { s with heap := h', toks := tk }) :
    wpAny (model prog w) A (call (.builtin "min") [.ref l]) Q E s := by
  have hlt := tup_walk hl
  refine call_min_walk (wpAny_pyIter_tuple hl ?_)
  refine ⟨_, [_, l], [_], _, _, _, _, rfl, Walks.tuple (A := A.in1) hh _ l (Nat.ne_of_lt hlt) (intItems xs),
    ⟨⟨_, Heap.get?_push_size _ rfl, rfl, rfl⟩, hl.push _⟩, fun c hc => ?_, by simpa [intItems] using hne, CmpOf.ints_lt (numAt xs) (fun _ _ => intItems_at), fun v h' tk hP hk => ?_⟩
  · show c < (s.heap.push _).objs.size
    rw [Heap.size_push]
    rcases List.mem_cons.mp hc with rfl | hc
    · exact Nat.lt_succ_self _
    · rcases List.mem_cons.mp hc with rfl | hc
      · exact Nat.lt_succ_of_lt hlt
      · cases hc
  · exact h v h' tk (by simpa [intItems] using hP) (old_keptT hk)
end

section
variable {X : Cx} {K : PySem.W.Frag} {S : Addr → Prop} {cls : Cl} {M M' : Mm} {H H' : Hp} {q : QD} {Q : VK}
theorem atI_rel {ds : List Dt} {xs : List V} {i : Int} {d : Dt} (r : RelDs K S M H ds xs) (e : atI ds i = some d) : ∃ v, atI xs i = some v ∧ RelD K S M H d v := by
  unfold atI at e ⊢
  rw [← r.length]
  cases h : ixN ds.length i with
  | none => rw [h] at e; cases e
  | some j =>
    rw [h] at e
    exact r.get e
/-- an item: what x[y] is -/
def rIxD (K : PySem.W.Frag) (cls : Cl) : R2 := fun x y H Q => ∃ S M u v d, RelD K S M H u x ∧ RelD K S M H v y ∧ Hold K S cls M H ∧ ixD M u v = some d ∧ ∀ z, RelD K S M H d z → Q z H
theorem ixr_D (hu : X.A.units + 1 < cLine) : IxR X (rIxD X.K cls) := by
  intro value slice pins s σ H x y v u Q I rx ry h hs
  obtain ⟨S, M, a, b, d, ra, rb, hh, e, f⟩ := h
  cases a with
  | tup ds =>
    cases b with
    | int i =>
      cases rb
      obtain ⟨p, xs, rfl, hq, r⟩ := ra.ofTup
      obtain ⟨z, ez, rz⟩ := atI_rel r (show atI ds i = some d from e)
      exact ix_tup value slice pins s σ H _ _ v u Q I rx ry ⟨p, xs, _, z, rfl, rfl, hq, ez, f z rz⟩ hs
    | _ => cases e
  | lst ds =>
    cases b with
    | int i =>
      cases rb
      obtain ⟨p, xs, rfl, hq, r⟩ := ra.ofLst
      obtain ⟨z, ez, rz⟩ := atI_rel r (show atI ds i = some d from e)
      exact ix_list value slice pins s σ H _ _ v u Q I rx ry ⟨p, xs, _, z, rfl, rfl, hq, ez, f z rz⟩ hs
    | _ => cases e
  | ref p =>
    cases ra
    have e' : ixMo (M p) b = some d := e
    cases em : M p with
    | none => rw [em] at e'; cases e'
    | some o =>
      rw [em] at e'
      cases o with
      | lst ds =>
        cases b with
        | int i =>
          cases rb
          obtain ⟨xs, h1, r⟩ := hh _ _ em
          obtain ⟨z, ez, rz⟩ := atI_rel r e'
          exact ix_list value slice pins s σ H _ _ v u Q I rx ry ⟨p, xs, _, z, rfl, rfl, .inl (.inl h1), ez, f z rz⟩ hs
        | _ => cases e'
      | dK kvs =>
        replace e' : (keyOf b).bind (fun k => valD kvs k) = some d := by cases b <;> exact e'
        obtain ⟨ks, h1, r⟩ := hh _ _ em
        cases hk : keyOf b with
        | none => rw [hk] at e'; cases e'
        | some k =>
          rw [hk] at e'
          obtain rfl := keyV rb hk
          have e2 : valD kvs k = some d := e'
          rcases valKD k r with ⟨e1, _⟩ | ⟨d', z, e1, e3, rz⟩
          · rw [e1] at e2; cases e2
          · rw [e1] at e2; cases e2
            obtain rfl : v = Value.ref p := rx
            have g : DGet H p (kV k) (some z) := by rw [← e3]; exact DGet.k h1
            exact tail_any (dict_typeIs I g) PySem.F.slot_dict_getitem.lookup (d_getItem hu I g ry fun w' s3 I3 rw' => ⟨z, H, I3, rw', f z rz⟩) hs
      | dT kvs => cases e'
      | ins c fs => cases e'
      | dF kvs u => cases e'
  | _ => cases e

/-- a part of a list -/
theorem cut_rel {ds : List Dt} {xs : List V} (r : RelDs K S M H ds xs) (lo hi : Option Int) : RelDs K S M H (cutD ds lo hi) (cutV xs lo hi) := by
  unfold cutD cutV
  rw [r.length]
  exact (r.drop _).take _
def rSlD (K : PySem.W.Frag) (cls : Cl) : V → Option Int → Option Int → Hp → VK → Prop := fun x lo hi H Q => ∃ S M u ds q, RelD K S M H u x ∧ Hold K S cls M H ∧ seqL M u = some ds ∧ q (.lst (cutD ds lo hi)) M ∧ Fin K S cls M H q Q
theorem sl_D : SlR X (rSlD X.K cls) := by
  intro pins s σ H x v vl vu lo hi sl Q I rx hsl pl pu h
  obtain ⟨S, M, u, ds, q, ru, hh, e, k, f⟩ := h
  obtain ⟨a, xs, rfl, hq, r⟩ := seqL_rel hh ru e
  refine sl_list pins s σ H _ v vl vu lo hi sl Q I rx hsl pl pu ⟨a, xs, rfl, hq, fun p n => ?_⟩
  exact f.at k (.lst (hh.none n) (hh.noS n) (.inl upd_same) ((cut_rel r lo hi).keep (Keeps.newH n))) (hh.newH n) (Keeps.newH n)

/-! ### built-ins -/
def biV : BI → Value
  | .len => .builtin "len" | .min2 => .builtin "min" | .max2 => .builtin "max" | .maxL => .builtin "max" | .minL => .builtin "min" | .sumL => .builtin "sum" | .anyL => .builtin "any" | .allL => .builtin "all"
  | .listOf _ => .type "list" | .tupOf => .type "tuple" | .dictOf => .type "dict" | .sorted _ => .builtin "sorted" | .abs => .builtin "abs" | .sortedK _ => .builtin "sorted" | .dictD => .type "dict" | .sortedKS _ => .builtin "sorted"
def rBi (K : PySem.W.Frag) (cls : Cl) (f : BI) : List V → Hp → VK → Prop := fun vs H Q => ∃ S M ds q, RelDs K S M H ds vs ∧ Hold K S cls M H ∧ biD f ds M q ∧ Fin K S cls M H q Q
theorem rels1 {d : Dt} {vs : List V} (r : RelDs K S M H [d] vs) : ∃ v, vs = [v] ∧ RelD K S M H d v := by
  cases r with
  | cons r t => cases t; exact ⟨_, rfl, r⟩
theorem rels2 {d e : Dt} {vs : List V} (r : RelDs K S M H [d, e] vs) : ∃ v w, vs = [v, w] ∧ RelD K S M H d v ∧ RelD K S M H e w := by
  cases r with
  | cons r t =>
    obtain ⟨w, rfl, r2⟩ := rels1 t
    exact ⟨_, _, rfl, r, r2⟩
theorem rel_ints : ∀ {ns : List Int} {xs : List V}, RelDs K S M H (ns.map .int) xs → xs = ns.map V.int
  | [], _, r => by
    rw [List.map_nil] at r
    cases r
    rfl
  | n :: ns, _, r => by
    rw [List.map_cons] at r
    cases r with
    | cons r t => cases r; rw [rel_ints t, List.map_cons]
theorem rel_bls : ∀ {ns : List Bool} {xs : List V}, RelDs K S M H (ns.map .bl) xs → xs = ns.map V.bl
  | [], _, r => by
    rw [List.map_nil] at r
    cases r
    rfl
  | n :: ns, _, r => by
    rw [List.map_cons] at r
    cases r with
    | cons r t => cases r; rw [rel_bls t, List.map_cons]
theorem putKD {kvs : List (Key × Dt)} {ks : List (Key × V)} (k : Key) {d : Dt} {v : V} (rd : RelD K S M H d v) (r : Paired (fun (p : Key × Dt) (q : Key × V) => p.1 = q.1 ∧ RelD K S M H p.2 q.2) kvs ks) :
    Paired (fun (p : Key × Dt) (q : Key × V) => p.1 = q.1 ∧ RelD K S M H p.2 q.2) (putD kvs k d) (putK ks k v) := by
  have hany : ∀ {kvs : List (Key × Dt)} {ks : List (Key × V)}, Paired (fun (p : Key × Dt) (q : Key × V) => p.1 = q.1 ∧ RelD K S M H p.2 q.2) kvs ks → (kvs.any fun kv => decide (kv.1 = k)) = ks.any fun kv => decide (kv.1 = k) := by
    intro kvs ks r
    induction r with
    | nil => rfl
    | cons r t ih => rw [List.any_cons, List.any_cons, ih, r.1]
  have hmap : ∀ {kvs : List (Key × Dt)} {ks : List (Key × V)}, Paired (fun (p : Key × Dt) (q : Key × V) => p.1 = q.1 ∧ RelD K S M H p.2 q.2) kvs ks →
      Paired (fun (p : Key × Dt) (q : Key × V) => p.1 = q.1 ∧ RelD K S M H p.2 q.2) (kvs.map fun kv => if kv.1 = k then (kv.1, d) else kv) (ks.map fun kv => if kv.1 = k then (kv.1, v) else kv) := by
    intro kvs ks r
    induction r with
    | nil => exact .nil
    | @cons p q _ _ r t ih =>
      rw [List.map_cons, List.map_cons]
      refine .cons ?_ ih
      by_cases h : p.1 = k
      · rw [if_pos h, if_pos (r.1.symm.trans h)]
        exact ⟨r.1, rd⟩
      · rw [if_neg h, if_neg (fun z => h (r.1.trans z))]
        exact r
  have happ : ∀ {kvs : List (Key × Dt)} {ks : List (Key × V)}, Paired (fun (p : Key × Dt) (q : Key × V) => p.1 = q.1 ∧ RelD K S M H p.2 q.2) kvs ks →
      Paired (fun (p : Key × Dt) (q : Key × V) => p.1 = q.1 ∧ RelD K S M H p.2 q.2) (kvs ++ [(k, d)]) (ks ++ [(k, v)]) := by
    intro kvs ks r
    induction r with
    | nil => exact .cons ⟨rfl, rd⟩ .nil
    | cons r t ih => exact .cons r ih
  unfold putD putK
  rw [hany r]
  split
  · exact hmap r
  · exact happ r
theorem mergeKD : ∀ {more : List (Key × Dt)} {ms : List (Key × V)} {kvs : List (Key × Dt)} {ks : List (Key × V)}, Paired (fun (p : Key × Dt) (q : Key × V) => p.1 = q.1 ∧ RelD K S M H p.2 q.2) more ms →
    Paired (fun (p : Key × Dt) (q : Key × V) => p.1 = q.1 ∧ RelD K S M H p.2 q.2) kvs ks → Paired (fun (p : Key × Dt) (q : Key × V) => p.1 = q.1 ∧ RelD K S M H p.2 q.2) (mergeD kvs more) (mergeK ks ms)
  | _, _, _, _, .nil, r => r
  | p :: more, p' :: ms, kvs, ks, .cons h t, r => by
    obtain ⟨k, d⟩ := p
    obtain ⟨k', v⟩ := p'
    obtain ⟨e, rd⟩ := h
    dsimp only at e rd
    subst e
    have z := mergeKD (kvs := putD kvs k d) (ks := putK ks k v) t (putKD k rd r)
    exact z
theorem relKD {d : Dt} {x : V} {k : Key} (r : RelD K S M H (kD k) x) : x = kV k := by
  cases k <;> (cases r; rfl)
theorem pairs_rel : ∀ {kvs : List (Key × Dt)} {xs : List V}, RelDs K S M H (kvs.map fun p => .tup [kD p.1, p.2]) xs →
    ∃ (ps : List Addr) (ks : List (Key × V)), xs = ps.map V.ref ∧ Paired (fun p kv => SqT K H p [kV kv.1, kv.2]) ps ks ∧ Paired (fun (p : Key × Dt) (q : Key × V) => p.1 = q.1 ∧ RelD K S M H p.2 q.2) kvs ks
  | [], _, r => by
    rw [List.map_nil] at r
    cases r
    exact ⟨[], [], rfl, .nil, .nil⟩
  | p :: kvs, _, r => by
    rw [List.map_cons] at r
    cases r with
    | cons r t =>
      obtain ⟨a, xs, rfl, hs, r2⟩ := r.ofTup
      obtain ⟨v, w, rfl, r3, r4⟩ := rels2 r2
      obtain rfl := relKD (d := kD p.1) r3
      obtain ⟨ps, ks, rfl, h1, h2⟩ := pairs_rel t
      exact ⟨a :: ps, (p.1, w) :: ks, rfl, .cons hs h1, .cons ⟨rfl, r4⟩ h2⟩
theorem each_rel : ∀ {ds : List Dt} {xs : List V} {its : List Value}, RelDs K S M H ds xs → Vals xs its → PySem.W.EachIs (fun (v : Value) (d : Dt) => ∃ x, RelD K S M H d x ∧ RelV x v) its ds
  | _, _, _, .nil, .nil => .nil
  | _, _, _, .cons r t, .cons s u => .cons ⟨_, r, s⟩ (each_rel t u)
theorem rel_each : ∀ {its : List Value} {ds : List Dt}, PySem.W.EachIs (fun (v : Value) (d : Dt) => ∃ x, RelD K S M H d x ∧ RelV x v) its ds → ∃ xs, RelDs K S M H ds xs ∧ Vals xs its
  | _, _, .nil => ⟨[], .nil, .nil⟩
  | _, _, .cons ⟨x, r, s⟩ t => by
    obtain ⟨xs, h1, h2⟩ := rel_each t
    exact ⟨x :: xs, .cons r h1, .cons s h2⟩
theorem each_mem' {α β : Type} {R S : α → β → Prop} : ∀ {as : List α} {bs : List β}, PySem.W.EachIs R as bs → (∀ a b, b ∈ bs → R a b → S a b) → PySem.W.EachIs S as bs
  | _, _, .nil, _ => .nil
  | _, _, .cons r t, h => .cons (h _ _ List.mem_cons_self r) (each_mem' t fun a b m => h a b (List.mem_cons_of_mem _ m))
theorem call_sorted (hu : X.A.units + 64 < cLine) {pins : List (Addr × Obj)} {s : Shared} {σ : L2.St} {H : Hp} {a : Addr} {xs : List V} {ds : List Dt} {Q : VK} (I : Inv X pins σ H s) (hq : SqL X.K H a xs) (r : RelDs X.K S M H ds xs)
    (h1 : ∀ d, d ∈ ds → (pyD d).isSome = true ∧ (enD d).depth ≤ 60) (h2 : PySem.W.AllAlike (ds.map enD)) (h3 : PySem.W.Sortable (ds.map enD)) (h : ∀ ys, RelDs X.K S M H (ds.mergeSort (PySem.W.dataLe false enD)) ys → ∀ p, H p = none → Q (.ref p) (upd H p (.lst ys))) :
    wpAny (model X.prog X.w) X.A (call (.builtin "sorted") [.ref a]) (EP X pins σ Q) X.xe s := by
  obtain ⟨its, rv, hl, hz⟩ := I.list hq
  have er := each_rel r rv
  refine PySem.W.sorted_data (bs := ds) (enc := enD) hl.isList er (each_mem' er fun v d m ⟨x, rx, rv⟩ => ?_) h2 h3 (by rw [r.length]; exact hz) (fun d m => by have := (h1 d m).2; omega) fun out ho he => ?_
  · obtain ⟨p, hp⟩ := Option.isSome_iff_exists.mp (h1 d m).1
    have e : enD d = p := by unfold enD; rw [hp]; rfl
    rw [e]
    exact (dp_of rx hp).reads I _ _ _ rv
  · obtain ⟨ys, r2, v2⟩ := rel_each he
    have hn : H (s.heap.objs.size + 1) = none := I.hok.fresh (Nat.le_succ _)
    obtain ⟨n, hn2⟩ := sortedAll_at s.heap its (List.toArray out)
    refine ⟨.ref (s.heap.objs.size + 1), upd H (s.heap.objs.size + 1) (.lst ys), I.laid (t' := s.toks) (fun b o e => sortedAll_old e) (Nat.le_succ _) ⟨?_, out, n, v2, hn2⟩, rfl, h ys r2 _ hn⟩
    rw [← r2.length, List.length_mergeSort, r.length]
    exact hz
theorem call_maxT (hc : X.calm = true) {pins : List (Addr × Obj)} {s : Shared} {σ : L2.St} {H : Hp} {a : Addr} {ns : List Int} {us : List Value} {Q : VK} (I : Inv X pins σ H s) (r : Vals [V.ref a] us) (hs : SqT X.K H a (ns.map V.int)) (hne : 0 < ns.length)
    (q : ∀ m, m ∈ ns → (∀ y, y ∈ ns → y ≤ m) → Q (.int m) H) : wpAny (model X.prog X.w) X.A (call (.builtin "max") us) (EP X pins σ Q) X.xe s := by
  obtain ⟨its, rv, hl, _⟩ := I.tuple hs
  rw [Vals.ref1 r]
  obtain ⟨xs, e⟩ := rv.ints.allInts.items
  have hn : numsOf (intItems xs).toList = ns := by rw [← e]; exact rv.ints.numsOf
  rw [nums_intItems] at hn
  subst hn
  have hl' : s.heap.IsTuple a (intItems xs) := by rw [← e]; exact hl
  have hsz : 0 < xs.size := by simpa using hne
  refine max_intTup (I.ok.hd hc) hl' hsz fun v h' tk hv hk => ?_
  obtain ⟨t, rfl⟩ := intItems_at hv
  obtain ⟨h1, h2⟩ := argBest_gt (numAt xs) (xs.size - 1)
  refine ⟨.int _, H, I.kept hk, ⟨_, rfl⟩, q _ ?_ fun a ha => ?_⟩
  · rw [numAt_eq]; exact PySem.getD_mem (by rw [List.length_map, Array.length_toList]; omega)
  · obtain ⟨j, hj, rfl⟩ := mem_getD ha
    rw [List.length_map, Array.length_toList] at hj
    rw [← numAt_eq]; exact h2 j (by omega)
theorem call_minT (hc : X.calm = true) {pins : List (Addr × Obj)} {s : Shared} {σ : L2.St} {H : Hp} {a : Addr} {ns : List Int} {us : List Value} {Q : VK} (I : Inv X pins σ H s) (r : Vals [V.ref a] us) (hs : SqT X.K H a (ns.map V.int)) (hne : 0 < ns.length)
    (q : ∀ m, m ∈ ns → (∀ y, y ∈ ns → m ≤ y) → Q (.int m) H) : wpAny (model X.prog X.w) X.A (call (.builtin "min") us) (EP X pins σ Q) X.xe s := by
  obtain ⟨its, rv, hl, _⟩ := I.tuple hs
  rw [Vals.ref1 r]
  obtain ⟨xs, e⟩ := rv.ints.allInts.items
  have hn : numsOf (intItems xs).toList = ns := by rw [← e]; exact rv.ints.numsOf
  rw [nums_intItems] at hn
  subst hn
  have hl' : s.heap.IsTuple a (intItems xs) := by rw [← e]; exact hl
  have hsz : 0 < xs.size := by simpa using hne
  refine min_intTup (I.ok.hd hc) hl' hsz fun v h' tk hv hk => ?_
  obtain ⟨t, rfl⟩ := intItems_at hv
  obtain ⟨h1, h2⟩ := argBest_lt (numAt xs) (xs.size - 1)
  refine ⟨.int _, H, I.kept hk, ⟨_, rfl⟩, q _ ?_ fun a ha => ?_⟩
  · rw [numAt_eq]; exact PySem.getD_mem (by rw [List.length_map, Array.length_toList]; omega)
  · obtain ⟨j, hj, rfl⟩ := mem_getD ha
    rw [List.length_map, Array.length_toList] at hj
    rw [← numAt_eq]; exact h2 j (by omega)
theorem keys_rel : ∀ {kvs : List (Key × Dt)} {ks : List (Key × V)}, Paired (fun (p : Key × Dt) (q : Key × V) => p.1 = q.1 ∧ RelD K S M H p.2 q.2) kvs ks → kvs.map (·.1) = ks.map (·.1)
  | _, _, .nil => rfl
  | _, _, .cons h t => by rw [List.map_cons, List.map_cons, h.1, keys_rel t]
theorem strs_rel : ∀ ys : List Str, RelDs K S M H (ys.map .str) (ys.map V.str)
  | [] => .nil
  | y :: ys => .cons (.str y) (strs_rel ys)
theorem ints_rel : ∀ ys : List Int, RelDs K S M H (ys.map .int) (ys.map V.int)
  | [] => .nil
  | y :: ys => .cons (.int y) (ints_rel ys)
theorem callR_bi (hc : X.calm = true) (hu : X.A.units + 64 < cLine) (f : BI) : CallR X (biV f) (rBi X.K cls f) := by
  intro pins s σ H vs us Q I r h
  obtain ⟨S, M, ds, q, rd, hh, k, fn⟩ := h
  have seq : ∀ {d : Dt} {es : List Dt}, RelDs X.K S M H [d] vs → seqL M d = some es → ∃ a xs, vs = [.ref a] ∧ SqL X.K H a xs ∧ RelDs X.K S M H es xs := fun rd e => by
    obtain ⟨v, rfl, rv⟩ := rels1 rd
    obtain ⟨a, xs, rfl, h1, h2⟩ := seqL_rel hh rv e
    exact ⟨a, xs, rfl, h1, h2⟩
  unfold biD at k
  split at k
  · obtain ⟨v, rfl, rv⟩ := rels1 rd
    cases rv
    exact call_len_str pins s σ H _ us Q I r ⟨_, rfl, k.1, fn.here hh (.int _) k.2⟩
  · obtain ⟨v, rfl, rv⟩ := rels1 rd
    obtain ⟨a, xs, rfl, h1, h2⟩ := rv.ofTup
    exact call_len_seq pins s σ H _ us Q I r ⟨_, _, rfl, .inr h1, fn.here hh (.int _) (by rw [← h2.length]; exact k)⟩
  · obtain ⟨v, rfl, rv⟩ := rels1 rd
    obtain ⟨a, xs, rfl, h1, h2⟩ := rv.ofLst
    exact call_len_seq pins s σ H _ us Q I r ⟨_, _, rfl, .inl h1, fn.here hh (.int _) (by rw [← h2.length]; exact k)⟩
  · obtain ⟨v, rfl, rv⟩ := rels1 rd
    cases rv
    split at k
    · rename_i em
      obtain ⟨xs, h1, h2⟩ := hh _ _ em
      exact call_len_seq pins s σ H _ us Q I r ⟨_, _, rfl, .inl (.inl (.inl h1)), fn.here hh (.int _) (by rw [← h2.length]; exact k)⟩
    · rename_i em
      obtain ⟨xs, h1, h2⟩ := hh _ _ em
      exact call_lenD pins s σ H _ us Q I r ⟨_, _, rfl, h1, fn.here hh (.int _) (by rw [← Paired.length h2]; exact k)⟩
    · exact k.elim
  · obtain ⟨v, w, rfl, rv, rw'⟩ := rels2 rd
    cases rv; cases rw'
    exact call_min2 hc pins s σ H _ us Q I r ⟨_, _, rfl, fn.here hh (.int _) k⟩
  · obtain ⟨v, w, rfl, rv, rw'⟩ := rels2 rd
    cases rv; cases rw'
    exact call_max2 hc pins s σ H _ us Q I r ⟨_, _, rfl, fn.here hh (.int _) k⟩
  · obtain ⟨ns, e, h0, k⟩ := k
    rename_i d
    by_cases hd : ∃ es, d = .tup es
    · obtain ⟨es, rfl⟩ := hd
      cases e
      obtain ⟨v, rfl, rv⟩ := rels1 rd
      obtain ⟨a, xs, rfl, h1, h2⟩ := rv.ofTup
      obtain rfl := rel_ints h2
      exact call_maxT hc I r h1 h0 fun m i1 i2 => fn.here hh (.int _) (k m i1 i2)
    have e : seqL M d = some (ns.map .int) := by
      cases d <;> first | exact e | exact absurd ⟨_, rfl⟩ hd
    obtain ⟨a, xs, rfl, h1, h2⟩ := seq rd e
    obtain rfl := rel_ints h2
    exact cr_max hc pins s σ H _ us Q I r ⟨a, ns, rfl, h1, h0, fun m i1 i2 => fn.here hh (.int _) (k m i1 i2)⟩
  · obtain ⟨ns, e, h0, k⟩ := k
    rename_i d
    by_cases hd : ∃ es, d = .tup es
    · obtain ⟨es, rfl⟩ := hd
      cases e
      obtain ⟨v, rfl, rv⟩ := rels1 rd
      obtain ⟨a, xs, rfl, h1, h2⟩ := rv.ofTup
      obtain rfl := rel_ints h2
      exact call_minT hc I r h1 h0 fun m i1 i2 => fn.here hh (.int _) (k m i1 i2)
    have e : seqL M d = some (ns.map .int) := by
      cases d <;> first | exact e | exact absurd ⟨_, rfl⟩ hd
    obtain ⟨a, xs, rfl, h1, h2⟩ := seq rd e
    obtain rfl := rel_ints h2
    exact cr_min hc pins s σ H _ us Q I r ⟨a, ns, rfl, h1, h0, fun m i1 i2 => fn.here hh (.int _) (k m i1 i2)⟩
  · obtain ⟨ns, e, k⟩ := k
    obtain ⟨a, xs, rfl, h1, h2⟩ := seq rd e
    obtain rfl := rel_ints h2
    exact cr_sum hc pins s σ H _ us Q I r ⟨a, ns, rfl, h1, fn.here hh (.int _) k⟩
  · obtain ⟨ns, e, k⟩ := k
    obtain ⟨a, xs, rfl, h1, h2⟩ := seq rd e
    obtain rfl := rel_bls h2
    exact cr_any hc pins s σ H _ us Q I r ⟨a, ns, rfl, h1, fn.here hh (.bl _) k⟩
  · obtain ⟨ns, e, k⟩ := k
    obtain ⟨a, xs, rfl, h1, h2⟩ := seq rd e
    obtain rfl := rel_bls h2
    exact cr_all hc pins s σ H _ us Q I r ⟨a, ns, rfl, h1, fn.here hh (.bl _) k⟩
  · obtain ⟨v, rfl, rv⟩ := rels1 rd
    obtain ⟨a, xs, rfl, h1, h2⟩ := rv.ofTup
    exact call_list_of pins s σ H _ us Q I r ⟨a, xs, rfl, .inr h1, fn.newL hh h2 k⟩
  · obtain ⟨ds, e, k⟩ := k
    obtain ⟨a, xs, rfl, h1, h2⟩ := seq rd e
    exact call_list_of pins s σ H _ us Q I r ⟨a, xs, rfl, .inl h1, fn.newL hh h2 k⟩
  · obtain ⟨v, rfl, rv⟩ := rels1 rd
    obtain ⟨a, xs, rfl, h1, h2⟩ := rv.ofTup
    exact call_tuple_of pins s σ H _ us Q I r ⟨a, xs, rfl, .inr ⟨h1, fn.here hh (.tup h1 h2) k⟩⟩
  · obtain ⟨ds, e, k⟩ := k
    obtain ⟨a, xs, rfl, h1, h2⟩ := seq rd e
    exact call_tuple_of pins s σ H _ us Q I r ⟨a, xs, rfl, .inl ⟨h1, fn.newT hh h2 k⟩⟩
  · obtain ⟨kvs, e, k⟩ := k
    obtain ⟨a, xs, rfl, h1, h2⟩ := seq rd e
    obtain ⟨ps, ks, rfl, h3, h4⟩ := pairs_rel h2
    refine call_dictP hc pins s σ H _ us Q I r ⟨a, ps, ks, rfl, h1, h3, fun p n => ?_⟩
    refine fn.at (k p (hh.none n)) (.ref p) (hh.newM n ⟨_, upd_same, ?_⟩) (Keeps.newM n)
    exact mergeKD (Paired.mapP h4 fun _ _ z => ⟨z.1, z.2.keep (Keeps.newM n)⟩) .nil
  · obtain ⟨ds, e, h1, h2, h3, k⟩ := k
    obtain ⟨a, xs, rfl, h4, h5⟩ := seq rd e
    obtain ⟨u, rfl, ru⟩ := vals1 r
    obtain rfl : u = Value.ref a := ru
    exact call_sorted hu I h4 h5 h1 h2 h3 fun ys ry => fn.newL hh ry k
  · obtain ⟨v, rfl, rv⟩ := rels1 rd
    cases rv
    exact call_abs pins s σ H _ us Q I r ⟨_, rfl, fn.here hh (.int _) k⟩
  · obtain ⟨v, rfl, rv⟩ := rels1 rd
    cases rv
    obtain ⟨kvs, ks, em, e1, e2, k⟩ := k
    obtain ⟨zs, h1, h2⟩ := hh _ _ em
    refine srt_dI hc pins s σ H _ us Q I r ⟨_, zs, ks, rfl, .inl h1, ?_, Nat.le_trans e2 (by decide), fun ys p pm pw n => ?_⟩
    · rw [← e1]
      exact (keys_rel h2).symm
    · exact fn.newL hh (ints_rel ys) (k ys pm pw) p n
  · obtain ⟨v, rfl, rv⟩ := rels1 rd
    cases rv
    obtain ⟨kvs, em, k⟩ := k
    obtain ⟨zs, h1, h2⟩ := hh _ _ em
    refine call_dictD pins s σ H _ us Q I r ⟨_, zs, rfl, .inl h1, fun p n => ?_⟩
    exact fn.at (k p (hh.none n)) (.ref p) (hh.newM n ⟨_, upd_same, Paired.mapP h2 fun _ _ z => ⟨z.1, z.2.keep (Keeps.newM n)⟩⟩) (Keeps.newM n)
  · obtain ⟨v, rfl, rv⟩ := rels1 rd
    cases rv
    obtain ⟨kvs, ks, em, e1, e2, k⟩ := k
    obtain ⟨zs, h1, h2⟩ := hh _ _ em
    refine srt_dS hc pins s σ H _ us Q I r ⟨_, zs, ks, rfl, .inl h1, ?_, Nat.le_trans e2 (by decide), fun ys p pm pw n => ?_⟩
    · rw [← e1]
      exact (keys_rel h2).symm
    · exact fn.newL hh (strs_rel ys) (k ys pm pw) p n
  · exact k.elim
end
end Fm

/-! The engine, part F: methods, isinstance, truth, stores, walks upon data. -/
namespace Fm
open PySem L2 PySem.Spec PyProof.Rows

section
variable {X : Cx} {K : PySem.W.Frag} {S : Addr → Prop} {cls : Cl} {M M' : Mm} {H H' : Hp} {q : QD} {Q : VK}
/-! ### methods -/
def miT : MI → String
  | .append => "list" | .pop => "list" | .clear => "list" | .reverse => "list" | .get1 => "dict" | .get2 => "dict" | .popAt => "list" | .dpop => "dict" | .insert => "list" | .count => "list" | .index => "list"
def miV : MI → String
  | .append => "list.append" | .pop => "list.pop" | .clear => "list.clear" | .reverse => "list.reverse" | .get1 => "dict.get" | .get2 => "dict.get" | .popAt => "list.pop" | .dpop => "dict.pop" | .insert => "list.insert" | .count => "list.count" | .index => "list.index"
def miN : MI → Str
  | .append => "append" | .pop => "pop" | .clear => "clear" | .reverse => "reverse" | .get1 => "get" | .get2 => "get" | .popAt => "pop" | .dpop => "pop" | .insert => "insert" | .count => "count" | .index => "index"
def rMi (K : PySem.W.Frag) (cls : Cl) (f : MI) : V → List V → Hp → VK → Prop := fun x vs H Q => ∃ S M u ds q, RelD K S M H u x ∧ RelDs K S M H ds vs ∧ Hold K S cls M H ∧ mtD f u ds M q ∧ Fin K S cls M H q Q
theorem mtOk_ty {m : MI} {u : Dt} {x : V} (hh : Hold K S cls M H) (r : RelD K S M H u x) (e : mtOk m M u = true) : tyV K (miT m) x H := by
  cases u with
  | ref a =>
    cases r
    replace e : mtOkMo m (M a) = true := e
    cases em : M a with
    | none => rw [em] at e; cases m <;> cases e
    | some o =>
      rw [em] at e
      cases o with
      | lst ds =>
        obtain ⟨xs, h1, _⟩ := hh _ _ em
        cases m <;> first | exact .inl ⟨rfl, xs, .inl (.inl h1)⟩ | cases e
      | dK ds =>
        obtain ⟨xs, h1, _⟩ := hh _ _ em
        cases m <;> first | exact .inr (.inr (.inl ⟨rfl, .inl ⟨xs, h1⟩⟩)) | cases e
      | dT ds => cases m <;> cases e
      | ins c fs => cases m <;> cases e
      | dF kvs u => cases m <;> cases e
  | lst ds =>
    obtain ⟨a, xs, rfl, h1, _⟩ := r.ofLst
    have e : (decide (m = .count) || decide (m = .index)) = true := e
    cases m <;> first | exact .inl ⟨rfl, xs, h1⟩ | cases e
  | _ => cases e
theorem rels0 {vs : List V} (r : RelDs K S M H [] vs) : vs = [] := by cases r; rfl
theorem flat_kV (k : Key) : flatV (kV k) = true := by cases k <;> rfl
theorem eq_kV {a b : Key} : eqV (kV a) (kV b) = true ↔ a = b := by
  cases a <;> cases b <;> simp [kV, eqV]
theorem rel_keys : ∀ {ks : List Key} {xs : List V}, RelDs K S M H (ks.map kD) xs → xs = ks.map kV
  | [], _, r => by cases r; rfl
  | k :: ks, _, r => by
    rw [List.map_cons] at r
    cases r with
    | cons r t => rw [relKD (d := kD k) r, rel_keys t]; rfl
theorem mtr_D (hu : X.A.units + 1 < cLine) (f : MI) : MtR X (miV f) (rMi X.K cls f) := by
  intro pins s σ H x vs v us Q I rx rv h
  obtain ⟨S, M, u, ds, q, ru, rd, hh, k, fn⟩ := h
  unfold mtD at k
  split at k
  · rename_i a d
    cases ru
    split at k
    · rename_i xs em
      obtain ⟨zs, h1, h2⟩ := hh _ _ em
      obtain ⟨w, rfl, rw'⟩ := rels1 rd
      refine mt_append pins s σ H _ _ v us Q I rx rv ⟨a, zs, w, rfl, rfl, h1, by rw [← h2.length]; exact k.1, ?_⟩
      have kp : Keeps X.K M H (mset M a (some (.lst (xs ++ [d])))) (upd H a (.lst (zs ++ [w]))) := Keeps.write hh em
      exact fn.at k.2 .non (hh.write em ⟨_, upd_same, (h2.append (.cons rw' .nil)).keep kp⟩) kp
    · exact k.elim
  · rename_i a
    cases ru
    split at k
    · rename_i xs em
      obtain ⟨zs, h1, h2⟩ := hh _ _ em
      obtain rfl := rels0 rd
      obtain ⟨d, e, k⟩ := k
      obtain ⟨y, ey, ry⟩ := h2.get e
      refine mt_pop pins s σ H _ _ v us Q I rx rv ⟨a, zs, y, rfl, rfl, h1, by rw [← h2.length]; exact ey, ?_⟩
      have kp : Keeps X.K M H (mset M a (some (.lst xs.dropLast))) (upd H a (.lst zs.dropLast)) := Keeps.write hh em
      exact fn.at k (ry.keep kp) (hh.write em ⟨_, upd_same, h2.dropLast.keep kp⟩) kp
    · exact k.elim
  · rename_i a
    cases ru
    split at k
    · rename_i xs em
      obtain ⟨zs, h1, h2⟩ := hh _ _ em
      obtain rfl := rels0 rd
      refine mt_clear pins s σ H _ _ v us Q I rx rv ⟨a, zs, rfl, rfl, h1, ?_⟩
      have kp : Keeps X.K M H (mset M a (some (.lst []))) (upd H a (.lst [])) := Keeps.write hh em
      exact fn.at k .non (hh.write em ⟨_, upd_same, .nil⟩) kp
    · exact k.elim
  · rename_i a
    cases ru
    split at k
    · rename_i xs em
      obtain ⟨zs, h1, h2⟩ := hh _ _ em
      obtain rfl := rels0 rd
      refine mt_reverse pins s σ H _ _ v us Q I rx rv ⟨a, zs, rfl, rfl, h1, ?_⟩
      have kp : Keeps X.K M H (mset M a (some (.lst xs.reverse))) (upd H a (.lst zs.reverse)) := Keeps.write hh em
      exact fn.at k .non (hh.write em ⟨_, upd_same, h2.reverse.keep kp⟩) kp
    · exact k.elim
  · rename_i a d
    cases ru
    obtain rfl : v = Value.ref a := rx
    split at k
    · rename_i kvs key em hk
      obtain ⟨ks, h1, h2⟩ := hh _ _ em
      obtain ⟨w, rfl, rw'⟩ := rels1 rd
      obtain rfl := keyV rw' hk
      obtain ⟨u1, rfl, r1⟩ := vals1 rv
      refine d_get1 hu I (DGet.k (k := key) h1) r1 fun w' s' I' rw2 => ⟨_, H, I', rw2, ?_⟩
      rcases valKD key h2 with ⟨e1, e2⟩ | ⟨d', z, e1, e2, rz⟩
      · rw [e2]; rw [e1] at k; exact fn.here hh .non k
      · rw [e2]; rw [e1] at k; exact fn.here hh rz k
    · exact k.elim
  · rename_i a d z
    cases ru
    obtain rfl : v = Value.ref a := rx
    split at k
    · rename_i kvs key em hk
      obtain ⟨ks, h1, h2⟩ := hh _ _ em
      obtain ⟨w, w2, rfl, rw', rw2⟩ := rels2 rd
      obtain rfl := keyV rw' hk
      obtain ⟨u1, u2, rfl, r1, r2⟩ := vals2 rv
      refine d_get2 hu I (DGet.k (k := key) h1) r1 r2 fun w' s' I' rw3 => ⟨_, H, I', rw3, ?_⟩
      rcases valKD key h2 with ⟨e1, e2⟩ | ⟨d', z, e1, e2, rz⟩
      · rw [e2]; rw [e1] at k; exact fn.here hh rw2 k
      · rw [e2]; rw [e1] at k; exact fn.here hh rz k
    · exact k.elim
  · rename_i a i
    cases ru
    split at k
    · rename_i xs em
      obtain ⟨zs, h1, h2⟩ := hh _ _ em
      obtain ⟨w, rfl, rw'⟩ := rels1 rd
      cases rw'
      obtain ⟨b1, b2, j, d, ej, ed, k⟩ := k
      obtain ⟨y, ey, ry⟩ := h2.get ed
      refine mt_popAt pins s σ H _ _ v us Q I rx rv ⟨a, zs, i, j, y, rfl, rfl, h1, b1, b2, by rw [← h2.length]; exact (ixN_seq ej).1, ey, ?_⟩
      have kp : Keeps X.K M H (mset M a (some (.lst (xs.eraseIdx j)))) (upd H a (.lst (zs.eraseIdx j))) := Keeps.write hh em
      exact fn.at k (ry.keep kp) (hh.write em ⟨_, upd_same, (h2.eraseIdx j).keep kp⟩) kp
    · exact k.elim
  · rename_i a i d
    cases ru
    split at k
    · rename_i xs em
      obtain ⟨zs, h1, h2⟩ := hh _ _ em
      obtain ⟨w, w2, rfl, rw', rw2⟩ := rels2 rd
      cases rw'
      obtain ⟨b1, b2, b3, k⟩ := k
      have kp : Keeps X.K M H (mset M a (some (.lst (xs.take i.toNat ++ [d] ++ xs.drop i.toNat)))) (upd H a (.lst (zs.take i.toNat ++ [w2] ++ zs.drop i.toNat))) := Keeps.write hh em
      refine mt_insert pins s σ H _ _ v us Q I rx rv ⟨a, zs, i, w2, rfl, rfl, h1, by rw [← h2.length]; exact b3, b1, b2, ?_⟩
      exact fn.at k .non (hh.write em ⟨_, upd_same, (((h2.take i.toNat).append (.cons rw2 .nil)).append (h2.drop i.toNat)).keep kp⟩) kp
    · exact k.elim
  · rename_i a d
    cases ru
    obtain rfl : v = Value.ref a := rx
    split at k
    · rename_i kvs key em hk
      obtain ⟨ks, h1, h2⟩ := hh _ _ em
      obtain ⟨w, rfl, rw'⟩ := rels1 rd
      obtain rfl := keyV rw' hk
      obtain ⟨u1, rfl, r1⟩ := vals1 rv
      obtain ⟨d', ed, k⟩ := k
      rcases valKD key h2 with ⟨e1, _⟩ | ⟨d2, z, e1, e2, rz⟩
      · rw [e1] at ed; cases ed
      · rw [e1] at ed
        cases ed
        have kp : Keeps X.K M H (mset M a (some (.dK (exceptD kvs key)))) (upd H a (.dK (dropK ks key))) := Keeps.write hh em
        refine d_pop I h1 r1 e2 (.inl rfl) fun w' s' I' rw2 => ⟨_, _, I', rw2, ?_⟩
        exact fn.at k (rz.keep kp) (hh.write em ⟨_, upd_same, exceptKD key (Paired.mapP h2 fun _ _ z => ⟨z.1, z.2.keep kp⟩)⟩) kp
    · exact k.elim
  · obtain ⟨ns, e, k⟩ := k
    obtain ⟨a, xs, rfl, h1, h2⟩ := seqL_rel hh ru e
    obtain rfl := rel_ints h2
    obtain ⟨w, rfl, rw'⟩ := rels1 rd
    cases rw'
    exact mt_lcount pins s σ H _ _ v us Q I rx rv ⟨a, ns, _, rfl, rfl, h1, fn.here hh (.int _) k⟩
  · obtain ⟨ks, ky, j, e, rfl, ej, hno, k⟩ := k
    obtain ⟨a, xs, rfl, h1, h2⟩ := seqL_rel hh ru e
    obtain ⟨w, rfl, rw'⟩ := rels1 rd
    obtain rfl := relKD (d := kD ky) rw'
    obtain rfl := rel_keys h2
    refine mt_index pins s σ H _ _ v us Q I rx rv ⟨a, ks.map kV, kV ky, j, kV ky, rfl, rfl, h1, flat_kV ky, ?_, by rw [List.getElem?_map, ej]; rfl, eq_kV.mpr rfl, fun m z hm hz => ?_, fn.here hh (.int _) k⟩
    · rw [List.all_eq_true]
      intro z hz
      obtain ⟨k2, _, rfl⟩ := List.mem_map.mp hz
      exact flat_kV k2
    · rw [List.getElem?_map] at hz
      obtain ⟨k2, e2, rfl⟩ := Option.map_eq_some_iff.mp hz
      rw [Bool.eq_false_iff]
      intro e3
      exact hno m hm (by rw [e2, eq_kV.mp e3])
  · exact k.elim

/-! ### truth -/
theorem tru_D {d : Dt} {x : V} {b : Bool} (hh : Hold K S cls M H) (r : RelD K S M H d x) (e : truD M d = some b) : TruV K x H b := by
  have em : ∀ {ds : List Dt} {xs : List V}, RelDs K S M H ds xs → (!ds.isEmpty) = !xs.isEmpty := fun r => by cases r <;> rfl
  have ek : ∀ {ds : List (Key × Dt)} {xs : List (Key × V)}, Paired (fun (p : Key × Dt) (q : Key × V) => p.1 = q.1 ∧ RelD K S M H p.2 q.2) ds xs → (!ds.isEmpty) = !xs.isEmpty := fun r => by cases r <;> rfl
  cases d with
  | non => cases r; cases e; rfl
  | bl b => cases r; cases e; rfl
  | int b => cases r; cases e; rfl
  | str b => cases e
  | tup ds =>
    obtain ⟨a, xs, rfl, h1, h2⟩ := r.ofTup
    cases e
    exact .inr (.inl ⟨xs, h1, em h2⟩)
  | lst ds =>
    obtain ⟨a, xs, rfl, h1, h2⟩ := r.ofLst
    cases e
    exact .inl ⟨xs, h1, em h2⟩
  | ref a =>
    cases r
    replace e : truMo (M a) = some b := e
    cases em2 : M a with
    | none => rw [em2] at e; cases e
    | some o =>
      rw [em2] at e
      cases o with
      | lst ds =>
        cases e
        obtain ⟨xs, h1, h2⟩ := hh _ _ em2
        exact .inl ⟨xs, .inl (.inl h1), em h2⟩
      | dK ds =>
        cases e
        obtain ⟨xs, h1, h2⟩ := hh _ _ em2
        exact .inr (.inr ⟨xs, h1, ek h2⟩)
      | dT ds => cases e
      | ins c fs => cases e
      | dF kvs u => cases e

/-! ### isinstance -/
theorem rd_frz {a : Addr} {xs : List V} (h : Rd H a (.lst xs)) : TyX K H (.ref a) (.type "list") := by
  rcases h with h | ⟨o, h⟩
  · exact .base (.lst h)
  · exact .base (.frz h)
theorem tyD_ok {d : Dt} {x : V} {t : String} (hh : Hold K S cls M H) (r : RelD K S M H d x) (e : tyD M d = some t) : TyX K H x (.type t) := by
  cases d with
  | non => cases r; cases e; exact .base .non
  | bl b => cases r; cases e; exact .base (.bl b)
  | int b => cases r; cases e; exact .base (.int b)
  | str b => cases r; cases e; exact .base (.str b)
  | tup ds =>
    obtain ⟨a, xs, rfl, h1, h2⟩ := r.ofTup
    cases e
    rcases h1 with (h1 | ⟨o, h1⟩) | ⟨o, its, n, h1, h2, _⟩
    · exact .base (.tup h1)
    · exact .fTuple h1
    · exact .kTuple h1 h2
  | lst ds =>
    obtain ⟨a, xs, rfl, h1, h2⟩ := r.ofLst
    cases e
    rcases h1 with h1 | ⟨o, its, n, h1, h2, _⟩
    · exact rd_frz h1
    · exact .kList h1 h2
  | ref a =>
    cases r
    have e' : tyMo (M a) = some t := e
    cases em : M a with
    | none => rw [em] at e'; cases e'
    | some o =>
      rw [em] at e'
      cases o with
      | lst ds =>
        cases e'
        obtain ⟨xs, h1, h2⟩ := hh _ _ em
        exact .base (.lst h1)
      | dK ds =>
        cases e'
        obtain ⟨xs, h1, h2⟩ := hh _ _ em
        exact .base (.dK h1)
      | dT ds =>
        cases e'
        obtain ⟨xs, h1, h2⟩ := hh _ _ em
        exact .base (.dT h1)
      | ins c fs => cases e'
      | dF kvs u => cases e'

/-! ### stores by place or key -/
def rSetD (K : PySem.W.Frag) (cls : Cl) : TSet := fun o i v H Q => ∃ (S : Addr → Prop) (M : Mm) (u w d : Dt) (ρq : Mm → Prop), RelD K S M H u o ∧ RelD K S M H w i ∧ RelD K S M H d v ∧ Hold K S cls M H ∧ (∃ p, u = .ref p ∧ ((∃ ds k j, M p = some (.lst ds) ∧ w = .int k ∧ ixN ds.length k = some j ∧ ρq (mset M p (some (.lst (ds.set j d))))) ∨
    ∃ kvs k, M p = some (.dK kvs) ∧ keyOf w = some k ∧ kvs.length < sizeLine ∧ ρq (mset M p (some (.dK (putD kvs k d)))))) ∧ ∀ (M' : Mm) (H' : Hp), ρq M' → Hold K S cls M' H' → Keeps K M H M' H' → Q H'
theorem set_D (hu : X.A.units + 1 < cLine) : PSet X (rSetD X.K cls) := by
  intro pins s σ H o i v uo ui uv Q I ro ri rv h
  obtain ⟨S, M, u, w, d, ρq, ru, rw', rd, hh, ⟨p, rfl, h⟩, fn⟩ := h
  cases ru
  rcases h with ⟨ds, k, j, em, rfl, hj, k2⟩ | ⟨kvs, k, em, hk, hl, k2⟩
  · cases rw'
    obtain ⟨xs, h1, h2⟩ := hh _ _ em
    have kp : Keeps X.K M H (mset M p (some (.lst (ds.set j d)))) (upd H p (.lst (xs.set j v))) := Keeps.write hh em
    exact set_list pins s σ H _ _ v uo ui uv Q I ro ri rv ⟨p, xs, k, j, rfl, rfl, h1, by rw [← h2.length]; exact hj, fn _ _ k2 (hh.write em ⟨_, upd_same, (h2.set rd j).keep kp⟩) kp⟩
  · obtain ⟨ks, h1, h2⟩ := hh _ _ em
    obtain rfl := keyV rw' hk
    obtain rfl : uo = Value.ref p := ro
    have kp : Keeps X.K M H (mset M p (some (.dK (putD kvs k d)))) (upd H p (.dK (putK ks k v))) := Keeps.write hh em
    refine d_setItem hu I (DPut.k (k := k) (v := v) h1 (by rw [← Paired.length h2]; exact hl)) ri rv fun s' I' => ⟨_, I', fn _ _ k2 (hh.write em ⟨_, upd_same, ?_⟩) kp⟩
    exact putKD k (rd.keep kp) (Paired.mapP h2 fun _ _ z => ⟨z.1, z.2.keep kp⟩)
end
end Fm

/-! The engine, part G: contexts, promises, readings by wishes, the look that a text is the program's. -/
namespace Fm
open PySem L2 PySem.Spec PyProof.Rows

structure Tab where
  fns : List (Nat × Str × Nat)
  gls : List (Nat × Str)
  bis : List Str
  exs : List (Nat × Str × Nat) := []
  cls : List (Nat × Str × Nat) := []
  mths : List Str := []
  cops : List (Nat × Op) := []
  mops : List (Str × Op) := []
  flds : List Str := []
  why : Bool := false

def Tab.cop (Tb : Tab) (c : Nat) : Op := (Tb.cops.lookup c).getD .no
def Tab.mop (Tb : Tab) (m : Str) : Op := (Tb.mops.lookup m).getD .no
/-- all parameters may be told by their places -/
def Op.full : Op → Bool
  | .kw _ _ => false
  | _ => true
/-- the last may be told by this name -/
def Op.named : Op → Str → Bool
  | .kw x _, y => decide (x = y)
  | _, _ => false
/-- the last may be left out, and then it is this -/
def Op.left : Op → E → Bool
  | .kw _ .non, .non => true
  | .kw _ (.int i), .int j => decide (i = j)
  | .ps .non, .non => true
  | .ps (.int i), .int j => decide (i = j)
  | _, _ => false
section
variable (K : PySem.W.Frag) (S : Addr → Prop) (cls : Cl)
/-- slots -/
structure RelR (M : Mm) (H : Hp) (ρ : Rho) (σ : L2.St) : Prop where
  len : ρ.length = σ.length
  at_ : ∀ (i : Nat) (d : Dt), ρ[i]? = some (some d) → ∃ v, σ[i]? = some (some v) ∧ RelD K S M H d v
/-- an exception's own dict -/
def XcAt (M : Mm) (H : Hp) (z : Xc) (d : Addr) : Prop := ∃ gs, H d = some (.xd gs) ∧ Paired (fun (p : Str × Dt) (q : Str × V) => p.1 = q.1 ∧ RelD K S M H p.2 q.2) z.fs gs
def QW (Q : VK) (M : Mm) (H : Hp) : QD := fun d M' => ∀ v H', RelD K S M' H' d v → Hold K S cls M' H' → Keeps K M H M' H' → Q v H'
def XW (W : WX) (σ : L2.St) (M : Mm) (H : Hp) : QX := fun z M' => ∀ d H', XcAt K S M' H' z d → Hold K S cls M' H' → Keeps K M H M' H' → W (.ref (cls z.c)) (some d) σ H'
def RW (Q : L2.St → Hp → Prop) (M : Mm) (H : Hp) : QR := fun ρ' M' => ∀ σ' H', RelR K S M' H' ρ' σ' → Hold K S cls M' H' → Keeps K M H M' H' → Q σ' H'
def KW (W : WX) (D : Ends) (M : Mm) (H : Hp) : Kn where
  nx := RW K S cls D.nx M H
  rt := QW K S cls D.rt M H
  bk := RW K S cls D.bk M H
  ct := RW K S cls D.ct M H
  xx := fun z ρ' M' => ∀ σ' d H', RelR K S M' H' ρ' σ' → XcAt K S M' H' z d → Hold K S cls M' H' → Keeps K M H M' H' → W (.ref (cls z.c)) (some d) σ' H'
end
section
variable (K : PySem.W.Frag) (cls : Cl)
/-- a def's promise by what it does -/
def spW (n : Nat) (F : Wf) : Sp := fun vs H Q E => vs.length = n ∧ ∃ S ds M, RelDs K S M H ds vs ∧ Hold K S cls M H ∧
  F.run ds M (QW K S cls Q M H) fun z M' => ∀ d H', XcAt K S M' H' z d → Hold K S cls M' H' → Keeps K M H M' H' → E (.ref (cls z.c)) (some d) H'
variable (G : Gt) (W : WX)
def tE (e : E) : TE := fun σ H Q => ∃ S ρ M, RelR K S M H ρ σ ∧ Hold K S cls M H ∧ wpE G e ρ M (QW K S cls Q M H) (XW K S cls W σ M H)
def tEs (e : Es) : TA := fun σ H Q => ∃ S ρ M, RelR K S M H ρ σ ∧ Hold K S cls M H ∧ wpEs G e ρ M (fun ds M' => ∀ vs H', RelDs K S M' H' ds vs → Hold K S cls M' H' → Keeps K M H M' H' → Q vs H') (XW K S cls W σ M H)
def tO (e : EO) : TO := fun σ H Q => ∃ S ρ M, RelR K S M H ρ σ ∧ Hold K S cls M H ∧ wpO G e ρ M (fun o M' => ∀ H', Hold K S cls M' H' → Keeps K M H M' H' → Q o H') (XW K S cls W σ M H)
def tT (t : T) : TT := fun σ H Q => ∃ S ρ M, RelR K S M H ρ σ ∧ Hold K S cls M H ∧ wpT G t ρ M (fun b M' => ∀ H', Hold K S cls M' H' → Keeps K M H M' H' → Q b H') (XW K S cls W σ M H)
def tAl (t : Ts) : TT := fun σ H Q => ∃ S ρ M, RelR K S M H ρ σ ∧ Hold K S cls M H ∧ wpAll G t ρ M (fun b M' => ∀ H', Hold K S cls M' H' → Keeps K M H M' H' → Q b H') (XW K S cls W σ M H)
def tAn (t : Ts) : TT := fun σ H Q => ∃ S ρ M, RelR K S M H ρ σ ∧ Hold K S cls M H ∧ wpAny' G t ρ M (fun b M' => ∀ H', Hold K S cls M' H' → Keeps K M H M' H' → Q b H') (XW K S cls W σ M H)
def tBo (k : Bool) (e : Es) : TE := fun σ H Q => ∃ S ρ M, RelR K S M H ρ σ ∧ Hold K S cls M H ∧ wpB G k e ρ M (QW K S cls Q M H) (XW K S cls W σ M H)
end
section
variable (K : PySem.W.Frag) (S : Addr → Prop) (cls : Cl)
/-- what an iterator gives: the items, as long as they may be read -/
def Yld (ds : List Dt) (keep : Mm → Prop) (M0 : Mm) (H0 : Hp) (J : It) : Prop := ∀ S' : Addr → Prop, (∀ a, S' a → S a ∨ H0 a = none) → ∀ (i : Nat) M H, Hold K S' cls M H → Keeps K M0 H0 M H → keep M →
  (i < ds.length → J.go i H ∧ ∀ x H', J.yld i H x H' → ∃ d, ds[i]? = some d ∧ RelD K S' M H' d x ∧ Hold K S' cls M H' ∧ Keeps K M H M H') ∧ (ds.length ≤ i → J.stop i H)
end
section
variable (K : PySem.W.Frag) (cls : Cl) (G : Gt) (W : WX)
def tI (t : Ie) : TI := fun σ H R => ∃ S ρ M, RelR K S M H ρ σ ∧ Hold K S cls M H ∧ wpI G t ρ M (fun ds keep M' => ∀ J H', Yld K S cls ds keep M' H' J → Hold K S cls M' H' → Keeps K M H M' H' → R J H') (XW K S cls W σ M H)
def tG (t : Tg) : TG := fun v σ H Q => ∃ S d ρ M, RelD K S M H d v ∧ RelR K S M H ρ σ ∧ Hold K S cls M H ∧ wpG G t d ρ M (RW K S cls Q M H) (XW K S cls W σ M H)
def tGs (t : Tgs) : TGs := fun vs σ H Q => ∃ S ds ρ M, RelDs K S M H ds vs ∧ RelR K S M H ρ σ ∧ Hold K S cls M H ∧ wpGs G t ds ρ M (RW K S cls Q M H) (fun _ _ => False)
def tS (s : Sm) : TS := fun D σ H => ∃ S ρ M, RelR K S M H ρ σ ∧ Hold K S cls M H ∧ wpS G s (KW K S cls W D M H) ρ M
def tSs (s : Sms) : TS := fun D σ H => ∃ S ρ M, RelR K S M H ρ σ ∧ Hold K S cls M H ∧ wpSs G s (KW K S cls W D M H) ρ M
end
section
variable {K : PySem.W.Frag} {S : Addr → Prop} {cls : Cl} {G : Gt} {W : WX} {M M0 M1 M' : Mm} {H H0 H1 H' : Hp} {ρ : Rho} {σ : L2.St}
theorem RelR.keep (r : RelR K S M H ρ σ) (k : Keeps K M H M' H') : RelR K S M' H' ρ σ := ⟨r.len, fun i d e => by
  obtain ⟨v, h1, h2⟩ := r.at_ i d e
  exact ⟨v, h1, h2.keep k⟩⟩
theorem RelR.set (r : RelR K S M H ρ σ) (i : Nat) {d : Dt} {v : V} (rd : RelD K S M H d v) : RelR K S M H (ρ.set i (some d)) (σ.set i (some v)) := ⟨by rw [List.length_set, List.length_set, r.len], fun j e h => by
  by_cases hij : i = j
  · subst hij
    by_cases hl : i < ρ.length
    · rw [List.getElem?_set_self hl] at h
      cases h
      exact ⟨v, List.getElem?_set_self (by rw [← r.len]; exact hl), rd⟩
    · rw [List.getElem?_eq_none (by rw [List.length_set]; omega)] at h
      cases h
  · rw [List.getElem?_set_ne hij] at h
    rw [List.getElem?_set_ne hij]
    exact r.at_ j e h⟩
theorem RelR.unset (r : RelR K S M H ρ σ) (i : Nat) : RelR K S M H (ρ.set i none) (σ.set i none) := ⟨by rw [List.length_set, List.length_set, r.len], fun j e h => by
  by_cases hij : i = j
  · subst hij
    by_cases hl : i < ρ.length
    · rw [List.getElem?_set_self hl] at h
      cases h
    · rw [List.getElem?_eq_none (by rw [List.length_set]; omega)] at h
      cases h
  · rw [List.getElem?_set_ne hij] at h
    rw [List.getElem?_set_ne hij]
    exact r.at_ j e h⟩
theorem RelR.wipe (r : RelR K S M H ρ σ) : ∀ vs : List Nat, RelR K S M H (wipeR ρ vs) (L2.wipe σ vs)
  | [] => r
  | v :: vs => (RelR.wipe r vs).unset v
theorem XW.on {z : Xc} (k : Keeps K M H M1 H1) (x : XW K S cls W σ M H z M') : XW K S cls W σ M1 H1 z M' := fun d H' a b c => x d H' a b (k.trans c)
theorem KW.xw {D : Ends} {z : Xc} (r : RelR K S M1 H1 ρ σ) (k : Keeps K M H M1 H1) (x : (KW K S cls W D M H).xx z ρ M') : XW K S cls W σ M1 H1 z M' := fun d H' a b c => x σ d H' (r.keep c) a b (k.trans c)
variable {q : QD} {x : QX}
theorem tE_in {e : E} {Q : VK} (r : RelR K S M H ρ σ) (h : Hold K S cls M H) (w : wpE G e ρ M q x) (hx : ∀ z M', x z M' → XW K S cls W σ M H z M') (hq : ∀ d M' v H', q d M' → RelD K S M' H' d v → Hold K S cls M' H' → Keeps K M H M' H' → Q v H') : tE K cls G W e σ H Q :=
  ⟨S, ρ, M, r, h, wpE_mono e (fun d M' k v H' a b c => hq d M' v H' k a b c) hx w⟩
theorem tEs_inL {e : Es} {q : QL} {Q : List V → Hp → Prop} (r : RelR K S M H ρ σ) (h : Hold K S cls M H) (w : wpEs G e ρ M q x) (hx : ∀ z M', x z M' → XW K S cls W σ M H z M') (hq : ∀ d M' v H', d.length = e.len → q d M' → RelDs K S M' H' d v → Hold K S cls M' H' → Keeps K M H M' H' → Q v H') : tEs K cls G W e σ H Q :=
  ⟨S, ρ, M, r, h, wpEs_monoL e (fun d M' l k v H' a b c => hq d M' v H' l k a b c) hx w⟩
theorem tEs_in {e : Es} {q : QL} {Q : List V → Hp → Prop} (r : RelR K S M H ρ σ) (h : Hold K S cls M H) (w : wpEs G e ρ M q x) (hx : ∀ z M', x z M' → XW K S cls W σ M H z M') (hq : ∀ d M' v H', q d M' → RelDs K S M' H' d v → Hold K S cls M' H' → Keeps K M H M' H' → Q v H') : tEs K cls G W e σ H Q :=
  tEs_inL r h w hx fun d M' v H' _ => hq d M' v H'
theorem tO_in {e : EO} {q : Option Int → Mm → Prop} {Q : Option Int → Hp → Prop} (r : RelR K S M H ρ σ) (h : Hold K S cls M H) (w : wpO G e ρ M q x) (hx : ∀ z M', x z M' → XW K S cls W σ M H z M') (hq : ∀ d M' H', q d M' → Hold K S cls M' H' → Keeps K M H M' H' → Q d H') : tO K cls G W e σ H Q :=
  ⟨S, ρ, M, r, h, wpO_mono e (fun d M' k H' a b => hq d M' H' k a b) hx w⟩
theorem tT_in {e : T} {q : QB} {Q : Bool → Hp → Prop} (r : RelR K S M H ρ σ) (h : Hold K S cls M H) (w : wpT G e ρ M q x) (hx : ∀ z M', x z M' → XW K S cls W σ M H z M') (hq : ∀ d M' H', q d M' → Hold K S cls M' H' → Keeps K M H M' H' → Q d H') : tT K cls G W e σ H Q :=
  ⟨S, ρ, M, r, h, wpT_mono e (fun d M' k H' a b => hq d M' H' k a b) hx w⟩
theorem tAl_in {e : Ts} {q : QB} {Q : Bool → Hp → Prop} (r : RelR K S M H ρ σ) (h : Hold K S cls M H) (w : wpAll G e ρ M q x) (hx : ∀ z M', x z M' → XW K S cls W σ M H z M') (hq : ∀ d M' H', q d M' → Hold K S cls M' H' → Keeps K M H M' H' → Q d H') : tAl K cls G W e σ H Q :=
  ⟨S, ρ, M, r, h, wpAll_mono e (fun d M' k H' a b => hq d M' H' k a b) hx w⟩
theorem tAn_in {e : Ts} {q : QB} {Q : Bool → Hp → Prop} (r : RelR K S M H ρ σ) (h : Hold K S cls M H) (w : wpAny' G e ρ M q x) (hx : ∀ z M', x z M' → XW K S cls W σ M H z M') (hq : ∀ d M' H', q d M' → Hold K S cls M' H' → Keeps K M H M' H' → Q d H') : tAn K cls G W e σ H Q :=
  ⟨S, ρ, M, r, h, wpAny_mono' e (fun d M' k H' a b => hq d M' H' k a b) hx w⟩
theorem tBo_in {k : Bool} {e : Es} {Q : VK} (r : RelR K S M H ρ σ) (h : Hold K S cls M H) (w : wpB G k e ρ M q x) (hx : ∀ z M', x z M' → XW K S cls W σ M H z M') (hq : ∀ d M' v H', q d M' → RelD K S M' H' d v → Hold K S cls M' H' → Keeps K M H M' H' → Q v H') : tBo K cls G W k e σ H Q :=
  ⟨S, ρ, M, r, h, wpB_mono e (fun d M' k v H' a b c => hq d M' v H' k a b c) hx w⟩
theorem tI_in {e : Ie} {q : List Dt → (Mm → Prop) → Mm → Prop} {R : It → Hp → Prop} (r : RelR K S M H ρ σ) (h : Hold K S cls M H) (w : wpI G e ρ M q x) (hx : ∀ z M', x z M' → XW K S cls W σ M H z M')
    (hq : ∀ ds keep M' J H', q ds keep M' → Yld K S cls ds keep M' H' J → Hold K S cls M' H' → Keeps K M H M' H' → R J H') : tI K cls G W e σ H R :=
  ⟨S, ρ, M, r, h, wpI_mono e (fun ds keep M' k J H' a b c => hq ds keep M' J H' k a b c) hx w⟩
theorem tG_in {t : Tg} {d : Dt} {v : V} {q : QR} {Q : L2.St → Hp → Prop} (rd : RelD K S M H d v) (r : RelR K S M H ρ σ) (h : Hold K S cls M H) (w : wpG G t d ρ M q x) (hx : ∀ z M', x z M' → XW K S cls W σ M H z M')
    (hq : ∀ ρ' M' σ' H', q ρ' M' → RelR K S M' H' ρ' σ' → Hold K S cls M' H' → Keeps K M H M' H' → Q σ' H') : tG K cls G W t v σ H Q :=
  ⟨S, d, ρ, M, rd, r, h, wpG_mono t (fun ρ' M' k σ' H' a b c => hq ρ' M' σ' H' k a b c) hx w⟩
theorem KW.le {D : Ends} (k : Keeps K M H M1 H1) : Kn.Le (KW K S cls W D M H) (KW K S cls W D M1 H1) :=
  ⟨fun _ _ z σ' H' a b c => z σ' H' a b (k.trans c), fun _ _ z v H' a b c => z v H' a b (k.trans c), fun _ _ z σ' H' a b c => z σ' H' a b (k.trans c), fun _ _ z σ' H' a b c => z σ' H' a b (k.trans c), fun _ _ _ z σ' d H' a b c e => z σ' d H' a b c (k.trans e)⟩
theorem tSs_in {s : Sms} {k : Kn} {D : Ends} (r : RelR K S M H ρ σ) (h : Hold K S cls M H) (w : wpSs G s k ρ M) (le : Kn.Le k (KW K S cls W D M H)) : tSs K cls G W s D σ H :=
  ⟨S, ρ, M, r, h, wpSs_mono s le w⟩
theorem tS_in {s : Sm} {k : Kn} {D : Ends} (r : RelR K S M H ρ σ) (h : Hold K S cls M H) (w : wpS G s k ρ M) (le : Kn.Le k (KW K S cls W D M H)) : tS K cls G W s D σ H :=
  ⟨S, ρ, M, r, h, wpS_mono s le w⟩
end

/-! ### the look -/
def okN (y : Str) : Bool := !(y == ("__debug__" : Str)) && (!(y == ("__classdict__" : Str)) && !decide (y = ("__name__" : Str)))
def visB (nm : List (Str × NameKind)) (y : Str) : Bool := match nm.lookup y with
  | some .local => true
  | some .cell => true
  | some .free => true
  | _ => false
def glB (nm : List (Str × NameKind)) (y : Str) : Bool := match nm.lookup y with
  | some .globalImplicit => true
  | _ => false
def locB (nm : List (Str × NameKind)) (top : Bool) (y : Str) : Bool := match nm.lookup y with
  | some .local => true
  | some .cell => top
  | _ => false
def notStar : Expr → Bool
  | .Starred _ _ => false
  | _ => true
def noStars (es : List Expr) : Bool := es.all notStar
/-- the last one is starred, no other -/
def starL : List Expr → Bool
  | [] => false
  | [.Starred z _] => notStar z
  | y :: es => notStar y && starL es
def unstar : List Expr → List Expr
  | [] => []
  | [.Starred z _] => [z]
  | y :: es => y :: unstar es
def notSet : Expr → Bool
  | .Set _ _ _ => false
  | _ => true
def notSlice : Expr → Bool
  | .Slice _ _ _ _ => false
  | _ => true
def noCall0 : Expr → Bool
  | .Call (.Name n _) [] [] _ => decide (n ≠ ("super" : Str))
  | _ => true
def noComp : Expr → Bool
  | .ListComp _ _ _ _ => false
  | .SetComp _ _ _ _ => false
  | .DictComp _ _ _ _ _ => false
  | _ => true
def plainT : Expr → Bool
  | .UnaryOp .Not _ _ => false
  | .BoolOp _ _ _ => false
  | .IfExp _ _ _ _ => false
  | .Compare _ _ _ _ => false
  | _ => true
def biN : BI → Str
  | .len => "len" | .min2 => "min" | .max2 => "max" | .maxL => "max" | .minL => "min" | .sumL => "sum" | .anyL => "any" | .allL => "all"
  | .listOf _ => "list" | .tupOf => "tuple" | .dictOf => "dict" | .sorted _ => "sorted" | .abs => "abs" | .sortedK _ => "sorted" | .dictD => "dict" | .sortedKS _ => "sorted"
/-- no stores are exchanged -/
def swN (nm : List (Str × NameKind)) (tg e : Expr) : Bool := match tg, e with
  | .Tuple ts _ _, .Tuple vs _ _ => !(ts.length == 2 || ts.length == 3) || (vs.length != ts.length || (vs.all (foldedForSure 8) || (ts.filterMap fun
      | .Name id pos => if nm.lookup id == some .local && pos.line == (ts.head?.map (·.pos.line)).getD 0 then some id else none
      | _ => none).length != ts.length))
  | .List _ _, .Tuple _ _ _ => false
  | _, _ => true
/-- a comprehension's variables are not let go behind the store -/
def swT (nm : List (Str × NameKind)) : Expr → Bool
  | .Name t _ => (match nm.lookup t with
    | some .local => false
    | _ => true)
  | _ => true
def swC (nm : List (Str × NameKind)) (tg e : Expr) : Bool := noComp e || swT nm tg
def isiC (Tb : Tab) (nm : List (Str × NameKind)) : List TyR → Bool → Expr → Bool
  | [.ty n], false, .Name z _ => decide (z = Str.ofString n) && (decide (bootBuiltins z = some (.type n)) && (decide (z ∈ Tb.bis) && (glB nm z && okN z)))
  | _, _, _ => false
/-- a block's names, as its targets see them: its own cells are its own -/
def ownN (scope : Scope) : List (Str × NameKind) := scope.names.map fun (n, k) => (n, if k = .cell then .local else k)
def relN (nm : List (Str × NameKind)) (scope : Scope) : List (Str × NameKind) := scope.names.map fun (n, k) => if (k == .free && nm.lookup n == some .cell) then (n, .cell) else (n, k)
mutual
def tgOwn (own : List Nat) : Tg → Bool
  | .name i => decide (i ∈ own)
  | .tup gs => tgsOwn own gs
  | .ix _ _ => false
  | .star _ => false
  | .fld _ _ => false
def tgsOwn (own : List Nat) : Tgs → Bool
  | .nil => true
  | .cons g gs => tgOwn own g && tgsOwn own gs
end
def lamArgs (ps : Arguments) : Bool := ps.posonlyargs.isEmpty && (ps.args.isEmpty && (ps.vararg.isNone && (ps.kwonlyargs.isEmpty && (ps.kw_defaults.isEmpty && (ps.kwarg.isNone && ps.defaults.isEmpty)))))
/-- what may stand behind a return in an except clause -/
def plainE : E → Bool
  | .var _ => true
  | .bl _ => true
  | .non => true
  | _ => false
section
variable (Tb : Tab) (N : List Str)
def tupX : Expr → Bool
  | .Tuple _ _ _ => true
  | _ => false
mutual
def ckE (nm : List (Str × NameKind)) (top : Bool) : E → Expr → Bool
  | .var i, .Name y _ => decide (N[i]? = some y) && (visB nm y && okN y)
  | .int z, .Constant (.int u) _ _ => decide (z = u)
  | .str z, .Constant (.str u) _ _ => decide (z = u)
  | .bl z, .Constant (.bool u) _ _ => decide (z = u)
  | .non, .Constant .none _ _ => true
  | .dnew, .Dict [] [] _ => true
  | .glob g, .Name y _ => decide (Tb.gls.lookup g = some y) && (glB nm y && okN y)
  | .bin o a b, .BinOp l p r _ => decide (opOf o = p) && (ckE nm top a l && ckE nm top b r)
  | .neg a, .UnaryOp .USub l _ => ckE nm top a l
  | .cmp o a b, .Compare l [p] [r] _ => decide (copOf o = p) && (notSet r && (ckE nm top a l && ckE nm top b r))
  | .cmp2 o o2 a b c, .Compare l [p, p2] [m, r] _ => decide (copOf o = p) && (decide (copOf o2 = p2) && (notSet m && (notSet r && (ckE nm top a l && (ckE nm top b m && ckE nm top c r)))))
  | .bop k as, .BoolOp p es _ => decide (p = if k = true then BoolOp.And else BoolOp.Or) && ckEs nm top as es
  | .not_ a, .UnaryOp .Not l _ => ckE nm top a l
  | .ite c a b, .IfExp t l r _ => ckT nm top c t && (ckE nm top a l && ckE nm top b r)
  | .tup as, .Tuple es _ _ => noStars es && ckEs nm top as es
  | .lst _ as, .List es _ => noStars es && ckEs nm top as es
  | .ix a b, .Subscript l r _ => notSlice r && (ckE nm top a l && ckE nm top b r)
  | .sl a lo hi, .Subscript l (.Slice u v none _) _ => ckE nm top a l && (ckO nm top lo u && ckO nm top hi v)
  | .call g as, .Call (.Name y _) (e :: es) [] _ => decide (Tb.fns.lookup g = some (y, (e :: es).length)) && (glB nm y && (okN y && (noStars (e :: es) && ckEs nm top as (e :: es))))
  | .bi f as, .Call (.Name y _) (e :: es) [] _ => decide (biN f = y) && (decide (y ∈ Tb.bis) && (glB nm y && (noStars (e :: es) && ckEs nm top as (e :: es))))
  | .mt m a as, .Call (.Attribute l y ap) es [] cp => decide (miN m = y) && (noCall0 l && ((ap.endLine == cp.line) && (decide (es.length < 29) && (noStars es && (ckE nm top a l && ckEs nm top as es)))))
  | .isi a ts tup, .Call (.Name y _) [l, c] [] _ => isiC Tb nm ts tup c && (decide (y = ("isinstance" : Str)) && (decide (y ∈ Tb.bis) && (glB nm y && (notStar l && (notStar c && ckE nm top a l)))))
  | .lc _ own t it cs e, .ListComp elt [c] scope _ => decide (c.is_async = 0) && (decide (c.ifs.length ≤ 1) && (blkC N ⟨.function, nm, false, false, []⟩ scope own && (notSet c.iter && (ckI nm top c.target it c.iter && (ckG (ownN scope) false t c.target && (tgOwn (own.map (·.2)) t && (ckTs (relN nm scope) false cs c.ifs && ckE (relN nm scope) false e elt)))))))
  | .frz a, x => ckE nm top a x
  | .lock a, x => ckE nm top a x
  | .slT a lo hi, .Subscript l (.Slice u v none _) _ => ckE nm top a l && (ckO nm top lo u && ckO nm top hi v)
  | .sit _ a, .Call (.Name y _) [.Call (.Attribute l z ap) [] [] cp] [] _ => decide (y = ("sorted" : Str)) && (decide (y ∈ Tb.bis) && (glB nm y && (decide (z = ("items" : Str)) && (noCall0 l && ((ap.endLine == cp.line) && ckE nm top a l)))))
  | .dc own t it cs ke ve, .DictComp kx vx [c] scope _ => decide (c.is_async = 0) && (decide (c.ifs.length ≤ 1) && (blkC N ⟨.function, nm, false, false, []⟩ scope own && (notSet c.iter && (ckI nm top c.target it c.iter && (ckG (ownN scope) false t c.target && (tgOwn (own.map (·.2)) t && (ckTs (relN nm scope) false cs c.ifs && (ckE (relN nm scope) false ke kx && ckE (relN nm scope) false ve vx))))))))
  | .fld a f, .Attribute l y _ => decide (f = y) && (decide (f ∈ Tb.flds) && (noCall0 l && ckE nm top a l))
  | .why a, .Call (.Name y _) [.Lambda ps body scope _] [] _ => top && (Tb.why && (decide (y = ("_law_why" : Str)) && (glB nm y && (lamArgs ps && (LamX.lamSB ⟨.function, nm, false, false, []⟩ scope && ckE scope.names false a body)))))
  | .mk c as, .Call (.Name y _) es [] _ => decide (Tb.cls.lookup c = some (y, es.length)) && (glB nm y && (okN y && (noStars es && ((Tb.cop c).full && ckEs nm top as es))))
  | .rev a, .Subscript l (.Slice none none (some (.UnaryOp .USub (.Constant (.int 1) _ _) _)) _) _ => ckE nm top a l
  | .lrng _ a, .Call (.Name y _) [.Call (.Name z _) [l] [] _] [] _ => decide (y = ("list" : Str)) && (decide (y ∈ Tb.bis) && (glB nm y && (decide (z = ("range" : Str)) && (decide (z ∈ Tb.bis) && (glB nm z && (notStar l && ckE nm top a l))))))
  | .srtSet _ a, .Call (.Name y _) [.Call (.Name z _) [l] [] _] [] _ => decide (y = ("sorted" : Str)) && (decide (y ∈ Tb.bis) && (glB nm y && (decide (z = ("set" : Str)) && (decide (z ∈ Tb.bis) && (glB nm z && (notStar l && ckE nm top a l))))))
  | .lenSet a, .Call (.Name y _) [.Call (.Name z _) [l] [] _] [] _ => decide (y = ("len" : Str)) && (decide (y ∈ Tb.bis) && (glB nm y && (decide (z = ("set" : Str)) && (decide (z ∈ Tb.bis) && (glB nm z && (notStar l && ckE nm top a l))))))
  | .maxO a e, .Call (.Name y _) [l] [⟨some z, r, _⟩] _ => decide (y = ("max" : Str)) && (decide (y ∈ Tb.bis) && (glB nm y && (decide (z = ("default" : Str)) && (notStar l && (ckE nm top a l && ckE nm top e r)))))
  | .mkO true c as e, .Call (.Name y _) (x :: es) [⟨some z, r, _⟩] _ => decide (Tb.cls.lookup c = some (y, (x :: es).length + 1)) && (glB nm y && (okN y && (noStars (x :: es) && ((Tb.cop c).named z && (ckEs nm top as (x :: es) && ckE nm top e r)))))
  | .mkO false c as e, .Call (.Name y _) es [] _ => decide (Tb.cls.lookup c = some (y, es.length + 1)) && (glB nm y && (okN y && (noStars es && ((Tb.cop c).left e && ckEs nm top as es))))
  | .methO true m a as e, .Call (.Attribute l y ap) (x :: es) [⟨some z, r, _⟩] cp => decide (m = y) && (decide (m ∈ Tb.mths) && (noCall0 l && ((ap.endLine == cp.line) && (decide (es.length < 26) && (noStars (x :: es) && ((Tb.mop m).named z && (ckE nm top a l && (ckEs nm top as (x :: es) && ckE nm top e r))))))))
  | .methO false m a as e, .Call (.Attribute l y ap) (x :: es) [] cp => decide (m = y) && (decide (m ∈ Tb.mths) && (noCall0 l && ((ap.endLine == cp.line) && (decide (es.length < 26) && (noStars (x :: es) && ((Tb.mop m).left e && (ckE nm top a l && ckEs nm top as (x :: es))))))))
  | .meth m a as, .Call (.Attribute l y ap) es [] cp => decide (m = y) && (decide (m ∈ Tb.mths) && (noCall0 l && ((ap.endLine == cp.line) && (decide (es.length < 29) && (noStars es && ((Tb.mop m).full && (ckE nm top a l && ckEs nm top as es)))))))
  | _, _ => false
def ckEs (nm : List (Str × NameKind)) (top : Bool) : Es → List Expr → Bool
  | .nil, [] => true
  | .cons e es, x :: xs => ckE nm top e x && ckEs nm top es xs
  | _, _ => false
def ckO (nm : List (Str × NameKind)) (top : Bool) : EO → Option Expr → Bool
  | .none, none => true
  | .some e, some x => ckE nm top e x
  | _, _ => false
def ckT (nm : List (Str × NameKind)) (top : Bool) : T → Expr → Bool
  | .val a, x => plainT x && ckE nm top a x
  | .cmp o a b, .Compare l [p] [r] _ => decide (copOf o = p) && (notSet r && (ckE nm top a l && ckE nm top b r))
  | .cmp2 o o2 a b c, .Compare l [p, p2] [m, r] _ => decide (copOf o = p) && (decide (copOf o2 = p2) && (notSet m && (notSet r && (ckE nm top a l && (ckE nm top b m && ckE nm top c r)))))
  | .not_ t, .UnaryOp .Not l _ => ckT nm top t l
  | .all ts, .BoolOp .And (x :: xs) _ => ckTs nm top ts (x :: xs)
  | .any ts, .BoolOp .Or (x :: xs) _ => ckTs nm top ts (x :: xs)
  | _, _ => false
def ckTs (nm : List (Str × NameKind)) (top : Bool) : Ts → List Expr → Bool
  | .nil, [] => true
  | .cons t ts, x :: xs => ckT nm top t x && ckTs nm top ts xs
  | _, _ => false
def ckI (nm : List (Str × NameKind)) (top : Bool) (tg : Expr) : Ie → Expr → Bool
  | .seq a, x => ckE nm top a x
  | .rng1 a, .Call (.Name y _) [l] [] _ => decide (y = ("range" : Str)) && (decide (y ∈ Tb.bis) && (glB nm y && (notStar l && ckE nm top a l)))
  | .rng2 a b, .Call (.Name y _) [l, r] [] _ => decide (y = ("range" : Str)) && (decide (y ∈ Tb.bis) && (glB nm y && (notStar l && (notStar r && (ckE nm top a l && ckE nm top b r)))))
  | .zip a b, .Call (.Name y _) [l, r] [] _ => decide (y = ("zip" : Str)) && (decide (y ∈ Tb.bis) && (glB nm y && (notStar l && (notStar r && (tupX tg && (ckE nm top a l && ckE nm top b r))))))
  | .enm a, .Call (.Name y _) [l] [] _ => decide (y = ("enumerate" : Str)) && (decide (y ∈ Tb.bis) && (glB nm y && (notStar l && (tupX tg && ckE nm top a l))))
  | .items a, .Call (.Attribute l y ap) [] [] cp => decide (y = ("items" : Str)) && (noCall0 l && ((ap.endLine == cp.line) && (tupX tg && ckE nm top a l)))
  | _, _ => false
def ckG (nm : List (Str × NameKind)) (top : Bool) : Tg → Expr → Bool
  | .name i, .Name y _ => decide (N[i]? = some y) && locB nm top y
  | .tup gs, .Tuple es _ _ => noStars es && ckGs nm top gs es
  | .star gs, .Tuple es _ _ => starL es && (decide (es.length < 100) && ckGs nm top gs (unstar es))
  | .ix a b, .Subscript l r _ => notSlice r && (ckE nm top a l && ckE nm top b r)
  | .fld a f, .Attribute l y _ => decide (f = y) && (decide (f ∈ Tb.flds) && ckE nm top a l)
  | _, _ => false
def ckGs (nm : List (Str × NameKind)) (top : Bool) : Tgs → List Expr → Bool
  | .nil, [] => true
  | .cons t ts, x :: xs => ckG nm top t x && ckGs nm top ts xs
  | _, _ => false
end
mutual
def ckS (nm : List (Str × NameKind)) : Sm → Stmt → Bool
  | .asg t e, .Assign [tg] x _ => swC nm tg x && (swN nm tg x && (ckG Tb N nm true t tg && ckE Tb N nm true e x))
  | .asgC i (.lc l own t it cs e), .Assign [.Name y py] (.ListComp elt gs scope pos) sp => decide (N[i]? = some y) && (decide (nm.lookup y = some .local) && ((py.line == pos.line) && (!(scope.names.any fun (n, k) => n == y && (k == .local || k == .cell)) && ckE Tb N nm true (.lc l own t it cs e) (.ListComp elt gs scope pos))))
  | .par i j a b, .Assign [.Tuple [.Name x px, .Name y py] _ _] (.Tuple [l, r] _ _) _ => decide (N[i]? = some x) && (decide (N[j]? = some y) && (decide (i ≠ j) && (decide (x ≠ y) && (decide (nm.lookup x = some .local) && (decide (nm.lookup y = some .local) && ((py.line == px.line) && (notStar l && (notStar r && (!([l, r].all (foldedForSure 8)) && (!([l, r].all (constantsAlone 8)) && (ckE Tb N nm true a l && ckE Tb N nm true b r)))))))))))
  | .aug i o e, .AugAssign (.Name y _) p x _ => decide (N[i]? = some y) && (locB nm true y && ((o == .add || o == .sub) && (decide (opOf o = p) && ckE Tb N nm true e x)))
  | .expr e, .Expr x _ => noComp x && ckE Tb N nm true e x
  | .delD a i, .Delete [.Subscript l r _] _ => ckE Tb N nm true a l && ckE Tb N nm true i r
  | .if_ c a b, .If t l r _ => ckT Tb N nm true c t && (ckSs nm a l && ckSs nm b r)
  | .for_ t it b, .For tg iter body [] _ => notSet iter && (ckI Tb N nm true tg it iter && (ckG Tb N nm true t tg && ckSs nm b body))
  | .while_ c b, .While t body [] _ => ckT Tb N nm true c t && ckSs nm b body
  | .ret e, .Return (some x) _ => ckE Tb N nm true e x
  | .retN, .Return none _ => true
  | .brk, .Break _ => true
  | .cont, .Continue _ => true
  | .pass, .Pass _ => true
  | .never, _ => true
  | .lock s, x => ckS nm s x
  | .par3 i j k a b c, .Assign [.Tuple [.Name x px, .Name y py, .Name z pz] _ _] (.Tuple [u, v, w] _ _) _ => decide (N[i]? = some x ∧ N[j]? = some y ∧ N[k]? = some z ∧ i ≠ j ∧ i ≠ k ∧ j ≠ k ∧ x ≠ y ∧ x ≠ z ∧ y ≠ z ∧ nm.lookup x = some .local ∧ nm.lookup y = some .local ∧ nm.lookup z = some .local) && ((py.line == px.line) && ((pz.line == px.line) && (notStar u && (notStar v && (notStar w && (!([u, v, w].all (foldedForSure 8)) && (!([u, v, w].all (constantsAlone 8)) && (ckE Tb N nm true a u && (ckE Tb N nm true b v && ckE Tb N nm true c w)))))))))
  | .raise c as, .Raise (some (.Call (.Name y _) es [] _)) none _ => decide (Tb.exs.lookup c = some (y, es.length)) && (glB nm y && (okN y && (decide (es.length < 29) && (noStars es && ckEs Tb N nm true as es))))
  | .setf a f e, .Assign [.Attribute l y _] x _ => decide (f = y) && (decide (f ∈ Tb.flds) && (ckE Tb N nm true a l && ckE Tb N nm true e x))
  | .augf a f o e, .AugAssign (.Attribute l y _) p x _ => decide (f = y) && (decide (f ∈ Tb.flds) && ((o == .add || o == .sub) && (decide (opOf o = p) && (ckE Tb N nm true a l && ckE Tb N nm true e x))))
  | .tryN b, .Try body (_ :: _) [] [] _ => ckSs nm b body
  | .tryR b c e, .Try body [.ExceptHandler (some (.Name y _)) none [.Return (some x) _] _] [] [] _ => decide ((Tb.exs.lookup c).map (·.1) = some y) && (glB nm y && (okN y && (plainE e && (ckE Tb N nm true e x && ckSs nm b body))))
  | _, _ => false
def ckSs (nm : List (Str × NameKind)) : Sms → List Stmt → Bool
  | .nil, [] => true
  | .cons s ss, x :: xs => ckS nm s x && ckSs nm ss xs
  | _, _ => false
end
end
end Fm

/-! The engine, part H: side conditions, readings weakened, more rules of the layer. -/
namespace Fm
open PySem L2 PySem.Spec PyProof.Rows

theorem and2 {a b : Bool} (h : (a && b) = true) : a = true ∧ b = true := Bool.and_eq_true_iff.mp h
theorem dec1 {p : Prop} [Decidable p] (h : decide p = true) : p := of_decide_eq_true h

/-! ### side conditions -/
theorem star_cons {e : Expr} (h : notStar e = true) (es : List Expr) (env : Env) : starEach (e :: es) env = (false, eval e env) :: starEach es env := by
  cases e <;> first | rfl | cases h
theorem stars_any : ∀ {es : List Expr}, noStars es = true → ∀ (pos : Pos) (env : Env), (backTo pos (starEach es env)).any (·.1) = false
  | [], _, _, _ => rfl
  | e :: es, h, pos, env => by
    obtain ⟨h1, h2⟩ := and2 (show (notStar e && noStars es) = true from h)
    rw [star_cons h1]
    show (false || (backTo pos (starEach es env)).any (·.1)) = false
    rw [stars_any h2 pos env]; rfl
theorem stars_all : ∀ {es : List Expr}, noStars es = true → ∀ (pos : Pos) (env : Env), (backTo pos (starEach es env)).all (fun x => !x.1) = true
  | [], _, _, _ => rfl
  | e :: es, h, pos, env => by
    obtain ⟨h1, h2⟩ := and2 (show (notStar e && noStars es) = true from h)
    rw [star_cons h1]
    show (true && (backTo pos (starEach es env)).all (fun x => !x.1)) = true
    rw [stars_all h2 pos env]; rfl
theorem attr_base {o : Expr} (h : noCall0 o = true) (a : Str) (env : Env) : attributeBase o a env (eval o env) = eval o env := by
  cases o <;> first | rfl | skip
  rename_i f es ks pos
  cases f <;> first | rfl | skip
  cases es <;> first | rfl | skip
  cases ks <;> first | rfl | skip
  rename_i n p
  have hn : n ≠ ("super" : Str) := of_decide_eq_true h
  have hb : (n != ("super" : Str)) = true := by simpa using hn
  unfold attributeBase
  simp only [hb, Bool.true_or, if_true]
  all_goals first | rfl | exact bind_pure _
theorem true_plain {e : Expr} (h : plainT e = true) (env : Env) : ∀ whole, isTrue e env whole = (do let v ← whole; standAt e.pos; holding [v] (truthy v)) := fun whole => by
  cases e <;> first | rfl | skip
  all_goals first | (cases h; done) | skip
  rename_i op l pos
  cases op <;> first | rfl | cases h
theorem set_plain {e : Expr} (h : notSet e = true) (env : Env) : ∀ x, foldedSetIterable e env x = pure x := fun x => by
  cases e <;> first | rfl | cases h
theorem mark_plain {e : Expr} (h : notSet e = true) (op : CmpOp) : behindInMarks op e = false := by
  cases e <;> first | rfl | cases h
theorem slice_plain {e : Expr} (h : notSlice e = true) : PlainIx e := fun o i => by
  cases e <;> first | rfl | cases h
theorem swaps_plain {e : Expr} (h : noComp e = true) (t : Option Expr) (l : Nat) (env : Env) : swapsWith e t l env = pure false := by
  cases e <;> first | rfl | cases h
theorem swaps_C {nm : List (Str × NameKind)} {tg e : Expr} {env : Env} (hn : env.scope.names = nm) (h : swC nm tg e = true) (l : Nat) : swapsWithSole [tg] e l env = pure false := by
  show swapsWith e (some tg) l env = pure false
  unfold swC at h
  cases hc : noComp e with
  | true => exact swaps_plain hc _ _ _
  | false =>
    rw [hc] at h
    have h' : swT nm tg = true := h
    have key : ∀ t pos, tg = .Name t pos → env.kindOf t ≠ some .local := fun t pos e1 e2 => by
      subst e1
      have e3 : nm.lookup t = some .local := by rw [← hn]; exact e2
      have h2 : (match nm.lookup t with
        | some .local => false
        | _ => true) = true := h'
      rw [e3] at h2
      cases h2
    cases e <;> first | (cases hc; done) | skip
    all_goals
      cases tg <;> first | rfl | skip
      rename_i t pos
      have k := key t pos rfl
      have k' : (env.kindOf t == some NameKind.local) = false := by
        cases q : env.kindOf t with
        | none => rfl
        | some z => cases z <;> first | rfl | exact absurd q k
      unfold swapsWith
      simp [k']
theorem sw_none {nm : List (Str × NameKind)} {tg e : Expr} {env : Env} (hn : env.scope.names = nm) (h : swN nm tg e = true) : swappedStores [tg] e env = pure none := by
  have kn : ∀ id, env.kindOf id = nm.lookup id := fun id => by rw [← hn]; rfl
  cases tg <;> first | rfl | skip
  · cases e <;> first | rfl | cases h
  · rename_i ts k1 p1
    cases e <;> first | rfl | skip
    rename_i vs k2 p2
    unfold swN at h
    unfold swappedStores
    dsimp only at h ⊢
    simp only [kn]
    split
    · rfl
    · rename_i h1
      split
      · rfl
      · split
        · rfl
        · rename_i h3
          split
          · rfl
          · rename_i h4
            exfalso
            simp only [Bool.or_eq_true] at h h1 h3
            rcases h with h | h | h | h
            · exact h1 (.inl (.inl h))
            · exact h1 (.inl (.inr h))
            · exact h4 h
            · exact h3 (.inl h)
theorem boot_bi (f : BI) : bootBuiltins (biN f) = some (biV f) := by
  cases f with
  | listOf l => exact (by decide +kernel : bootBuiltins ("list" : Str) = some (.type "list"))
  | sorted l => exact (by decide +kernel : bootBuiltins ("sorted" : Str) = some (.builtin "sorted"))
  | sortedK l => exact (by decide +kernel : bootBuiltins ("sorted" : Str) = some (.builtin "sorted"))
  | sortedKS l => exact (by decide +kernel : bootBuiltins ("sorted" : Str) = some (.builtin "sorted"))
  | _ => decide +kernel
theorem bi_ok (f : BI) : biN f ≠ ("__name__" : Str) ∧ ((biN f) == ("__debug__" : Str)) = false := by
  cases f with
  | listOf l => exact (by decide +kernel : ("list" : Str) ≠ ("__name__" : Str) ∧ (("list" : Str) == ("__debug__" : Str)) = false)
  | sorted l => exact (by decide +kernel : ("sorted" : Str) ≠ ("__name__" : Str) ∧ (("sorted" : Str) == ("__debug__" : Str)) = false)
  | sortedKS l => exact (by decide +kernel : ("sorted" : Str) ≠ ("__name__" : Str) ∧ (("sorted" : Str) == ("__debug__" : Str)) = false)
  | sortedK l => exact (by decide +kernel : ("sorted" : Str) ≠ ("__name__" : Str) ∧ (("sorted" : Str) == ("__debug__" : Str)) = false)
  | _ => exact ⟨by decide +kernel, by decide +kernel⟩
theorem okN_of {y : Str} (h : okN y = true) : (y == ("__debug__" : Str)) = false ∧ (y == ("__classdict__" : Str)) = false ∧ y ≠ ("__name__" : Str) := by
  unfold okN at h
  obtain ⟨h1, h2⟩ := and2 h
  obtain ⟨h2, h3⟩ := and2 h2
  refine ⟨by simpa using h1, by simpa using h2, ?_⟩
  intro e
  rw [decide_eq_true e] at h3
  cases h3
theorem vis_of {X : Cx} {nm : List (Str × NameKind)} {y : Str} (hn : X.env.scope.names = nm) (h : visB nm y = true) : Vis X.env.scope y := by
  unfold visB at h
  show _ ∨ _ ∨ _
  rw [hn]
  split at h
  · exact .inl (by assumption)
  · exact .inr (.inl (by assumption))
  · exact .inr (.inr (by assumption))
  · cases h
theorem gl_of {X : Cx} {nm : List (Str × NameKind)} {y : Str} (hn : X.env.scope.names = nm) (h : glB nm y = true) : Gl X y := by
  unfold glB at h
  show X.env.scope.names.lookup y = some .globalImplicit
  rw [hn]
  split at h
  · assumption
  · cases h
theorem loc_of {X : Cx} {nm : List (Str × NameKind)} {top : Bool} {y : Str} (hn : X.env.scope.names = nm) (hf : top = true → ∀ x, X.fn x = true) (h : locB nm top y = true) : L2.Loc X.env.scope y ∧ (X.fn y = true ∨ X.env.scope.names.lookup y = some .local) := by
  unfold locB at h
  unfold L2.Loc
  rw [hn]
  split at h
  · exact ⟨.inl (by assumption), .inr (by assumption)⟩
  · exact ⟨.inr (by assumption), .inl (hf h y)⟩
  · cases h

/-! ### readings weakened -/
section
variable {X : Cx}
theorem PE.weak {e : Expr} {t t' : TE} (h : PE X e t) (w : ∀ σ H Q, t' σ H Q → t σ H Q) : PE X e t' := ⟨fun pins s σ H Q I k => h.run pins s σ H Q I (w σ H Q k)⟩
theorem PT.weak {e : Expr} {t t' : TT} (h : PT X e t) (w : ∀ σ H Q, t' σ H Q → t σ H Q) : PT X e t' := ⟨fun pins s σ H Q I k => h.run pins s σ H Q I (w σ H Q k)⟩
theorem PW.weak {e : Expr} {t t' : TT} (h : PW X e t) (w : ∀ σ H Q, t' σ H Q → t σ H Q) : PW X e t' := ⟨fun wh pins s σ H Q I k => h.run wh pins s σ H Q I (w σ H Q k)⟩
theorem PA.weak {e : List Expr} {t t' : TA} (h : PA X e t) (w : ∀ σ H Q, t' σ H Q → t σ H Q) : PA X e t' := ⟨fun pos pins s σ H Q I k => h.run pos pins s σ H Q I (w σ H Q k)⟩
theorem PO.weak {e : Option Expr} {t t' : TO} (h : PO X e t) (w : ∀ σ H Q, t' σ H Q → t σ H Q) : PO X e t' := ⟨fun pins s σ H Q I k => h.run pins s σ H Q I (w σ H Q k)⟩
theorem PS.weak {e : Stmt} {t t' : TS} (h : PS X e t) (w : ∀ D σ H, t' D σ H → t D σ H) : PS X e t' := ⟨fun pins s σ H D I k => h.run pins s σ H D I (w D σ H k)⟩
theorem PSs.weak {e : List Stmt} {t t' : TS} (h : PSs X e t) (w : ∀ D σ H, t' D σ H → t D σ H) : PSs X e t' := ⟨fun pins s σ H D I k => h.run pins s σ H D I (w D σ H k)⟩
theorem PG.weak {e : Expr} {t t' : TG} (h : PG X e t) (w : ∀ v σ H Q, t' v σ H Q → t v σ H Q) : PG X e t' := ⟨fun pins s σ H v u Q I r k => h.run pins s σ H v u Q I r (w v σ H Q k)⟩
theorem PGs.weak {e : List Expr} {t t' : TGs} (h : PGs X e t) (w : ∀ v σ H Q, t' v σ H Q → t v σ H Q) : PGs X e t' := ⟨fun pins s σ H v u Q I r k => h.run pins s σ H v u Q I r (w v σ H Q k)⟩
theorem PI.weak {tg e : Expr} {t t' : TI} (h : PI X tg e t) (w : ∀ σ H R, t' σ H R → t σ H R) : PI X tg e t' := ⟨fun pins s σ H R I k => h.run pins s σ H R I (w σ H R k)⟩
theorem PTs.weak {e : List Expr} {t t' : TT} (h : PTs X e t) (w : ∀ σ H Q, t' σ H Q → t σ H Q) : PTs X e t' := ⟨fun pins s σ H Q I k => h.run pins s σ H Q I (w σ H Q k)⟩

/-- a list or a tuple is walked -/
def iSeq (K : PySem.W.Frag) (tl : TE) : TI := fun σ H R => tl σ H fun x H1 => (∃ a xs, x = .ref a ∧ SqL K H1 a xs ∧ R (Itl K a) H1) ∨ ∃ a xs, x = .ref a ∧ SqT K H1 a xs ∧ R (Itt K a) H1
theorem pi_seq {tg l : Expr} {tl : TE} (hl : PE X l tl) : PI X tg l (iSeq X.K tl) := by
  refine ⟨fun pins s σ H R I h => ?_⟩
  refine thn (hl.run pins s σ H _ I h) fun v s1 ⟨x, H1, I1, r1, q1⟩ => ?_
  rcases q1 with ⟨a, xs, rfl, hq, q⟩ | ⟨a, xs, rfl, hq, q⟩
  · cases r1
    obtain ⟨its, rv, p, hz⟩ := I1.list hq
    refine wpAny_pyIter_list p.isList ?_
    refine ⟨s1.heap.objs.size, [s1.heap.objs.size], _, _, H1, rfl, I1.kept (t' := s1.toks) fun b o e => Heap.get?_push_of_some _ e, turn_list a _, ⟨_, Heap.get?_push_size _ rfl, rfl, rfl⟩, fun b hb => ?_, q⟩
    have e : b = s1.heap.objs.size := by simpa using hb
    subst e
    exact I1.fpOk (Nat.le_refl _) (I1.hok.fresh (Nat.le_refl _))
  · cases r1
    obtain ⟨its, rv, p, hz⟩ := I1.tuple hq
    refine wpAny_pyIter_tuple (show s1.heap.IsTuple a its.toArray from p) ?_
    refine ⟨s1.heap.objs.size, [s1.heap.objs.size], _, _, H1, rfl, I1.kept (t' := s1.toks) fun b o e => Heap.get?_push_of_some _ e, turn_tuple a _, ⟨_, Heap.get?_push_size _ rfl, rfl, rfl⟩, fun b hb => ?_, q⟩
    have e : b = s1.heap.objs.size := by simpa using hb
    subst e
    exact I1.fpOk (Nat.le_refl _) (I1.hok.fresh (Nat.le_refl _))

/-- and, or as values, whatever -/
theorem pe_andB {a b : Expr} {rest : List Expr} {pos : Pos} {ta tb : TE} (k : Bool) (ha : PE X a ta) (hb : PE X (.BoolOp (if k = true then BoolOp.And else BoolOp.Or) (b :: rest) pos) tb) :
    PE X (.BoolOp (if k = true then BoolOp.And else BoolOp.Or) (a :: b :: rest) pos) (fun σ H Q => ta σ H fun x H1 => ∃ c, x = .bl c ∧ if c = k then tb σ H1 Q else Q (.bl c) H1) := by
  cases k with
  | true =>
    refine PE.weak (pe_and ha hb) fun σ H Q h => ?_
    unfold tAndV
    have e : (fun (x : V) (H1 : Hp) => ∃ c, x = V.bl c ∧ if c = true then tb σ H1 Q else Q (V.bl c) H1) = fun (x : V) (H1 : Hp) => ∃ c, x = V.bl c ∧ if c = true then tb σ H1 Q else Q (V.bl false) H1 := by
      funext x H1
      refine propext ⟨?_, ?_⟩ <;> (rintro ⟨c, e, q⟩; refine ⟨c, e, ?_⟩; cases c <;> exact q)
    rw [← e]
    exact h
  | false =>
    refine PE.weak (pe_or ha hb) fun σ H Q h => ?_
    unfold tOrV
    have e : (fun (x : V) (H1 : Hp) => ∃ c, x = V.bl c ∧ if c = false then tb σ H1 Q else Q (V.bl c) H1) = fun (x : V) (H1 : Hp) => ∃ c, x = V.bl c ∧ if c = true then Q (V.bl true) H1 else tb σ H1 Q := by
      funext x H1
      refine propext ⟨?_, ?_⟩ <;> (rintro ⟨c, e, q⟩; refine ⟨c, e, ?_⟩; cases c <;> exact q)
    rw [← e]
    exact h
theorem opr_ibin {cls : Cl} (o : BO) (ho : o = .add ∨ o = .sub) : OpR X (inplaceOp (opOf o)) (rBin X.K cls o) := by
  intro pins s σ H x y v u Q I rx ry h
  obtain ⟨S, M, a, b, q, ra, rb, hh, k, f⟩ := h
  unfold binD at k
  split at k
  · cases ra; cases rb; exact iop_add pins s σ H _ _ v u Q I rx ry ⟨_, _, rfl, rfl, f.here hh (.int _) k⟩
  · cases ra; cases rb; exact iop_add_str pins s σ H _ _ v u Q I rx ry ⟨_, _, rfl, rfl, k.1, f.here hh (.str _) k.2⟩
  · cases ra; cases rb; exact iop_sub pins s σ H _ _ v u Q I rx ry ⟨_, _, rfl, rfl, f.here hh (.int _) k⟩
  · cases ra
    cases rb
    obtain ⟨tk, rfl⟩ := rx
    cases (show u = Value.bool _ from ry)
    exact PySem.IntBool.isub_int_bool ⟨.int _, H, I.tok _, ⟨_, rfl⟩, f.here hh (.int _) k⟩
  · cases ra
    cases rb
    obtain ⟨tk, rfl⟩ := ry
    cases (show v = Value.bool _ from rx)
    exact PySem.IntBool.isub_bool_int ⟨.int _, H, I.tok _, ⟨_, rfl⟩, f.here hh (.int _) k⟩
  · cases ra
    cases rb
    obtain ⟨tk, rfl⟩ := ry
    cases (show v = Value.bool _ from rx)
    exact PySem.IntBool.iadd_bool_int ⟨.int _, H, I.tok _, ⟨_, rfl⟩, f.here hh (.int _) k⟩
  all_goals first | exact k.elim | (rcases ho with ho | ho <;> cases ho)
end
theorem PG.or {X : Cx} {x : Expr} {t1 t2 : TG} (h1 : PG X x t1) (h2 : PG X x t2) : PG X x (fun v σ H Q => t1 v σ H Q ∨ t2 v σ H Q) :=
  ⟨fun pins s σ H v u Q I r h => h.elim (h1.run pins s σ H v u Q I r) (h2.run pins s σ H v u Q I r)⟩
theorem items_rel {K : PySem.W.Frag} {S : Addr → Prop} {cls : Cl} {M : Mm} {H : Hp} {d : Dt} {v : V} {ds : List Dt} (h : Hold K S cls M H) (r : RelD K S M H d v) (e : itemsD M d = some ds) : ∃ a xs, v = .ref a ∧ (SqT K H a xs ∨ SqL K H a xs) ∧ RelDs K S M H ds xs := by
  by_cases hd : ∃ es, d = .tup es
  · obtain ⟨es, rfl⟩ := hd
    cases e
    obtain ⟨a, xs, rfl, h1, h2⟩ := r.ofTup
    exact ⟨a, xs, rfl, .inl h1, h2⟩
  · have e : seqL M d = some ds := by
      cases d <;> first | exact e | exact absurd ⟨_, rfl⟩ hd
    obtain ⟨a, xs, rfl, h1, h2⟩ := seqL_rel h r e
    exact ⟨a, xs, rfl, .inr h1, h2⟩
end Fm

/-! The engine, part 2: sets of ints told from lists. -/
namespace Fm
open PySem L2 PySem.Spec PyProof.Rows
/-! ### set(xs) of a list of ints -/
def nSet (w : World) : Obj := { cls := .type "set", dict := none, data := .set #[] 0 (.fresh 0 0 (!w.params.followText "set-order")) }
section
variable {P : Program} {w : World} {A : Around} {E : Value → Shared → Prop} {s : Shared}
theorem set_of_list {l : Addr} {items : Array Value} (is : List Int) {Q : Value → Shared → Prop} (calm : A.handled = none) (hl : s.heap.IsList l items) (hin : IntsAre items.toList is) (few : is.length + 1 < scanBound)
    (fin : ∀ (h' : Heap) (tk c : Nat), SetR w h' s.heap.objs.size (fun j => decide (j ∈ is)) c → c ≤ is.length → (∀ b o, s.heap.get? b = some o → h'.get? b = some o) → Q (.ref s.heap.objs.size) { s with heap := h', toks := tk }) :
    wpAny (model P w) A (call (.type "set") [.ref l]) Q E s := by
  have size : items.size = is.length := by simpa using IntsAre.length hin
  obtain ⟨cc, tl, hmro⟩ := F.called_set.mro
  have q1 := F.called_set.made
  have q2 := F.called_set.sub
  refine wpAny_call (codeAny_of_tree ?_)
  show wpAny _ _ (callAny (.type "set") _) _ _ _
  refine wpAny_pure ⟨Code.quiet_builtin _ (by decide +kernel), codeAny_builtin F.entry_type_call ?_⟩
  rw [Around.under_plain (weight_type_call_type "set" [.ref l] []) rfl]
  have q3 := F.called_set.notType
  have q4 := F.called_set.canCreate
  have q5 := F.typeCall_set_1 (.ref l)
  repeat (any_goals (first | assumption | wp_step))
  refine codeAny_mono (code_set_led1 (.ref l) (E := E) (Q₁ := fun u s2 => u = .ref s.heap.objs.size ∧ s2 = { s with heap := s.heap.push (nSet w) }) ⟨rfl, rfl⟩) fun r s2 hr => ?_
  cases r with
  | error e => exact hr
  | ok fl =>
    cases fl with
    | ret u =>
      obtain ⟨rfl, rfl⟩ := hr
      have new : (s.heap.push (nSet w)).get? s.heap.objs.size = some (nSet w) := Heap.get?_push_size _ rfl
      have hT : Shared.TypeIs { s with heap := s.heap.push (nSet w) } (.ref s.heap.objs.size) "set" := ⟨_, new, rfl⟩
      have q6 := F.called_set.init.lookup
      have q7 := F.called_set.init.bind (.ref s.heap.objs.size)
      repeat (any_goals (first | assumption | wp_step))
      refine codeAny_mono (codeAny_call_builtin (R := wants (fun r s3 => r = .none ∧ ∃ h' tk c, s3 = { s with heap := h', toks := tk } ∧ SetR w h' s.heap.objs.size (fun j => decide (j ∈ is)) c ∧ c ≤ is.length ∧ (∀ b o, s.heap.get? b = some o → h'.get? b = some o)) E)
        F.called_set.init.plain F.entry_set_init (check_set_init_1 hT ?_)) fun r3 s3 hr3 => ?_
      · obtain ⟨⟨ocls, odict, odata, oslots⟩, hol, hcl, nl, hdl⟩ := hl
        simp only at hcl hdl
        subst hcl; subst hdl
        have holp : (s.heap.push (nSet w)).get? l = some { cls := .type "list", dict := odict, data := .seq items nl, slots := oslots } := Heap.get?_push_of_some _ hol
        have r1 := F.sub_list_set
        have r2 := F.sub_list_frozenset
        have r3 : (Value.type "list" == Value.type "dict") = false := by decide
        have hl1 : (s.heap.push (nSet w)).IsList l items := ⟨_, holp, rfl, nl, rfl⟩
        unfold Builtin.«set.__init__» noKeywords Builtin.Frozenset.updateFrom
        generalize hPI : pyIter = PI
        wp_walk
        subst hPI
        refine wpAny_pyIter_list hl1 ?_
        refine wpAny_bind (wpAny_runValue ?_)
        have lt : l < s.heap.objs.size := Heap.lt_size hol
        have calm3 : A.in1.in1.in1.handled = none := by simp [calm]
        have zz : (s.heap.push (nSet w)).objs.size = s.heap.objs.size + 1 := Heap.size_push ..
        have neI : l ≠ (s.heap.push (nSet w)).objs.size := fun e => Nat.lt_irrefl l (by rw [zz] at e; exact Nat.lt_of_lt_of_eq (Nat.lt_succ_of_lt lt) e.symm)
        have off : s.heap.objs.size ∉ [(s.heap.push (nSet w)).objs.size, l] := by
          simp only [List.mem_cons, List.not_mem_nil, or_false, not_or]
          exact ⟨fun e => Nat.ne_of_lt (Nat.lt_succ_self _) (e.trans zz), fun e => Nat.ne_of_lt lt e.symm⟩
        have each : ∀ (i : Nat) (v : Value), items[i]? = some v → ∃ k t, is[i]? = some k ∧ v = .int k t := fun i v hv => by
          have hi : i < is.length := by rw [← size]; exact (Array.getElem?_eq_some_iff.mp hv).1
          obtain ⟨t, e⟩ := IntsAre.int_at hin i v (by rw [Array.getElem?_toList]; exact hv)
          have ek : is[i]? = some is[i] := List.getElem?_eq_getElem hi
          refine ⟨is[i], t, ek, ?_⟩
          rw [e, List.getD_eq_getElem?_getD, ek]
          rfl
        refine set_update_ints ((Walks.list calm3 _ l neI items).toS) s.heap.objs.size off is size few each (items.size - 0) 0 _ (by omega) (Nat.zero_le _) ⟨⟨_, Heap.get?_push_size _ rfl, rfl, rfl⟩, (hl1.push _)⟩ ?hS0 ?hR
        case hS0 => exact ⟨0, Nat.le_refl 0, setR_new_at (Heap.get?_push_of_some _ new)⟩
        case hR =>
          rintro ⟨h', g2, d', tk', os'⟩ c' hm hc' hS'
          obtain rfl : g2 = s.gens := hm.gens
          obtain rfl : d' = s.drawn := hm.drawn
          obtain rfl : os' = s.os := hm.os
          show wpAny _ _ _ _ _ _
          refine wpAny_pure ?_
          show wpAny _ _ (ret Value.none) _ _ _
          rw [size] at hc'
          refine wpAny_pure ⟨rfl, h', tk', c', rfl, hS', hc', fun b o e => ?_⟩
          have lb : b < s.heap.objs.size := Heap.lt_size e
          refine hm.heap b o ?_ (Heap.get?_push_of_some _ (Heap.get?_push_of_some _ e))
          simp only [List.mem_cons, List.not_mem_nil, or_false, not_or]
          exact ⟨Nat.ne_of_lt lb, fun e => Nat.ne_of_lt (Nat.lt_succ_of_lt lb) (e.trans zz)⟩
      · cases r3 with
        | error e => exact hr3
        | ok f3 =>
          cases f3 with
          | ret r =>
            obtain ⟨rfl, h', tk, c, rfl, a1, a2, a3⟩ := hr3
            repeat (any_goals (first | assumption | wp_step))
            exact fin _ _ _ a1 a2 a3
          | _ => exact hr3.elim
    | _ => exact hr.elim
end
/-! ### sorted(set(xs)), len(set(xs)) of lists of ints -/
section
variable {X : Cx}
def tSrtSet (K : PySem.W.Frag) (ta : TE) : TE := fun σ H Q => ta σ H fun x H1 => ∃ (l : Addr) (is : List Int), x = V.ref l ∧ SqL K H1 l (is.map V.int) ∧ is.length < 64 ∧
  ∀ (zs : List Int) (p : Addr), zs.Pairwise (· < ·) → (∀ k : Int, k ∈ zs ↔ k ∈ is) → H1 p = none → Q (.ref p) (upd H1 p (.lst (zs.map V.int)))
theorem pe_srtSet {a : Expr} {ta : TE} {p p2 q pos : Pos} (calm : X.calm = true) (hg : Gl X "sorted") (hm : X.mg "sorted" = none) (hg2 : Gl X "set") (hm2 : X.mg "set" = none) (ha : PE X a ta)
    (na : starEach [a] X.env = (false, eval a X.env) :: starEach [] X.env := by rfl) : PE X (.Call (.Name "sorted" p) [.Call (.Name "set" p2) [a] [] q] [] pos) (tSrtSet X.K ta) := ⟨fun pins s σ H Q I h => by
  refine Call_ (ld_blt I hg hm PyProof.Rows.boot_sorted ?_)
  refine callWith_builtin1 (args_cons ?_ rfl) rfl rfl
  refine Call_ (ld_blt I hg2 hm2 PyProof.Rows.boot_set ?_)
  refine callWith_type1 (args_cons (thn (ha.run pins s σ H _ I h) fun v s1 ⟨x, H1, I1, r1, q1⟩ => args_nil ?_) na) na rfl
  obtain ⟨l, is, rfl, sq, few, fin⟩ := q1
  cases r1
  obtain ⟨its, rv, pl, hz⟩ := I1.list sq
  have hl : its.toArray.size = is.length := by rw [List.size_toArray, ← rv.length, List.length_map]
  refine set_of_list is (I1.ok.hd calm) pl.isList (by simpa using rv.ints) (by unfold scanBound; omega) fun h2 tk c hS hc2 keep => ?_
  refine args_nil ?_
  have I2 : Inv X pins σ H1 { s1 with heap := h2, toks := tk } := I1.kept keep
  have hS : SetR X.w ({ s1 with heap := h2, toks := tk } : Shared).heap s1.heap.objs.size (fun j => decide (j ∈ is)) c := hS
  generalize ({ s1 with heap := h2, toks := tk } : Shared) = s2 at I2 hS ⊢
  refine sorted_set hS (I2.ok.hd calm) (by omega) fun s3 at3 out n3 zs k3 g3 o3 hp hgt hin hs hmem hlen => ?_
  have small : (zs.map V.int).length ≤ sizeLine := by rw [List.length_map, hlen, sizeLine_eq]; omega
  have free : H1 at3 = none := I2.hok.fresh hp
  have J : Inv X pins σ (upd H1 at3 (.lst (zs.map V.int))) { s2 with heap := s3.heap, gens := s3.gens, drawn := s3.drawn, toks := s3.toks } :=
    I2.call (ch := []) (Un.laid k3 hp free) (I2.hok.laid k3 hp ⟨small, out.toList, n3, vals_of_ints hin, hgt⟩) (by rw [g3]; exact I2.bare) (fun _ z => nomatch z)
  have e3 : s3 = { s2 with heap := s3.heap, gens := s3.gens, drawn := s3.drawn, toks := s3.toks } := by
    cases s3; cases s2; cases o3; rfl
  rw [e3]
  exact ⟨.ref at3, _, J, rfl, fin zs at3 hs (fun k => by rw [hmem]; exact decide_eq_true_iff) free⟩⟩
def tLenSt (K : PySem.W.Frag) (ta : TE) : TE := fun σ H Q => ta σ H fun x H1 => ∃ (l : Addr) (is : List Int), x = V.ref l ∧ SqL K H1 l (is.map V.int) ∧ is.length < 64 ∧
  ∀ (zs : List Int), zs.Nodup → (∀ k : Int, k ∈ zs ↔ k ∈ is) → Q (.int zs.length) H1
theorem pe_lenSt {a : Expr} {ta : TE} {p p2 q pos : Pos} (calm : X.calm = true) (hg : Gl X "len") (hm : X.mg "len" = none) (hg2 : Gl X "set") (hm2 : X.mg "set" = none) (ha : PE X a ta)
    (na : starEach [a] X.env = (false, eval a X.env) :: starEach [] X.env := by rfl) : PE X (.Call (.Name "len" p) [.Call (.Name "set" p2) [a] [] q] [] pos) (tLenSt X.K ta) := ⟨fun pins s σ H Q I h => by
  refine Call_ (ld_blt I hg hm PySem.boot_len ?_)
  refine callWith_builtin1 (args_cons ?_ rfl) rfl rfl
  refine Call_ (ld_blt I hg2 hm2 PyProof.Rows.boot_set ?_)
  refine callWith_type1 (args_cons (thn (ha.run pins s σ H _ I h) fun v s1 ⟨x, H1, I1, r1, q1⟩ => args_nil ?_) na) na rfl
  obtain ⟨l, is, rfl, sq, few, fin⟩ := q1
  cases r1
  obtain ⟨its, rv, pl, hz⟩ := I1.list sq
  have hl : its.toArray.size = is.length := by rw [List.size_toArray, ← rv.length, List.length_map]
  refine set_of_list is (I1.ok.hd calm) pl.isList (by simpa using rv.ints) (by unfold scanBound; omega) fun h2 tk c hS hc2 keep => ?_
  refine args_nil ?_
  have I2 : Inv X pins σ H1 { s1 with heap := h2, toks := tk } := I1.kept keep
  obtain ⟨o, es, ep, t, g1, g2, g3, g4, g5, g6, g7, g8, g9, _⟩ := hS
  refine call_len_set g1 g2 g3 g8 (by rw [g9]; omega) ?_
  have e1 : (es.size : Int) = ((es.toList.map L2.keyOf).length : Int) := by simp
  exact ⟨.int (es.toList.map L2.keyOf).length, H1, I2.tok _, ⟨_, by rw [← e1]⟩, fin _ g5 fun k => by rw [← g6]; exact decide_eq_true_iff⟩⟩
end
end Fm

/-! The engine, part O: a first name and the rest. -/
namespace Fm
open PySem L2 PySem.Spec PyProof.Rows

/-- a tuple taken apart: the first ones, and a new list of the others -/
theorem first_rest {prog : Program} {w : World} {A : Around} {E : Value → Shared → Prop} {s : Shared} {t : Addr} {us vs : List Value} {Q : List Value → Shared → Prop} (hh : A.handled = none)
    (ht : s.heap.IsTuple t (us ++ vs).toArray) (hu : us.length < 100) (hz : vs.length < 16384)
    (h : ∀ (h' : Heap) (tk : Nat), (∀ b o, s.heap.get? b = some o → h'.get? b = some o) → Q (us ++ [.ref h'.objs.size]) { s with heap := h'.push { cls := .type "list", data := .seq vs.toArray }, toks := tk }) :
    wpAny (model prog w) A (unpackItems (.ref t) (us.length + 1) (some us.length)) Q E s := by
  obtain ⟨ot, eot, _⟩ := id ht
  have far : t ≠ s.heap.objs.size := Nat.ne_of_lt (Heap.lt_size eot)
  have cnt : (us ++ vs).toArray.size = us.length + vs.length := by simp
  unfold unpackItems notIterableAtAll
  refine wpAny_bind (wpAny_bind (wpAny_specialOf ht.typeIs F.slot_tuple_iter.lookup (wpAny_pure ?_)))
  simp only [Bool.false_eq_true, if_false]
  refine wpAny_bind (wpAny_holding (wpAny_pyIter_tuple ht (wpAny_bind (wpAny_holding ?_))))
  refine wpAny_draw_tuple far us.length 0 _ _ ⟨_, Heap.get?_push_size _ rfl, rfl, rfl⟩ (ht.push _) (by omega) fun h1 it1 same1 => ?_
  have t1 : h1.IsTuple t (us ++ vs).toArray := (ht.push _).extBut same1.extBut far
  obtain ⟨oi, eoi, _⟩ := id it1
  obtain ⟨ol, eol, _⟩ := id t1
  have tk0 : ((us ++ vs).toArray.toList.drop 0).take us.length = us := by
    show ((us ++ vs).drop 0).take us.length = us
    rw [List.drop_zero, List.take_left]
  rw [tk0]
  rw [if_neg (Nat.lt_irrefl _)]
  refine wpAny_bind (wpAny_holding ?_)
  rw [Nat.zero_add] at it1
  refine PySem.W.kun_collect (s := { s with heap := h1 }) (.inr (.inr (.inr rfl))) (Walks.tuple (A := A.in1) hh _ t far (us ++ vs).toArray) (fun j v st => st.1.typeIs) (k := us.length) (by omega) ⟨it1, t1⟩ (Heap.lt_size eoi) (Heap.lt_size eol) (fun h2 tk hk => ?_) (by rw [cnt]; show _ ≤ 16777216; omega)
  have all : ∀ b o, s.heap.get? b = some o → h2.get? b = some o := fun b o e => by
    have hb : b ≠ s.heap.objs.size := Nat.ne_of_lt (Heap.lt_size e)
    exact hk b o hb (same1.extBut b o hb (Heap.get?_push_of_some _ e))
  have d1 : List.drop us.length (us ++ vs).toArray.toList = vs := by
    show (us ++ vs).drop us.length = vs
    rw [List.drop_left]
  have a0 : us.length + 1 - 1 - us.length = 0 := by omega
  rw [d1, a0, if_neg (Nat.not_lt_zero _), Nat.sub_zero, List.take_length, List.drop_length]
  refine wpAny_bind (wpAny_newList (wpAny_pure ?_) (by show _ ≤ 16777216; omega))
  rw [List.append_nil]
  exact h h2 tk all

/-- (x, .., *y) = a tuple -/
def gStar (K : PySem.W.Frag) (n : Nat) (t : TGs) : TG := fun v σ H Q => ∃ a xs ys, v = .ref a ∧ SqT K H a (xs ++ ys) ∧ xs.length = n ∧ ys.length < 16384 ∧ ∀ p, H p = none → t (xs ++ [.ref p]) σ (upd H p (.lst ys)) Q
theorem vals_split : ∀ {xs ys : List V} {us : List Value}, Vals (xs ++ ys) us → ∃ u1 u2, us = u1 ++ u2 ∧ Vals xs u1 ∧ Vals ys u2 := fun {xs ys us} r =>
  ⟨us.take xs.length, us.drop xs.length, (List.take_append_drop _ _).symm, by have := r.take xs.length; rwa [List.take_left] at this, by have := r.drop xs.length; rwa [List.drop_left] at this⟩
theorem pg_star {X : Cx} {es fs : List Expr} {pos : Pos} {k n : Nat} {t : TGs} (hc : X.calm = true) (h : PGs X fs t) (hn : n < 100)
    (hm : (assignEach es X.env).map (·.2) = (assignEach fs X.env).map (·.2)) (h1 : (assignEach es X.env).length = n + 1)
    (h2 : (assignEach es X.env).findIdx? (·.1) = some n) : PG X (.Tuple es k pos) (gStar X.K n t) := by
  refine ⟨fun pins s σ H v u Q I r hw => ?_⟩
  obtain ⟨a, xs, ys, rfl, hq, hxn, hl, hw⟩ := hw
  cases r
  obtain ⟨its, rv, ht, -⟩ := I.tuple hq
  obtain ⟨u1, u2, rfl, r1, r2⟩ := vals_split rv
  have len : ys.length = u2.length := r2.length
  have len1 : u1.length = n := by rw [← r1.length]; exact hxn
  rw [arm_assign_Tuple]
  refine wpAny_bind (wpAny_standAt ?_)
  unfold unpack
  rw [h1, h2, hm]
  refine wpAny_bind (wpAny_holding ?_)
  rw [← len1]
  refine first_rest (I.ok.hd hc) ht (by omega) (by omega) fun h' tk keep => ?_
  have I1 : Inv X pins σ H { s with heap := h', toks := tk } := I.kept keep
  have fr : H h'.objs.size = none := I1.hok.fresh (Nat.le_refl _)
  have I2 : Inv X pins σ (upd H h'.objs.size (.lst ys)) { s with heap := h'.push { cls := .type "list", data := .seq u2.toArray }, toks := tk } :=
    I1.laid (a := h'.objs.size) (o := .lst ys) (t' := tk) (fun _ _ q => Heap.get?_push_of_some _ q) (Nat.le_refl _) ⟨by rw [len]; show _ ≤ 16777216; omega, u2, 0, r2, Heap.get?_push_size _ rfl⟩
  exact h.run pins _ σ _ (xs ++ [.ref h'.objs.size]) (u1 ++ [.ref h'.objs.size]) Q I2 (r1.append (show Vals [.ref h'.objs.size] [.ref h'.objs.size] from .cons rfl .nil)) (hw _ fr)
theorem star_each : ∀ {es : List Expr} (env : Env), starL es = true →
    (assignEach es env).map (·.2) = (assignEach (unstar es) env).map (·.2) ∧ (assignEach es env).length = es.length ∧ (assignEach es env).findIdx? (·.1) = some (es.length - 1) ∧ (unstar es).length = es.length ∧ 0 < es.length
  | [], _, h => by cases h
  | y :: es, env, h => by
    by_cases hy : notStar y = true
    · have e1 : ∀ r, assignEach (y :: r) env = (false, assign y env) :: assignEach r env := by
        intro r
        cases y <;> first | rfl | cases hy
      have e2 : starL es = true ∧ unstar (y :: es) = y :: unstar es := by
        cases es with
        | nil => cases y <;> first | (cases hy; done) | exact absurd h Bool.false_ne_true
        | cons z es =>
          cases y <;> first | (cases hy; done) | exact ⟨h, rfl⟩
      obtain ⟨a1, a2, a3, a4, a5⟩ := star_each env e2.1
      rw [e2.2, e1, e1]
      refine ⟨by rw [List.map_cons, List.map_cons, a1], by rw [List.length_cons, a2, List.length_cons], ?_, by rw [List.length_cons, a4, List.length_cons], Nat.succ_pos _⟩
      rw [List.findIdx?_cons, a3]
      show some (es.length - 1 + 1) = some (es.length + 1 - 1)
      congr 1
      omega
    · cases y <;> first | exact absurd rfl hy | skip
      rename_i z p
      cases es with
      | nil =>
        have hz : notStar z = true := h
        have e2 : assignEach [z] env = [(false, assign z env)] := by
          cases z <;> first | rfl | cases hz
        show (assignEach [.Starred z p] env).map (·.2) = (assignEach [z] env).map (·.2) ∧ _
        rw [arm_assignEach_Starred, e2]
        exact ⟨rfl, rfl, rfl, rfl, Nat.succ_pos _⟩
      | cons _ _ => exact absurd h (by simp [starL, notStar])

/-! ### a field as a target -/
section
variable {X : Cx} {o : Expr} {f : Str} {pos : Pos} {ta : TE}
def gFld (K : PySem.W.Frag) (ta : TE) (f : Str) : TG := fun v σ H Q => ta σ H fun x H1 => ∃ a C dx fs, x = .ref a ∧ H1 a = some (.ins C dx fs) ∧ Cls K C ∧ NoAttr K C f ∧ fs.length < 1000 ∧ Q σ (upd H1 a (.ins C dx (putF f v fs)))
theorem pg_fld (ha : PE X o ta) : PG X (.Attribute o f pos) (gFld X.K ta f) := by
  refine ⟨fun pins s σ H v u Q I r h => ?_⟩
  rw [arm_assign_Attribute]
  refine wpAny_bind (wpAny_holding (thn (ha.run pins s σ H _ I h) fun w s1 ⟨x, H1, I1, rx, a, C, dx, fs, ex, ea, c, n, l, q⟩ => ?_))
  subst ex
  obtain rfl : w = Value.ref a := rx
  refine wpAny_bind (wpAny_standAt (wpAny_bind (wpAny_holding (setattr_ok I1 ea c n l r fun s2 I2 => ?_))))
  exact wpAny_release ⟨σ, _, I2, q⟩
end
/-! ### three names at once -/
theorem sw_par3 {nm : List (Str × NameKind)} {x y z : Str} {px py pz pt p2 : Pos} {kt k2 : Nat} {l m r : Expr} {env : Env} (hn : env.scope.names = nm) (hk : env.scope.kind = .function) (hx : nm.lookup x = some .local) (hy : nm.lookup y = some .local) (hz : nm.lookup z = some .local)
    (hxy : x ≠ y) (hxz : x ≠ z) (hyz : y ≠ z) (hp : (py.line == px.line) = true) (hq : (pz.line == px.line) = true) (hl : notStar l = true) (hm : notStar m = true) (hr : notStar r = true) (hf : (!([l, m, r].all (foldedForSure 8))) = true) (hc : (!([l, m, r].all (constantsAlone 8))) = true) :
    swappedStores [.Tuple [.Name x px, .Name y py, .Name z pz] kt pt] (.Tuple [l, m, r] k2 p2) env = pure (some [x, y, z]) := by
  have e1 : env.kindOf x = some .local := by rw [← hn] at hx; exact hx
  have e2 : env.kindOf y = some .local := by rw [← hn] at hy; exact hy
  have e4 : env.kindOf z = some .local := by rw [← hn] at hz; exact hz
  have e3 : env.blockKind = .function := by first | exact hk | (unfold Env.blockKind; rw [hk]; rfl)
  have e5 : ([l, m, r].all (foldedForSure 8)) = false := by revert hf; cases ([l, m, r].all (foldedForSure 8)) <;> simp
  have e6 : ([l, m, r].all (constantsAlone 8)) = false := by revert hc; cases ([l, m, r].all (constantsAlone 8)) <;> simp
  have hyx : (y == x) = false := by simpa using Ne.symm hxy
  have hzx : (z == x) = false := by simpa using Ne.symm hxz
  have hzy : (z == y) = false := by simpa using Ne.symm hyz
  have hxl : (px.line == px.line) = true := by simp
  have e7 : [x, y, z].eraseDups.length = 3 := by simp [List.eraseDups_cons, hyx, hzx, hzy]
  have h1' : (some (NameKind.local : NameKind) == some .local) = true := by decide
  have h2 : ((ScopeKind.function : ScopeKind) != .function) = false := by decide
  have st : ∀ {e : Expr}, notStar e = true → (match e with | .Starred .. => true | _ => false) = false := fun {e} h => by cases e <;> first | rfl | cases h
  have any3 : ([l, m, r].any fun | .Starred .. => true | _ => false) = false := by
    rw [List.any_cons, List.any_cons, List.any_cons, List.any_nil, Bool.or_false]
    rw [st hl, st hm, st hr]; rfl
  have hp' : (py.line == (Expr.Name x px).pos.line) = true := hp
  have hq' : (pz.line == (Expr.Name x px).pos.line) = true := hq
  have hx' : (px.line == (Expr.Name x px).pos.line) = true := hxl
  unfold swappedStores
  simp only [any3, List.length_cons, List.length_nil, e3, h2, List.head?_cons, Option.map_some, Option.getD_some, List.filterMap_cons, List.filterMap_nil, e1, e2, e4, h1', Bool.true_and, hxl, hp, hq, hp', hq', hx', if_true, e5, e6, e7]
  refine (if_neg (by decide)).trans ?_
  refine (if_neg (fun q => ?_)).trans ?_
  · have q' : ([l, m, r].any fun | .Starred .. => true | _ => false) = true := q
    rw [any3] at q'
    cases q'
  · rfl
end Fm

/-! The engine, part P: a tuple walked with its numbers. -/
namespace Fm
open PySem L2 PySem.Spec PyProof.Rows

/-- what numbering begins with, over what an iterator begins on -/
theorem enum_new {u : Value} {oi : Obj} {St : Heap → Prop} (B : Begins u oi St) :
    Meets (Builtin.«enumerate.__new__» ⟨[.type "enumerate", u], []⟩) (fun _ R s => St s.heap ∧
      R (.ok (.ret (.ref (s.heap.push oi).objs.size))) { s with heap := (s.heap.push oi).push { cls := .type "enumerate", data := .fields #[.none, .bool false, .ref s.heap.objs.size, rawInt 0, .none, .none] } }) :=
  .of_wp fun prog w A R s g => by
    obtain ⟨hp, gl, d, tk, os⟩ := s
    obtain ⟨g1, g2⟩ := g
    have sub := sub_enumerate
    have go : ∀ {A' : Around} {E' : Value → Shared → Prop} {Q' : Value → Shared → Prop}, Q' (.ref hp.objs.size) ⟨hp.push oi, gl, d, tk, os⟩ → wpAny (model prog w) A' (pyIter u) Q' E' ⟨hp, gl, d, tk, os⟩ :=
      fun q => B.iter prog w _ _ ⟨hp, gl, d, tk, os⟩ _ g1 q
    wp_walk using go
    refine wpAny_stack_any fun _ => wpAny_pure ?_
    split
    · rename_i c _ _ _ _ _
      cases (c == Value.type "enumerate")
      all_goals wp_walk using go
      all_goals exact ⟨_, rfl, g2⟩
    · wp_walk using go
      exact ⟨_, rfl, g2⟩

theorem enum_call {prog : Program} {w : World} {A : Around} {E : Value → Shared → Prop} {s : Shared} {u : Value} {oi : Obj} {St : Heap → Prop} {Q : Value → Shared → Prop} (B : Begins u oi St) (g : St s.heap)
    (h : ∀ h1, IsEnum h1 (s.heap.objs.size + 1) s.heap.objs.size 0 .none → h1.get? s.heap.objs.size = some oi →
      (∀ b o, s.heap.get? b = some o → h1.get? b = some o) → Q (.ref (s.heap.objs.size + 1)) { s with heap := h1 }) :
    wpAny (model prog w) A (call (.type "enumerate") [u]) Q E s := by
  refine callType_new F.called_enumerate (by decide) (F.typeCall_enumerate_1 _) (F.newCall_enumerate_1 _) (fun ob => F.args_object_init_2 ob _) F.entry_enumerate_new (enum_new B) ⟨g, ?_⟩
  have sz : (s.heap.push oi).objs.size = s.heap.objs.size + 1 := Heap.size_push ..
  show _ ∧ _
  rw [sz]
  have ie : IsEnum ((s.heap.push oi).push { cls := .type "enumerate", data := .fields #[.none, .bool false, .ref s.heap.objs.size, rawInt 0, .none, .none] }) (s.heap.objs.size + 1) s.heap.objs.size 0 .none := by
    have z := Heap.get?_push_size (s.heap.push oi) (o := { cls := .type "enumerate", data := .fields #[.none, .bool false, .ref s.heap.objs.size, rawInt 0, .none, .none] }) rfl
    rw [sz] at z
    exact z
  exact ⟨⟨_, ie, rfl⟩, h _ ie (Heap.get?_push_of_some _ (Heap.get?_push_size _ B.free)) fun b o x => Heap.get?_push_of_some _ (Heap.get?_push_of_some _ x)⟩

theorem enum_endT {prog : Program} {w : World} {A : Around} {E : Value → Shared → Prop} {s : Shared} {e it a : Addr} {i : Nat} {old : Value} {its : Array Value} {Q : Option Value → Shared → Prop} (hh : A.handled = none)
    (ge : IsEnum s.heap e it ((i : Nat) : Int) old) (gi : s.heap.IsTupleIter it a i) (gt : s.heap.IsTuple a its) (gx : its[i]? = none) (hq : ∀ h1, Heap.ExtBut it s.heap h1 → Q none { s with heap := h1 }) :
    wpAny (model prog w) A (pyNext (.ref e)) Q E s := by
  have ty : s.TypeIs (.ref e) "enumerate" := ⟨_, ge, rfl⟩
  unfold pyNext
  refine wpAny_bind (wpAny_attempt ?_)
  refine wpAny_callSpecial?_slot (name := Str.ofString "__next__") ty F.slot_enumerate_next ?_
  refine wpAny_call_entry F.slot_enumerate_next ty F.entry_enumerate_next ?_ (F.args_enumerate_next_1 _)
  show wpAny _ _ (field (.ref e) 2 >>= _) _ _ _
  refine wpAny_bind (wpAny_field ge rfl (x := .ref it) rfl ?_)
  refine wpAny_bind (wpAny_nextOf_tuple_end hh gi gt gx fun h1 x eb sx => ?_)
  obtain ⟨o, ho, hc⟩ := sx
  exact wpAny_bind (wpAny_isInstance (T := "StopIteration") (b := true) ⟨o, ho, hc⟩ isSubtype_stop (wpAny_pure (hq _ eb)))

/-- the tuple at a at each turn, each item in a new pair -/
def IteT (K : PySem.W.Frag) (a : Addr) : It :=
  ⟨fun i H => ∃ (xs : List V) (x : V), SqT K H a xs ∧ xs[i]? = some x, fun i H v H' => ∃ T x, v = .ref T ∧ H T = none ∧ H' = upd H T (.tup [.int (i : Nat), x]) ∧ ∀ xs, SqT K H a xs → xs[i]? = some x,
    fun i H => ∃ xs : List V, SqT K H a xs ∧ xs.length ≤ i⟩
theorem turn_enumT {P : Program} {w : World} {K : PySem.W.Frag} {elts : List Expr} {kk : Nat} {tpos : Pos} (a e it : Addr) :
    Turn P w K (.Tuple elts kk tpos) (IteT K a) [e, it] e (fun i h => (∃ old, IsEnum h e it ((i : Nat) : Int) old) ∧ h.IsTupleIter it a i ∧ e ≠ it) where
  mem := by simp
  obj := fun i h st b hb => by
    obtain ⟨⟨old, ge⟩, ⟨o, ho, hc, hd⟩, _⟩ := st
    have eb : b = e ∨ b = it := by simpa using hb
    rcases eb with rfl | rfl
    · exact ⟨_, ge, fun v q => nomatch q⟩
    · exact ⟨o, ho, fun v q => by rw [hd] at q; cases q⟩
  keep := fun i h h' st k => by
    obtain ⟨⟨old, ge⟩, gi, ne⟩ := st
    exact ⟨⟨old, k e (by simp) _ ge⟩, gi.at fun o q => k it (by simp) o q, ne⟩
  item := by
    intro X hP hw hK hc i pins s σ H E I hf st hg
    subst hP hw hK
    obtain ⟨⟨old, ge⟩, gi, ne⟩ := st
    obtain ⟨xs, x, hq, hx⟩ := hg
    obtain ⟨its, rv, p, hz⟩ := I.tuple hq
    obtain ⟨u, hu, ru⟩ := rv.get hx
    have lte : e < s.heap.objs.size := Heap.lt_size ge
    have lti : it < s.heap.objs.size := by obtain ⟨_, q, _⟩ := id gi; exact Heap.lt_size q
    have tup : s.heap.IsTuple a its.toArray := p
    obtain ⟨oa, ea, ca, _⟩ := id tup
    obtain ⟨ob, eb, cb, _⟩ := id gi
    have nai : a ≠ it := fun z => by
      rw [z, eb] at ea; cases ea
      rw [cb] at ca
      exact absurd (Value.type.inj ca) (by decide)
    have nea : e ≠ a := fun z => by
      have ge' := ge
      unfold IsEnum at ge'
      rw [z, ea] at ge'
      have cl := congrArg Obj.cls (Option.some.inj ge')
      rw [ca] at cl
      exact absurd (Value.type.inj cl) (by decide)
    have li : i < its.toArray.size := by
      have := (List.getElem?_eq_some_iff.mp hu).1
      simpa using this
    refine wpAny_pyNext_enum_itemC (Draws.tuple (A := X.A.in1) (I.ok.hd hc) it a nai its.toArray) ge ⟨gi, tup⟩ li ne (by simp [ne, nea]) fun y h1 tk hy ho st1 ht sz keep => ?_
    have ey : y = u := by
      have z : its.toArray[i]? = some u := by simpa using hu
      rw [z] at hy
      exact (Option.some.inj hy).symm
    subst ey
    refine ⟨_, rfl, wpAny_letOwnedTupleGo_enum (s := { s with heap := h1, toks := tk + 1 }) ho fun h2 he2 sb => ?_⟩
    have hT2 : h2.get? s.heap.objs.size = some { cls := .type "tuple", data := .seq #[.int i tk, y] } := (sb.2 _ (Nat.ne_of_gt lte)).trans ht
    have new : ObjOk X.prog X.w (upd H s.heap.objs.size (.tup [.int (i : Nat), x])) h2 s.heap.objs.size (.tup [.int (i : Nat), x]) :=
      ⟨by show 2 ≤ sizeLine; decide, [.int i tk, y], .cons ⟨_, rfl⟩ (.cons ru .nil), ⟨_, hT2, rfl, _, rfl⟩⟩
    have I1 : Inv X pins σ (upd H s.heap.objs.size (.tup [.int (i : Nat), x])) { s with heap := h2, toks := tk + 1 } :=
      I.turnedNew (ch := [e, it]) (fun b o hb q => (sb.2 b (fun z => hb (by simp [z]))).trans (keep b o (fun z => hb (by simp [z])) (fun z => hb (by simp [z])) q)) hf (Nat.le_refl _) new
    refine ⟨.ref s.heap.objs.size, _, I1, rfl, ⟨_, x, rfl, I.hok.fresh (Nat.le_refl _), rfl, fun ys hy => by rw [I.tuple_inj hy hq]; exact hx⟩, ⟨⟨y, ?_⟩, st1.1.at fun o q => (sb.2 it (Ne.symm ne)).trans q, ne⟩, fun b hb => ?_⟩
    · have e1 : ((i + 1 : Nat) : Int) = (i : Int) + 1 := by omega
      rw [e1]
      exact he2
    · have lb : b < s.heap.objs.size := by
        have eb : b = e ∨ b = it := by simpa using hb
        rcases eb with rfl | rfl
        · exact lte
        · exact lti
      rw [upd_ne (Nat.ne_of_lt lb)]
      exact (hf b hb).1
  done := by
    intro X hP hw hK hc i pins s σ H E I hf st hg
    subst hP hw hK
    obtain ⟨⟨old, ge⟩, gi, ne⟩ := st
    obtain ⟨xs, hq, hx⟩ := hg
    obtain ⟨its, rv, p, hz⟩ := I.tuple hq
    obtain ⟨f0, f1, f2, f3, f4, f5⟩ := hf it (by simp)
    have hl := rv.length
    have tup : s.heap.IsTuple a its.toArray := p
    exact enum_endT (I.ok.hd hc) ge gi tup (by simp; omega) fun h' eb => ⟨rfl, I.turned (t' := s.toks) (fun b o hb q => eb b o hb q) f0 f1 f3 f4 f5⟩
  self := fun A i s Q E st h => by
    obtain ⟨⟨_, ge⟩, _⟩ := st
    exact wpAny_pyIter_enum ge h
def iEnumA (K : PySem.W.Frag) (ta : TA) : TI := fun σ H R => ta σ H fun vs H1 => ∃ a xs, vs = [.ref a] ∧ ((SqL K H1 a xs ∧ R (Ite K a) H1) ∨ (SqT K H1 a xs ∧ R (IteT K a) H1))
theorem pi_enumA {X : Cx} {e : Expr} {ta : TA} {p pos tpos : Pos} {elts : List Expr} {kk : Nat} (hg : Gl X "enumerate") (hm : X.mg "enumerate" = none) (ha : PA X [e] ta) (hs : starEach [e] X.env = [(false, eval e X.env)] := by rfl) :
    PI X (.Tuple elts kk tpos) (.Call (.Name "enumerate" p) [e] [] pos) (iEnumA X.K ta) := by
  refine ⟨fun pins s σ H R I h => ?_⟩
  refine Call_ (ld_blt I hg hm boot_enumerate (PyProof.Rows.callWith_type1 (thn (ha.run pos pins s σ H _ I h) fun us s1 ⟨vs, H1, I1, r1, q1⟩ => ?_) hs rfl))
  obtain ⟨a, xs, ex, q1⟩ := q1
  subst ex
  cases r1 with
  | cons r rr =>
    cases rr
    cases r
    have fp : ∀ b, b ∈ [s1.heap.objs.size + 1, s1.heap.objs.size] → FpOk X pins H1 b := fun b hb => by
      have lb : s1.heap.objs.size ≤ b := by
        have eb : b = s1.heap.objs.size + 1 ∨ b = s1.heap.objs.size := by simpa using hb
        omega
      exact I1.fpOk lb (I1.hok.fresh lb)
    rcases q1 with ⟨hq, q⟩ | ⟨hq, q⟩
    · obtain ⟨its, rv, p', hz⟩ := I1.list hq
      refine enum_call (begins_list a its.toArray) p'.isList fun h1 he hit hk => wpAny_pyIter_enum he ?_
      have I2 : Inv X pins σ H1 { s1 with heap := h1 } := I1.kept (t' := s1.toks) hk
      exact ⟨s1.heap.objs.size + 1, [s1.heap.objs.size + 1, s1.heap.objs.size], _, _, H1, rfl, I2, turn_enum a (s1.heap.objs.size + 1) s1.heap.objs.size, ⟨⟨.none, he⟩, ⟨_, hit, rfl, rfl⟩, Nat.succ_ne_self _⟩, fp, q⟩
    · obtain ⟨its, rv, p', hz⟩ := I1.tuple hq
      refine enum_call (begins_tuple a its.toArray) p' fun h1 he hit hk => wpAny_pyIter_enum he ?_
      have I2 : Inv X pins σ H1 { s1 with heap := h1 } := I1.kept (t' := s1.toks) hk
      exact ⟨s1.heap.objs.size + 1, [s1.heap.objs.size + 1, s1.heap.objs.size], _, _, H1, rfl, I2, turn_enumT a (s1.heap.objs.size + 1) s1.heap.objs.size, ⟨⟨.none, he⟩, ⟨_, hit, rfl, rfl⟩, Nat.succ_ne_self _⟩, fp, q⟩
end Fm

/-! The engine, part Q: the sorted items of a dict. -/
namespace Fm
open PySem L2 L2.DX PySem.Spec PyProof.Rows

section
variable {K : PySem.W.Frag} {M : Mm} {H H' : Hp}
/-- all but tables stay -/
theorem Keeps.extN (e : LamX.ExtN H H') : Keeps K M H M H' := by
  refine ⟨fun a xs q => ?_, fun a u m q nt => ⟨m, e a u q nt⟩⟩
  rcases q with (q | ⟨b, q⟩) | q
  · exact .inl (.inl (e a _ q fun _ z => by cases z))
  · exact .inl (.inr ⟨b, e a _ q fun _ z => by cases z⟩)
  · exact .inr q
end
section
variable {X : Cx} {l : Expr} {ta : TE} {ap cp : Pos}
def tItV (ta : TE) : TE := fun σ H Q => ta σ H fun x H1 => ∃ p ks, x = .ref p ∧ H1 p = some (.dK ks) ∧ ∀ v, H1 v = none → Q (.ref v) (upd H1 v (itemsO v p))
theorem pe_itV (ha : PE X l ta) (hb : attributeBase l "items" X.env (eval l X.env) = eval l X.env) (hl : (ap.endLine == cp.line) = true) : PE X (.Call (.Attribute l "items" ap) [] [] cp) (tItV ta) := by
  refine ⟨fun pins s σ H Q I h => ?_⟩
  refine wpAny_Call_method (T := "dict") (id := "dict.items") hb rfl hl PySem.F.plainAttrs_dict PySem.F.slot_dict_items PySem.F.type_dict_items (thn (ha.run pins s σ H _ I h) fun u s1 ⟨x, H1, I1, rx, p, ks, ex, hd, q⟩ => ?_)
  subst ex
  obtain rfl : u = Value.ref p := rx
  obtain ⟨z, hs, vs, rel, dd⟩ := dk_of I1.hok hd
  refine ⟨dd.typeIs, dd.mapOf.noDict, ?_⟩
  have n : H1 s1.heap.objs.size = none := I1.hok.fresh (Nat.le_refl _)
  have fin : EP X pins σ Q (.ref s1.heap.objs.size) { s1 with heap := s1.heap.push { cls := .type "dict_items", data := .fields #[.ref p] } } :=
    ⟨.ref s1.heap.objs.size, upd H1 s1.heap.objs.size (itemsO s1.heap.objs.size p), I1.laid (a := s1.heap.objs.size) (o := itemsO s1.heap.objs.size p) (t' := s1.toks) (fun _ _ e => Heap.get?_push_of_some _ e) (Nat.le_refl _) (itemsO_ok (Heap.get?_push_size _ rfl)), rfl, q _ n⟩
  show wpAny _ _ (callWith cp (.builtin "dict.items") [.ref p] [] []) _ X.xe s1
  exact method_meetsIn PySem.F.slot_dict_items PySem.F.entry_dict_items rfl (PySem.evalArgs_none ⟨rfl, dd.typeIs, PySem.F.args_dict_items_1 _, _, meets_dict_items (mixKind X.prog X.w) p hs, ⟨vs, dd⟩, fin⟩)

theorem pairs_at {prog : Program} {w : World} {knd : KeyKind prog w Key} : ∀ {es : List DictEntry} {kvs : List (Key × Value)} {j : Nat} {e : DictEntry}, Pairs knd es kvs → es[j]? = some e → ∃ kv, kvs[j]? = some kv ∧ knd.is kv.1 e.key = true ∧ e.val = kv.2
  | _, _, _, _, .nil, h => by simp at h
  | _, _, 0, e, .cons h1 h2 _, h => by
    simp at h
    subst h
    exact ⟨_, rfl, h1, h2⟩
  | _, _, j + 1, e, .cons _ _ t, h => by
    obtain ⟨kv, e1, e2⟩ := pairs_at (j := j) (e := e) t (by simpa using h)
    exact ⟨kv, by simpa using e1, e2⟩
theorem paired_at {α β : Type} {R : α → β → Prop} : ∀ {as : List α} {bs : List β} {j : Nat} {b : β}, Paired R as bs → bs[j]? = some b → ∃ a, as[j]? = some a ∧ R a b
  | _, _, _, _, .nil, h => by simp at h
  | _, _, 0, b, .cons h _, e => by
    simp at e
    subst e
    exact ⟨_, rfl, h⟩
  | _, _, j + 1, b, .cons _ t, e => by
    obtain ⟨a, e1, e2⟩ := paired_at (j := j) (b := b) t (by simpa using e)
    exact ⟨a, by simpa using e1, e2⟩
theorem each_at {α β : Type} {R : α → β → Prop} : ∀ {as : List α} {bs : List β}, as.length = bs.length → (∀ (j : Nat) a b, as[j]? = some a → bs[j]? = some b → R a b) → PySem.W.EachIs R as bs
  | [], [], _, _ => .nil
  | [], _ :: _, h, _ => by simp at h
  | _ :: _, [], h, _ => by simp at h
  | a :: as, b :: bs, h, f => .cons (f 0 a b rfl rfl) (each_at (by simpa using h) fun j x y e1 e2 => f (j + 1) x y (by simpa using e1) (by simpa using e2))

/-- sorted(d.items()), d a dict with ints and texts for keys -/
def rSit (K : PySem.W.Frag) : List V → Hp → VK → Prop := fun vs H Q => ∃ (v p : Addr) (kvs : List (Key × Dt)) (ks : List (Key × V)) (S : Addr → Prop) (M : Mm), vs = [.ref v] ∧ H v = some (itemsO v p) ∧ H p = some (.dK ks) ∧
  Paired (fun (p : Key × Dt) (q : Key × V) => p.1 = q.1 ∧ RelD K S M H p.2 q.2) kvs ks ∧ kvs.length ≤ 1000 ∧ (∀ d, d ∈ kvD kvs → (pyD d).isSome = true ∧ (enD d).depth ≤ 60) ∧ PySem.W.AllAlike ((kvD kvs).map enD) ∧ PySem.W.Sortable ((kvD kvs).map enD) ∧
  ∀ (H2 : Hp) (zs : List V) (u : Addr), (∀ b o, H b = some o → H2 b = some o) → H2 u = none → RelDs K S M H2 ((kvD kvs).mergeSort (PySem.W.dataLe false enD)) zs → Q (.ref u) (upd H2 u (.lst zs))
theorem cr_sit (hc : X.calm = true) (hu : X.A.units + 64 < cLine) : CallR X (.builtin "sorted") (rSit X.K) := by
  intro pins s σ H xs us Q I r h
  obtain ⟨v, p, kvs, ks, S, M, rfl, hv, hp, rel0, hn, hpy, hal, hso, q⟩ := h
  obtain rfl := Vals.ref1 r
  have view : s.heap.IsItemsView v p := (show ObjOk X.prog X.w H s.heap v (itemsO v p) from I.hok v _ hv).1
  obtain ⟨z, hd, vs, rel, dd⟩ := dk_of I.hok hp
  have lk : kvs.length = ks.length := Paired.length rel0
  have lv : ks.length = vs.length := Paired.length rel
  obtain ⟨o, es, ep, ho, hx, hdat, hke, hpr, hnd⟩ := dd
  have le : es.size = vs.length := by rw [← hpr.length]; exact Array.length_toList.symm
  have hh : X.A.handled = none := I.ok.hd hc
  refine DT.sortedI (es := es) (ep := ep) hh view ⟨o, ho, hx, hdat⟩ (by rw [sizeLine_eq]; omega) fun h' tk as hk hlt hl hG => ?_
  have lak : as.length = kvs.length := by omega
  have I1 : Inv X pins σ H { s with heap := h', toks := tk } := I.kept hk
  -- the pairs are told of
  obtain ⟨H2, I2, kp, tp⟩ := takeT (P := fun a (xs : List V) => ∃ (j : Nat) (kv : Key × V), as[j]? = some a ∧ ks[j]? = some kv ∧ xs = [kV kv.1, kv.2]) I as H I1 (List.Pairwise.imp (fun h => Nat.ne_of_lt h) hG.rise) (by
    intro a ha
    obtain ⟨j, hj⟩ := List.mem_iff_getElem?.mp ha
    obtain ⟨e, he, hg⟩ := hG.pairs j a hj
    obtain ⟨kv, ekv, h1, h2⟩ := pairs_at hpr (show es.toList[j]? = some e by rw [Array.getElem?_toList]; exact he)
    obtain ⟨kv', e3, e4, e5⟩ := paired_at rel ekv
    have ab : s.heap.objs.size ≤ a := Nat.le_of_lt (hG.above a ha)
    refine ⟨ab, I.hok.fresh ab, [kV kv'.1, kv'.2], ⟨j, kv', hj, e3, rfl⟩, fun H2 => ?_⟩
    refine ⟨by show 2 ≤ sizeLine; decide, [e.key, e.val], .cons (relV_key (show keyIs kv'.1 e.key = true by rw [e4]; exact h1)) (.cons (by rw [h2]; exact e5) .nil), ⟨_, hg, rfl, _, rfl⟩⟩)
  have km : Keeps X.K M H M H2 := Keeps.extN fun b o q _ => kp b o q
  -- what stands in the list
  have at_ : ∀ (j : Nat) (val : Value) (d : Dt), (as.map Value.ref)[j]? = some val → (kvD kvs)[j]? = some d → ∃ x, RelD X.K S M H2 d x ∧ RelV x val := by
    intro j val d e1 e2
    rw [List.getElem?_map] at e1
    obtain ⟨a, ea, rfl⟩ := Option.map_eq_some_iff.mp e1
    unfold kvD at e2
    rw [List.getElem?_map] at e2
    obtain ⟨kd, ed, rfl⟩ := Option.map_eq_some_iff.mp e2
    obtain ⟨xs, ⟨j', kv, f1, f2, rfl⟩, f3⟩ := tp a (List.mem_of_getElem? ea)
    have jj : j' = j := by
      have nd : as.Nodup := List.Pairwise.imp (fun h => Nat.ne_of_lt h) hG.rise
      have g1 := List.getElem?_eq_some_iff.mp f1
      exact (List.getElem?_inj g1.1 nd).mp (f1.trans ea.symm)
    subst jj
    obtain ⟨kd', h1, h2, h3⟩ := paired_at rel0 f2
    rw [ed] at h1
    cases h1
    refine ⟨.ref a, .tup (.inl (.inl f3)) (.cons ?_ (.cons (h3.keep km) .nil)), rfl⟩
    rw [h2]
    cases kv.1 <;> constructor
  have ll : (as.map Value.ref).length = (kvD kvs).length := by unfold kvD; rw [List.length_map, List.length_map, lak]
  have er : PySem.W.EachIs (fun (val : Value) (d : Dt) => ∃ x, RelD X.K S M H2 d x ∧ RelV x val) (as.map Value.ref) (kvD kvs) := each_at ll fun j a b e1 e2 => at_ j a b e1 e2
  -- the sort
  have hob : (h'.push { cls := .type "list", data := .seq (as.map Value.ref).toArray }).get? h'.objs.size = some (seqObj "list" (as.map Value.ref).toArray 0) := Heap.get?_push_size _ rfl
  refine PySem.W.list_sort_data (s := { s with heap := h'.push { cls := .type "list", data := .seq (as.map Value.ref).toArray }, toks := tk }) (bs := kvD kvs) (enc := enD) hob er ?_ hal hso (by unfold kvD; rw [List.length_map, sizeLine_eq]; omega) (fun d m => by have := (hpy d m).2; show X.A.units + 1 + 1 + (enD d).depth < cLine; omega) fun out hlo he => ?_
  · refine each_mem' er fun val d m ⟨x, rx, rv⟩ => ?_
    obtain ⟨py, hpd⟩ := Option.isSome_iff_exists.mp (hpy d m).1
    have e : enD d = py := by unfold enD; rw [hpd]; rfl
    rw [e]
    obtain ⟨ad, rd⟩ := (dp_of rx hpd).reads I2 _ _ _ rv
    refine ⟨ad, PyProof.Rows.Reads.keeps (fun b o q => Heap.get?_push_of_some _ q) rd, fun hm => ?_⟩
    obtain ⟨ob, hb⟩ := PyProof.On.reads_mem_get rd _ hm
    exact Nat.lt_irrefl _ (Heap.lt_size hb)
  · obtain ⟨ys, r2, v2⟩ := rel_each he
    have n2 : H2 h'.objs.size = none := I2.hok.fresh (Nat.le_refl _)
    obtain ⟨c, hat⟩ := sortedHeap_at (out := List.toArray out) hob
    refine ⟨.ref h'.objs.size, upd H2 h'.objs.size (.lst ys), I2.laid (a := h'.objs.size) (o := .lst ys) (t' := tk) (fun b o e => ?_) (Nat.le_refl _) ⟨?_, out, c, v2, hat⟩, rfl, q _ ys h'.objs.size kp n2 r2⟩
    · have hb : b < h'.objs.size := Heap.lt_size e
      show (sortedHeap (h'.push _) h'.objs.size _ _).get? b = some o
      rw [sortedHeap_old (Nat.ne_of_lt hb) (Nat.lt_of_lt_of_le hb (by rw [size_push']; exact Nat.le_succ _))]
      exact Heap.get?_push_of_some _ e
    · rw [← r2.length, List.length_mergeSort]
      unfold kvD
      rw [List.length_map, sizeLine_eq]
      omega
theorem pe_sit {q1 q2 : Pos} (hc : X.calm = true) (hu : X.A.units + 64 < cLine) (hg : Gl X "sorted") (hm : X.mg "sorted" = none) (ha : PE X l ta) (hb : attributeBase l "items" X.env (eval l X.env) = eval l X.env) (hl : (ap.endLine == cp.line) = true) :
    PE X (.Call (.Name "sorted" q1) [.Call (.Attribute l "items" ap) [] [] cp] [] q2) (tCB (rSit X.K) (tCons (tItV ta) tNil)) := by
  have bt : bootBuiltins ("sorted" : Str) = some (.builtin "sorted") := by decide +kernel
  exact pe_callB (cr_sit hc hu) hg hm bt (pa_cons (pe_itV ha hb hl) pa_nil rfl) (by decide +kernel) (by decide +kernel)
theorem rel_range {K : PySem.W.Frag} {S : Addr → Prop} {M : Mm} {H : Hp} : ∀ l : List Nat, RelDs K S M H (l.map fun (k : Nat) => Dt.int (k : Int)) (l.map fun (i : Nat) => V.int (0 + (i : Nat)))
  | [] => .nil
  | i :: l => .cons (by show RelD K S M H (.int (i : Int)) (.int (0 + (i : Int))); rw [Int.zero_add]; exact .int _) (rel_range l)
/-- a[::-1] of a list: a new list -/
theorem pe_rev {te : TE} {e : Expr} {j : Nat} {p2 p3 p4 pos : Pos} (he : PE X e te) : PE X (.Subscript e (.Slice none none (some (.UnaryOp .USub (.Constant (.int 1) j p3) p4)) p2) pos)
    (fun σ H Q => te σ H fun x H1 => ∃ a xs, x = .ref a ∧ SqL X.K H1 a xs ∧ ∀ p, H1 p = none → Q (.ref p) (upd H1 p (.lst xs.reverse))) := by
  refine ⟨fun pins s σ H Q I h => ?_⟩
  refine Subscript_ (thn (he.run pins s σ H _ I h) fun v s1 ⟨x, H1, I1, r1, q1⟩ => ?_)
  obtain ⟨a, xs, rfl, hx, q⟩ := q1
  cases r1
  refine wpAny_Slice ?_
  rw [evalPart_none]
  refine wpAny_pure ?_
  refine wpAny_pure ?_
  have st : PO X (some (.UnaryOp .USub (.Constant (.int 1) j p3) p4)) (tPart (tUn (rU fun i => .int (-i)) (tC (.int 1)))) := po_some (pe_un un_neg pe_int)
  refine thn (st.run pins s1 σ H1 (fun o H' => o = some (-1) ∧ H' = H1) I1 ⟨1, rfl, -1, rfl, rfl, rfl⟩) fun vs s2 ⟨o, H2, I2, ps, e1, e2⟩ => ?_
  subst e1 e2
  have I3 : Inv X pins σ H2 { s2 with heap := s2.heap.push { cls := .type "slice", data := .fields #[.none, .none, vs] } } := I2.kept (t' := s2.toks) fun b ob q => Heap.get?_push_of_some _ q
  obtain ⟨its, r, ht, hz⟩ := I3.list hx
  have hlen := r.length
  have hg : wpAny (model X.prog X.w) X.A (getItem (.ref a) (.ref s2.heap.objs.size)) (EP X pins σ Q) X.xe { s2 with heap := s2.heap.push { cls := .type "slice", data := .fields #[.none, .none, vs] } } := by
    refine wpAny_getItem_list_slice ht.isList (Heap.IsSliceOf.new ..) .none .none ps (by decide) ?_ (by rw [List.size_toArray] <;> omega)
    rw [PySem.W.krv_pick]
    refine ⟨.ref _, upd H2 _ (.lst xs.reverse), I3.laid (t' := s2.toks) (o := .lst xs.reverse) (fun b ob q => Heap.get?_push_of_some _ q) (Nat.le_refl _) ?_, rfl, q _ (I3.hok.fresh (Nat.le_refl _))⟩
    exact ⟨by rw [List.length_reverse]; exact hz, _, 0, r.reverse, Heap.get?_push_size _ rfl⟩
  exact tail_any (ops := [.ref a, .ref s2.heap.objs.size]) ht.isList.typeIs slot_list_getitem.lookup hg (by with_unfolding_all rfl)
end
end Fm

/-! The engine, part X: exception classes with an __init__ chain of their own. -/
namespace Fm
open PySem L2 PySem.Spec PyProof.Rows

/-! ### C.__init__(self, ..), C a class of the module -/
theorem call_form {es : List Expr} (hs : noStars es = true) (hl : es.length < 29) (pos : Pos) (env : Env) :
    methodCallForm (es.length + ([] : List Keyword).length) (backTo pos (starEach es env)) (backToKw pos (keywordEach [] env)) = true := by
  have h1 := stars_all hs pos env
  have h2 : decide (es.length + ([] : List Keyword).length + (if ([] : List Keyword).isEmpty then 0 else 1) < 30) = true := decide_eq_true (by
    show es.length + 0 + 0 < 30
    omega)
  first
    | (unfold methodCallForm; simp only [h1, h2]; rfl)
    | (unfold methodCallForm; rw [h1]; simp [hl]; done)
    | (unfold methodCallForm; simp [h1, backToKw, keywordEach]; omega)
/-- what of the text lets C.__init__ be read off the class object -/
structure ClsInit (K : PySem.W.Frag) (C f : Addr) : Prop where
  ga : PySem.W.specialIn K (.ref C) "__getattribute__" = some (some (.builtin "type.__getattribute__"))
  rd : PySem.W.readsIn K C (.type "type") = true
  at_ : PySem.W.findCls K (.ref C) (.type "type") "__init__" = some (.val (.ref f))
  hi : PySem.W.handedIn (.ref f) = true
  kp : PySem.W.keepIn K (.ref f) = true
section
variable {X : Cx} {k : Nat} {f C : Addr} {fd : FuncData} {ps : List Str} {sp : Sp} {E : XK} {x : Str} {p ap cp : Pos} {e : Expr} {es : List Expr} {ta : TA} {CT : CXT}
theorem pe_cinit (hg : Gl X x) (hm : X.mg x = some (.ref C)) (hdb : (x == ("__debug__" : Str)) = false) (r : ClsInit X.K C f) (F : FnOk X.prog X.w X.K X.mg X.base CT k f fd ps sp) (hr : Room k X.A) (hb : Binds X.K fd ps [])
    (hx : Passes CT X E) (ha : PA X (e :: es) ta) (hs : noStars (e :: es) = true) (hl : (e :: es).length < 29) (hln : (ap.endLine == cp.line) = true) :
    PE X (.Call (.Attribute (.Name x p) "__init__" ap) (e :: es) [] cp) (fun σ H Q => ta σ H fun vs H1 => sp vs H1 Q E) := by
  obtain ⟨n1, n2⟩ := and2 (show (notStar e && noStars es) = true from hs)
  constructor
  intro pins s σ H Q I h
  refine PySem.W.methodCall_KW (pl := plainOf (.Name x p) X.env) (ld_glob I hg hm (PySem.W.method_cls I.kIn r.ga (PySem.W.cls_value I.kIn r.rd r.at_ r.hi ?_)) hdb) ?_
  · refine PySem.W.callWith_K (first := []) (h₀ := X.base) I.ok.mod.kin r.kp ?_ (star_cons n1 es _) (stars_any n2 _ _)
    refine thn (ha.run cp pins _ σ H _ (I.tok _) h) ?_
    rintro us s1 ⟨vs, H1, I1, rr, q⟩
    refine ⟨I1.kIn, ?_⟩
    have q' : sp (vs ++ []) H1 Q E := by rw [List.append_nil]; exact q
    exact run_fn F hr hb .nil hx I1 rr q'
  · exact mcall_of rfl fun ov => mcall_line (call_form hs hl cp X.env) hln
end

/-! ### the built-in bases -/
theorem Bk.facts : ∀ b : Bk, ExcBaseFacts b.nm b.nw b.ini b.mro
  | .ve => F.excBase_ValueError
  | .le => F.excBase_LookupError
  | .ie => F.excBase_IndexError
theorem Bk.store : ∀ b : Bk, StoreFacts b.nm b.mro "object.__setattr__" "object"
  | .ve => F.store_ValueError
  | .le => F.store_LookupError
  | .ie => F.store_IndexError
theorem Bk.typ : ∀ b : Bk, typeOf (.type b.nm) = pure (.type "type")
  | .ve => by kernel_rfl
  | .le => by kernel_rfl
  | .ie => by kernel_rfl
theorem Bk.stub : ∀ b : Bk, Manifest.isStub b.nm = false
  | .ve => by decide +kernel
  | .le => by decide +kernel
  | .ie => by decide +kernel
theorem Bk.boot : ∀ b : Bk, bootBuiltins (Str.ofString b.nm) = some (.type b.nm)
  | .ve => by decide +kernel
  | .le => by decide +kernel
  | .ie => by decide +kernel
theorem Bk.name : ∀ b : Bk, Str.ofString b.nm ≠ ("__name__" : Str) ∧ (Str.ofString b.nm == ("__debug__" : Str)) = false
  | .ve => by decide +kernel
  | .le => by decide +kernel
  | .ie => by decide +kernel
theorem Bk.obj (b : Bk) : b.mro.contains (.type "object") = true := by cases b <;> decide +kernel
theorem ownRow_is {b : Bk} : ∀ {l : List Value}, ownRow b l = true → ∃ cs : List Addr, l = cs.map Value.ref ++ b.mro
  | [], h => by cases b <;> cases h
  | .ref c :: r, h => by
    obtain ⟨cs, e⟩ := ownRow_is (b := b) (l := r) h
    exact ⟨c :: cs, by rw [e]; rfl⟩
  | .none :: _, h => ⟨[], eq_of_beq h⟩
  | .ellipsis :: _, h => ⟨[], eq_of_beq h⟩
  | .notImplemented :: _, h => ⟨[], eq_of_beq h⟩
  | .bool _ :: _, h => ⟨[], eq_of_beq h⟩
  | .int _ _ :: _, h => ⟨[], eq_of_beq h⟩
  | .float _ _ :: _, h => ⟨[], eq_of_beq h⟩
  | .str _ _ :: _, h => ⟨[], eq_of_beq h⟩
  | .bytes _ _ :: _, h => ⟨[], eq_of_beq h⟩
  | .type _ :: _, h => ⟨[], eq_of_beq h⟩
  | .builtin _ :: _, h => ⟨[], eq_of_beq h⟩
theorem row_pass (b : Bk) (x : Value) : ∀ cs : List Addr, refuseLoop x "__setattr__" (cs.map Value.ref ++ b.mro) = pure ()
  | [] => b.store.passes x
  | c :: cs => by
    rw [List.map_cons, List.cons_append, refuseLoop_ref]
    exact row_pass b x cs
theorem row_has (b : Bk) (y : String) : ∀ cs : List Addr, (cs.map Value.ref ++ b.mro).contains (.type y) = b.mro.contains (.type y)
  | [] => rfl
  | c :: cs => by
    rw [List.map_cons, List.cons_append, List.contains_cons, row_has b y cs]
    rfl
theorem row_ne (b : Bk) : ∀ cs : List Addr, (cs.map Value.ref ++ b.mro).isEmpty = false
  | [] => by cases b <;> rfl
  | _ :: _ => rfl

/-! ### a store to an exception's field -/
section
open Builtin Builtin.ObjectAttr
variable {prog : Program} {w : World} {hp : Heap} {g : Array GenState} {dr : Drawn} {os : OsState} {K : PySem.W.Frag} {nm : Str} {tk : Tok} {u : Value} {x C dx : Addr} {fv : Array Value} {cd : ClassData} {cs : List Addr} {b : Bk}
/-- the last step of such a store: from the heap hp, whatever is wanted behind it -/
def Puts (prog : Program) (w : World) (hp : Heap) (g : Array GenState) (dr : Drawn) (os : OsState) (x C : Addr) (nm : Str) (tk : Tok) (u : Value) (post : Heap → Prop) : Prop :=
  ∀ (A : Around) (Q : PySem.Fin → Shared → Prop) (E : Value → Shared → Prop) (t : Nat), (∀ h' t', post h' → Q (.done (.ret .none)) ⟨h', g, dr, t', os⟩) → wpAny (model prog w) A (storeInOwnDict (.ref x) (.ref C) (.str nm tk) nm u false) Q E ⟨hp, g, dr, t, os⟩
theorem puts_first (KI : K.In hp) (hx : hp.get? x = some { cls := .ref C, data := .fields fv }) (hcd : PySem.W.clsIn K C = some cd) (hd : cd.hasDict = true) :
    Puts prog w hp g dr os x C nm tk u fun h' => ∃ dx, hp.objs.size ≤ dx ∧ dx ≠ x ∧ (∀ b o, b ≠ x → hp.get? b = some o → h'.get? b = some o) ∧ h'.get? x = some { cls := .ref C, dict := some dx, data := .fields fv } ∧ h'.Ns1 dx (fun y => if y = nm then some u else none) := by
  intro A Q E t k
  have L : PySem.W.Looks (model prog w) hp (classData C) cd := PySem.W.looks_clsIn KI hcd
  have lt := Heap.lt_size hx
  have ne : hp.objs.size ≠ x := Nat.ne_of_gt lt
  have hx1 := Heap.get?_push_of_some ({ cls := .type "dict", data := .dict #[] } : Obj) hx
  cases cd
  cases hd
  unfold storeInOwnDict ownDictForStores
  repeat first
    | with_reducible refine HandSPX.store_in_new ?_ ?_
    | with_reducible refine wpAny_loadPart_at hx ?_
    | with_reducible refine L.at ?_
    | wp_step
  · refine ⟨{ cls := .type "dict", data := .dict #[] }, #[], _, ?_, rfl, ⟨fun e m => absurd m (by simp), fun _ => rfl⟩⟩
    rw [Heap.get?_update_ne _ _ _ _ ne]
    exact Heap.get?_push_at rfl rfl
  · intro h' t' n same
    refine k h' t' ⟨hp.objs.size, Nat.le_refl _, ne, ?_, ?_, n⟩
    · intro c o hc ho
      rw [same.2 c (Nat.ne_of_lt (Heap.lt_size ho)), Heap.get?_update_ne _ _ _ _ hc]
      exact Heap.get?_push_of_some _ ho
    · rw [same.2 x ne.symm]
      exact Heap.get?_update_self _ hx1 rfl
theorem puts_more {m0 : Str → Option Value} {ns : List Str} (KI : K.In hp) (hx : hp.get? x = some { cls := .ref C, dict := some dx, data := .fields fv }) (hcd : PySem.W.clsIn K C = some cd) (hd : cd.hasDict = true)
    (n : hp.Ns1 dx m0) (hw : Within m0 ns) (hz : ns.length ≤ 1000) :
    Puts prog w hp g dr os x C nm tk u fun h' => (∀ b o, b ≠ dx → hp.get? b = some o → h'.get? b = some o) ∧ h'.Ns1 dx (fun y => if y = nm then some u else m0 y) := by
  intro A Q E t k
  have L : PySem.W.Looks (model prog w) hp (classData C) cd := PySem.W.looks_clsIn KI hcd
  cases cd
  cases hd
  unfold storeInOwnDict ownDictForStores
  repeat first
    | with_reducible refine PySem.OEX.store_in_old n hw hz ?_
    | with_reducible refine wpAny_loadPart_at hx ?_
    | with_reducible refine L.at ?_
    | wp_step
  intro h' t' n' same
  refine k h' t' ⟨fun c o hc ho => ?_, n'⟩
  rw [same.2 c hc]
  exact ho
/-- x.nm = u, told by its last step -/
theorem put_run {od : Option Addr} {oD : Option Obj} {A : Around} {R : Result → Shared → Prop} {t : Nat} {post : Heap → Prop} (KI : K.In hp) (J : PySem.W.InstAt hp x { cls := .ref C, dict := od, data := .fields fv } C oD) (hcd : PySem.W.clsIn K C = some cd)
    (hm : ownRow b cd.mro = true) (ha : PySem.W.findIn K (.ref C) nm = some none) (z : Puts prog w hp g dr os x C nm tk u post) (k : ∀ h' t', post h' → R (.ok (.ret .none)) ⟨h', g, dr, t', os⟩) :
    codeAny (model prog w) A (.call (.builtin "object.__setattr__") ⟨[.ref x, .str nm tk, u], []⟩) R ⟨hp, g, dr, t, os⟩ := by
  obtain ⟨cs, em⟩ := ownRow_is hm
  have SF := PySem.F.store_object
  have isO : PySem.W.Looks (model prog w) hp (isInstance (.ref x) (.type "object")) true := by
    refine J.type.andThen (PySem.W.looks_mroIn KI ?_)
    unfold PySem.W.mroIn
    rw [hcd, Option.bind_some, em, row_ne, row_has, b.obj]
    rfl
  have L1 : PySem.W.Looks (model prog w) hp (mroOf (.ref C)) cd.mro := (PySem.W.looks_clsIn KI hcd).andThen .now
  have L2 : PySem.W.Looks (model prog w) hp (storeTaker? none) none := .now
  refine codeAny_call_builtin SF.slot.plain SF.entry ?_
  refine @PySem.W.check_slot (model prog w) _ _ ⟨hp, g, dr, t, os⟩ "object.__setattr__" "object" "__setattr__" (.ref x) [.str nm tk, u] [] _ SF.kind SF.split isO (SF.args _ _ _) ?_
  rw [PySem.W.osa_eq, refuse_eq]
  refine wpAny_bind (wpAny_bind ?_)
  refine J.type.at (wpAny_bind (L1.at ?_))
  rw [em, row_pass]
  refine wpAny_pure (wpAny_bind (J.type.at (wpAny_bind ?_)))
  refine (PySem.W.looks_findIn KI ha).at (wpAny_bind (L2.at ?_))
  exact z _ _ _ _ k
end

/-! ### what the text says of an exception class -/
structure OxC (K : PySem.W.Frag) (C : Addr) (b : Bk) : Prop where
  ob : PySem.W.excInitIn K C b.mro b.nw = true
  row : ∃ cd, PySem.W.clsIn K C = some cd ∧ ownRow b cd.mro = true ∧ cd.hasDict = true
  sa : PySem.W.findIn K (.ref C) "__setattr__" = some (some (.builtin "object.__setattr__"))
  up : PySem.W.subIn K (.ref C) (.type "BaseException") = some true
  ty : PySem.W.typeIn K (.ref C) = some (.type "type")
  kp : PySem.W.keepIn K (.ref C) = true
section
variable {X : Cx} {pins : List (Addr × Obj)} {σ : L2.St} {H : Hp} {s : Shared} {a C dx : Addr} {f : Str} {y : V} {u : Value} {fs : List (Str × V)} {b : Bk} {A : Around} {E : Value → Shared → Prop} {Q : Unit → Shared → Prop}
/-- the heap behind a first store -/
def put1 (H : Hp) (a C dx : Addr) (fs : List (Str × V)) : Hp := upd (upd H dx (exd dx fs)) a (exo a C (some dx))
theorem put1_a {fs : List (Str × V)} : put1 H a C dx fs a = some (exo a C (some dx)) := upd_same
theorem put1_d {fs : List (Str × V)} (n : dx ≠ a) : put1 H a C dx fs dx = some (exd dx fs) := (upd_ne n).trans upd_same
theorem put1_at {fs : List (Str × V)} {c : Addr} (h1 : c ≠ a) (h2 : c ≠ dx) : put1 H a C dx fs c = H c := (upd_ne h1).trans (upd_ne h2)
theorem st_first (T : OxC X.K C b) (I : Inv X pins σ H s) (e : H a = some (exo a C none)) (no : PySem.W.findIn X.K (.ref C) f = some none) (ry : RelV y u)
    (k : ∀ dx s', H dx = none → dx ≠ a → Inv X pins σ (put1 H a C dx [(f, y)]) s' → Q () s') : wpAny (model X.prog X.w) A (setAttr (.ref a) f u) Q E s := by
  obtain ⟨cd, hcd, hrow, hdict⟩ := T.row
  obtain ⟨t1, ho⟩ := exo_at I.hok e
  obtain ⟨hp, g, dr, tk, os⟩ := s
  have J : PySem.W.InstAt hp a { cls := .ref C, dict := none, data := .fields #[.ref t1, .none, .none, .none, .bool false, .none] } C none := ⟨ho, rfl, rfl, trivial⟩
  refine PySem.W.set_plain I.kIn J T.sa (put_run I.kIn J hcd hrow no (puts_first I.kIn ho hcd hdict) ?_)
  rintro h' t' ⟨dx, new, ne, keep, hx, hn⟩
  have fresh : H dx = none := I.hok.fresh new
  have old : ∀ {c : Addr} {o : Obj}, hp.get? c = some o → c ≠ dx := fun z => Nat.ne_of_lt (Nat.lt_of_lt_of_le (Heap.lt_size z) new)
  have nota : ∀ {c : Addr}, H c = none → c ≠ a := fun n z => by rw [z, e] at n; cases n
  have same : ∀ {c : Addr} {v : HO}, H c = some v → (exo a C none : HO) ≠ v → put1 H a C dx [(f, y)] c = some v := fun q d => (put1_at (at_ne e q d) (ne_of_none q fresh)).trans q
  have U : Un X.fs [] H (put1 H a C dx [(f, y)]) hp h' := by
    constructor
    · intro c o q n _ _; exact keep c o (nota n) q
    · intro c o q n _ _; exact ⟨o.slots, keep c o (nota n) q⟩
    · intro c o q n _; exact (put1_at (nota n) (old q)).trans n
    · intro c o q _
      by_cases hc : c = a
      · subst hc; exact ⟨_, hx⟩
      · exact ⟨o, keep c o hc q⟩
    · intro c xs q; exact same q exo_tup
    · intro c o v q; exact same q exo_frz
    · intro c ps q; exact ⟨#[], by rw [same q exo_tbl, Array.append_empty]⟩
  refine k dx _ fresh ne (I.un (t' := t') U ?_)
  intro c o q
  by_cases hc : c = a
  · subst hc
    cases (put1_a (H := H) (fs := [(f, y)])).symm.trans q
    exact exo_ok hx
  by_cases hd : c = dx
  · subst hd
    cases (put1_d (H := H) (C := C) (fs := [(f, y)]) hc).symm.trans q
    exact exd_ok hn (relO_put (fs := []) ry fun _ => trivial)
  rw [put1_at hc hd] at q
  refine (I.hok c o q).stay (fun d v hcv z => keep d v ?_ z) (fun d hcv => same hcv exo_own) fun d xs hcv => same hcv exo_tup
  rcases hcv with hcv | hcv
  · rw [hcv]; exact hc
  · exact at_ne e hcv exo_own
theorem st_more (T : OxC X.K C b) (I : Inv X pins σ H s) (e : H a = some (exo a C (some dx))) (ed : H dx = some (exd dx fs)) (hl : fs.length ≤ 900) (no : PySem.W.findIn X.K (.ref C) f = some none) (ry : RelV y u)
    (k : ∀ s', Inv X pins σ (upd H dx (exd dx ((f, y) :: fs))) s' → Q () s') : wpAny (model X.prog X.w) A (setAttr (.ref a) f u) Q E s := by
  obtain ⟨cd, hcd, hrow, hdict⟩ := T.row
  obtain ⟨t1, ho⟩ := exo_at I.hok e
  obtain ⟨mA, hns, rel⟩ := exd_at I.hok ed
  have hw := within_of rel
  obtain ⟨hp, g, dr, tk, os⟩ := s
  obtain ⟨oD, _, _, hoD, _⟩ := hns.count hw
  have J : PySem.W.InstAt hp a { cls := .ref C, dict := some dx, data := .fields #[.ref t1, .none, .none, .none, .bool false, .none] } C (some oD) := ⟨ho, rfl, rfl, hoD⟩
  refine PySem.W.set_plain I.kIn J T.sa (put_run I.kIn J hcd hrow no (puts_more I.kIn ho hcd hdict hns hw (by rw [List.length_map]; omega)) ?_)
  rintro h' t' ⟨keep, hn⟩
  have there : ∃ o, h'.get? dx = some o := by
    obtain ⟨o, _, _, z, _⟩ := hn
    exact ⟨o, z⟩
  exact k _ (I.write (t' := t') (x := dx) (e := dx) (o := exd dx ((f, y) :: fs)) (by rw [ed]; trivial) (.inl rfl) keep there (exd_ok hn (relO_put ry rel)))
/-- the built-in base's __init__ -/
theorem base_init {us : List Value} {Q : Value → Shared → Prop} (T : OxC X.K C b) (I : Inv X pins σ H s) (e : H a = some (exo a C none)) (hl : us.length ≤ sizeLine) (k : ∀ s', Inv X pins σ H s' → Q .none s') :
    wpAny (model X.prog X.w) A (call (.builtin b.ini) (.ref a :: us)) Q E s := by
  obtain ⟨t1, ho⟩ := exo_at I.hok e
  obtain ⟨nm, N, q, bs, bm, hdct, sn, sub, ab, col, dd, k0, k1, k2, k3, k5, hC, hT⟩ := PySem.W.excInit_of I.kIn T.ob
  obtain ⟨hp, g, dr, tk, os⟩ := s
  refine wpAny_call (HandSPX.init_base b.facts hT hC ho hl ?_)
  intro h' t2 keep hx
  have J := I.write (t' := tk) (x := a) (e := a) (o := exo a C none) (by rw [e]; trivial) (.inl rfl) keep ⟨_, hx⟩ (exo_ok hx)
  have eH : upd H a (exo a C none) = H := by
    funext c
    by_cases hc : c = a
    · subst hc; exact upd_same.trans e.symm
    · exact upd_ne hc
  rw [eH] at J
  exact k _ J
end

/-! ### the texts of such __init__s -/
section
variable {X : Cx} {b : Bk} {x : Str} {p ap cp : Pos} {e o : Expr} {es : List Expr} {ta : TA} {te to : TE} {f : Str}
/-- B.__init__(self, ..), B built in: nothing of it is told -/
def tBin (K : PySem.W.Frag) (b : Bk) (ta : TA) : TE := fun σ H Q => ta σ H fun vs H1 => ∃ (a C : Addr) (ws : List V), vs = .ref a :: ws ∧ ws.length ≤ 1000 ∧ OxC K C b ∧ H1 a = some (exo a C none) ∧ Q .non H1
theorem pe_binit (hx : x = Str.ofString b.nm) (hg : Gl X x) (hm : X.mg x = none) (hv : PySem.W.findCls X.K (.type b.nm) (.type "type") "__init__" = some (.val (.builtin b.ini))) (ha : PA X (e :: es) ta)
    (hs : noStars (e :: es) = true) (hl : (e :: es).length < 29) (hln : (ap.endLine == cp.line) = true) :
    PE X (.Call (.Attribute (.Name x p) "__init__" ap) (e :: es) [] cp) (tBin X.K b ta) := by
  obtain ⟨n1, n2⟩ := and2 (show (notStar e && noStars es) = true from hs)
  obtain ⟨b1, b2⟩ := b.name
  subst hx
  constructor
  intro pins s σ H Q I h
  refine PySem.W.methodCall_KW (pl := plainOf (.Name _ p) X.env) (ld_blt I hg hm b.boot ?_ b1 b2) (mcall_of rfl fun ov => mcall_line (call_form hs hl cp X.env) hln)
  obtain ⟨m, fr⟩ := I.fr
  refine PySem.W.method_type fr I.ok.mod.kin b.typ b.stub hv (by cases b <;> rfl) ?_
  refine callWith_method1 (first := []) ?_ (star_cons n1 es _) (stars_any n2 _ _)
  refine thn (ha.run cp pins _ σ H _ (I.tok _) h) ?_
  rintro us s1 ⟨vs, H1, I1, r, a, C, ws, ev, hz, T, ea, q⟩
  subst ev
  cases r with
  | @cons _ u0 _ ur ra rb =>
    cases (show u0 = Value.ref a from ra)
    have len : ur.length ≤ sizeLine := by
      rw [← Paired.length rb, sizeLine_eq]
      omega
    exact base_init T I1 ea len fun s' J => ⟨.non, H1, J, rfl, q⟩
/-- self.f = e, self being made -/
def tPut (K : PySem.W.Frag) (b : Bk) (f : Str) (to te : TE) : TS := fun D σ H => te σ H fun y H1 => to σ H1 fun x H2 => ∃ a C : Addr, x = .ref a ∧ OxC K C b ∧ PySem.W.findIn K (.ref C) f = some none ∧
  ((H2 a = some (exo a C none) ∧ ∀ dx, H2 dx = none → dx ≠ a → D.nx σ (put1 H2 a C dx [(f, y)])) ∨
    ∃ (dx : Addr) (fs : List (Str × V)), H2 a = some (exo a C (some dx)) ∧ H2 dx = some (exd dx fs) ∧ fs.length ≤ 900 ∧ D.nx σ (upd H2 dx (exd dx ((f, y) :: fs))))
theorem ps_put (ho : PE X o to) (he : PE X e te) (hs : swapsWith e (some (.Attribute o f ap)) cp.line X.env = pure false) : PS X (.Assign [.Attribute o f ap] e cp) (tPut X.K b f to te) := by
  constructor
  intro pins s σ H D I h
  refine plainObj_wpAny_Assign_Attribute (thn (he.run pins s σ H _ I h) ?_) hs
  rintro v s1 ⟨y, H1, I1, r1, q1⟩
  refine thn (ho.run pins s1 σ H1 _ I1 q1) ?_
  rintro u s2 ⟨x, H2, I2, r2, a, C, ex, T, no, q⟩
  subst ex
  cases (show u = Value.ref a from r2)
  rcases q with ⟨ea, q⟩ | ⟨dx, fs, ea, ed, hl, q⟩
  · exact st_first T I2 ea no r1 fun dx s' n ne J => ⟨σ, _, J, q dx n ne⟩
  · exact st_more T I2 ea ed hl no r1 fun s' J => ⟨σ, _, J, q⟩
end

def ckW (c : Option Str) : Expr → Bool
  | .Name y _ => decide (c = none) && decide (y = ("word" : Str))
  | .Constant (.str z) _ _ => decide (c = some z)
  | _ => false
def ckPuts (N : List Str) : List (Str × Nat) → List Stmt → Bool
  | [], [] => true
  | (f, i) :: r, .Assign [.Attribute (.Name s _) g _] (.Name y _) _ :: ss => decide (s = ("self" : Str)) && (decide (g = f) && (decide (N[i]? = some y) && (okN y && ckPuts N r ss)))
  | _, _ => false
/-- X.__init__(self, w) as a statement -/
def ckI1 (x0 : Str) (cw : Expr → Bool) : Stmt → Bool
  | .Expr (.Call (.Attribute (.Name x _) m ap) [.Name s _, w] [] cp) _ => decide (x = x0) && (decide (m = ("__init__" : Str)) && ((ap.endLine == cp.line) && (decide (s = ("self" : Str)) && cw w)))
  | _ => false
/-- self.word = w -/
def ckI2 (cw : Expr → Bool) : Stmt → Bool
  | .Assign [.Attribute (.Name s _) f _] w _ => decide (s = ("self" : Str)) && (decide (f = ("word" : Str)) && cw w)
  | _ => false
theorem ckI1_is {x0 : Str} {cw : Expr → Bool} {st : Stmt} (h : ckI1 x0 cw st = true) : ∃ xp ap sp w cp ep, st = .Expr (.Call (.Attribute (.Name x0 xp) "__init__" ap) [.Name "self" sp, w] [] cp) ep ∧ (ap.endLine == cp.line) = true ∧ cw w = true := by
  unfold ckI1 at h
  split at h
  · obtain ⟨g1, h⟩ := and2 h
    obtain ⟨g2, h⟩ := and2 h
    obtain ⟨g3, h⟩ := and2 h
    obtain ⟨g4, g5⟩ := and2 h
    obtain rfl := dec1 g1
    obtain rfl := dec1 g2
    obtain rfl := dec1 g4
    exact ⟨_, _, _, _, _, _, rfl, g3, g5⟩
  · cases h
theorem ckI2_is {cw : Expr → Bool} {st : Stmt} (h : ckI2 cw st = true) : ∃ sp ap w cp, st = .Assign [.Attribute (.Name "self" sp) "word" ap] w cp ∧ cw w = true := by
  unfold ckI2 at h
  split at h
  · obtain ⟨g1, h⟩ := and2 h
    obtain ⟨g2, g3⟩ := and2 h
    obtain rfl := dec1 g1
    obtain rfl := dec1 g2
    exact ⟨_, _, _, _, rfl, g3⟩
  · cases h
def ckZ (w : Str) : Expr → Bool
  | .Constant (.str z) _ _ => decide (z = w)
  | _ => false
theorem ckZ_is {w : Str} {e : Expr} (h : ckZ w e = true) : ∃ j p, e = .Constant (.str w) j p := by
  unfold ckZ at h
  split at h
  · obtain rfl := dec1 h
    exact ⟨_, _, rfl⟩
  · cases h
def initN (c : Option Str) : List Str := match c with
  | none => ["self", "word"]
  | some _ => ["self"]
def ckInit (par : Str) (N : List Str) : ExI → List Stmt → Bool
  | .base b c, [s1, s2] => ckI1 (Str.ofString b.nm) (ckW c) s1 && (ckI2 (ckW c) s2 && decide (N = initN c))
  | .sub _ w fs, s1 :: ss => ckI1 par (ckZ w) s1 && (okN par && (ckPuts N fs ss && (decide (N[0]? = some ("self" : Str)) && fs.all fun p => decide (p.2 < N.length))))
  | _, _ => false

/-! ### what such an __init__ promises -/
def wordV (c : Option Str) (vs : List V) : Option V := match c with
  | none => vs[1]?
  | some z => some (.str z)
def spBase (K : PySem.W.Frag) (b : Bk) (c : Option Str) (n : Nat) : Sp := fun vs H Q _ => vs.length = n ∧ ∃ (a C : Addr) (w : V), vs[0]? = some (.ref a) ∧ wordV c vs = some w ∧ OxC K C b ∧ PySem.W.findIn K (.ref C) "word" = some none ∧ H a = some (exo a C none) ∧
  ∀ dx, H dx = none → dx ≠ a → Q .non (put1 H a C dx [(("word" : Str), w)])
def putFs : List (Str × Nat) → List V → List (Str × V) → List (Str × V)
  | [], _, gs => gs
  | (f, i) :: r, vs, gs => putFs r vs ((f, vs.getD i .non) :: gs)
def spSub (K : PySem.W.Frag) (b : Bk) (w : Str) (fs : List (Str × Nat)) (n : Nat) : Sp := fun vs H Q _ => vs.length = n ∧ ∃ a C : Addr, vs[0]? = some (.ref a) ∧ OxC K C b ∧ PySem.W.findIn K (.ref C) "word" = some none ∧ (∀ p ∈ fs, PySem.W.findIn K (.ref C) p.1 = some none) ∧
  H a = some (exo a C none) ∧ ∀ dx, H dx = none → dx ≠ a → Q .non (put1 H a C dx (putFs fs vs [(("word" : Str), .str w)]))
theorem start_at {N : List Str} {vs : List V} {i : Nat} {v : V} (e : vs[i]? = some v) : (L2.start N vs)[i]? = some (some v) := by
  have hi : i < vs.length := (List.getElem?_eq_some_iff.mp e).1
  unfold L2.start
  rw [List.getElem?_append_left (by rw [List.length_map]; exact hi), List.getElem?_map, e]
  rfl
section
variable {X : Cx} {b : Bk} {N : List Str}
/-- what is to be read of self.f = p, one after the other -/
def tPuts (K : PySem.W.Frag) (b : Bk) : List (Str × Nat) → TS
  | [] => fun D σ H => D.nx σ H
  | (f, i) :: r => fun D σ H => ∃ (a C dx : Addr) (v : V) (gs : List (Str × V)), σ[0]? = some (some (.ref a)) ∧ σ[i]? = some (some v) ∧ OxC K C b ∧ PySem.W.findIn K (.ref C) f = some none ∧ H a = some (exo a C (some dx)) ∧ H dx = some (exd dx gs) ∧ gs.length ≤ 900 ∧
    tPuts K b r D σ (upd H dx (exd dx ((f, v) :: gs)))
theorem pss_puts (hN : X.N = N) (h0 : N[0]? = some ("self" : Str)) (vis : ∀ (i : Nat) (y : Str), N[i]? = some y → Vis X.env.scope y) : ∀ (fs : List (Str × Nat)) (ss : List Stmt), ckPuts N fs ss = true → PSs X ss (tPuts X.K b fs)
  | [], [], _ => pss_nil
  | [], _ :: _, h => absurd h Bool.false_ne_true
  | _ :: _, [], h => absurd h Bool.false_ne_true
  | (f, i) :: r, st :: ss, h => by
    have key : ∃ (s : Str) (sp : Pos) (g : Str) (gp : Pos) (y : Str) (yp cp : Pos), st = .Assign [.Attribute (.Name s sp) g gp] (.Name y yp) cp := by
      unfold ckPuts at h
      split at h
      · rename_i heq; cases heq
      · rename_i heq1 heq2
        cases heq2
        exact ⟨_, _, _, _, _, _, _, rfl⟩
      · cases h
    obtain ⟨s, sp, g, gp, y, yp, cp, rfl⟩ := key
    obtain ⟨g1, h⟩ := and2 (show (decide (s = ("self" : Str)) && (decide (g = f) && (decide (N[i]? = some y) && (okN y && ckPuts N r ss)))) = true from h)
    obtain ⟨g2, h⟩ := and2 h
    obtain ⟨g3, h⟩ := and2 h
    obtain ⟨g4, g5⟩ := and2 h
    obtain rfl := dec1 g1
    obtain rfl := dec1 g2
    obtain ⟨o1, o2, _⟩ := okN_of g4
    refine PSs.weak (pss_cons (ps_put (b := b) (pe_var (i := 0) (by rw [hN]; exact h0) (vis 0 _ h0)) (pe_var (i := i) (by rw [hN]; exact dec1 g3) (vis i y (dec1 g3)) o1 o2) rfl) (pss_puts hN h0 vis r ss g5)) ?_
    rintro D σ H ⟨a, C, dx, v, gs, e0, ei, T, no, ea, ed, hl, q⟩
    exact ⟨v, ei, .ref a, e0, a, C, rfl, T, no, .inr ⟨dx, gs, ea, ed, hl, q⟩⟩
def wordS (c : Option Str) (σ : L2.St) (v : V) : Prop := match c with
  | none => σ[1]? = some (some v)
  | some z => v = .str z
theorem pe_word {c : Option Str} {w : Expr} (hN : X.N = initN c) (vis : ∀ (i : Nat) (y : Str), X.N[i]? = some y → Vis X.env.scope y) (h : ckW c w = true) :
    PE X w (fun σ H Q => ∃ v, wordS c σ v ∧ Q v H) := by
  cases w with
  | Name y p =>
    obtain ⟨h1, h2⟩ := and2 (show (decide (c = none) && decide (y = ("word" : Str))) = true from h)
    obtain rfl := dec1 h1
    obtain rfl := dec1 h2
    refine PE.weak (pe_var (i := 1) (x := "word") (by rw [hN]; rfl) (vis 1 _ (by rw [hN]; rfl))) ?_
    rintro σ H Q ⟨v, e, q⟩
    exact ⟨v, e, q⟩
  | Constant k j p =>
    cases k with
    | str z =>
      obtain rfl : c = some z := dec1 h
      refine PE.weak pe_str ?_
      rintro σ H Q ⟨v, e, q⟩
      subst e
      exact q
    | _ => exact absurd h Bool.false_ne_true
  | _ => exact absurd h Bool.false_ne_true
theorem ckW_star {c : Option Str} {w : Expr} (h : ckW c w = true) : notStar w = true := by cases w <;> first | rfl | cases h
theorem ckW_comp {c : Option Str} {w : Expr} (h : ckW c w = true) : noComp w = true := by cases w <;> first | rfl | cases h
end

section
variable {P : Program} {wd : World} {K : PySem.W.Frag} {mg : Str → Option Value} {base : Heap} {CT : CXT} {k : Nat} {qual par : Str} {params : Arguments} {body : List Stmt} {scope : Scope} {f : Addr} {fd : FuncData} {N : List Str}
theorem vis_all {ps : List Str} (S : FnScope N ps scope) (hp : ps = N) {CX' : CXT} {cdv : Value} {A : Around} {outer : List Env} {s : Shared} {H : Hp} {E : XK} {i : Nat} {y : Str} (e : N[i]? = some y) :
    Vis (cxOf CX' P wd K mg base N qual scope f cdv A outer s H E).env.scope y := by
  have hy : y ∈ ps := by rw [hp]; exact List.mem_of_getElem? e
  rcases S.par y hy with h | h
  · exact .inl h
  · exact .inr (.inl h)
theorem fn_base {b : Bk} {c : Option Str} (F : FunD K "__init__" qual params body scope [] [] f fd) (S : FnScope N N scope) (hck : ckInit par N (.base b c) body = true)
    (hg : scope.names.lookup (Str.ofString b.nm) = some .globalImplicit) (hm : mg (Str.ofString b.nm) = none) (hv : PySem.W.findCls K (.type b.nm) (.type "type") "__init__" = some (.val (.builtin b.ini))) :
    FnOk P wd K mg base CT (k + 1) f fd N (spBase K b c N.length) := by
  refine F.ok S (fun vs H Q E h => h.1) fun cdv A outer s H vs Q E hr h => ?_
  have vis : ∀ (i : Nat) (y : Str), N[i]? = some y → Vis (cxOf CT P wd K mg base N qual scope f cdv A outer s H E).env.scope y := fun i y e => vis_all S rfl e
  obtain ⟨s1, s2, rfl, g7, g8, hN⟩ : ∃ s1 s2, body = [s1, s2] ∧ ckI1 (Str.ofString b.nm) (ckW c) s1 = true ∧ ckI2 (ckW c) s2 = true ∧ N = initN c := by
    match body, hck with
    | [s1, s2], h =>
      obtain ⟨h1, h⟩ := and2 (show (ckI1 (Str.ofString b.nm) (ckW c) s1 && (ckI2 (ckW c) s2 && decide (N = initN c))) = true from h)
      obtain ⟨h2, h3⟩ := and2 h
      exact ⟨s1, s2, rfl, h1, h2, dec1 h3⟩
    | [], h => cases h
    | [_], h => cases h
    | _ :: _ :: _ :: _, h => cases h
  obtain ⟨xp, ap, sp, w1, cp, ep, rfl, g3, g7⟩ := ckI1_is g7
  obtain ⟨sp2, ap2, w2, cp2, rfl, g8⟩ := ckI2_is g8
  have h0 : N[0]? = some ("self" : Str) := by rw [hN]; cases c <;> rfl
  have pw1 := pe_word (X := cxOf CT P wd K mg base N qual scope f cdv A outer s H E) hN vis g7
  have pw2 := pe_word (X := cxOf CT P wd K mg base N qual scope f cdv A outer s H E) hN vis g8
  have st1 := ckW_star g7
  refine ⟨_, pss_cons (ps_expr (pe_binit (b := b) rfl hg hm hv (pa_cons (pe_var (i := 0) h0 (vis 0 _ h0)) (pa_cons pw1 pa_nil (star_cons st1 [] _)) rfl)
    (by unfold noStars; rw [List.all_cons, List.all_cons, st1]; rfl) (by simp) g3) rfl) (pss_one (ps_put (b := b) (pe_var (i := 0) h0 (vis 0 _ h0)) pw2 (swaps_plain (ckW_comp g8) _ _ _))), ?_⟩
  obtain ⟨hl, a, C, w, e0, ew, T, no, ea, q⟩ := h
  have z0 : (L2.start N vs)[0]? = some (some (V.ref a)) := start_at e0
  have zw : wordS c (L2.start N vs) w := by
    cases c with
    | none => exact start_at ew
    | some z => exact (Option.some.inj ew).symm
  refine ⟨_, z0, w, zw, a, C, [w], rfl, by simp, T, ea, ?_⟩
  exact ⟨w, zw, _, z0, a, C, rfl, T, no, .inl ⟨ea, q⟩⟩
theorem put1_over {H : Hp} {a C dx : Addr} {fs gs : List (Str × V)} (n : dx ≠ a) : upd (put1 H a C dx fs) dx (exd dx gs) = put1 H a C dx gs := by
  funext c
  unfold put1 upd
  by_cases h1 : c = dx
  · subst h1
    simp [n]
  · by_cases h2 : c = a
    · subst h2; simp [h1]
    · simp [h1, h2]
theorem puts_read {b : Bk} {a C dx : Addr} {H : Hp} {D : Ends} {σ : L2.St} {vs : List V} (n : dx ≠ a) (T : OxC K C b) (e0 : σ[0]? = some (some (.ref a))) : ∀ (fs : List (Str × Nat)) (gs : List (Str × V)),
    (∀ p ∈ fs, PySem.W.findIn K (.ref C) p.1 = some none) → (∀ p ∈ fs, σ[p.2]? = some (some (vs.getD p.2 .non))) → fs.length + gs.length ≤ 900 → D.nx σ (put1 H a C dx (putFs fs vs gs)) → tPuts K b fs D σ (put1 H a C dx gs)
  | [], gs, _, _, _, q => q
  | (f, i) :: r, gs, no, at_, hl, q => by
    have hl2 : r.length + 1 + gs.length ≤ 900 := hl
    refine ⟨a, C, dx, vs.getD i .non, gs, e0, at_ (f, i) List.mem_cons_self, T, no (f, i) List.mem_cons_self, put1_a, put1_d n, by omega, ?_⟩
    rw [put1_over n]
    exact puts_read n T e0 r _ (fun p hp => no p (List.mem_cons_of_mem _ hp)) (fun p hp => at_ p (List.mem_cons_of_mem _ hp)) (by rw [List.length_cons]; omega) q
theorem fn_sub {b : Bk} {w : Str} {fs : List (Str × Nat)} {CP f2 : Addr} {fd2 : FuncData} {ps2 : List Str} {j : Nat} (F : FunD K "__init__" qual params body scope [] [] f fd) (S : FnScope N N scope) (hck : ckInit par N (.sub b w fs) body = true)
    (hg : scope.names.lookup par = some .globalImplicit) (hm : mg par = some (.ref CP)) (ci : ClsInit K CP f2) (F2 : FnOk P wd K mg base (L2.CX P wd) (j + 1) f2 fd2 ps2 (spBase K b none 2)) (b2 : Binds K fd2 ps2 []) (hlen : fs.length ≤ 800) :
    FnOk P wd K mg base (L2.CX P wd) (j + 2) f fd N (spSub K b w fs N.length) := by
  refine F.ok S (fun vs H Q E h => h.1) fun cdv A outer s H vs Q E hr h => ?_
  have vis : ∀ (i : Nat) (y : Str), N[i]? = some y → Vis (cxOf (L2.CX P wd) P wd K mg base N qual scope f cdv A outer s H E).env.scope y := fun i y e => vis_all S rfl e
  obtain ⟨s1, ss, rfl, g4, g6, g7, h0, g9⟩ : ∃ s1 ss, body = s1 :: ss ∧ ckI1 par (ckZ w) s1 = true ∧ okN par = true ∧ ckPuts N fs ss = true ∧ N[0]? = some ("self" : Str) ∧ (fs.all fun p => decide (p.2 < N.length)) = true := by
    match body, hck with
    | s1 :: ss, h =>
      obtain ⟨h1, h⟩ := and2 (show (ckI1 par (ckZ w) s1 && (okN par && (ckPuts N fs ss && (decide (N[0]? = some ("self" : Str)) && fs.all fun p => decide (p.2 < N.length))))) = true from h)
      obtain ⟨h2, h⟩ := and2 h
      obtain ⟨h3, h⟩ := and2 h
      obtain ⟨h4, h5⟩ := and2 h
      exact ⟨s1, ss, rfl, h1, h2, h3, dec1 h4, h5⟩
    | [], h => cases h
  obtain ⟨xp, ap, sp, w1, cp, ep, rfl, g3, g5⟩ := ckI1_is g4
  obtain ⟨kz, zp, rfl⟩ := ckZ_is g5
  obtain ⟨o1, _, _⟩ := okN_of g6
  refine ⟨_, pss_cons (ps_expr (pe_cinit (E := fun _ _ _ => False) (CT := L2.CX P wd) hg hm o1 ci F2 hr b2 (passes_call LamX.takes0 fun _ _ _ _ z => z) (pa_cons (pe_var (i := 0) h0 (vis 0 _ h0)) (pa_cons pe_str pa_nil rfl) rfl) rfl (by simp) g3) rfl) (pss_puts (b := b) rfl h0 vis fs ss g7), ?_⟩
  obtain ⟨hl, a, C, e0, T, nw, no, ea, q⟩ := h
  have z0 : (L2.start N vs)[0]? = some (some (V.ref a)) := start_at e0
  refine ⟨_, z0, rfl, a, C, .str w, rfl, rfl, T, nw, ea, fun dx hn hne => ?_⟩
  refine puts_read hne T z0 fs _ no (fun p hp => ?_) (by simp; omega) (q dx hn hne)
  have hi : p.2 < N.length := by
    have := List.all_eq_true.mp g9 p hp
    simpa using this
  have hi2 : p.2 < vs.length := by omega
  refine start_at ?_
  rw [List.getElem?_eq_getElem hi2]
  simp [List.getD, List.getElem?_eq_getElem hi2]
end

/-! ### an exception is made -/
section
variable {X : Cx} {x : Str} {C fI : Addr} {b : Bk} {k : Nat} {fd : FuncData} {ps : List Str} {sp : Sp} {es : List Expr} {ta : TA} {p pos : Pos} {CT : CXT}
/-- C(e, ..): what its __init__ is to find and to leave -/
def tMk (C : Addr) (sp : Sp) (ta : TA) : L2.St → Hp → XK → Prop := fun σ H Q => ta σ H fun vs H1 => vs.length ≤ 1000 ∧ ∀ a, H1 a = none → sp (.ref a :: vs) (upd H1 a (exo a C none))
  (fun v H2 => v = .non ∧ ∃ (d : Addr) (fs : List (Str × V)), H2 a = some (exo a C (some d)) ∧ H2 d = some (exd d fs) ∧ H1 d = none ∧ Q (.ref C) (some d) (upd (del H2 a) d (.xd fs))) (fun _ _ _ => False)
theorem made {pins : List (Addr × Obj)} {σ : L2.St} {H : Hp} {Q : XK} {us : List Value} {vs : List V} {s : Shared} (T : OxC X.K C b) (iC : PySem.W.findIn X.K (.ref C) "__init__" = some (some (.ref fI))) (tI : PySem.W.typeIn X.K (.ref fI) = some (.type "function"))
    (F1 : FnOk X.prog X.w X.K X.mg X.base CT k fI fd ps sp) (hr : Room (k + 1) X.A) (hb : Binds X.K fd ps []) (hx : Passes CT X (fun _ _ _ => False)) (I : Inv X pins σ H s) (r : Vals vs us) (hz : vs.length ≤ 1000)
    (q : ∀ a, H a = none → sp (.ref a :: vs) (upd H a (exo a C none)) (fun v H2 => v = .non ∧ ∃ (d : Addr) (fs : List (Str × V)), H2 a = some (exo a C (some d)) ∧ H2 d = some (exd d fs) ∧ H d = none ∧ Q (.ref C) (some d) (upd (del H2 a) d (.xd fs))) (fun _ _ _ => False)) :
    wpAny (model X.prog X.w) X.A (call (.ref C) us) (MkP X pins σ Q) X.xe s := by
  obtain ⟨nm, N, q0, bs, bm, hdct, sn, sub, ab, col, dd, k0, k1, k2, k3, k5, hC, hT⟩ := PySem.W.excInit_of I.kIn T.ob
  obtain ⟨hp, g, dr, tk, os⟩ := s
  have new : hp.objs.size ≤ hp.objs.size + 1 := Nat.le_succ _
  have free : H (hp.objs.size + 1) = none := I.hok.fresh new
  have want := q _ free
  have keep : ∀ c o, hp.get? c = some o → ((hp.push (PySem.W.kdv_tup us)).push (HandSPX.excO C hp.objs.size)).get? c = some o := fun c o z => Heap.get?_push_of_some _ (Heap.get?_push_of_some _ z)
  have obj : ((hp.push (PySem.W.kdv_tup us)).push (HandSPX.excO C hp.objs.size)).get? (hp.objs.size + 1) = some (HandSPX.excO C hp.objs.size) := by heap_get
  have J := I.laid (t' := tk) (o := exo (hp.objs.size + 1) C none) keep new (exo_ok obj)
  have r1 : Vals (V.ref (hp.objs.size + 1) :: vs) (Value.ref (hp.objs.size + 1) :: us) := .cons rfl r
  have len : (Value.ref (hp.objs.size + 1) :: us).length = ps.length := r1.length.symm.trans (F1.len _ _ _ _ want)
  have small : us.length ≤ sizeLine := by
    rw [← Paired.length r, sizeLine_eq]
    omega
  have bd := hb _ (Value.ref (hp.objs.size + 1) :: us) J.kIn (by rw [List.append_nil]; exact len)
  rw [List.append_nil] at bd
  refine wpAny_call (HandSPX.call_own b.facts hT hC (PySem.W.looks_findIn I.kIn iC) (fun self => PySem.W.bind_fn I.kIn self tI) small ?_)
  refine codeAny_mono (F1.run _ X.stack _ _ ⟨_, []⟩ _ _ _ (fun _ _ _ => False) (hr.make C us []) (J.env0.make C us []) bd r1 want) ?_
  intro res s2 hres
  match res, hres with
  | .error er, z => exact hx pins σ _ _ er s2 J z
  | .ok .next, z => exact z.elim
  | .ok .brk, z => exact z.elim
  | .ok .cont, z => exact z.elim
  | .ok (.ret u), z =>
    obtain ⟨v, H2, o2, bare, un, hok, rv, ev, d, fs, ea, ed, hd, q2⟩ := z
    subst ev
    cases s2
    exact ⟨rv, mk_end (raises_own T.up T.ty) I new keep un hok o2 bare ea ed hd q2⟩
theorem pmk_cls {e : Expr} (T : OxC X.K C b) (iC : PySem.W.findIn X.K (.ref C) "__init__" = some (some (.ref fI))) (tI : PySem.W.typeIn X.K (.ref fI) = some (.type "function")) (F1 : FnOk X.prog X.w X.K X.mg X.base CT k fI fd ps sp) (hr : Room (k + 1) X.A)
    (hb : Binds X.K fd ps []) (hx : Passes CT X (fun _ _ _ => False)) (hg : Gl X x) (hm : X.mg x = some (.ref C)) (hdb : (x == ("__debug__" : Str)) = false) (ha : PA X (e :: es) ta) (hs : noStars (e :: es) = true) :
    PMk X (.Call (.Name x p) (e :: es) [] pos) (tMk C sp ta) := by
  obtain ⟨n1, n2⟩ := and2 (show (notStar e && noStars es) = true from hs)
  intro pins s σ H Q I h
  refine wpAny_Call_Name_kw (ld_glob I hg hm ?_ hdb)
  refine PySem.W.callWith_K (h₀ := X.base) I.ok.mod.kin T.kp ?_ (star_cons n1 es _) (stars_any n2 _ _)
  refine thn (ha.run pos pins s σ H _ I h) ?_
  rintro us s1 ⟨vs, H1, I1, r, hz, q⟩
  exact ⟨I1.kIn, made T iC tI F1 hr hb hx I1 r hz q⟩
theorem pmk_cls0 (T : OxC X.K C b) (iC : PySem.W.findIn X.K (.ref C) "__init__" = some (some (.ref fI))) (tI : PySem.W.typeIn X.K (.ref fI) = some (.type "function")) (F1 : FnOk X.prog X.w X.K X.mg X.base CT k fI fd ps sp) (hr : Room (k + 1) X.A)
    (hb : Binds X.K fd ps []) (hx : Passes CT X (fun _ _ _ => False)) (hg : Gl X x) (hm : X.mg x = some (.ref C)) (hdb : (x == ("__debug__" : Str)) = false) :
    PMk X (.Call (.Name x p) [] [] pos) (tMk C sp tNil) := by
  intro pins s σ H Q I h
  refine wpAny_Call_Name_kw (ld_glob I hg hm ?_ hdb)
  exact PySem.W.callWith_K0 I.kIn T.kp (made T iC tI F1 hr hb hx I .nil (Nat.zero_le _) h.2)
/-- the heap behind it: but for the exception's dict as ahead -/
theorem del_put {H : Hp} {a C d : Addr} {fs : List (Str × V)} {u : HO} (n : H a = none) (ne : d ≠ a) : upd (del (put1 (upd H a (exo a C none)) a C d fs) a) d u = upd H d u := by
  funext c
  unfold put1 upd del
  by_cases h1 : c = d
  · simp [h1]
  · by_cases h2 : c = a
    · subst h2
      simp [h1, n]
    · simp [h1, h2]
end
end Fm

/-! The engine, part W: what a caught exception tells: its fields, its class. -/
namespace Fm
open PySem L2 PySem.Spec PyProof.Rows

theorem refs_vals : ∀ {cs : List Addr} {its : List Value}, Vals (cs.map V.ref) its → its = cs.map Value.ref
  | [], _, .nil => rfl
  | c :: cs, _, .cons r t => by
    cases (show _ = Value.ref c from r)
    rw [refs_vals t]
    rfl
/-- nothing but new tuples -/
inductive Grown (H : Hp) : Hp → Prop where
  | refl : Grown H H
  | tup {H' : Hp} {p : Addr} {xs : List V} (g : Grown H H') (n : H' p = none) : Grown H (upd H' p (.tup xs))
theorem Grown.trans {H H1 H2 : Hp} (a : Grown H H1) (b : Grown H1 H2) : Grown H H2 := by
  induction b with
  | refl => exact a
  | tup _ n ih => exact .tup ih n
theorem Grown.old {H H' : Hp} (g : Grown H H') {b : Addr} {o : HO} (e : H b = some o) : H' b = some o := by
  induction g with
  | refl => exact e
  | tup _ n ih => rw [upd_ne (ne_of_none ih n)]; exact ih
theorem Grown.keeps {K : PySem.W.Frag} {M : Mm} {H H' : Hp} (g : Grown H H') : Keeps K M H M H' := by
  induction g with
  | refl => exact Keeps.refl
  | tup _ n ih => exact ih.trans (Keeps.newH n)
theorem Grown.hold {K : PySem.W.Frag} {S : Addr → Prop} {cls : Cl} {M : Mm} {H H' : Hp} (g : Grown H H') (h : Hold K S cls M H) : Hold K S cls M H' := by
  induction g with
  | refl => exact h
  | tup _ n ih => exact ih.newH n

/-- what is looked at where the class at C is caught -/
structure Caught (K : PySem.W.Frag) (C : Addr) : Prop where
  xf : XfC K C
  ic : (PySem.W.clsIn K C).isSome = true
  cl : PySem.W.findIn K (.ref C) "__class__" = some (some (.builtin "object.__class__"))
  gt : PySem.W.specialIn K (.builtin "object.__class__") "__get__" = some (some (.builtin "getset_descriptor.__get__"))
  tk : PySem.W.takesIn K (.builtin "object.__class__") = some true
  ob : PySem.W.mroIn K C (.type "object") = some true
/-- the caught one is held fast -/
structure Fast (Y : Cx) (a C dd : Addr) (oe : Obj) : Prop where
  pn : (a, oe) ∈ Y.pn
  zc : Zc (.ref C) (some dd) oe
  fl : ∃ vs, oe.data = .fields vs
section
variable {Y : Cx} {a C dd : Addr} {oe : Obj} {pins : List (Addr × Obj)} {σ : L2.St} {H : Hp} {s : Shared} {fs : List (Str × V)}
theorem Fast.inst (F : Fast Y a C dd oe) (I : Inv Y pins σ H s) (ed : H dd = some (.xd fs)) : ∃ od, PySem.W.InstAt s.heap a oe C (some od) ∧ ∀ f, ∃ m : Str → Option Value, RelO (fs.lookup f) (m f) ∧ PySem.W.lookIn f od = some (m f) := by
  have pin := (I.pin _ (List.mem_append_left _ F.pn)).1
  obtain ⟨vs, dt⟩ := F.fl
  obtain ⟨m, ns, rel⟩ : ObjOk Y.prog Y.w H s.heap dd (.xd fs) := I.hok dd _ ed
  obtain ⟨od, here, look⟩ := lookIn_ns ns
  refine ⟨od, ⟨pin, F.zc.1, ?_, ?_⟩, fun f => ⟨m, rel f, look f⟩⟩
  · unfold PySem.W.notCls
    rw [dt] <;> trivial
  · rw [F.zc.2]
    exact here
/-- e.f -/
theorem pe_fast {e : Expr} {te : TE} {pos : Pos} {f : Str} (F : Fast Y a C dd oe) (T : Caught Y.K C) (no : PySem.W.findIn Y.K (.ref C) f = some none) (he : PE Y e te) (hb : attributeBase e f Y.env (eval e Y.env) = eval e Y.env) :
    PE Y (.Attribute e f pos) (fun σ H Q => te σ H fun x H1 => x = .ref a ∧ ∃ fs v, H1 dd = some (.xd fs) ∧ fs.lookup f = some v ∧ Q v H1) := by
  constructor
  intro pins s σ H Q I h
  refine attr_of hb (thn (he.run pins s σ H _ I h) ?_)
  rintro u s1 ⟨x, H1, I1, rx, ex, fs, v, ed, l, q⟩
  subst ex
  cases (show u = Value.ref a from rx)
  obtain ⟨od, J, look⟩ := F.inst I1 ed
  obtain ⟨m, rel, lk⟩ := look f
  rw [l] at rel
  obtain ⟨w, hw, rw'⟩ := RelO.some_of (v := v) rel
  refine HandSPX.exc_get I1.kIn J T.xf.ga T.xf.gg T.xf.exC (PySem.W.findObj_own T.xf.hdC no rfl ?_) (handed_of rw') ⟨v, H1, I1.tok _, rw', q⟩
  rw [lk, hw]
/-- isinstance(e, D), isinstance(e, (D, ..)) -/
theorem call_fast (F : Fast Y a C dd oe) (T : Caught Y.K C) : CallR Y (.builtin "isinstance") (fun xs H Q => (∃ fs, H dd = some (.xd fs)) ∧
    ((∃ (D : Addr) (b : Bool), xs = [.ref a, .ref D] ∧ PySem.W.kitOne Y.K (.ref C) (.ref D) = some b ∧ Q (.bl b) H) ∨
      ∃ (tp : Addr) (cs : List Addr) (b : Bool), xs = [.ref a, .ref tp] ∧ H tp = some (.tup (cs.map V.ref)) ∧ PySem.W.kitAny Y.K (.ref C) (cs.map Value.ref) = some b ∧ Q (.bl b) H)) := by
  intro pins s σ H xs us Q I r h
  obtain ⟨⟨fs, ed⟩, h⟩ := h
  obtain ⟨od, J, _⟩ := F.inst I ed
  have Z := PySem.W.kitx_exc (K := Y.K) (x := a) (C := C) (ox := oe) (od := some od) T.ic T.xf.ga T.xf.gg T.xf.exC T.cl T.gt T.tk T.ob
  rcases h with ⟨D, b, rfl, e, q⟩ | ⟨tp, cs, b, rfl, et, e, q⟩
  · obtain ⟨u1, u2, rfl, r1, r2⟩ := vals2 r
    cases (show u1 = Value.ref a from r1)
    cases (show u2 = Value.ref D from r2)
    exact PySem.W.kia_one Z I.kIn J e (fun z => nomatch z) fun tk => ⟨.bl b, H, I.tok tk, rfl, q⟩
  · obtain ⟨u1, u2, rfl, r1, r2⟩ := vals2 r
    cases (show u1 = Value.ref a from r1)
    cases (show u2 = Value.ref tp from r2)
    obtain ⟨_, its, rv, o, h1, h2, n, h3⟩ : ObjOk Y.prog Y.w H s.heap tp (.tup (cs.map V.ref)) := I.hok tp _ et
    obtain rfl := refs_vals rv
    cases o
    simp only at h2 h3
    subst h2 h3
    exact PySem.W.kia_tup Z I.kIn J h1 e (fun z => nomatch z) fun tk => ⟨.bl b, H, I.tok tk, rfl, q⟩
end

/-! ### the def that tells the fields -/
/-- what it gives -/
inductive FlV where
  | non | one (v : V) | tup (vs : List V)
def lookAll (fs : List (Str × V)) : List Str → Option (List V)
  | [] => some []
  | f :: r => (fs.lookup f).bind fun v => (lookAll fs r).map fun vs => v :: vs
def rowV (fs : List (Str × V)) (r : FRow) : Option FlV := match r.tup, r.fs with
  | true, gs => (lookAll fs gs).map FlV.tup
  | false, [f] => (fs.lookup f).map FlV.one
  | _, _ => none
def rowsV (c : Nat) (fs : List (Str × V)) : List FRow → Option FlV
  | [] => some .non
  | r :: rs => if c ∈ r.cs then rowV fs r else rowsV c fs rs
def flQ (o : FlV) (H : Hp) (Q : VK) : Prop := match o with
  | .non => Q .non H
  | .one v => Q v H
  | .tup vs => vs.length ≤ sizeLine ∧ ∀ p, H p = none → Q (.ref p) (upd H p (.tup vs))
def ckNm (T : CN) (nm : List (Str × NameKind)) (c : Nat) : Expr → Bool
  | .Name y _ => decide (T.lookup c = some y) && (glB nm y && okN y)
  | _ => false
def ckNms (T : CN) (nm : List (Str × NameKind)) : List Nat → List Expr → Bool
  | [], [] => true
  | c :: cs, e :: es => ckNm T nm c e && ckNms T nm cs es
  | _, _ => false
def ckCl (T : CN) (nm : List (Str × NameKind)) (r : FRow) : Expr → Bool
  | .Tuple es _ _ => !r.one && (decide (r.cs.length < 100) && ckNms T nm r.cs es)
  | .Name y p => r.one && (match r.cs with
    | [c] => ckNm T nm c (.Name y p)
    | _ => false)
  | _ => false
/-- isinstance(e, ..) -/
def ckIs (T : CN) (nm : List (Str × NameKind)) (ev : Str) (r : FRow) : Expr → Bool
  | .Call (.Name y _) [.Name z _, c] [] _ => decide (y = ("isinstance" : Str)) && (glB nm y && (decide (z = ev) && ckCl T nm r c))
  | _ => false
def ckAt (ev f : Str) : Expr → Bool
  | .Attribute (.Name z _) g _ => decide (z = ev) && decide (g = f)
  | _ => false
def ckAts (ev : Str) : List Str → List Expr → Bool
  | [], [] => true
  | f :: fs, e :: es => ckAt ev f e && ckAts ev fs es
  | _, _ => false
def ckGive (ev : Str) (r : FRow) : Expr → Bool
  | .Tuple es _ _ => r.tup && (decide (r.fs.length < 100) && ckAts ev r.fs es)
  | .Attribute o f p => !r.tup && (match r.fs with
    | [g] => ckAt ev g (.Attribute o f p)
    | _ => false)
  | _ => false
def ckRow (T : CN) (nm : List (Str × NameKind)) (ev : Str) (r : FRow) : Stmt → Bool
  | .If t [.Return (some x) _] [] _ => ckIs T nm ev r t && ckGive ev r x
  | _ => false
def ckLast (T : CN) (nm : List (Str × NameKind)) (ev : Str) (r : FRow) : Stmt → Bool
  | .Return (some (.IfExp t x (.Constant .none _ _) _)) _ => ckIs T nm ev r t && ckGive ev r x
  | _ => false
def ckFields (T : CN) (nm : List (Str × NameKind)) (ev : Str) : List FRow → List Stmt → Bool
  | [r], [s] => ckLast T nm ev r s
  | r :: rs, s :: ss => ckRow T nm ev r s && ckFields T nm ev rs ss
  | _, _ => false
theorem okN2 {y : Str} (h : okN y = true) : (y == ("__debug__" : Str)) = false := (okN_of h).1
section
variable {Y : Cx} {a C dd : Addr} {oe : Obj} {T : CN} {nm : List (Str × NameKind)} {cls : Nat → Addr} {ev : Str} {i : Nat} {c : Nat}
/-- what is known of the classes there -/
structure ClsOf (Y : Cx) (T : CN) (cls : Nat → Addr) (C : Addr) (c : Nat) : Prop where
  mg : ∀ c' y, T.lookup c' = some y → Y.mg y = some (.ref (cls c'))
  is_ : ∀ c', (T.lookup c').isSome = true → PySem.W.kitOne Y.K (.ref C) (.ref (cls c')) = some (decide (c = c'))
theorem nm_is {e : Expr} {c' : Nat} (h : ckNm T nm c' e = true) : ∃ y p, e = .Name y p ∧ T.lookup c' = some y ∧ glB nm y = true ∧ okN y = true := by
  unfold ckNm at h
  split at h
  · obtain ⟨h1, h2⟩ := and2 h
    obtain ⟨h2, h3⟩ := and2 h2
    exact ⟨_, _, rfl, dec1 h1, h2, h3⟩
  · cases h
theorem pe_nm {e : Expr} {c' : Nat} (hn : Y.env.scope.names = nm) (K : ClsOf Y T cls C c) (h : ckNm T nm c' e = true) : PE Y e (fun _ H Q => Q (.ref (cls c')) H) := by
  obtain ⟨y, p, rfl, l, g, o⟩ := nm_is h
  exact PE.weak (pe_glob (v := .ref (cls c')) (gl_of hn g) (K.mg c' y l) rfl (okN2 o)) fun _ _ _ z => z
theorem pa_nms (hn : Y.env.scope.names = nm) (K : ClsOf Y T cls C c) : ∀ (cs : List Nat) (es : List Expr), ckNms T nm cs es = true → PA Y es (fun _ H Q => Q (cs.map fun c' => V.ref (cls c')) H)
  | [], [], _ => PA.weak pa_nil fun _ _ _ z => z
  | [], _ :: _, h => absurd h Bool.false_ne_true
  | _ :: _, [], h => absurd h Bool.false_ne_true
  | c' :: cs, e :: es, h => by
    obtain ⟨h1, h2⟩ := and2 (show (ckNm T nm c' e && ckNms T nm cs es) = true from h)
    obtain ⟨y, p, rfl, _⟩ := nm_is h1
    exact PA.weak (pa_cons (pe_nm hn K h1) (pa_nms hn K cs es h2) rfl) fun _ _ _ z => z
theorem nms_known (T : CN) : ∀ (cs : List Nat) (es : List Expr), ckNms T nm cs es = true → ∀ c' ∈ cs, (T.lookup c').isSome = true
  | [], _, _, c', m => nomatch m
  | _ :: _, [], h, _, _ => absurd h Bool.false_ne_true
  | c1 :: cs, e :: es, h, c', m => by
    obtain ⟨h1, h2⟩ := and2 (show (ckNm T nm c1 e && ckNms T nm cs es) = true from h)
    rcases List.mem_cons.mp m with m | m
    · obtain ⟨y, p, _, l, _⟩ := nm_is h1
      rw [m, l]
      rfl
    · exact nms_known T cs es h2 c' m
theorem any_known (K : ClsOf Y T cls C c) : ∀ cs : List Nat, (∀ c' ∈ cs, (T.lookup c').isSome = true) → PySem.W.kitAny Y.K (.ref C) ((cs.map cls).map Value.ref) = some (decide (c ∈ cs))
  | [], _ => by rw [List.map_nil, List.map_nil, kitAny_nil]; simp
  | c' :: cs, h => by
    rw [List.map_cons, List.map_cons]
    refine kitAny_cons (K.is_ c' (h c' List.mem_cons_self)) (fun e => ?_) fun e => ?_
    · have ne : c ≠ c' := of_decide_eq_false e
      rw [any_known K cs fun d m => h d (List.mem_cons_of_mem _ m)]
      simp [ne]
    · have eq : c = c' := of_decide_eq_true e
      simp [eq]
/-- the test of a row -/
theorem pe_is {r : FRow} {e : Expr} (hn : Y.env.scope.names = nm) (F : Fast Y a C dd oe) (Ca : Caught Y.K C) (K : ClsOf Y T cls C c) (hm : Y.mg "isinstance" = none) (hi : Y.N[i]? = some ev) (hv : Vis Y.env.scope ev) (he : okN ev = true) (h : ckIs T nm ev r e = true) :
    PE Y e (fun σ H Q => σ[i]? = some (some (.ref a)) ∧ (∃ fs, H dd = some (.xd fs)) ∧ ∀ H', Grown H H' → Q (.bl (decide (c ∈ r.cs))) H') := by
  obtain ⟨o1, o2, _⟩ := okN_of he
  have key : ∃ yp zp x p, e = .Call (.Name "isinstance" yp) [.Name ev zp, x] [] p ∧ glB nm "isinstance" = true ∧ ckCl T nm r x = true := by
    unfold ckIs at h
    split at h
    · obtain ⟨h1, h⟩ := and2 h
      obtain ⟨h2, h⟩ := and2 h
      obtain ⟨h3, h4⟩ := and2 h
      obtain rfl := dec1 h1
      obtain rfl := dec1 h3
      exact ⟨_, _, _, _, rfl, h2, h4⟩
    · cases h
  obtain ⟨yp, zp, x, p, rfl, hg, hc⟩ := key
  have st : notStar x = true := by
    cases x <;> first | rfl | cases hc
  have go : ∀ {tx : TE}, PE Y x tx → PE Y (.Call (.Name "isinstance" yp) [.Name ev zp, x] [] p) _ := fun {tx} hx =>
    pe_callB (call_fast F Ca) (gl_of hn hg) hm boot_isinstance (pa_cons (pe_var (i := i) hi hv o1 o2) (pa_cons hx pa_nil (star_cons st [] _)) rfl) (by decide) (by decide) rfl (stars_any (es := [x]) (by unfold noStars; rw [List.all_cons, st]; rfl) _ _)
  cases x with
  | Name y q =>
    obtain ⟨h1, h2⟩ := and2 (show (r.one && _) = true from hc)
    split at h2
    · rename_i c' ec
      obtain ⟨y', p', ey, l, _⟩ := nm_is h2
      refine PE.weak (go (pe_nm hn K h2)) ?_
      rintro σ H Q ⟨e0, ⟨fs, ed⟩, q⟩
      refine ⟨_, e0, ⟨fs, ed⟩, .inl ⟨cls c', decide (c = c'), rfl, K.is_ c' (by rw [l]; rfl), ?_⟩⟩
      have := q H .refl
      rw [ec] at this
      simpa using this
    · cases h2
  | Tuple es k q =>
    obtain ⟨h1, h2⟩ := and2 (show (!r.one && (decide (r.cs.length < 100) && ckNms T nm r.cs es)) = true from hc)
    obtain ⟨h0, h2⟩ := and2 h2
    have h0 := dec1 h0
    refine PE.weak (go (pe_tup (pa_nms hn K r.cs es h2))) ?_
    rintro σ H Q ⟨e0, ⟨fs, ed⟩, q⟩
    refine ⟨_, e0, ?_, fun tp np => ?_⟩
    · rw [List.length_map, sizeLine_eq]; omega
    · refine ⟨⟨fs, by rw [upd_ne (ne_of_none ed np)]; exact ed⟩, .inr ⟨tp, r.cs.map cls, decide (c ∈ r.cs), rfl, ?_, any_known K r.cs (nms_known T r.cs es h2), q _ (.tup .refl np)⟩⟩
      rw [upd_same, List.map_map]
      rfl
  | _ => exact absurd hc Bool.false_ne_true

theorem at_is {f : Str} {e : Expr} (h : ckAt ev f e = true) : ∃ zp p, e = .Attribute (.Name ev zp) f p := by
  unfold ckAt at h
  split at h
  · obtain ⟨h1, h2⟩ := and2 h
    obtain rfl := dec1 h1
    obtain rfl := dec1 h2
    exact ⟨_, _, rfl⟩
  · cases h
theorem pe_at {f : Str} {e : Expr} (F : Fast Y a C dd oe) (Ca : Caught Y.K C) (no : PySem.W.findIn Y.K (.ref C) f = some none) (hi : Y.N[i]? = some ev) (hv : Vis Y.env.scope ev) (he : okN ev = true) (h : ckAt ev f e = true) :
    PE Y e (fun σ H Q => σ[i]? = some (some (.ref a)) ∧ ∃ fs v, H dd = some (.xd fs) ∧ fs.lookup f = some v ∧ Q v H) := by
  obtain ⟨o1, o2, _⟩ := okN_of he
  obtain ⟨zp, p, rfl⟩ := at_is h
  refine PE.weak (pe_fast F Ca no (pe_var (i := i) hi hv o1 o2) rfl) ?_
  rintro σ H Q ⟨e0, fs, v, ed, l, q⟩
  exact ⟨_, e0, rfl, fs, v, ed, l, q⟩
theorem pa_at (F : Fast Y a C dd oe) (Ca : Caught Y.K C) (hi : Y.N[i]? = some ev) (hv : Vis Y.env.scope ev) (he : okN ev = true) : ∀ (gs : List Str) (es : List Expr), (∀ f ∈ gs, PySem.W.findIn Y.K (.ref C) f = some none) → ckAts ev gs es = true →
    PA Y es (fun σ H Q => σ[i]? = some (some (.ref a)) ∧ ∃ fs vs, H dd = some (.xd fs) ∧ lookAll fs gs = some vs ∧ Q vs H)
  | [], [], _, _ => PA.weak pa_nil fun σ H Q ⟨_, fs, vs, _, e, q⟩ => by cases e; exact q
  | [], _ :: _, _, h => absurd h Bool.false_ne_true
  | _ :: _, [], _, h => absurd h Bool.false_ne_true
  | f :: gs, e :: es, no, h => by
    obtain ⟨h1, h2⟩ := and2 (show (ckAt ev f e && ckAts ev gs es) = true from h)
    have p1 := pe_at F Ca (no f List.mem_cons_self) hi hv he h1
    have p2 := pa_at F Ca hi hv he gs es (fun g m => no g (List.mem_cons_of_mem _ m)) h2
    obtain ⟨zp, p, rfl⟩ := at_is h1
    refine PA.weak (pa_cons p1 p2 rfl) ?_
    rintro σ H Q ⟨e0, fs, vs, ed, l, q⟩
    obtain ⟨v, lv, l⟩ := Option.bind_eq_some_iff.mp l
    obtain ⟨ws, lw, rfl⟩ := Option.map_eq_some_iff.mp l
    exact ⟨e0, fs, v, ed, lv, e0, fs, ws, ed, lw, q⟩
/-- what a row gives -/
theorem pe_give {r : FRow} {e : Expr} (F : Fast Y a C dd oe) (Ca : Caught Y.K C) (no : ∀ f ∈ r.fs, PySem.W.findIn Y.K (.ref C) f = some none) (hi : Y.N[i]? = some ev) (hv : Vis Y.env.scope ev) (he : okN ev = true) (h : ckGive ev r e = true) :
    PE Y e (fun σ H Q => σ[i]? = some (some (.ref a)) ∧ ∃ fs o, H dd = some (.xd fs) ∧ rowV fs r = some o ∧ flQ o H Q) := by
  cases e with
  | Tuple es k p =>
    obtain ⟨h1, h2⟩ := and2 (show (r.tup && (decide (r.fs.length < 100) && ckAts ev r.fs es)) = true from h)
    obtain ⟨h0, h2⟩ := and2 h2
    have h0 := dec1 h0
    refine PE.weak (pe_tup (pa_at F Ca hi hv he r.fs es no h2)) ?_
    rintro σ H Q ⟨e0, fs, o, ed, ro, q⟩
    have ro : (lookAll fs r.fs).map FlV.tup = some o := by
      unfold rowV at ro
      rw [h1] at ro
      exact ro
    obtain ⟨vs, lv, rfl⟩ := Option.map_eq_some_iff.mp ro
    exact ⟨e0, fs, vs, ed, lv, q.1, q.2⟩
  | Attribute o f p =>
    obtain ⟨h1, h2⟩ := and2 (show (!r.tup && _) = true from h)
    split at h2
    · rename_i g eg
      refine PE.weak (pe_at F Ca (no g (by rw [eg]; exact List.mem_cons_self)) hi hv he h2) ?_
      rintro σ H Q ⟨e0, fs, o, ed, ro, q⟩
      have ro : (fs.lookup g).map FlV.one = some o := by
        unfold rowV at ro
        rw [eg] at ro
        have : r.tup = false := by simpa using h1
        rw [this] at ro
        exact ro
      obtain ⟨v, lv, rfl⟩ := Option.map_eq_some_iff.mp ro
      exact ⟨e0, fs, v, ed, lv, q⟩
    · cases h2
  | _ => exact absurd h Bool.false_ne_true
theorem call_plainT {e : Expr} {r : FRow} (h : ckIs T nm ev r e = true) : plainT e = true := by
  cases e <;> first | rfl | cases h
/-- the rows -/
theorem pss_rows (hn : Y.env.scope.names = nm) (F : Fast Y a C dd oe) (Ca : Caught Y.K C) (K : ClsOf Y T cls C c) (hm : Y.mg "isinstance" = none) (hi : Y.N[i]? = some ev) (hv : Vis Y.env.scope ev) (he : okN ev = true) :
    ∀ (rs : List FRow) (ss : List Stmt), (∀ r ∈ rs, ∀ f ∈ r.fs, PySem.W.findIn Y.K (.ref C) f = some none) → ckFields T nm ev rs ss = true →
      PSs Y ss (fun D σ H => σ[i]? = some (some (.ref a)) ∧ ∃ fs o, H dd = some (.xd fs) ∧ rowsV c fs rs = some o ∧ ∀ H', Grown H H' → flQ o H' D.rt)
  | [], ss, _, h => by cases ss <;> exact absurd h Bool.false_ne_true
  | r :: rs, [], _, h => by cases rs <;> exact absurd h Bool.false_ne_true
  | [r], [s], no, h => by
    have h : ckLast T nm ev r s = true := h
    obtain ⟨t, x, k, p1, p2, p3, rfl, h1, h2⟩ : ∃ t x k p1 p2 p3, s = .Return (some (.IfExp t x (.Constant .none k p1) p2)) p3 ∧ ckIs T nm ev r t = true ∧ ckGive ev r x = true := by
      unfold ckLast at h
      split at h
      · obtain ⟨h1, h2⟩ := and2 h
        exact ⟨_, _, _, _, _, _, rfl, h1, h2⟩
      · cases h
    refine PSs.weak (pss_one (ps_ret (pe_ifExp (pt_truth (pe_is hn F Ca K hm hi hv he h1) (true_plain (call_plainT h1) _)) (pe_give F Ca (no r List.mem_cons_self) hi hv he h2) pe_non))) ?_
    rintro D σ H ⟨e0, fs, o, ed, ro, q⟩
    refine ⟨e0, ⟨fs, ed⟩, fun H' g => ⟨_, rfl, ?_⟩⟩
    have ro : (if c ∈ r.cs then rowV fs r else some .non) = some o := ro
    by_cases hc : c ∈ r.cs
    · rw [if_pos hc] at ro
      simp only [hc, decide_true, if_true]
      exact ⟨e0, fs, o, g.old ed, ro, q H' g⟩
    · rw [if_neg hc] at ro
      cases ro
      simp only [hc, decide_false]
      exact q H' g
  | r :: r2 :: rs, [s], no, h => by
    obtain ⟨_, h2⟩ := and2 (show (ckRow T nm ev r s && ckFields T nm ev (r2 :: rs) []) = true from h)
    cases rs <;> exact absurd h2 Bool.false_ne_true
  | [r], s :: s2 :: ss, no, h => by
    obtain ⟨_, h2⟩ := and2 (show (ckRow T nm ev r s && ckFields T nm ev [] (s2 :: ss)) = true from h)
    exact absurd h2 Bool.false_ne_true
  | r :: r2 :: rs, s :: s2 :: ss, no, h => by
    obtain ⟨h1, h2⟩ := and2 (show (ckRow T nm ev r s && ckFields T nm ev (r2 :: rs) (s2 :: ss)) = true from h)
    obtain ⟨t, x, p1, p2, rfl, g1, g2⟩ : ∃ t x p1 p2, s = .If t [.Return (some x) p1] [] p2 ∧ ckIs T nm ev r t = true ∧ ckGive ev r x = true := by
      unfold ckRow at h1
      split at h1
      · obtain ⟨h1, h2⟩ := and2 h1
        exact ⟨_, _, _, _, rfl, h1, h2⟩
      · cases h1
    refine PSs.weak (pss_cons (ps_if (pt_truth (pe_is hn F Ca K hm hi hv he g1) (true_plain (call_plainT g1) _)) (pss_one (ps_ret (pe_give F Ca (no r List.mem_cons_self) hi hv he g2))) pss_nil)
      (pss_rows hn F Ca K hm hi hv he (r2 :: rs) (s2 :: ss) (fun z m => no z (List.mem_cons_of_mem _ m)) h2)) ?_
    rintro D σ H ⟨e0, fs, o, ed, ro, q⟩
    refine ⟨e0, ⟨fs, ed⟩, fun H' g => ⟨_, rfl, ?_⟩⟩
    have ro : (if c ∈ r.cs then rowV fs r else rowsV c fs (r2 :: rs)) = some o := ro
    by_cases hc : c ∈ r.cs
    · rw [if_pos hc] at ro
      simp only [hc, decide_true, if_true]
      exact ⟨e0, fs, o, g.old ed, ro, q H' g⟩
    · rw [if_neg hc] at ro
      simp only [hc, decide_false]
      exact ⟨e0, fs, o, g.old ed, ro, fun H2 g2 => q H2 (g.trans g2)⟩
end
end Fm

/-! The engine, part V: a try with several clauses of the form: except C as n. -/
namespace Fm
open PySem L2 PySem.Spec PyProof.Rows

section
variable {X : Cx} {n : Str} {i : Nat} {pins : List (Addr × Obj)} {σ : L2.St} {H : Hp} {s : Shared} {B : Heap} {a : Addr} {cls : Value} {d : Option Addr}
/-- an exception has come down to the clauses -/
structure Hung (X : Cx) (B : Heap) (pins : List (Addr × Obj)) (σ : L2.St) (H : Hp) (a : Addr) (cls : Value) (d : Option Addr) (s : Shared) : Prop where
  at_ : ∃ sI : Shared, Inv X pins σ H sI ∧ (∀ b o, sI.heap.get? b = some o → b ∉ frs X.stack → B.get? b = some o) ∧ sI.heap.UpToSlots s.heap ∧ s.os = sI.os ∧ AllBare s.gens
  fly : HandSPX.FlyingZ B (X.env :: X.outer) a (Zc cls d) s.heap
  na : H a = none
theorem Hung.inv (h : Hung X B pins σ H a cls d s) : Inv X pins σ H s := by
  obtain ⟨_, I, nb, up, o, g⟩ := h.at_
  exact I.landed nb h.fly.1 up o g
theorem Hung.moved {h2 : Heap} (h : Hung X B pins σ H a cls d s) (fl : HandSPX.FlyingZ B (X.env :: X.outer) a (Zc cls d) h2) (up : s.heap.UpToSlots h2) : Hung X B pins σ H a cls d { s with heap := h2 } := by
  obtain ⟨sI, I, nb, u, o, g⟩ := h.at_
  exact ⟨⟨sI, I, nb, u.trans up, o, g⟩, fl, h.na⟩
theorem Hung.held (h : Hung X B pins σ H a cls d s) (hf : X.env.frame = some X.env.locals) : ∃ oe, s.heap.get? a = some oe ∧ Zc cls d oe ∧ (∃ vs, oe.data = .fields vs) ∧ Inv (X.suite a ((a, oe) :: (X.pn ++ pins))) [] σ H s := by
  obtain ⟨oe, vs, get, z, dt⟩ := h.fly.there
  have frames := h.fly.2.2.1
  have out : a ∉ frs (X.env :: X.outer) := by
    intro m
    obtain ⟨_, o2, g2, nf⟩ := frames.mem m
    cases get.symm.trans g2
    exact nf _ dt
  have e1 : a ≠ X.env.locals := by
    rintro rfl
    exact out (List.mem_filterMap.mpr ⟨_, List.mem_cons_self, hf⟩)
  have e2 : a ∉ X.fs := by
    intro m
    obtain ⟨e, he, q⟩ := List.mem_filterMap.mp m
    exact out (List.mem_filterMap.mpr ⟨e, List.mem_cons_of_mem _ he, q⟩)
  exact ⟨oe, get, z, ⟨vs, dt⟩, h.inv.suite get dt h.na e1 e2⟩
/-- the ends of a suite whose name is let go behind it -/
def asEnds (i : Nat) (D : Ends) : Ends where
  nx := fun σ' H' => D.nx (σ'.set i none) H'
  rt := D.rt
  bk := fun σ' H' => D.bk (σ'.set i none) H'
  ct := fun σ' H' => D.ct (σ'.set i none) H'
/-- a clause: its class, what its suite asks -/
abbrev Cls1 := Value × (Addr → Value → Option Addr → TS)
/-- what the clauses wish; one of them is to take the exception -/
def wTake (K : PySem.W.Frag) (i : Nat) (D : Ends) : List Cls1 → WX
  | [], _, _, _, _ => False
  | p :: r, cls, d, σ, H => ∃ b, PySem.W.exmOne K cls p.1 = some b ∧ if b = true then ∀ a, H a = none → p.2 a cls d (asEnds i D) (σ.set i (some (.ref a))) H else wTake K i D r cls d σ H
/-- the clauses' texts -/
inductive Takers (X : Cx) (n : Str) : List ExceptHandler → List Cls1 → Prop
  | nil : Takers X n [] []
  | cons {x : Str} {p : Cls1} {st : Stmt} {ss : List Stmt} {q1 q2 : Pos} {hs : List ExceptHandler} {ps : List Cls1} (nm : Names X x p.1)
      (su : ∀ a oe cls d pn, Zc cls d oe → (∃ vs, oe.data = .fields vs) → PSs (X.suite a ((a, oe) :: pn)) (st :: ss) (p.2 a cls d)) (r : Takers X n hs ps) : Takers X n (.ExceptHandler (some (.Name x q1)) (some n) (st :: ss) q2 :: hs) (p :: ps)
/-- a suite that is gone through: the name is bound, the suite done, the name let go -/
theorem suite_done {D : Ends} {st : Stmt} {ss : List Stmt} {ts : Addr → Value → Option Addr → TS} {q2 : Pos} (h : Hung X B pins σ H a cls d s) (hf : X.env.frame = some X.env.locals) (hN : X.N.Nodup) (hi : X.N[i]? = some n) (hl : X.env.kindOf n = some .local)
    (su : ∀ a oe cls d pn, Zc cls d oe → (∃ vs, oe.data = .fields vs) → PSs (X.suite a ((a, oe) :: pn)) (st :: ss) (ts a cls d)) (w : ts a cls d (asEnds i D) (σ.set i (some (.ref a))) H) {E1 E2 : Value → Shared → Prop} :
    wpAny (model X.prog X.w) (X.A.mark (some (.ref a))) (storeName X.env n (.ref a)) (fun _ s2 => wpAny (model X.prog X.w) (X.A.mark (some (.ref a))) (execs (st :: ss) X.env)
      (fun f s3 => wpAny (model X.prog X.w) X.A (do bindName X.env n .none; unbindBehindTheSuite X.env n q2) (fun _ s4 => SP X pins D f s4) X.xe s3) E1 s2) E2 s := by
  have ok := h.inv.ok
  obtain ⟨oe, _, z, dt, S⟩ := h.held hf
  refine store_ok (X := X.suite a ((a, oe) :: (X.pn ++ pins))) (v := .ref a) S hN hi (.inl hl) rfl (fun s2 S2 => ?_) (.inr hl)
  refine wpAny_mono ((su a oe cls d (X.pn ++ pins) z dt).run [] s2 _ H _ S2 w) ?_ fun _ _ z => z.elim
  intro f s3 q
  have over : ∀ {σ4 : L2.St} {H4 : Hp} {P : Shared → Prop}, Inv (X.suite a ((a, oe) :: (X.pn ++ pins))) [] σ4 H4 s3 → (∀ s5, Inv X pins (σ4.set i none) H4 s5 → P s5) →
      wpAny (model X.prog X.w) X.A (do bindName X.env n .none; unbindBehindTheSuite X.env n q2) (fun _ s5 => P s5) X.xe s3 := fun S4 k => gone_ok (S4.unsuite ok) hN hi hl k
  match f, q with
  | .next, ⟨σ4, H4, S4, w4⟩ => exact over S4 fun s5 J => ⟨_, _, J, w4⟩
  | .brk, ⟨σ4, H4, S4, w4⟩ => exact over S4 fun s5 J => ⟨_, _, J, w4⟩
  | .cont, ⟨σ4, H4, S4, w4⟩ => exact over S4 fun s5 J => ⟨_, _, J, w4⟩
  | .ret u, ⟨v4, σ4, H4, S4, r4, w4⟩ => exact over S4 fun s5 J => ⟨_, _, _, J, r4, w4⟩
/-- the clauses, one after the other -/
theorem takers_run {D : Ends} (hf : X.env.frame = some X.env.locals) (hN : X.N.Nodup) (hi : X.N[i]? = some n) (hl : X.env.kindOf n = some .local) (h : Hung X B pins σ H a cls d s) :
    ∀ {hs : List ExceptHandler} {ps : List Cls1}, Takers X n hs ps → wTake X.K i D ps cls d σ H → wpAny (model X.prog X.w) X.A (handleBy (.ref a) X.env hs) (SP X pins D) X.xe s
  | _, _, .nil, w => w.elim
  | _, _, .cons (x := x) (p := p) (st := st) (ss := ss) (q1 := q1) (q2 := q2) (hs := hs) (ps := ps) nm su r, w => by
    obtain ⟨b, eb, w⟩ := w
    obtain ⟨oe, get, z, _, S⟩ := h.held hf
    have ty : PySem.W.Looks (model X.prog X.w) s.heap (typeOf (.ref a)) cls := by
      intro A Q E s' k q
      exact wpAny_typeOf_ref (k _ _ get) (by rw [z.1]; exact q)
    have LM := PySem.W.exm_one (M := model X.prog X.w) h.inv.kIn ty eb
    have load : ∀ {Q E : Value → Shared → Prop}, Q p.1 s → wpAny (model X.prog X.w) (X.A.mark (some (.ref a))) (eval (.Name x q1) X.env) Q E s := by
      intro Q E q
      obtain ⟨g, db, m | ⟨m, v, ne⟩⟩ := nm
      · exact ld_glob (X := X.suite a ((a, oe) :: (X.pn ++ pins))) S g m q db
      · exact ld_blt (X := X.suite a ((a, oe) :: (X.pn ++ pins))) S g m v q ne db
    refine wpAny_handleBy_cons (codeAny_handlers_test (load (LM.here ?_))) (by intro y; cases y)
    cases b with
    | false =>
      exact takers_run hf hN hi hl h r (by simpa using w)
    | true =>
      refine codeAny_handlers_suite_as ?_
      refine HandSPX.lands_againZ h.fly fun h2 fl2 up2 => ?_
      exact suite_done (h.moved fl2 up2) hf hN hi hl su ((show if true = true then _ else _ from w) a h.na)
variable {body : List Stmt} {h0 : ExceptHandler} {hs : List ExceptHandler} {l : List Cls1} {pos : Pos} {tb : WX → TS}
/-- try: body, with such clauses; what the body lets out is taken by one of them -/
theorem ps_tryAs (hs0 : X.stack = X.env :: X.outer) (hf : X.env.frame = some X.env.locals) (hN : X.N.Nodup) (hi : X.N[i]? = some n) (hl : X.env.kindOf n = some .local)
    (hb : ∀ (W : WX) (pn : List (Addr × Obj)) (xe : Value → Shared → Prop), Takes (X.tr pn xe) W → PassesOwn (model X.prog X.w) X.A X.env xe → PSs (X.tr pn xe) body (tb W)) (hh : Takers X n (h0 :: hs) l) :
    PS X (.Try body (h0 :: hs) [] [] pos) (fun D σ H => tb (wTake X.K i D l) D σ H) := by
  constructor
  intro pins s σ H D I h
  have ok := I.ok
  have hfr : X.A.frames = some (X.env :: X.outer) := by rw [ok.frames, hs0]
  let catch_ : Value → Shared → Prop := fun e s1 => wpAny (model X.prog X.w) X.A (noteFrame e X.env) (fun _ s2 => wpAny (model X.prog X.w) X.A (setFlight e none)
    (fun _ s3 => wpAny (model X.prog X.w) X.A (handleBy e X.env (h0 :: hs)) (SP X pins D) X.xe s3) X.xe s2) X.xe s1
  have catches : Takes (X.tr (X.pn ++ pins) catch_) (wTake X.K i D l) := by
    rintro u s' ⟨a, B, sI, pins', σ', H', cls, d, rfl, J, nb, up, sky, na, o, g, w⟩
    have J0 := J.ofTry ok
    have sky2 : Sky B (X.env :: X.outer) a (Zc cls d) X.env.locals s'.heap := by rw [← hs0]; exact sky
    refine Sky.land Zc.steady hfr hf sky2 fun h3 fl up3 => ?_
    exact takers_run hf hN hi hl (Hung.mk (s := { s' with heap := h3 }) ⟨sI, J0, nb, up.trans up3, o, g⟩ fl na) hh w
  have run := (hb _ (X.pn ++ pins) catch_ catches PassesOwn.looking).run [] s σ H D (I.toTry _) h
  refine wpAny_Try_except (wpAny_mono run ?_ fun _ _ z => z)
  intro f s1 q
  match f, q with
  | .next, ⟨σ1, H1, J, w⟩ => exact wpAny_execs_nil ⟨σ1, H1, J.ofTry ok, w⟩
  | .brk, ⟨σ1, H1, J, w⟩ => exact ⟨σ1, H1, J.ofTry ok, w⟩
  | .cont, ⟨σ1, H1, J, w⟩ => exact ⟨σ1, H1, J.ofTry ok, w⟩
  | .ret u, ⟨v1, σ1, H1, J, r, w⟩ => exact ⟨v1, σ1, H1, J.ofTry ok, r, w⟩
end
end Fm

/-! The engine, part U: the law's own teller of refusals: why(lambda: ..). -/
namespace Fm
open PySem L2 PySem.Spec PyProof.Rows

/-- the def of the fields, as it stands in the text -/
structure FieldsDef (K : PySem.W.Frag) (mg : Str → Option Value) (T : CN) (cls : Nat → Addr) (x : Str) (rows : List FRow) (f : Addr) (fd : FuncData) : Prop where
  fn : ∃ (params : Arguments) (body : List Stmt) (scope : Scope) (ev : Str), FunD K x x params body scope [] [] f fd ∧ FnScope [ev] [ev] scope ∧ Binds K fd [ev] [] ∧ ckFields T scope.names ev rows body = true ∧ okN ev = true
  at_ : mg x = some (.ref f)
  kp : PySem.W.keepIn K (.ref f) = true
  isi : mg "isinstance" = none
section
variable {Y : Cx} {a C dd : Addr} {oe : Obj} {T : CN} {cls : Nat → Addr} {c i : Nat} {x ev : Str} {rows : List FRow} {f : Addr} {fd : FuncData} {p1 p2 p3 : Pos}
theorem pe_fields (F : Fast Y a C dd oe) (Ca : Caught Y.K C) (D : FieldsDef Y.K Y.mg T cls x rows f fd) (K : ClsOf Y T cls C c) (no : ∀ r ∈ rows, ∀ g ∈ r.fs, PySem.W.findIn Y.K (.ref C) g = some none) (room : Y.A.depth < recursionLimit)
    (hg : Gl Y x) (hdb : (x == ("__debug__" : Str)) = false) (hi : Y.N[i]? = some ev) (hv : Vis Y.env.scope ev) (he : okN ev = true) :
    PE Y (.Call (.Name x p1) [.Name ev p2] [] p3) (fun σ H Q => σ[i]? = some (some (.ref a)) ∧ ∃ fs o, H dd = some (.xd fs) ∧ rowsV c fs rows = some o ∧ ∀ H', Grown H H' → flQ o H' Q) := by
  obtain ⟨o1, o2, _⟩ := okN_of he
  obtain ⟨params, body, scope, en, FD, S, bd, ck, oke⟩ := D.fn
  constructor
  intro pins s σ H Q I h
  obtain ⟨e0, fs, o, ed, ro, q⟩ := h
  refine wpAny_Call_Name_kw (ld_glob I hg D.at_ ?_ hdb)
  have pa : PA Y [.Name ev p2] _ := pa_cons (pe_var (i := i) hi hv o1 o2) pa_nil rfl
  refine PySem.W.callWith_K (h₀ := Y.base) I.ok.mod.kin D.kp ?_ rfl rfl
  refine thn (pa.run p3 pins s σ H (fun vs H1 => vs = [.ref a] ∧ H1 = H) I ⟨.ref a, e0, rfl, rfl⟩) ?_
  rintro us s1 ⟨vs, H1, I1, r, ev1, ev2⟩
  subst ev1
  have ev2 := ev2.symm
  subst ev2
  refine ⟨I1.kIn, ?_⟩
  have pin := I1.pin _ (List.mem_append_left pins F.pn)
  have hpin : L2H.PinOk Y.stack H s1 (a, oe) := by
    refine ⟨pin.1, pin.2.1, fun m => ?_, pin.2.2.2.2⟩
    rcases List.mem_cons.mp (I1.stkSub a m) with z | z
    · exact pin.2.2.1 z
    · exact pin.2.2.2.1 z
  obtain ⟨oc, od, dV, kV, doc, pm, an, cdv, ct, osl, rfl, lk, hcd, _, _⟩ := FD.ex
  have us1 : us = [.ref a] := by
    obtain ⟨u, e, r1⟩ := vals1 r
    subst e
    cases (show u = Value.ref a from r1)
    rfl
  subst us1
  have b := bd s1 [.ref a] I1.kIn rfl
  have kinds : ∀ y ∈ [en].zip [Value.ref a], scope.names.lookup y.1 = some .local ∨ (scope.names.lookup y.1 = some .cell ∧ ((cellsFrom (s1.heap.objs.size + 1) scope.names []).lookup y.1).isSome = true) := by
    rintro ⟨y, v⟩ m
    rcases S.par y (List.of_mem_zip m).1 with z | z
    · exact .inl z
    · exact .inr ⟨z, PySem.W.cellsFrom_some _ _ _ (.inl z)⟩
  have lim : s1.heap.NoLimit := I1.ok.mod.nolimit.keeps fun d u z => (I1.bs d u z).1
  have run : codeAny (model Y.prog Y.w) Y.A (.call (.ref f) ⟨[.ref a], []⟩) (CR C8.CX0 Y.stack Y.prog Y.w H s1 Q C8.E0) s1 := by
    refine codeAny_call_function (o := _) room (I1.kIn _ _ lk) rfl S.co S.gen rfl (PySem.W.codeRec_of I1.kIn hcd) (b _ _ _ _ ?_)
    refine wpAny_newFunctionEnv_cells S.kind kinds ?_
    rintro env rfl s2 inCall
    refine ⟨lim.keeps inCall.toInCall.keep, codeAny_func ?_⟩
    let Yi : Cx := L2H.cxH C8.CX0 Y.prog Y.w Y.K Y.mg Y.base [en] x scope f cdv Y.A Y.stack s1 H C8.E0 (a, oe)
    have J : Inv Yi [] (L2.start [en] [.ref a]) H s2 := L2H.inv_startH S hpin I1.env0 rfl r inCall
    have Fi : Fast Yi a C dd oe := ⟨List.mem_cons_self, F.zc, F.fl⟩
    have Ki : ClsOf Yi T cls C c := ⟨K.mg, K.is_⟩
    have vis : Vis Yi.env.scope en := by
      rcases S.par en List.mem_cons_self with z | z
      · exact .inl z
      · exact .inr (.inl z)
    have walk := pss_rows (Y := Yi) (i := 0) rfl Fi Ca Ki D.isi rfl vis oke rows body no ck
    refine wpAny_mono (walk.run [] s2 _ H { nx := fun _ H' => Q .non H', rt := Q } J ⟨rfl, fs, o, ed, ro, q⟩) ?_ fun e s' z => ?_
    · intro fl s3 w
      have done : ∀ {σ' : L2.St} {H' : Hp} {v : V} {u : Value}, Inv Yi [] σ' H' s3 → L2.RelV v u → Q v H' → CE Y.stack Y.prog Y.w H s1 Q u s3 := fun {σ' H' v u} J' rv qv => ⟨v, H', J'.os, J'.bare, J'.base, J'.hok, rv, qv⟩
      match fl, w with
      | .ret u, ⟨v, σ', H', J', rv, qv⟩ => exact done J' rv qv
      | .next, ⟨σ', H', J', qv⟩ => exact done (v := .non) (u := Value.none) J' rfl qv
      | .brk, ⟨_, _, _, z⟩ => exact z.elim
      | .cont, ⟨_, _, _, z⟩ => exact z.elim
    · exact z
  refine wpAny_call (codeAny_mono run ?_)
  intro res s2 z
  match res, z with
  | .error e, z => exact (show False from z).elim
  | .ok (.ret u), z => exact I1.after z
  | .ok .next, z => exact z.elim
  | .ok .brk, z => exact z.elim
  | .ok .cont, z => exact z.elim
end

/-! ### the def that tells why -/
/-- what is known of a class that may be caught -/
structure CF (K : PySem.W.Frag) (T : CN) (cls : Nat → Addr) (rows : List FRow) (C : Addr) (c : Nat) : Prop where
  ca : Caught K C
  is_ : ∀ c', (T.lookup c').isSome = true → PySem.W.kitOne K (.ref C) (.ref (cls c')) = some (decide (c = c'))
  nw : PySem.W.findIn K (.ref C) "word" = some none
  no : ∀ r ∈ rows, ∀ g ∈ r.fs, PySem.W.findIn K (.ref C) g = some none
/-- found = (e.word, fields(e)), or (e.word, None) -/
def ckTold2 (xF : Str) (third : Bool) : Expr → Bool
  | .Call (.Name g _) [.Name e2 _] [] _ => !third && (decide (g = xF) && decide (e2 = ("_law_e" : Str)))
  | .Constant .none _ _ => third
  | _ => false
theorem told2_is {xF : Str} {third : Bool} {b : Expr} (h : ckTold2 xF third b = true) : (third = false ∧ ∃ q1 q2 q3, b = .Call (.Name xF q1) [.Name "_law_e" q2] [] q3) ∨ (third = true ∧ ∃ k q, b = .Constant .none k q) := by
  unfold ckTold2 at h
  split at h
  · obtain ⟨h1, h⟩ := and2 h
    obtain ⟨h2, h3⟩ := and2 h
    obtain rfl := dec1 h2
    obtain rfl := dec1 h3
    exact .inl ⟨by simpa using h1, _, _, _, rfl⟩
  · exact .inr ⟨h, _, _, rfl⟩
  · cases h
def ckTold (xF : Str) (third : Bool) : Stmt → Bool
  | .Assign [.Name x _] (.Tuple [.Attribute (.Name e _) w _, b] _ _) _ => decide (x = ("_law_found" : Str)) && (decide (e = ("_law_e" : Str)) && (decide (w = ("word" : Str)) && ckTold2 xF third b))
  | _ => false
theorem told_is {xF : Str} {third : Bool} {st : Stmt} (h : ckTold xF third st = true) : ∃ p1 p2 p3 b k p4 p5, st = .Assign [.Name "_law_found" p1] (.Tuple [.Attribute (.Name "_law_e" p2) "word" p3, b] k p4) p5 ∧
    ((third = false ∧ ∃ q1 q2 q3, b = .Call (.Name xF q1) [.Name "_law_e" q2] [] q3) ∨ (third = true ∧ ∃ k q, b = .Constant .none k q)) := by
  unfold ckTold at h
  split at h
  · obtain ⟨h1, h⟩ := and2 h
    obtain ⟨h2, h⟩ := and2 h
    obtain ⟨h3, h⟩ := and2 h
    obtain rfl := dec1 h1
    obtain rfl := dec1 h2
    obtain rfl := dec1 h3
    exact ⟨_, _, _, _, _, _, _, rfl, told2_is h⟩
  · cases h
/-- what a clause's suite wishes -/
def tsWhy (K : PySem.W.Frag) (T : CN) (cls : Nat → Addr) (rows : List FRow) (third : Bool) (a : Addr) (cl : Value) (d : Option Addr) : TS := fun D σ H => ∃ (c : Nat) (C dd : Addr) (fs : List (Str × V)) (w : V) (o : FlV), cl = .ref C ∧ d = some dd ∧ CF K T cls rows C c ∧
  σ[2]? = some (some (.ref a)) ∧ H dd = some (.xd fs) ∧ fs.lookup ("word" : Str) = some w ∧ rowsV c fs rows = some o ∧ (third = true → o = .non) ∧
  ∀ H3, Grown H H3 → flQ o H3 fun v H4 => ∀ q, H4 q = none → D.nx (σ.set 1 (some (.ref q))) (upd H4 q (.tup [w, v]))
theorem ps_told {Y : Cx} {T : CN} {cls : Nat → Addr} {rows : List FRow} {third : Bool} {a : Addr} {cl : Value} {d : Option Addr} {oe : Obj} {xF : Str} {f : Addr} {fd : FuncData} {st : Stmt} (hN : Y.N = whyN) (h1 : Y.env.scope.names.lookup ("_law_found" : Str) = some .local) (h2 : Y.env.scope.names.lookup ("_law_e" : Str) = some .local)
    (hg : Gl Y xF) (hdb : (xF == ("__debug__" : Str)) = false) (D : FieldsDef Y.K Y.mg T cls xF rows f fd) (hmg : ∀ c' y, T.lookup c' = some y → Y.mg y = some (.ref (cls c'))) (room : Y.A.depth < recursionLimit) (hp : (a, oe) ∈ Y.pn) (hz : Zc cl d oe) (hf : ∃ vs, oe.data = .fields vs)
    (ck : ckTold xF third st = true) : PSs Y [st] (tsWhy Y.K T cls rows third a cl d) := by
  obtain ⟨p1, p2, p3, b, k, p4, p5, rfl, hb⟩ := told_is ck
  constructor
  intro pins s σ H En I h
  obtain ⟨c, C, dd, fs, w, o, rfl, rfl, cf, e2, ed, lw, ro, h3, q⟩ := h
  have F : Fast Y a C dd oe := ⟨hp, hz, hf⟩
  have n2 : Y.N[2]? = some ("_law_e" : Str) := by rw [hN]; rfl
  have n1 : Y.N[1]? = some ("_law_found" : Str) := by rw [hN]; rfl
  have nd : Y.N.Nodup := by rw [hN]; decide +kernel
  have pw := pe_fast (pos := p3) (f := "word") F cf.ca cf.nw (pe_var (i := 2) (pos := p2) n2 (.inl h2)) rfl
  have pb : PE Y b (fun σ H Q => σ[2]? = some (some (.ref a)) ∧ ∃ fs o, H dd = some (.xd fs) ∧ rowsV c fs rows = some o ∧ (third = true → o = .non) ∧ ∀ H', Grown H H' → flQ o H' Q) := by
    rcases hb with ⟨_, q1, q2, q3, rfl⟩ | ⟨t3, k', q', rfl⟩
    · refine PE.weak (pe_fields F cf.ca D ⟨hmg, cf.is_⟩ cf.no room hg hdb n2 (.inl h2) (by decide +kernel)) ?_
      rintro σ H Q ⟨e, fs, o, ed, ro, _, q⟩
      exact ⟨e, fs, o, ed, ro, q⟩
    · refine PE.weak pe_non ?_
      rintro σ H Q ⟨e, fs, o, ed, ro, h3, q⟩
      have z := q H .refl
      rw [h3 t3] at z
      exact z
  have sb : starEach [b] Y.env = (false, eval b Y.env) :: starEach [] Y.env := by
    rcases hb with ⟨_, q1, q2, q3, rfl⟩ | ⟨_, k', q', rfl⟩ <;> rfl
  have walk := pss_one (ps_set (pos := p5) (pos' := p1) (i := 1) nd n1 (.inl h1) (pe_tup (x1 := k) (pos := p4) (pa_cons pw (pa_cons pb pa_nil sb) rfl)) (by rfl) (.inr h1))
  refine walk.run pins s σ H En I ?_
  refine ⟨_, e2, rfl, fs, w, ed, lw, e2, fs, o, ed, ro, h3, fun H' g => ?_⟩
  have z := q H' g
  cases o with
  | non => exact ⟨by show 2 ≤ sizeLine; decide, fun p np => z p np⟩
  | one v => exact ⟨by show 2 ≤ sizeLine; decide, fun p np => z p np⟩
  | tup vs => exact ⟨z.1, fun p np => ⟨by show 2 ≤ sizeLine; decide, fun p2 np2 => z.2 p np p2 np2⟩⟩

def ckWhyH (cn xF : Str) (third : Bool) : ExceptHandler → Bool
  | .ExceptHandler (some (.Name y _)) (some e) [st] _ => decide (y = cn) && (decide (e = ("_law_e" : Str)) && ckTold xF third st)
  | _ => false
theorem whyH_is {cn xF : Str} {third : Bool} {h : ExceptHandler} (z : ckWhyH cn xF third h = true) : ∃ q1 q2 st, h = .ExceptHandler (some (.Name cn q1)) (some "_law_e") [st] q2 ∧ ckTold xF third st = true := by
  unfold ckWhyH at z
  split at z
  · obtain ⟨h1, z1⟩ := and2 z
    obtain ⟨h2, z2⟩ := and2 z1
    obtain rfl := dec1 h1
    obtain rfl := dec1 h2
    exact ⟨_, _, _, rfl, z2⟩
  · cases z
/-- the two statements about the try -/
def ckWhy1 : Stmt → Bool
  | .Assign [.Name x _] (.Tuple [.Constant (.str e) _ _, .Constant .none _ _] _ _) _ => decide (x = ("_law_found" : Str)) && decide (e = ("" : Str))
  | _ => false
theorem why1_is {st : Stmt} (z : ckWhy1 st = true) : ∃ p1 k1 p2 k2 p3 k3 p4 p5, st = .Assign [.Name "_law_found" p1] (.Tuple [.Constant (.str "") k1 p2, .Constant .none k2 p3] k3 p4) p5 := by
  unfold ckWhy1 at z
  split at z
  · obtain ⟨h1, h2⟩ := and2 z
    obtain rfl := dec1 h1
    obtain rfl := dec1 h2
    exact ⟨_, _, _, _, _, _, _, _, rfl⟩
  · cases z
def ckWhy2 (c1 c2 c3 xF : Str) : Stmt → Bool
  | .Try [.Expr (.Call (.Name y _) [] [] _) _] [h1, h2, h3] [] [] _ => decide (y = ("_law_ask" : Str)) && (ckWhyH c1 xF false h1 && (ckWhyH c2 xF false h2 && ckWhyH c3 xF true h3))
  | _ => false
theorem why2_is {c1 c2 c3 xF : Str} {st : Stmt} (z : ckWhy2 c1 c2 c3 xF st = true) : ∃ p1 p2 p3 h1 h2 h3 p4, st = .Try [.Expr (.Call (.Name "_law_ask" p1) [] [] p2) p3] [h1, h2, h3] [] [] p4 ∧ ckWhyH c1 xF false h1 = true ∧ ckWhyH c2 xF false h2 = true ∧ ckWhyH c3 xF true h3 = true := by
  unfold ckWhy2 at z
  split at z
  · obtain ⟨h1, z⟩ := and2 z
    obtain ⟨h2, z⟩ := and2 z
    obtain ⟨h3, h4⟩ := and2 z
    obtain rfl := dec1 h1
    exact ⟨_, _, _, _, _, _, _, rfl, h2, h3, h4⟩
  · cases z
def ckWhy3 : Stmt → Bool
  | .Return (some (.Name x _)) _ => decide (x = ("_law_found" : Str))
  | _ => false
theorem why3_is {st : Stmt} (z : ckWhy3 st = true) : ∃ p1 p2, st = .Return (some (.Name "_law_found" p1)) p2 := by
  unfold ckWhy3 at z
  split at z
  · obtain rfl := dec1 z
    exact ⟨_, _, rfl⟩
  · cases z
def ckWhy (c1 c2 c3 xF : Str) : List Stmt → Bool
  | [s1, s2, s3] => ckWhy1 s1 && (ckWhy2 c1 c2 c3 xF s2 && ckWhy3 s3)
  | _ => false
/-- what why(lambda: ..) wishes of what the lambda lets out -/
def EW (K : PySem.W.Frag) (T : CN) (cls : Nat → Addr) (rows : List FRow) (C1 C2 C3 : Addr) (Q : VK) : XK := fun cl d H => ∃ (c : Nat) (C dd : Addr) (fs : List (Str × V)) (w : V) (o : FlV), cl = .ref C ∧ d = some dd ∧ CF K T cls rows C c ∧ H dd = some (.xd fs) ∧
  fs.lookup ("word" : Str) = some w ∧ rowsV c fs rows = some o ∧ (∃ b1, PySem.W.exmOne K (.ref C) (.ref C1) = some b1 ∧ (b1 = false → ∃ b2, PySem.W.exmOne K (.ref C) (.ref C2) = some b2 ∧ (b2 = false → PySem.W.exmOne K (.ref C) (.ref C3) = some true ∧ o = .non))) ∧
  ∀ H3, Grown H H3 → flQ o H3 fun v H4 => ∀ q, H4 q = none → Q (.ref q) (upd H4 q (.tup [w, v]))
def TTwhy (K : PySem.W.Frag) (T : CN) (cls : Nat → Addr) (rows : List FRow) (C1 C2 C3 : Addr) : (XK → Hp → VK → Prop) → Hp → VK → Prop := fun tl H Q =>
  ∀ p, H p = none → tl (EW K T cls rows C1 C2 C3 Q) (upd H p (.tup [.str "", .non])) fun _ H2 => Q (.ref p) H2
theorem takes_len {X : Cx} {W : WX} (tk : Takes X W) : Takes X (fun cl d σ H => σ.length = X.N.length → W cl d σ H) := by
  rintro u s' ⟨a, B, sI, pins, σ, H, cl, d, e, I, nb, up, sky, na, os, ag, w⟩
  exact tk u s' ⟨a, B, sI, pins, σ, H, cl, d, e, I, nb, up, sky, na, os, ag, w I.len⟩
theorem why_gives {X : Cx} {T : CN} {cls : Nat → Addr} {rows : List FRow} {xF x q c1 c2 c3 : Str} {f g C1 C2 C3 : Addr} {fd : FuncData} {sg : Scope} {cdg : Value} {bg : List Stmt} (D : FieldsDef X.K X.mg T cls xF rows f fd)
    (hmg : ∀ c' y, T.lookup c' = some y → X.mg y = some (.ref (cls c'))) (h1 : sg.names.lookup ("_law_found" : Str) = some .local) (h2 : sg.names.lookup ("_law_e" : Str) = some .local) (hF : sg.names.lookup xF = some .globalImplicit) (hFd : (xF == ("__debug__" : Str)) = false)
    (g1 : sg.names.lookup c1 = some .globalImplicit) (g2 : sg.names.lookup c2 = some .globalImplicit) (g3 : sg.names.lookup c3 = some .globalImplicit) (d1 : (c1 == ("__debug__" : Str)) = false) (d2 : (c2 == ("__debug__" : Str)) = false) (d3 : (c3 == ("__debug__" : Str)) = false)
    (m1 : X.mg c1 = some (.ref C1)) (m2 : X.mg c2 = some (.ref C2)) (m3 : X.mg c3 = some (.ref C3)) (room : ∀ env, (X.A.deeper env).depth < recursionLimit) (ck : ckWhy c1 c2 c3 xF bg = true) :
    LamX.GivesTo X whyN x sg g cdg bg "_law_ask" q (TTwhy X.K T cls rows C1 C2 C3) := by
  obtain ⟨s1, s2, s3, rfl, k1, k2, k3⟩ : ∃ s1 s2 s3, bg = [s1, s2, s3] ∧ ckWhy1 s1 = true ∧ ckWhy2 c1 c2 c3 xF s2 = true ∧ ckWhy3 s3 = true := by
    match bg, ck with
    | [s1, s2, s3], z =>
      obtain ⟨z1, z⟩ := and2 (show (ckWhy1 s1 && (ckWhy2 c1 c2 c3 xF s2 && ckWhy3 s3)) = true from z)
      obtain ⟨z2, z3⟩ := and2 z
      exact ⟨s1, s2, s3, rfl, z1, z2, z3⟩
    | [], z => cases z
    | [_], z => cases z
    | [_, _], z => cases z
    | _ :: _ :: _ :: _ :: _, z => cases z
  obtain ⟨a1, a2, a3, a4, a5, a6, a7, a8, rfl⟩ := why1_is k1
  obtain ⟨b1, b2, b3, hd1, hd2, hd3, b4, rfl, t1, t2, t3⟩ := why2_is k2
  obtain ⟨r1, r2, rfl⟩ := why3_is k3
  obtain ⟨u1, u2, st1, rfl, y1⟩ := whyH_is t1
  obtain ⟨u3, u4, st2, rfl, y2⟩ := whyH_is t2
  obtain ⟨u5, u6, st3, rfl, y3⟩ := whyH_is t3
  intro fl c' s H Q tl act hc tt
  let Z : Cx := (cxOf C8.CX0 X.prog X.w X.K X.mg X.base whyN x sg g cdg X.A X.stack s H C8.E0).nox
  have nd : Z.N.Nodup := (by decide +kernel : whyN.Nodup)
  have n1 : Z.N[1]? = some ("_law_found" : Str) := rfl
  have n2 : Z.N[2]? = some ("_law_e" : Str) := rfl
  have suite : ∀ {third : Bool} {st : Stmt}, ckTold xF third st = true → ∀ (a : Addr) (oe : Obj) (cl : Value) (d : Option Addr) (pn : List (Addr × Obj)), Zc cl d oe → (∃ vs, oe.data = .fields vs) → PSs (Z.suite a ((a, oe) :: pn)) [st] (tsWhy X.K T cls rows third a cl d) :=
    fun {third st} ck a oe cl d pn hz hf => ps_told (Y := Z.suite a ((a, oe) :: pn)) rfl h1 h2 hF hFd D hmg (room (envOfC x sg s.heap.objs.size g cdg)) List.mem_cons_self hz hf ck
  have takers : Takers Z "_law_e" [.ExceptHandler (some (.Name c1 u1)) (some "_law_e") [st1] u2, .ExceptHandler (some (.Name c2 u3)) (some "_law_e") [st2] u4, .ExceptHandler (some (.Name c3 u5)) (some "_law_e") [st3] u6]
      [(.ref C1, tsWhy X.K T cls rows false), (.ref C2, tsWhy X.K T cls rows false), (.ref C3, tsWhy X.K T cls rows true)] :=
    .cons ⟨g1, d1, .inl m1⟩ (suite y1) (.cons ⟨g2, d2, .inl m2⟩ (suite y2) (.cons ⟨g3, d3, .inl m3⟩ (suite y3) .nil))
  have tryS := ps_tryAs (X := Z) (n := "_law_e") (i := 2) (pos := b4) (body := [.Expr (.Call (.Name "_law_ask" b1) [] [] b2) b3])
    (tb := fun W D σ H => ∃ Ech : XK, (∀ cl d σ' H', Ech cl d H' → σ'.length = 3 → W cl d σ' H') ∧ σ[0]? = some (some (.ref fl)) ∧ H c' = some (LamX.CodeO c' q) ∧ tl Ech H fun _ H' => D.nx σ H') rfl rfl nd n2 h2 (fun W pn xe tk _ => ?_) takers
  · refine ⟨_, pss_cons (ps_set (X := Z) (i := 1) (pos := a8) (pos' := a1) nd n1 (.inl h1) (pe_tup (x1 := a6) (pos := a7) (pa_cons (pe_str (x := "") (j := a2) (pos := a3)) (pa_cons (pe_non (j := a4) (pos := a5)) pa_nil rfl) rfl)) (by rfl) (.inr h1))
      (pss_cons tryS (pss_one (ps_ret (pos := r2) (pe_var (X := Z) (i := 1) (pos := r1) n1 (.inl h1) (by decide +kernel) (by decide +kernel))))), ?_⟩
    refine ⟨by show 2 ≤ sizeLine; decide, fun p np => ?_⟩
    refine ⟨EW X.K T cls rows C1 C2 C3 Q, ?_, rfl, ?_, ?_⟩
    · rintro cl d σ' H' ⟨c, C, dd, fs, w, o, rfl, rfl, cf, ed, lw, ro, ⟨b1, e1, z1⟩, fin⟩ len
      have give : ∀ (third : Bool), (third = true → o = .non) → ∀ a, H' a = none → tsWhy X.K T cls rows third a (.ref C) (some dd) (asEnds 2 { nx := fun σ H => ∃ v, σ[1]? = some (some v) ∧ Q v H, rt := Q }) (σ'.set 2 (some (.ref a))) H' := by
        intro third ht a na
        refine ⟨c, C, dd, fs, w, o, rfl, rfl, cf, ?_, ed, lw, ro, ht, fun H3 gr => ?_⟩
        · rw [List.getElem?_set_self (by omega)]
        · have key : ∀ (v : V) (H4 : Hp), (∀ q, H4 q = none → Q (.ref q) (upd H4 q (.tup [w, v]))) → ∀ q, H4 q = none → (asEnds 2 { nx := fun σ H => ∃ v, σ[1]? = some (some v) ∧ Q v H, rt := Q }).nx ((σ'.set 2 (some (.ref a))).set 1 (some (.ref q))) (upd H4 q (.tup [w, v])) := by
            intro v H4 k q nq
            refine ⟨.ref q, ?_, k q nq⟩
            rw [List.getElem?_set_ne (by decide), List.getElem?_set_self (by rw [List.length_set]; omega)]
          have z := fin H3 gr
          cases o with
          | non => exact key _ _ z
          | one v => exact key _ _ z
          | tup vs => exact ⟨z.1, fun p np => key _ _ (z.2 p np)⟩
      refine ⟨b1, e1, ?_⟩
      by_cases hb1 : b1 = true
      · rw [if_pos hb1]
        exact give false (fun z => nomatch z)
      · rw [if_neg hb1]
        obtain ⟨b2, e2, z2⟩ := z1 (by simpa using hb1)
        refine ⟨b2, e2, ?_⟩
        by_cases hb2 : b2 = true
        · rw [if_pos hb2]
          exact give false (fun z => nomatch z)
        · rw [if_neg hb2]
          obtain ⟨e3, z3⟩ := z2 (by simpa using hb2)
          refine ⟨true, e3, ?_⟩
          rw [if_pos rfl]
          exact give true fun _ => z3
    · rw [upd_ne (ne_of_none hc np)]
      exact hc
    · have z := tt p np
      have e : (fun (_ : V) (H2 : Hp) => Q (.ref p) H2) = fun (_ : V) (H2 : Hp) => ∃ v, ((L2.start whyN [V.ref fl]).set 1 (some (.ref p)))[1]? = some (some v) ∧ Q v H2 := by
        funext _ H2
        exact propext ⟨fun k => ⟨_, rfl, k⟩, fun ⟨v, e, k⟩ => by cases e; exact k⟩
      rw [e] at z
      exact z
  · constructor
    intro pins s' σ H' En I h
    obtain ⟨Ech, hW, e0, ec, ht⟩ := h
    have call := act _ pn xe Ech b1 b2 (takes_len tk) (fun cl d σ' H2 h2 len => hW cl d σ' H2 h2 len)
    exact (pss_one (ps_expr (pos := b3) call)).run pins s' σ H' En I ⟨e0, ec, ht⟩
end Fm

/-! The engine, part R: instances of the module's classes: made, asked, their fields; what surrounds a text. -/
namespace Fm
open PySem L2 PySem.Spec PyProof.Rows

/-! ### a last parameter that may be left out, or is told by its name -/
def Cst.v : Cst → V
  | .non => .non
  | .int i => .int i
def LastD (K : PySem.W.Frag) (fd : FuncData) (ps : List Str) (c : Cst) : Prop := ∃ u, RelV c.v u ∧ Binds K fd ps [u]
def LastK (K : PySem.W.Frag) (fd : FuncData) (ps : List Str) (x : Str) : Prop := ∀ (s : Shared) (us : List Value) (w : Value), K.In s.heap → us.length + 1 = ps.length → BindsTo s fd ⟨us, [x].zip [w]⟩ (ps.zip (us ++ [w]))
def BdOk (K : PySem.W.Frag) (fd : FuncData) (ps : List Str) : Op → Prop
  | .no => Binds K fd ps []
  | .kw x c => LastD K fd ps c ∧ LastK K fd ps x
  | .ps c => Binds K fd ps [] ∧ LastD K fd ps c
theorem BdOk.full {K : PySem.W.Frag} {fd : FuncData} {ps : List Str} {op : Op} (h : BdOk K fd ps op) (e : op.full = true) : Binds K fd ps [] := by
  cases op with
  | no => exact h
  | kw x c => cases e
  | ps c => exact h.1
theorem BdOk.named {K : PySem.W.Frag} {fd : FuncData} {ps : List Str} {op : Op} {y : Str} (h : BdOk K fd ps op) (e : op.named y = true) : LastK K fd ps y := by
  cases op with
  | no => cases e
  | kw x c => obtain rfl := dec1 e; exact h.2
  | ps c => cases e
/-- the constant, as data -/
def Cst.d : Cst → Dt
  | .non => .non
  | .int i => .int i
theorem left_c {K : PySem.W.Frag} {op : Op} {e : E} (l : op.left e = true) :
    ∃ c : Cst, (∀ {fd : FuncData} {ps : List Str}, BdOk K fd ps op → LastD K fd ps c) ∧ ((c = .non ∧ e = .non) ∨ ∃ i, c = .int i ∧ e = .int i) := by
  cases op with
  | no => cases l
  | kw x c =>
    cases c with
    | non => cases e <;> first | exact ⟨_, fun h => h.1, .inl ⟨rfl, rfl⟩⟩ | cases l
    | int i =>
      cases e with
      | int j => obtain rfl := dec1 (show decide (i = j) = true from l); exact ⟨_, fun h => h.1, .inr ⟨_, rfl, rfl⟩⟩
      | _ => cases l
  | ps c =>
    cases c with
    | non => cases e <;> first | exact ⟨_, fun h => h.2, .inl ⟨rfl, rfl⟩⟩ | cases l
    | int i =>
      cases e with
      | int j => obtain rfl := dec1 (show decide (i = j) = true from l); exact ⟨_, fun h => h.2, .inr ⟨_, rfl, rfl⟩⟩
      | _ => cases l
theorem BdOk.left {K : PySem.W.Frag} {fd : FuncData} {ps : List Str} {op : Op} {e : E} (h : BdOk K fd ps op) (l : op.left e = true) :
    ∃ c : Cst, LastD K fd ps c ∧ ((c = .non ∧ e = .non) ∨ ∃ i, c = .int i ∧ e = .int i) := by
  obtain ⟨c, a, b⟩ := left_c (K := K) l
  exact ⟨c, a h, b⟩
theorem left_wp {G : Gt} {ρ : Rho} {M : Mm} {q : QD} {x : QX} {c : Cst} {e : E} (h : (c = .non ∧ e = .non) ∨ ∃ i, c = .int i ∧ e = .int i) (w : wpE G e ρ M q x) : q c.d M := by
  rcases h with ⟨rfl, rfl⟩ | ⟨i, rfl, rfl⟩
  · exact w
  · exact w
theorem Cst.rel {K : PySem.W.Frag} {S : Addr → Prop} {M : Mm} {H : Hp} : ∀ c : Cst, RelD K S M H c.d c.v
  | .non => .non
  | .int i => .int i
theorem vals_one : ∀ {zs : List V} {ws : List Value}, Vals zs ws → zs.length = 1 → ∃ v w, zs = [v] ∧ ws = [w] ∧ RelV v w
  | [_], [_], .cons r .nil, _ => ⟨_, _, rfl, rfl, r⟩
section
variable {X : Cx} {pins : List (Addr × Obj)} {σ : L2.St} {H : Hp} {s : Shared} {CT : CXT} {k : Nat} {f C : Addr} {fd : FuncData} {ps : List Str} {sp : Sp} {E : L2.St → XK} {x m y : Str} {es : List Expr} {ta tl : TA} {to : TE} {p ap pos kpos : Pos} {o r : Expr}
/-- a new instance, from where the slots are σ: zs are the values of all parameters behind the first -/
theorem made_gen {Q : VK} {us zs : List Value} {kw : List (Str × Value)} {vs : List V} (M : Mk X.K C f) (F : FnOk X.prog X.w X.K X.mg X.base CT k f fd ps sp) (hr : Room (k + 1) X.A) (hb : ∀ (s : Shared) (a : Value), X.K.In s.heap → (a :: zs).length = ps.length → BindsTo s fd ⟨a :: us, kw⟩ (ps.zip (a :: zs))) (hx : PassesAt CT X σ (E σ)) (I : Inv X pins σ H s) (r : Vals vs zs)
    (q : ∀ a dx, H a = none → H dx = none → dx ≠ a → sp (.ref a :: vs) (upd (upd H dx (.own a)) a (.ins C dx [])) (fun v H2 => v = .non ∧ Q (.ref a) H2) (E σ)) : wpAny (model X.prog X.w) X.A (call (.ref C) us kw) (EP X pins σ Q) X.xe s := by
  have a1 : H s.heap.objs.size = none := I.hok.fresh (Nat.le_refl _)
  have a2 : H (s.heap.objs.size + 1) = none := I.hok.fresh (Nat.le_succ _)
  have want := q _ _ a2 a1 (Nat.ne_of_lt (Nat.lt_succ_self _))
  have J := Inv.made (C := C) I
  have r1 : Vals (V.ref (s.heap.objs.size + 1) :: vs) (Value.ref (s.heap.objs.size + 1) :: zs) := .cons rfl r
  have len : (Value.ref (s.heap.objs.size + 1) :: zs).length = ps.length := r1.length.symm.trans (F.len _ _ _ _ want)
  have bd := hb _ (Value.ref (s.heap.objs.size + 1)) J.kIn len
  have run := F.run _ X.stack _ _ ⟨_, kw⟩ _ _ _ (E σ) (hr.make C us kw) (J.env0.make C us kw) bd r1 want
  refine wpAny_call (make_map (f := f) I.kIn M.makes M.init (beq_iff_eq.mp M.fn) (codeAny_mono run ?_))
  intro res s2 z
  match res, z with
  | .error e, z => exact hx pins _ _ e s2 J z
  | .ok .next, z => exact z.elim
  | .ok .brk, z => exact z.elim
  | .ok .cont, z => exact z.elim
  | .ok (.ret u), z =>
    obtain ⟨v, H2, J2, rv, ev, q2⟩ := J.after z
    subst ev
    exact ⟨rv, .ref (s.heap.objs.size + 1), H2, J2, rfl, q2⟩
theorem made_at {Q : VK} {us : List Value} {vs : List V} (M : Mk X.K C f) (F : FnOk X.prog X.w X.K X.mg X.base CT k f fd ps sp) (hr : Room (k + 1) X.A) (hb : Binds X.K fd ps []) (hx : PassesAt CT X σ (E σ)) (I : Inv X pins σ H s) (r : Vals vs us)
    (q : ∀ a dx, H a = none → H dx = none → dx ≠ a → sp (.ref a :: vs) (upd (upd H dx (.own a)) a (.ins C dx [])) (fun v H2 => v = .non ∧ Q (.ref a) H2) (E σ)) : wpAny (model X.prog X.w) X.A (call (.ref C) us) (EP X pins σ Q) X.xe s :=
  made_gen M F hr (fun s a ik l => by
    have := hb s (a :: us) ik (by rw [List.append_nil]; exact l)
    rw [List.append_nil] at this
    exact this) hx I r q
/-- C(e, ..) -/
def tMade (C : Addr) (sp : Sp) (E : L2.St → XK) (ta : TA) : TE := fun σ H Q => ta σ H fun vs H1 => ∀ a dx, H1 a = none → H1 dx = none → dx ≠ a → sp (.ref a :: vs) (upd (upd H1 dx (.own a)) a (.ins C dx [])) (fun v H2 => v = .non ∧ Q (.ref a) H2) (E σ)
theorem pe_made {e : Expr} (M : Mk X.K C f) (F : FnOk X.prog X.w X.K X.mg X.base CT k f fd ps sp) (hr : Room (k + 1) X.A) (hb : Binds X.K fd ps []) (hx : ∀ σ, PassesAt CT X σ (E σ)) (hg : Gl X x) (hm : X.mg x = some (.ref C)) (hdb : (x == ("__debug__" : Str)) = false)
    (ha : PA X (e :: es) ta) (hs : noStars (e :: es) = true) : PE X (.Call (.Name x p) (e :: es) [] pos) (tMade C sp E ta) := by
  obtain ⟨n1, n2⟩ := and2 (show (notStar e && noStars es) = true from hs)
  constructor
  intro pins s σ H Q I h
  refine wpAny_Call_Name_kw (ld_glob I hg hm ?_ hdb)
  refine PySem.W.callWith_K (h₀ := X.base) I.ok.mod.kin M.kp ?_ (star_cons n1 es _) (stars_any n2 _ _)
  refine thn (ha.run pos pins s σ H _ I h) ?_
  rintro us s1 ⟨vs, H1, I1, r, q⟩
  exact ⟨I1.kIn, made_at M F hr hb (hx σ) I1 r q⟩
theorem pe_made0 (M : Mk X.K C f) (F : FnOk X.prog X.w X.K X.mg X.base CT k f fd ps sp) (hr : Room (k + 1) X.A) (hb : Binds X.K fd ps []) (hx : ∀ σ, PassesAt CT X σ (E σ)) (hg : Gl X x) (hm : X.mg x = some (.ref C)) (hdb : (x == ("__debug__" : Str)) = false) :
    PE X (.Call (.Name x p) [] [] pos) (tMade C sp E tNil) := by
  constructor
  intro pins s σ H Q I h
  refine wpAny_Call_Name_kw (ld_glob I hg hm ?_ hdb)
  exact PySem.W.callWith_K0 I.kIn M.kp (made_at M F hr hb (hx σ) I .nil h)
/-- C(e, ..) and the last left out: it is v -/
theorem pe_madeL {e : Expr} {c : Cst} (M : Mk X.K C f) (F : FnOk X.prog X.w X.K X.mg X.base CT k f fd ps sp) (hr : Room (k + 1) X.A) (hb : LastD X.K fd ps c) (hx : ∀ σ, PassesAt CT X σ (E σ)) (hg : Gl X x) (hm : X.mg x = some (.ref C)) (hdb : (x == ("__debug__" : Str)) = false)
    (ha : PA X (e :: es) ta) (hs : noStars (e :: es) = true) : PE X (.Call (.Name x p) (e :: es) [] pos) (tMade C sp E fun σ H Q => ta σ H fun vs H1 => Q (vs ++ [c.v]) H1) := by
  obtain ⟨n1, n2⟩ := and2 (show (notStar e && noStars es) = true from hs)
  obtain ⟨u, ru, bu⟩ := hb
  constructor
  intro pins s σ H Q I h
  refine wpAny_Call_Name_kw (ld_glob I hg hm ?_ hdb)
  refine PySem.W.callWith_K (h₀ := X.base) I.ok.mod.kin M.kp ?_ (star_cons n1 es _) (stars_any n2 _ _)
  refine thn (ha.run pos pins s σ H _ I h) ?_
  rintro us s1 ⟨vs, H1, I1, r, q⟩
  exact ⟨I1.kIn, made_gen (zs := us ++ [u]) M F hr (fun s a ik l => bu s (a :: us) ik l) (hx σ) I1 (r.append (.cons ru .nil)) q⟩
theorem pe_madeL0 {c : Cst} (M : Mk X.K C f) (F : FnOk X.prog X.w X.K X.mg X.base CT k f fd ps sp) (hr : Room (k + 1) X.A) (hb : LastD X.K fd ps c) (hx : ∀ σ, PassesAt CT X σ (E σ)) (hg : Gl X x) (hm : X.mg x = some (.ref C)) (hdb : (x == ("__debug__" : Str)) = false) :
    PE X (.Call (.Name x p) [] [] pos) (tMade C sp E fun σ H Q => Q [c.v] H) := by
  obtain ⟨u, ru, bu⟩ := hb
  constructor
  intro pins s σ H Q I h
  refine wpAny_Call_Name_kw (ld_glob I hg hm ?_ hdb)
  exact PySem.W.callWith_K0 I.kIn M.kp (made_gen (zs := [u]) M F hr (fun s a ik l => bu s [a] ik l) (hx σ) I (.cons ru .nil) h)
/-- C(e, .., y = r) -/
theorem pe_madeK {e : Expr} (M : Mk X.K C f) (F : FnOk X.prog X.w X.K X.mg X.base CT k f fd ps sp) (hr : Room (k + 1) X.A) (hb : LastK X.K fd ps y) (hx : ∀ σ, PassesAt CT X σ (E σ)) (hg : Gl X x) (hm : X.mg x = some (.ref C)) (hdb : (x == ("__debug__" : Str)) = false)
    (ha : PA X (e :: es) ta) (hl : PE X r to) (hs : noStars (e :: es) = true) : PE X (.Call (.Name x p) (e :: es) [⟨some y, r, kpos⟩] pos) (tMade C sp E fun σ H Q => ta σ H fun vs H1 => to σ H1 fun v H2 => [v].length = 1 ∧ Q (vs ++ [v]) H2) := by
  obtain ⟨n1, n2⟩ := and2 (show (notStar e && noStars es) = true from hs)
  constructor
  intro pins s σ H Q I h
  refine wpAny_Call_Name_kw (ld_glob I hg hm ?_ hdb)
  refine PySem.W.callWith_KW (h₀ := X.base) I.ok.mod.kin M.kp rfl (thn (ha.run pos pins s σ H _ I h) fun us s1 ⟨vs, H1, I1, rs, q⟩ => ?_) (by rw [stars_any hs]; rfl) (star_cons n1 es _)
  refine thn ((pk_cons (nm := some y) (kpos := kpos) hl pk_nil).run pos pins s1 σ H1 (fun zs H2 => zs.length = 1 ∧ ∀ a dx, H2 a = none → H2 dx = none → dx ≠ a → sp (.ref a :: (vs ++ zs)) (upd (upd H2 dx (.own a)) a (.ins C dx [])) (fun v H3 => v = .non ∧ Q (.ref a) H3) (E σ)) I1 q) fun ws s2 ⟨zs, H2, I2, rz, ez, q2⟩ => ⟨I2.kIn, ?_⟩
  rw [show (backToKw pos (keywordEach [⟨some y, r, kpos⟩] X.env)).filterMap (·.1) = [y] from rfl]
  obtain ⟨v, w, rfl, rfl, rv⟩ := vals_one rz ez
  exact made_gen (us := us) (zs := us ++ [w]) (vs := vs ++ [v]) (kw := [y].zip [w]) M F hr (fun s a ik l => hb s (a :: us) _ ik (by rw [← l]; simp)) (hx σ) I2 (rs.append (.cons rv .nil)) q2
/-- o.m(e, ..), whatever the class of o: what is known of it is part of what is asked -/
def tAsk (P : Program) (w : World) (K : PySem.W.Frag) (mg : Str → Option Value) (base : Heap) (op : Op) (k : Nat) (m : Str) (E : L2.St → XK) (to : TE) (ta : TA) : TE := fun σ H Q => to σ H fun x H1 => ∃ (a C dx f : Addr) (fs : List (Str × V)) (fd : FuncData) (ps : List Str) (sp : Sp), x = .ref a ∧ H1 a = some (.ins C dx fs) ∧ fs.lookup m = none ∧
  L2.Cls K C ∧ Meth K C m f ∧ FnOk P w K mg base (L2.CX P w) k f fd ps sp ∧ BdOk K fd ps op ∧ ta σ H1 fun vs H2 => sp (.ref a :: vs) H2 Q (E σ)
theorem run_fnG {Q : VK} {us zs : List Value} {kw : List (Str × Value)} {vs : List V} (F : FnOk X.prog X.w X.K X.mg X.base CT k f fd ps sp) (hr : Room k X.A) (hb : ∀ s : Shared, X.K.In s.heap → zs.length = ps.length → BindsTo s fd ⟨us, kw⟩ (ps.zip zs)) (hx : PassesAt CT X σ (E σ))
    (I : Inv X pins σ H s) (r : Vals vs zs) (h : sp vs H Q (E σ)) : wpAny (model X.prog X.w) X.A (call (.ref f) us kw) (EP X pins σ Q) X.xe s := by
  have hl : zs.length = ps.length := r.length.symm.trans (F.len _ _ _ _ h)
  refine wpAny_call (codeAny_mono (F.run X.A X.stack s H ⟨us, kw⟩ zs vs Q (E σ) hr I.env0 (hb s I.kIn hl) r h) ?_)
  intro res s2 z
  match res, z with
  | .error e, z => exact hx pins H s e s2 I z
  | .ok .next, z => exact z.elim
  | .ok .brk, z => exact z.elim
  | .ok .cont, z => exact z.elim
  | .ok (.ret u), z => exact I.after z
theorem pe_ask {e : Expr} {op : Op} (ho : PE X o to) (hr : Room k X.A) (hx : ∀ σ, PassesAt (L2.CX X.prog X.w) X σ (E σ)) (ha : PA X (e :: es) ta) (hs : noStars (e :: es) = true) (hb : attributeBase o m X.env (eval o X.env) = eval o X.env) (hl : (e :: es).length < 29) (hln : (ap.endLine == pos.line) = true) (hop : op.full = true) :
    PE X (.Call (.Attribute o m ap) (e :: es) [] pos) (tAsk X.prog X.w X.K X.mg X.base op k m E to ta) := by
  obtain ⟨n1, n2⟩ := and2 (show (notStar e && noStars es) = true from hs)
  constructor
  intro pins s σ H Q I h
  refine PySem.W.methodCall_KW (pl := plainOf o X.env) (thn (ho.run pins s σ H _ I h) ?_) (mcall_of hb fun ov => mcall_line (call_form hs hl pos X.env) hln)
  rintro u s1 ⟨x, H1, I1, rx, a, C, dx, f, fs, fd, ps, sp, ex, ea, l, c, me, F, bd, q⟩
  subst ex
  cases (show u = Value.ref a from rx)
  refine getmeth_ok I1 ea c me l ?_
  refine PySem.W.callWith_K (first := [.ref a]) (h₀ := X.base) I.ok.mod.kin me.kp ?_ (star_cons n1 es _) (stars_any n2 _ _)
  refine thn (ha.run pos pins s1 σ H1 _ I1 q) ?_
  rintro us s2 ⟨vs, H2, I2, r, q2⟩
  exact ⟨I2.kIn, run_fnS (us := .ref a :: us) (vs := .ref a :: vs) F hr (bd.full hop) (hx σ) I2 (.cons rfl r) q2⟩
theorem pe_ask0 {op : Op} (ho : PE X o to) (hr : Room k X.A) (hx : ∀ σ, PassesAt (L2.CX X.prog X.w) X σ (E σ)) (hb : attributeBase o m X.env (eval o X.env) = eval o X.env) (hln : (ap.endLine == pos.line) = true) (hop : op.full = true) :
    PE X (.Call (.Attribute o m ap) [] [] pos) (tAsk X.prog X.w X.K X.mg X.base op k m E to tNil) := by
  constructor
  intro pins s σ H Q I h
  refine PySem.W.methodCall_KW (pl := plainOf o X.env) (thn (ho.run pins s σ H _ I h) ?_) (mcall_of hb fun ov => mcall_line (call_form (es := []) rfl (by decide) pos X.env) hln)
  rintro u s1 ⟨x, H1, I1, rx, a, C, dx, f, fs, fd, ps, sp, ex, ea, l, c, me, F, bd, q⟩
  subst ex
  cases (show u = Value.ref a from rx)
  refine getmeth_ok I1 ea c me l ?_
  refine PySem.W.callWith_K0 (first := [.ref a]) I1.kIn me.kp ?_
  exact run_fnS (us := [.ref a]) (vs := [.ref a]) F hr (bd.full hop) (hx σ) I1 (.cons rfl .nil) q
/-- o.m(e, ..) and the last left out -/
theorem pe_askL {e : Expr} {op : Op} {v : V} (ho : PE X o to) (hr : Room k X.A) (hx : ∀ σ, PassesAt (L2.CX X.prog X.w) X σ (E σ)) (ha : PA X (e :: es) ta) (hs : noStars (e :: es) = true) (hb : attributeBase o m X.env (eval o X.env) = eval o X.env) (hl : (e :: es).length < 29) (hln : (ap.endLine == pos.line) = true)
    (hop : ∀ fd ps, BdOk X.K fd ps op → ∃ c : Cst, LastD X.K fd ps c ∧ c.v = v) :
    PE X (.Call (.Attribute o m ap) (e :: es) [] pos) (tAsk X.prog X.w X.K X.mg X.base op k m E to fun σ H Q => ta σ H fun vs H1 => Q (vs ++ [v]) H1) := by
  obtain ⟨n1, n2⟩ := and2 (show (notStar e && noStars es) = true from hs)
  constructor
  intro pins s σ H Q I h
  refine PySem.W.methodCall_KW (pl := plainOf o X.env) (thn (ho.run pins s σ H _ I h) ?_) (mcall_of hb fun ov => mcall_line (call_form hs hl pos X.env) hln)
  rintro u s1 ⟨x, H1, I1, rx, a, C, dx, f, fs, fd, ps, sp, ex, ea, l, c, me, F, bd, q⟩
  subst ex
  cases (show u = Value.ref a from rx)
  obtain ⟨c, ⟨uu, ru, bu⟩, ec⟩ := hop _ _ bd
  subst ec
  refine getmeth_ok I1 ea ‹_› me l ?_
  refine PySem.W.callWith_K (first := [.ref a]) (h₀ := X.base) I.ok.mod.kin me.kp ?_ (star_cons n1 es _) (stars_any n2 _ _)
  refine thn (ha.run pos pins s1 σ H1 _ I1 q) ?_
  rintro us s2 ⟨vs, H2, I2, r, q2⟩
  exact ⟨I2.kIn, run_fnG (us := .ref a :: us) (zs := .ref a :: (us ++ [uu])) (vs := .ref a :: (vs ++ [c.v])) F hr (fun s ik l => bu s (.ref a :: us) ik l) (hx σ) I2 (.cons rfl (r.append (.cons ru .nil))) q2⟩
theorem call_formK {e : Expr} {kpos : Pos} (hs : noStars es = true) (hl : es.length < 28) (pos : Pos) (env : Env) :
    methodCallForm (es.length + [(⟨some y, e, kpos⟩ : Keyword)].length) (backTo pos (starEach es env)) (backToKw pos (keywordEach [⟨some y, e, kpos⟩] env)) = true := by
  have h1 := stars_all hs pos env
  have h2 : decide (es.length + 1 + 1 < 30) = true := decide_eq_true (by omega)
  unfold methodCallForm
  rw [h1]
  exact h2
/-- o.m(e, .., y = r) -/
theorem pe_askK {e : Expr} {op : Op} {tr : TE} (ho : PE X o to) (hr : Room k X.A) (hx : ∀ σ, PassesAt (L2.CX X.prog X.w) X σ (E σ)) (ha : PA X (e :: es) ta) (hk : PE X r tr) (hs : noStars (e :: es) = true) (hb : attributeBase o m X.env (eval o X.env) = eval o X.env) (hl : (e :: es).length < 28) (hln : (ap.endLine == pos.line) = true)
    (hop : op.named y = true) :
    PE X (.Call (.Attribute o m ap) (e :: es) [⟨some y, r, kpos⟩] pos) (tAsk X.prog X.w X.K X.mg X.base op k m E to fun σ H Q => ta σ H fun vs H1 => tr σ H1 fun v H2 => [v].length = 1 ∧ Q (vs ++ [v]) H2) := by
  obtain ⟨n1, n2⟩ := and2 (show (notStar e && noStars es) = true from hs)
  constructor
  intro pins s σ H Q I h
  refine PySem.W.methodCall_KW (pl := plainOf o X.env) (thn (ho.run pins s σ H _ I h) ?_) (mcall_of hb fun ov => mcall_line (call_formK hs hl pos X.env) hln)
  rintro u s1 ⟨x, H1, I1, rx, a, C, dx, f, fs, fd, ps, sp, ex, ea, l, c, me, F, bd, q⟩
  subst ex
  cases (show u = Value.ref a from rx)
  have lk := bd.named hop
  refine getmeth_ok I1 ea c me l ?_
  refine PySem.W.callWith_KW (first := [.ref a]) (h₀ := X.base) I.ok.mod.kin me.kp rfl (thn (ha.run pos pins s1 σ H1 _ I1 q) fun us s2 ⟨vs, H2, I2, rs, q2⟩ => ?_) (by rw [stars_any hs]; rfl) (star_cons n1 es _)
  refine thn ((pk_cons (nm := some y) (kpos := kpos) hk pk_nil).run pos pins s2 σ H2 (fun zs H3 => zs.length = 1 ∧ sp (.ref a :: (vs ++ zs)) H3 Q (E σ)) I2 q2) fun ws s3 ⟨zs, H3, I3, rz, ez, q3⟩ => ⟨I3.kIn, ?_⟩
  rw [show (backToKw pos (keywordEach [⟨some y, r, kpos⟩] X.env)).filterMap (·.1) = [y] from rfl]
  obtain ⟨v, w, rfl, rfl, rv⟩ := vals_one rz ez
  exact run_fnG (us := .ref a :: us) (zs := .ref a :: (us ++ [w])) (kw := [y].zip [w]) (vs := .ref a :: (vs ++ [v])) F hr (fun s ik l => lk s (.ref a :: us) _ ik (by rw [← l]; simp)) (hx σ) I3 (.cons rfl (rs.append (.cons rv .nil))) q3
end

/-! ### the surroundings of a text -/
/-- how deep a def goes under which k calls may be nested -/
abbrev lv (k : Nat) : Nat := 4 * k + 8
section
variable (P : Program) (w : World) (K : PySem.W.Frag) (mg : Str → Option Value) (base : Heap) (cls : Cl)
def FnIn (k : Nat) (x : Str) (n : Nat) (F : Wf) : Prop := ∃ f fd ps, ps.length = n ∧ mg x = some (.ref f) ∧ PySem.W.keepIn K (.ref f) = true ∧ Binds K fd ps [] ∧ FnOk P w K mg base (L2.CX P w) (lv k) f fd ps (spW K cls n F)
/-- an __init__ of an exception's class leaves the fields that ex tells -/
def Leaves (C : Addr) (sp : Sp) (n : Nat) (ex : List Dt → Option (List (Str × Dt))) : Prop :=
  ∀ (S : Addr → Prop) (M : Mm) (H : Hp) (ds : List Dt) (vs : List V) (fs : List (Str × Dt)) (Q : XK) (a : Addr), RelDs K S M H ds vs → vs.length = n → ex ds = some fs → H a = none →
    (∀ d gs, H d = none → Paired (fun (p : Str × Dt) (q : Str × V) => p.1 = q.1 ∧ RelD K S M H p.2 q.2) fs gs → Q (.ref C) (some d) (upd H d (.xd gs))) →
    sp (.ref a :: vs) (upd H a (exo a C none)) (fun v H2 => v = .non ∧ ∃ (d : Addr) (gs : List (Str × V)), H2 a = some (exo a C (some d)) ∧ H2 d = some (exd d gs) ∧ H d = none ∧ Q (.ref C) (some d) (upd (del H2 a) d (.xd gs))) (fun _ _ _ => False)
/-- an exception class may be raised -/
def ExIn (x : Str) (n c : Nat) (ex : List Dt → Option (List (Str × Dt))) : Prop := mg x = some (.ref (cls c)) ∧ ∃ b fI fd ps sp, OxC K (cls c) b ∧ PySem.W.findIn K (.ref (cls c)) "__init__" = some (some (.ref fI)) ∧ PySem.W.typeIn K (.ref fI) = some (.type "function") ∧
  FnOk P w K mg base (L2.CX P w) 2 fI fd ps sp ∧ Binds K fd ps [] ∧ Leaves K (cls c) sp n ex
/-- what a row gives, as data -/
def lookAllD (fs : List (Str × Dt)) : List Str → Option (List Dt)
  | [] => some []
  | f :: r => (fs.lookup f).bind fun v => (lookAllD fs r).map fun vs => v :: vs
def rowD (fs : List (Str × Dt)) (r : FRow) : Option Dt := match r.tup, r.fs with
  | true, gs => (lookAllD fs gs).bind fun ds => if ds.length ≤ 100 then some (Dt.tup ds) else none
  | false, [f] => fs.lookup f
  | _, _ => none
def rowsD (c : Nat) (fs : List (Str × Dt)) : List FRow → Option Dt
  | [] => some .non
  | r :: rs => if c ∈ r.cs then rowD fs r else rowsD c fs rs
/-- why(lambda: ..) may be asked -/
structure WhyIn (told : Nat → List (Str × Dt) → Option Dt) (T : CN) (rows : List FRow) (f g C1 C2 C3 : Addr) (fd : FuncData) : Prop where
  flds : FieldsDef K mg T cls "_law_fields" rows f fd
  nms : ∀ c' y, T.lookup c' = some y → mg y = some (.ref (cls c'))
  at_ : mg "_law_why" = some (.ref g)
  kp : PySem.W.keepIn K (.ref g) = true
  def_ : ∃ (pg : Arguments) (bg : List Stmt) (sg : Scope) (fw : FuncData), FunD K "_law_why" "_law_why" pg bg sg [] [] g fw ∧ FnScope whyN ["_law_ask"] sg ∧ Binds K fw ["_law_ask"] [] ∧ ckWhy "FarError" "Missing" "NothingLeft" "_law_fields" bg = true ∧
    glB sg.names "_law_fields" = true ∧ glB sg.names "FarError" = true ∧ glB sg.names "Missing" = true ∧ glB sg.names "NothingLeft" = true ∧ sg.names.lookup ("_law_found" : Str) = some .local ∧ sg.names.lookup ("_law_e" : Str) = some .local
  m1 : mg "FarError" = some (.ref C1)
  m2 : mg "Missing" = some (.ref C2)
  m3 : mg "NothingLeft" = some (.ref C3)
  told : ∀ c fs d, told c fs = some d → rowsD c fs rows = some d ∧ CF K T cls rows (cls c) c ∧ ∃ b1, PySem.W.exmOne K (.ref (cls c)) (.ref C1) = some b1 ∧ (b1 = false → ∃ b2, PySem.W.exmOne K (.ref (cls c)) (.ref C2) = some b2 ∧ (b2 = false → PySem.W.exmOne K (.ref (cls c)) (.ref C3) = some true ∧ ∀ r ∈ rows, c ∉ r.cs))
structure EnvOk (k : Nat) (Tb : Tab) (G : Gt) : Prop where
  fn : ∀ (g : Nat) x n, Tb.fns.lookup g = some (x, n) → okN x = true → FnIn P w K mg base cls k x n (G.call g)
  gl : ∀ (g : Nat) x, Tb.gls.lookup g = some x → ∃ v u, mg x = some u ∧ RelV v u ∧ ∀ (S : Addr → Prop) M H, RelD K S M H (G.gval g) v
  bi : ∀ x, x ∈ Tb.bis → mg x = none
  ex : ∀ c x n, Tb.exs.lookup c = some (x, n) → ExIn P w K mg base cls x n c (G.exc c)
  sub : ∀ c c' b, G.sub c c' = some b → PySem.W.exmOne K (.ref (cls c)) (.ref (cls c')) = some b
  cl : ∀ c, cls.ok c → L2.Cls K (cls c) ∧ ∀ f ∈ Tb.flds, NoAttr K (cls c) f
  new : ∀ c x n, Tb.cls.lookup c = some (x, n) → cls.ok c ∧ mg x = some (.ref (cls c)) ∧ ∃ f fd ps, Mk K (cls c) f ∧ ps.length = n + 1 ∧ BdOk K fd ps (Tb.cop c) ∧ FnOk P w K mg base (L2.CX P w) (lv k) f fd ps (spW K cls (n + 1) (G.init c))
  mt : ∀ c m F, cls.ok c → G.meth c m = some F → ∃ f fd ps, Meth K (cls c) m f ∧ (∀ ds M q x, F.run ds M q x → ds.length = ps.length) ∧ BdOk K fd ps (Tb.mop m) ∧ FnOk P w K mg base (L2.CX P w) (lv k) f fd ps (spW K cls ps.length F)
  why : Tb.why = true → ∃ T rows f g C1 C2 C3 fd, WhyIn K mg cls G.told T rows f g C1 C2 C3 fd
end
/-- the def's code object, its table -/
def LamOk (X : Cx) (cls : Cl) : Prop := ∃ c P, LamX.TabB X.base X.mg c P ∧ X.env.code = .ref c ∧ (P, X.env.qual ++ "<lambda>") ∈ cls.T ∧ ∀ p ∈ cls.T, p.1 = P → p.2 = X.env.qual ++ "<lambda>"
structure Good (X : Cx) (cls : Cl) (k : Nat) (Tb : Tab) (G : Gt) (N : List Str) (nm : List (Str × NameKind)) (top : Bool) (W : WX) : Prop where
  env : EnvOk X.prog X.w X.K X.mg X.base cls k Tb G
  hN : X.N = N
  nd : N.Nodup
  nm : X.env.scope.names = nm
  kind : X.env.scope.kind = .function
  calm : X.calm = true
  room : Room (lv k + 1) X.A
  fn : top = true → ∀ x, X.fn x = true
  pas : PassesOwn (model X.prog X.w) X.A X.env X.xe
  tk : Takes X W
  lam : top = true → Room (lv k + 3) X.A ∧ (Tb.why = true → LamOk X cls)
  own : top = true → X.stack = X.env :: X.outer ∧ X.env.frame = some X.env.locals
end Fm

/-! The engine, part I: what is wanted of a text is enough (expressions). -/
namespace Fm
open PySem L2 PySem.Spec PyProof.Rows

theorem wipe_set {i : Nat} {z : Option V} : ∀ (vs : List Nat) (σ : L2.St), L2.wipe (σ.set i z) vs = if i ∈ vs then L2.wipe σ vs else (L2.wipe σ vs).set i z
  | [], σ => by rw [if_neg (by simp)]; rfl
  | v :: vs, σ => by
    show (L2.wipe (σ.set i z) vs).set v none = if i ∈ v :: vs then (L2.wipe σ vs).set v none else ((L2.wipe σ vs).set v none).set i z
    rw [wipe_set vs σ]
    by_cases h : i ∈ vs
    · rw [if_pos h, if_pos (List.mem_cons_of_mem _ h)]
    · rw [if_neg h]
      by_cases e : i = v
      · subst e
        rw [if_pos List.mem_cons_self, List.set_set]
      · rw [if_neg (by simp [e, h]), List.set_comm _ _ e]
theorem wipe_own {i : Nat} {z : Option V} {vs : List Nat} (h : i ∈ vs) (σ : L2.St) : L2.wipe (σ.set i z) vs = L2.wipe σ vs := by rw [wipe_set, if_pos h]
theorem wipe_wipe (σ : L2.St) : ∀ (vs ws : List Nat), (∀ v, v ∈ vs → v ∈ ws) → L2.wipe (L2.wipe σ vs) ws = L2.wipe σ ws
  | [], ws, _ => rfl
  | v :: vs, ws, h => by
    show L2.wipe ((L2.wipe σ vs).set v none) ws = _
    rw [wipe_own (h v List.mem_cons_self), wipe_wipe σ vs ws fun u m => h u (List.mem_cons_of_mem _ m)]

/-- targets of a comprehension: its own names -/
def RWo (K : PySem.W.Frag) (S : Addr → Prop) (cls : Cl) (own : List Nat) (σ : L2.St) (Q : L2.St → Hp → Prop) (M : Mm) (H : Hp) : QR := fun ρ' M' => ∀ σ' H', RelR K S M' H' ρ' σ' → Hold K S cls M' H' → Keeps K M H M' H' → L2.wipe σ' own = L2.wipe σ own → Q σ' H'
def tGo (K : PySem.W.Frag) (cls : Cl) (G : Gt) (own : List Nat) (t : Tg) : TG := fun v σ H Q => ∃ S d ρ M, RelD K S M H d v ∧ RelR K S M H ρ σ ∧ Hold K S cls M H ∧ wpG G t d ρ M (RWo K S cls own σ Q M H) (fun _ _ => False)
def tGso (K : PySem.W.Frag) (cls : Cl) (G : Gt) (own : List Nat) (t : Tgs) : TGs := fun vs σ H Q => ∃ S ds ρ M, RelDs K S M H ds vs ∧ RelR K S M H ρ σ ∧ Hold K S cls M H ∧ wpGs G t ds ρ M (RWo K S cls own σ Q M H) (fun _ _ => False)

theorem assign_len : ∀ (es : List Expr) (env : Env), noStars es = true → (assignEach es env).length = es.length ∧ (assignEach es env).findIdx? (·.1) = none
  | [], _, _ => ⟨rfl, rfl⟩
  | e :: es, env, h => by
    obtain ⟨h1, h2⟩ := and2 (show (notStar e && noStars es) = true from h)
    obtain ⟨l, f⟩ := assign_len es env h2
    have q : assignEach (e :: es) env = (false, assign e env) :: assignEach es env := by cases e <;> first | rfl | cases h1
    rw [q]
    refine ⟨by rw [List.length_cons, l, List.length_cons], ?_⟩
    rw [List.findIdx?_cons, f]
    rfl

section
variable {cls : Cl} {k : Nat} {Tb : Tab} {G : Gt} {N : List Str}
abbrev bad {p : Prop} (h : false = true) : p := absurd h Bool.false_ne_true

theorem ckGs_len : ∀ (gs : Tgs) {nm : List (Str × NameKind)} {top : Bool} {es : List Expr}, ckGs Tb N nm top gs es = true → gs.len = es.length
  | .nil, _, _, es, h => by
    cases es with
    | nil => rfl
    | cons _ _ => exact bad h
  | .cons g gs, nm, top, es, h => by
    cases es with
    | nil => exact bad h
    | cons y ys =>
      obtain ⟨h1, h2⟩ := and2 (show (ckG Tb N nm top g y && ckGs Tb N nm top gs ys) = true from h)
      show gs.len + 1 = ys.length + 1
      rw [ckGs_len gs h2]
theorem ckG_star {g : Tg} {nm : List (Str × NameKind)} {top : Bool} {y : Expr} (h : ckG Tb N nm top g y = true) (ys : List Expr) (env : Env) : (assignEach (y :: ys) env).map (·.2) = assign y env :: (assignEach ys env).map (·.2) := by
  cases y <;> first | rfl | skip
  cases g <;> exact bad h
mutual
theorem sGo : ∀ (t : Tg) {X : Cx} {nm nmX : List (Str × NameKind)} {W : WX} {own : List Nat} {x : Expr}, Good X cls k Tb G N nmX false W → (∀ y, locB nm false y = true → L2.Loc X.env.scope y ∧ (X.fn y = true ∨ X.env.scope.names.lookup y = some .local)) → tgOwn own t = true → ckG Tb N nm false t x = true → PG X x (tGo X.K cls G own t)
  | .name i, X, nm, nmX, W, own, x, gd, hT, ho, h => by
    cases x with
    | Name y p =>
      obtain ⟨h1, h2⟩ := and2 (show (decide (N[i]? = some y) && locB nm false y) = true from h)
      obtain ⟨hl, hf⟩ := hT _ h2
      refine PG.weak (pg_name (i := i) (by rw [gd.hN]; exact gd.nd) (by rw [gd.hN]; exact dec1 h1) hl hf) fun v σ H Q ⟨S, d, ρ, M, rd, r, hh, w⟩ => ?_
      exact w _ _ (r.set i rd) hh Keeps.refl (wipe_own (dec1 ho) σ)
    | _ => exact bad h
  | .tup gs, X, nm, nmX, W, own, x, gd, hT, ho, h => by
    cases x with
    | Tuple es q p =>
      obtain ⟨h1, h2⟩ := and2 (show (noStars es && ckGs Tb N nm false gs es) = true from h)
      obtain ⟨l1, l2⟩ := assign_len es X.env h1
      refine PG.weak (PG.or (pg_tup gd.calm (sGso gs gd hT ho h2) l1 l2) (pg_lst gd.calm (sGso gs gd hT ho h2) l1 l2)) fun v σ H Q ⟨S, d, ρ, M, rd, r, hh, w⟩ => ?_
      obtain ⟨ds, e, w1, w2⟩ := w
      obtain ⟨a, xs, rfl, hs, rs⟩ := items_rel hh rd e
      have hl : xs.length = es.length := by rw [← rs.length, w1]; exact ckGs_len gs h2
      rcases hs with hs | hs
      · exact .inl ⟨a, xs, rfl, hs, hl, S, ds, ρ, M, rs, r, hh, w2⟩
      · exact .inr ⟨a, xs, rfl, hs, hl, S, ds, ρ, M, rs, r, hh, w2⟩
    | _ => exact bad h
  | .ix a b, X, nm, nmX, W, own, x, gd, hT, ho, h => bad ho
  | .star gs, X, nm, nmX, W, own, x, gd, hT, ho, h => bad ho
  | .fld a f, X, nm, nmX, W, own, x, gd, hT, ho, h => bad ho
theorem sGso : ∀ (t : Tgs) {X : Cx} {nm nmX : List (Str × NameKind)} {W : WX} {own : List Nat} {xs : List Expr}, Good X cls k Tb G N nmX false W → (∀ y, locB nm false y = true → L2.Loc X.env.scope y ∧ (X.fn y = true ∨ X.env.scope.names.lookup y = some .local)) → tgsOwn own t = true → ckGs Tb N nm false t xs = true → PGs X xs (tGso X.K cls G own t)
  | .nil, X, nm, nmX, W, own, xs, gd, hT, ho, h => by
    cases xs with
    | nil =>
      refine PGs.weak pgs_nil fun v σ H Q ⟨S, ds, ρ, M, rd, r, hh, e, w⟩ => ?_
      subst e
      cases rd
      exact ⟨rfl, w _ _ r hh Keeps.refl rfl⟩
    | cons _ _ => exact bad h
  | .cons g gs, X, nm, nmX, W, own, xs, gd, hT, ho, h => by
    cases xs with
    | nil => exact bad h
    | cons y ys =>
      obtain ⟨h1, h2⟩ := and2 (show (ckG Tb N nm false g y && ckGs Tb N nm false gs ys) = true from h)
      obtain ⟨o1, o2⟩ := and2 (show (tgOwn own g && tgsOwn own gs) = true from ho)
      refine PGs.weak (pgs_cons (sGo g gd hT o1 h1) (sGso gs gd hT o2 h2) (ckG_star h1 ys X.env)) fun v σ H Q ⟨S, ds, ρ, M, rd, r, hh, d, rr, e, w⟩ => ?_
      subst e
      cases rd with
      | cons r1 r2 =>
        refine ⟨_, _, rfl, S, d, ρ, M, r1, r, hh, wpG_mono g (fun ρ' M' w' σ' H' a b c e => ?_) (fun _ _ z => z) w⟩
        refine ⟨S, rr, ρ', M', r2.keep c, a, b, wpGs_mono gs (fun ρ2 M2 z σ2 H2 a2 b2 c2 e2 => z σ2 H2 a2 b2 (c.trans c2) (e2.trans e)) (fun _ _ z => z) w'⟩
end
end
end Fm

/-! The engine, part S: fields, instances and refusals, in memory and in the heap. -/
namespace Fm
open PySem L2 PySem.Spec PyProof.Rows

section
variable {K : PySem.W.Frag} {S : Addr → Prop} {cls : Cl} {M M' : Mm} {H H' : Hp}
abbrev RelF (K : PySem.W.Frag) (S : Addr → Prop) (M : Mm) (H : Hp) : List (Str × Dt) → List (Str × V) → Prop := Paired fun (p : Str × Dt) (q : Str × V) => p.1 = q.1 ∧ RelD K S M H p.2 q.2
theorem RelF.keep {fs : List (Str × Dt)} {gs : List (Str × V)} (r : RelF K S M H fs gs) (k : Keeps K M H M' H') : RelF K S M' H' fs gs := Paired.mapP r fun _ _ z => ⟨z.1, z.2.keep k⟩
theorem lk_cons {α : Type} (f g : Str) (x : α) (r : List (Str × α)) : ((g, x) :: r).lookup f = if f = g then some x else r.lookup f := by
  by_cases h : f = g
  · subst h; simp [List.lookup]
  · have e : (f == g) = false := by simpa using h
    rw [if_neg h]
    simp [List.lookup, e]
theorem RelF.get {f : Str} {d : Dt} : ∀ {fs : List (Str × Dt)} {gs : List (Str × V)}, RelF K S M H fs gs → fs.lookup f = some d → ∃ v, gs.lookup f = some v ∧ RelD K S M H d v
  | [], [], .nil, e => by cases e
  | (g, x) :: fs, (g', y) :: gs, .cons h t, e => by
    obtain ⟨rfl, rx⟩ := h
    rw [lk_cons] at e
    rw [lk_cons]
    by_cases hf : f = g
    · rw [if_pos hf] at e ⊢
      cases e
      exact ⟨y, rfl, rx⟩
    · rw [if_neg hf] at e ⊢
      exact RelF.get t e
theorem RelF.none {f : Str} : ∀ {fs : List (Str × Dt)} {gs : List (Str × V)}, RelF K S M H fs gs → fs.lookup f = .none → gs.lookup f = .none
  | [], [], .nil, _ => rfl
  | (g, x) :: fs, (g', y) :: gs, .cons h t, e => by
    obtain ⟨rfl, _⟩ := h
    rw [lk_cons] at e
    rw [lk_cons]
    by_cases hf : f = g
    · rw [if_pos hf] at e; cases e
    · rw [if_neg hf] at e ⊢
      exact RelF.none t e
theorem RelF.put {f : Str} {d : Dt} {v : V} (r : RelD K S M H d v) : ∀ {fs : List (Str × Dt)} {gs : List (Str × V)}, RelF K S M H fs gs → RelF K S M H (putFd f d fs) (putF f v gs)
  | [], [], .nil => .cons ⟨rfl, r⟩ .nil
  | (g, x) :: fs, (g', y) :: gs, .cons h t => by
    obtain ⟨rfl, rx⟩ := h
    unfold putFd putF
    dsimp only
    by_cases hf : g = f
    · rw [if_pos hf, if_pos hf]; exact .cons ⟨rfl, r⟩ t
    · rw [if_neg hf, if_neg hf]; exact .cons ⟨rfl, rx⟩ (RelF.put r t)
theorem RelF.len : ∀ {fs : List (Str × Dt)} {gs : List (Str × V)}, RelF K S M H fs gs → fs.length = gs.length := fun r => Paired.length r
/-- a field is set -/
theorem Hold.setf {p : Addr} {c : Nat} {fs : List (Str × Dt)} {f : Str} {d : Dt} {v : V} (h : Hold K S cls M H) (e : M p = some (.ins c fs)) (r : RelD K S M H d v) :
    cls.ok c ∧ ∃ dx gs, H p = some (.ins (cls c) dx gs) ∧ RelF K S M H fs gs ∧ Hold K S cls (mset M p (some (.ins c (putFd f d fs)))) (upd H p (.ins (cls c) dx (putF f v gs))) ∧ Keeps K M H (mset M p (some (.ins c (putFd f d fs)))) (upd H p (.ins (cls c) dx (putF f v gs))) := by
  obtain ⟨ok, dx, gs, eh, pr⟩ := h p _ e
  have k : Keeps K M H (mset M p (some (.ins c (putFd f d fs)))) (upd H p (.ins (cls c) dx (putF f v gs))) := Keeps.write h e
  exact ⟨ok, dx, gs, eh, pr, h.write e ⟨ok, dx, _, upd_same, (RelF.put r pr).keep k⟩, k⟩
/-- a new instance -/
theorem Hold.newI {a dx : Addr} {c : Nat} (h : Hold K S cls M H) (ok : cls.ok c) (na : H a = .none) (nd : H dx = .none) (ne : dx ≠ a) :
    Hold K S cls (mset M a (some (.ins c []))) (upd (upd H dx (.own a)) a (.ins (cls c) dx [])) ∧ Keeps K M H (mset M a (some (.ins c []))) (upd (upd H dx (.own a)) a (.ins (cls c) dx [])) := by
  have na2 : upd H dx (.own a) a = .none := by rw [upd_ne (Ne.symm ne)]; exact na
  have h1 := h.newH (u := .own a) nd
  have k2 : Keeps K M (upd H dx (.own a)) (mset M a (some (.ins c []))) (upd (upd H dx (.own a)) a (.ins (cls c) dx [])) := Keeps.newM na2
  exact ⟨h1.newM na2 ⟨ok, dx, [], upd_same, .nil⟩, (Keeps.newH nd).trans k2⟩
theorem Hold.extN (h : Hold K S cls M H) (e : LamX.ExtN H H') (t : LamX.Tabs cls.T H') : Hold K S cls M H' := by
  refine ⟨fun a o q => ?_, fun a sa => ?_, t⟩
  · obtain ⟨u, hu, _, _, _, nt, _⟩ := (h a o q).some
    exact (h a o q).keep (Keeps.extN e) ((e a u hu nt).trans hu.symm)
  · obtain ⟨m, xs, q⟩ := h.hid a sa
    exact ⟨m, xs, e a _ q fun _ z => by cases z⟩
/-- what a refusal's rows give -/
def FlRel (K : PySem.W.Frag) (S : Addr → Prop) (M : Mm) (H : Hp) : FlV → Dt → Prop
  | .non, d => d = .non
  | .one v, d => RelD K S M H d v
  | .tup vs, d => vs.length ≤ 100 ∧ ∃ ds, d = .tup ds ∧ RelDs K S M H ds vs
theorem lookAll_rel {fs : List (Str × Dt)} {gs : List (Str × V)} (r : RelF K S M H fs gs) : ∀ {ns : List Str} {ds : List Dt}, lookAllD fs ns = some ds → ∃ vs, lookAll gs ns = some vs ∧ RelDs K S M H ds vs
  | [], ds, e => by cases e; exact ⟨[], rfl, .nil⟩
  | n :: ns, ds, e => by
    obtain ⟨d, ed, e⟩ := Option.bind_eq_some_iff.mp e
    obtain ⟨es, ee, rfl⟩ := Option.map_eq_some_iff.mp e
    obtain ⟨v, ev, rv⟩ := r.get ed
    obtain ⟨vs, evs, rvs⟩ := lookAll_rel r ee
    exact ⟨v :: vs, by unfold lookAll; rw [ev, Option.bind_some, evs]; rfl, .cons rv rvs⟩
theorem rowV_rel {fs : List (Str × Dt)} {gs : List (Str × V)} {row : FRow} {d : Dt} (r : RelF K S M H fs gs) (e : rowD fs row = some d) : ∃ o, rowV gs row = some o ∧ FlRel K S M H o d := by
  unfold rowD at e
  unfold rowV
  split at e
  · rename_i ns h1
    obtain ⟨ds, e1, e2⟩ := Option.bind_eq_some_iff.mp e
    split at e2
    · rename_i hl
      cases e2
      obtain ⟨vs, e3, rs⟩ := lookAll_rel r e1
      exact ⟨.tup vs, by (try rw [h1]); show (lookAll gs row.fs).map FlV.tup = _; rw [e3]; rfl, by rw [← rs.length]; exact hl, ds, rfl, rs⟩
    · cases e2
  · rename_i f h1 h2
    obtain ⟨v, ev, rv⟩ := r.get e
    exact ⟨.one v, by (try rw [h1, h2]); show (gs.lookup f).map FlV.one = _; rw [ev]; rfl, rv⟩
  · cases e
theorem rows_rel {c : Nat} {fs : List (Str × Dt)} {gs : List (Str × V)} {d : Dt} (r : RelF K S M H fs gs) : ∀ {rows : List FRow}, rowsD c fs rows = some d → ∃ o, rowsV c gs rows = some o ∧ FlRel K S M H o d
  | [], e => by cases e; exact ⟨.non, rfl, rfl⟩
  | row :: rows, e => by
    unfold rowsD at e
    unfold rowsV
    by_cases hc : c ∈ row.cs
    · rw [if_pos hc] at e ⊢; exact rowV_rel r e
    · rw [if_neg hc] at e ⊢; exact rows_rel r e
theorem rows_out {c : Nat} {gs : List (Str × V)} : ∀ {rows : List FRow}, (∀ r ∈ rows, c ∉ r.cs) → rowsV c gs rows = some .non
  | [], _ => rfl
  | row :: rows, h => by
    unfold rowsV
    rw [if_neg (h row List.mem_cons_self)]
    exact rows_out fun r m => h r (List.mem_cons_of_mem _ m)
/-- why(lambda: a): what it asks of a's text -/
theorem why_ask {mg : Str → Option Value} {G : Gt} {W : WX} {a : E} {T : CN} {rows : List FRow} {f g C1 C2 C3 : Addr} {fd : FuncData} (wi : WhyIn K mg cls G.told T rows f g C1 C2 C3 fd) {σ : L2.St} {Q : VK} (h : tE K cls G W (.why a) σ H Q) :
    LamX.tLam cls.T (TTwhy K T cls rows C1 C2 C3) (fun E => tE K cls G (fun cl d _ H => E cl d H) a) σ H Q := by
  obtain ⟨S, ρ, M, r, hh, w⟩ := h
  refine ⟨hh.tab, fun H1 ext tb p np => ?_⟩
  have k1 : Keeps K M H M H1 := Keeps.extN ext
  have h1 := hh.extN ext tb
  have k2 : Keeps K M H1 M (upd H1 p (.tup [.str "", .non])) := Keeps.newH np
  have h2 := h1.newH (u := .tup [.str "", .non]) np
  have k12 := k1.trans k2
  have w : wpE G a ρ M (fun _ M1 => QW K S cls Q M H (.tup [.str "", .non]) M1) (fun z M1 => ∃ w d, z.fs.lookup ("word" : Str) = some w ∧ G.told z.c z.fs = some d ∧ QW K S cls Q M H (.tup [w, d]) M1) := w
  refine ⟨S, ρ, M, r.keep k12, h2, wpE_mono a (fun d M1 q v H3 rv h3 k3 => ?_) (fun z M1 q dd H3 xc h3 k3 => ?_) w⟩
  · refine q (.ref p) H3 (.tup (k3.tup _ _ (.inl (.inl upd_same))) (.cons (.str _) (.cons .non .nil))) h3 (k12.trans k3)
  · obtain ⟨wd, d, e1, e2, q⟩ := q
    obtain ⟨gs, ed, pr⟩ := xc
    obtain ⟨e3, cf, b1, x1, x2⟩ := wi.told _ _ _ e2
    obtain ⟨wv, e4, rw1⟩ := RelF.get pr e1
    obtain ⟨o, e5, fr⟩ := rows_rel pr e3
    refine ⟨z.c, cls z.c, dd, gs, wv, o, rfl, rfl, cf, ed, e4, e5, ⟨b1, x1, fun z1 => ?_⟩, fun H4 gr => ?_⟩
    · obtain ⟨b2, x3, x4⟩ := x2 z1
      refine ⟨b2, x3, fun z2 => ⟨(x4 z2).1, ?_⟩⟩
      have z5 := rows_out (gs := gs) (x4 z2).2
      rw [e5] at z5
      exact Option.some.inj z5
    · have k4 : Keeps K M1 H3 M1 H4 := gr.keeps
      have h4 := gr.hold h3
      have fin : ∀ (H5 : Hp) (dv : V), Keeps K M1 H4 M1 H5 → Hold K S cls M1 H5 → RelD K S M1 H5 d dv → ∀ q, H5 q = none → Q (.ref q) (upd H5 q (.tup [wv, dv])) := by
        intro H5 dv k5 h5 rd q' nq
        have k6 : Keeps K M1 H5 M1 (upd H5 q' (.tup [wv, dv])) := Keeps.newH nq
        exact q _ _ (.tup (.inl (.inl upd_same)) (.cons ((((rw1.keep k4).keep k5).keep k6)) (.cons (rd.keep k6) .nil))) (h5.newH nq) (((k12.trans k3).trans k4).trans (k5.trans k6))
      cases o with
      | non => exact fin H4 .non Keeps.refl h4 (by rw [show d = .non from fr]; exact .non)
      | one v => exact fin H4 v Keeps.refl h4 (RelD.keep k4 fr)
      | tup vs =>
        obtain ⟨hl, ds, rfl, rs⟩ := fr
        refine ⟨by rw [sizeLine_eq]; omega, fun p5 n5 => ?_⟩
        have k5 : Keeps K M1 H4 M1 (upd H4 p5 (.tup vs)) := Keeps.newH n5
        exact fin _ (.ref p5) k5 (h4.newH n5) (.tup (.inl (.inl upd_same)) ((rs.keep k4).keep k5))
end
/-- the surroundings of a lambda's body -/
theorem lam_good {cls : Cl} {k : Nat} {Tb : Tab} {G : Gt} {N : List Str} {X : Cx} {nm : List (Str × NameKind)} {W : WX} (gd : Good X cls k Tb G N nm true W) {scope : Scope} (L : LamX.LamS X.env.scope scope) (A : Around) (outer : List Env) (s : Shared) (H : Hp) (E : XK) (f c' : Addr)
    (hr : Room (lv k + 1) (A.deeper (LamX.lamEnv X scope s.heap.objs.size f c'))) : Good (LamX.lamCx X A outer s H E scope f c') cls k Tb G N scope.names false (fun cl d _ H => E cl d H) where
  env := gd.env
  hN := gd.hN
  nd := gd.nd
  nm := rfl
  kind := L.kind
  calm := rfl
  room := hr
  fn := fun z => absurd z Bool.false_ne_true
  pas := passes_of rfl
  tk := takes_of rfl rfl rfl rfl
  lam := fun z => absurd z Bool.false_ne_true
  own := fun z => absurd z Bool.false_ne_true
theorem lamS_nm {sc scope : Scope} {nm : List (Str × NameKind)} (hn : sc.names = nm) (h : LamX.lamSB ⟨.function, nm, false, false, []⟩ scope = true) : LamX.LamS sc scope := by
  have L := LamX.lamS_by h
  exact ⟨L.kind, L.co, L.gen, L.own, fun y hy e => by rw [hn]; exact L.free y hy e⟩
theorem lamArgs_is {ps : Arguments} (h : lamArgs ps = true) : ps = ⟨[], [], none, [], [], none, []⟩ := by
  obtain ⟨a, b, c, d, e, f, g⟩ := ps
  unfold lamArgs at h
  simp only [Bool.and_eq_true, List.isEmpty_iff, Option.isNone_iff_eq_none] at h
  obtain ⟨rfl, rfl, rfl, rfl, rfl, rfl, rfl⟩ := h
  rfl
end Fm

/-! The engine, part J: what is wanted of a text is enough (expressions). -/
namespace Fm
open PySem L2 PySem.Spec PyProof.Rows

abbrev W0 : WX := fun _ _ _ _ => False
section
variable {K : PySem.W.Frag} {S : Addr → Prop} {cls : Cl} {G : Gt} {W : WX}
theorem xw_id {σ : L2.St} {M M1 : Mm} {H H1 : Hp} (k : Keeps K M H M1 H1) : ∀ z M', XW K S cls W σ M H z M' → XW K S cls W σ M1 H1 z M' := fun _ _ x => x.on k
theorem room70 {k : Nat} {A : Around} (r : Room k A) : A.units + 70 < cLine := by have := r.un; omega
/-- the walk of a comprehension -/
theorem lc_weak {live : Bool} {own : List (Str × Nat)} {t : Tg} {it : Ie} {cs : Ts} {e : E} : ∀ σ H Q, tE K cls G W (.lc live own t it cs e) σ H Q →
    tLc (tI K cls G W it) (tGo K cls G (own.map (·.2)) t) (tAl K cls G W0 cs) (tE K cls G W0 e) (own.map (·.2)) σ H Q := by
  intro σ H Q ⟨S, ρ, M, r, hh, w⟩
  refine tI_in r hh w (fun _ _ z => z) fun ds keep M1 J H1 q y h1 k1 D hD => ?_
  have nS : ¬ S D := h1.noS hD
  refine ⟨fun i m H2 => m = ds.length - i ∧ i ≤ ds.length ∧ ∃ (acc : List Dt) (M2 : Mm) (xs : List V), H2 D = some (.lst xs) ∧ RelDs K (hidS S D) M2 H2 acc xs ∧ Hold K (hidS S D) cls M2 H2 ∧ Keeps K M1 H1 M2 H2 ∧ lcRun _ (ds.drop i) acc M2 _,
    ⟨ds.length, rfl, Nat.zero_le _, [], M1, [], upd_same, .nil, h1.hide hD [], Keeps.newH hD, q⟩, ?_⟩
  rintro i m H2 ⟨rfl, hi, acc, M2, xs, eD, ra, h2, k2, w2⟩
  have mD : M2 D = none := (h2.hid D (.inr rfl)).1
  have yy := y (hidS S D) (hidS_new hD) i M2 H2 h2 k2
  by_cases hlt : i < ds.length
  · rw [List.drop_eq_getElem_cons hlt] at w2
    obtain ⟨wk, w2⟩ := w2
    obtain ⟨go, yi⟩ := (yy wk).1 hlt
    refine .inr ⟨go, fun H' => ∃ (acc : List Dt) (M2 : Mm) (xs : List V), H' D = some (.lst xs) ∧ RelDs K (hidS S D) M2 H' acc xs ∧ Hold K (hidS S D) cls M2 H' ∧ Keeps K M1 H1 M2 H' ∧ lcRun _ (ds.drop (i + 1)) acc M2 _,
      fun H' ⟨a, b, c, d1, d2, d3, d4, d5⟩ => ⟨ds.length - (i + 1), by omega, rfl, hlt, a, b, c, d1, d2, d3, d4, d5⟩, fun x H3 hx => ?_⟩
    obtain ⟨d, ed, rd, h3, k3⟩ := yi x H3 hx
    have ed' : ds[i] = d := by rw [List.getElem?_eq_getElem hlt] at ed; exact Option.some.inj ed
    rw [ed'] at w2
    have rr : RelR K (hidS S D) M2 H3 (wipeR ρ (own.map (·.2))) (L2.wipe σ (own.map (·.2))) := by
      have r1 : RelR K S M1 H1 ρ σ := r.keep k1
      have r2 : RelR K (hidS S D) M1 H1 ρ σ := ⟨r1.len, fun j d e => by
        obtain ⟨v, a, b⟩ := r1.at_ j d e
        exact ⟨v, a, b.hide hD⟩⟩
      exact ((r2.keep k2).keep k3).wipe _
    refine ⟨hidS S D, d, _, M2, rd, rr, h3, wpG_mono t (fun ρ3 M3 w3 σ3 H4 a3 b3 c3 e3 => ⟨e3.trans (wipe_wipe σ _ _ fun _ m => m), ?_⟩) (fun _ _ z => z) w2⟩
    refine ⟨hidS S D, ρ3, M3, a3, b3, wpAll_mono cs (fun b M4 w4 H5 h5 k5 => ?_) (fun _ _ z => z.elim) w3⟩
    cases b with
    | true =>
      rw [if_pos rfl] at w4 ⊢
      refine ⟨hidS S D, ρ3, M4, a3.keep k5, h5, wpE_mono e (fun y M5 w5 v H6 r6 h6 k6 => ?_) (fun _ _ z => z.elim) w4⟩
      have kk : Keeps K M2 H2 M5 H6 := ((k3.trans c3).trans k5).trans k6
      have e6 : H6 D = some (.lst xs) := (kk.stay D _ mD eD (fun _ z => by cases z)).2
      refine ⟨xs, e6, by rw [← ra.length]; exact w5.1, acc ++ [y], M5, xs ++ [v], upd_same, ?_, h6.grow (.inr rfl) _ e6, ((k2.trans kk).grown hD e6), w5.2⟩
      exact ((ra.keep kk).append (.cons r6 .nil)).grow (.inr rfl) e6
    | false =>
      rw [if_neg Bool.false_ne_true] at w4 ⊢
      have kk : Keeps K M2 H2 M4 H5 := (k3.trans c3).trans k5
      exact ⟨acc, M4, xs, (kk.stay D _ mD eD (fun _ z => by cases z)).2, ra.keep kk, h5, k2.trans kk, w4⟩
  · have ei : i = ds.length := by omega
    rw [List.drop_eq_nil_of_le (by omega)] at w2
    obtain ⟨wk, w2⟩ := w2
    refine .inl ⟨(yy wk).2 (by omega), ?_⟩
    unfold newL at w2
    split at w2
    · refine w2 D mD _ H2 (.ref D) (h2.thaw nS eD ra) ?_
      exact k1.trans (k2.told hD)
    · exact w2 _ H2 (.lst mD nS (.inl eD) ra.show) h2.show (k1.trans k2)
end

/-- the walk of a dict comprehension -/
theorem dc_weak {own : List (Str × Nat)} {t : Tg} {it : Ie} {cs : Ts} {ke ve : E} {K : PySem.W.Frag} {cls : Cl} {G : Gt} {W : WX} : ∀ σ H Q, tE K cls G W (.dc own t it cs ke ve) σ H Q →
    tDc (tI K cls G W it) (tGo K cls G (own.map (·.2)) t) (tAl K cls G W0 cs) (tE K cls G W0 ke) (tE K cls G W0 ve) (own.map (·.2)) σ H Q := by
  intro σ H Q ⟨S, ρ, M, r, hh, w⟩
  refine tI_in r hh w (fun _ _ z => z) fun ds keep M1 J H1 q y h1 k1 D hD => ?_
  refine ⟨fun i m H2 => m = ds.length - i ∧ i ≤ ds.length ∧ ∃ (acc : List (Key × Dt)) (M2 : Mm) (ks : List (Key × V)), H2 D = some (.dK ks) ∧ M2 D = none ∧ Paired (fun (p : Key × Dt) (q : Key × V) => p.1 = q.1 ∧ RelD K S M2 H2 p.2 q.2) acc ks ∧ Hold K S cls M2 H2 ∧ Keeps K M1 H1 M2 H2 ∧ dcRun _ (ds.drop i) acc M2 _,
    ⟨ds.length, rfl, Nat.zero_le _, [], M1, [], upd_same, h1.none hD, .nil, h1.newH hD, Keeps.newH hD, q⟩, ?_⟩
  rintro i m H2 ⟨rfl, hi, acc, M2, ks, eD, mD, ra, h2, k2, w2⟩
  have yy := y S (fun _ s => .inl s) i M2 H2 h2 k2
  by_cases hlt : i < ds.length
  · rw [List.drop_eq_getElem_cons hlt] at w2
    obtain ⟨wk, w2⟩ := w2
    obtain ⟨go, yi⟩ := (yy wk).1 hlt
    refine .inr ⟨go, fun H' => ∃ (acc : List (Key × Dt)) (M2 : Mm) (ks : List (Key × V)), H' D = some (.dK ks) ∧ M2 D = none ∧ Paired (fun (p : Key × Dt) (q : Key × V) => p.1 = q.1 ∧ RelD K S M2 H' p.2 q.2) acc ks ∧ Hold K S cls M2 H' ∧ Keeps K M1 H1 M2 H' ∧ dcRun _ (ds.drop (i + 1)) acc M2 _,
      fun H' ⟨a, b, c, d1, d2, d3, d4, d5, d6⟩ => ⟨ds.length - (i + 1), by omega, rfl, hlt, a, b, c, d1, d2, d3, d4, d5, d6⟩, fun x H3 hx => ?_⟩
    obtain ⟨d, ed, rd, h3, k3⟩ := yi x H3 hx
    have ed' : ds[i] = d := by rw [List.getElem?_eq_getElem hlt] at ed; exact Option.some.inj ed
    rw [ed'] at w2
    have rr : RelR K S M2 H3 (wipeR ρ (own.map (·.2))) (L2.wipe σ (own.map (·.2))) := (((r.keep k1).keep k2).keep k3).wipe _
    refine ⟨S, d, _, M2, rd, rr, h3, wpG_mono t (fun ρ3 M3 w3 σ3 H4 a3 b3 c3 e3 => ⟨e3.trans (wipe_wipe σ _ _ fun _ m => m), ?_⟩) (fun _ _ z => z) w2⟩
    refine ⟨S, ρ3, M3, a3, b3, wpAll_mono cs (fun b M4 w4 H5 h5 k5 => ?_) (fun _ _ z => z.elim) w3⟩
    cases b with
    | true =>
      rw [if_pos rfl] at w4 ⊢
      refine ⟨S, ρ3, M4, a3.keep k5, h5, wpE_mono ke (fun y M5 w5 v H6 r6 h6 k6 => ?_) (fun _ _ z => z.elim) w4⟩
      refine ⟨S, ρ3, M5, (a3.keep k5).keep k6, h6, wpE_mono ve (fun z M6 w6 v2 H7 r7 h7 k7 => ?_) (fun _ _ z => z.elim) w5⟩
      obtain ⟨ky, e1, e2, w7⟩ := w6
      have kk : Keeps K M2 H2 M6 H7 := (((k3.trans c3).trans k5).trans k6).trans k7
      obtain ⟨m6, e6⟩ := kk.stay D _ mD eD (fun _ z => by cases z)
      have ra2 : Paired (fun (p : Key × Dt) (q : Key × V) => p.1 = q.1 ∧ RelD K S M6 H7 p.2 q.2) acc ks := Paired.mapP ra fun _ _ z => ⟨z.1, z.2.keep kk⟩
      refine ⟨ks, ky, keyV r6 e1, e6, by rw [← Paired.length ra]; exact e2, _, M6, _, upd_same, m6, ?_, h7.growD m6 e6, (k2.trans kk).grownD hD e6, w7⟩
      exact Paired.mapP (putKD ky r7 ra2) fun _ _ z => ⟨z.1, z.2.chg (dict_t e6) (dict_l e6)⟩
    | false =>
      rw [if_neg Bool.false_ne_true] at w4 ⊢
      have kk : Keeps K M2 H2 M4 H5 := (k3.trans c3).trans k5
      obtain ⟨m5, e5⟩ := kk.stay D _ mD eD (fun _ z => by cases z)
      exact ⟨acc, M4, ks, e5, m5, Paired.mapP ra fun _ _ z => ⟨z.1, z.2.keep kk⟩, h5, k2.trans kk, w4⟩
  · have ei : i = ds.length := by omega
    rw [List.drop_eq_nil_of_le (by omega)] at w2
    obtain ⟨wk, w2⟩ := w2
    refine .inl ⟨(yy wk).2 (by omega), ?_⟩
    exact w2 D mD _ H2 (.ref D) (h2.thawD eD ra) (k1.trans (k2.told hD))

section
variable {cls : Cl} {k : Nat} {Tb : Tab} {G : Gt} {N : List Str}
theorem blk_good {X : Cx} {nm : List (Str × NameKind)} {top : Bool} {W : WX} (gd : Good X cls k Tb G N nm top W) {scope : Scope} (hk : scope.kind = .function) (s : Shared) (H : Hp) (C : Addr) (cl : List (Str × Addr)) (fp : List Addr) :
    Good (X.blk s H scope (compEnvC scope cl C X.env) fp) cls k Tb G N (relN nm scope) false W0 where
  env := gd.env
  hN := gd.hN
  nd := gd.nd
  nm := by
    show (relabel scope X.env).names = _
    unfold relabel relN
    have e : ∀ n, X.env.kindOf n = nm.lookup n := fun n => by rw [← gd.nm]; rfl
    simp only [gd.kind, e]
    simp
  kind := hk
  calm := gd.calm
  room := gd.room
  fn := fun z => absurd z Bool.false_ne_true
  pas := PassesOwn.never
  tk := takes0
  lam := fun z => absurd z Bool.false_ne_true
  own := fun z => absurd z Bool.false_ne_true
theorem look_map {f : Str → NameKind → NameKind} {y : Str} : ∀ l : List (Str × NameKind), (l.map fun (n, k) => (n, f n k)).lookup y = (l.lookup y).map (f y)
  | [] => rfl
  | (n, k) :: l => by
    show ((n, f n k) :: l.map fun (n, k) => (n, f n k)).lookup y = _
    rw [List.lookup_cons, List.lookup_cons]
    by_cases h : (y == n) = true
    · rw [h]
      have : y = n := by simpa using h
      subst this
      rfl
    · rw [Bool.not_eq_true] at h
      rw [h]
      exact look_map l
theorem relN_look {nm : List (Str × NameKind)} {scope : Scope} {y : Str} : (relN nm scope).lookup y = (scope.names.lookup y).map fun k => if (k == .free && nm.lookup y == some .cell) then .cell else k := by
  rw [← look_map (f := fun n k => if (k == .free && nm.lookup n == some .cell) then .cell else k)]
  unfold relN
  congr 1
  refine List.map_congr_left fun p _ => ?_
  obtain ⟨n, k⟩ := p
  show (if _ then _ else _) = (n, if _ then _ else _)
  split <;> rfl
theorem blk_own {X : Cx} {nm : List (Str × NameKind)} {top : Bool} {W : WX} (gd : Good X cls k Tb G N nm top W) {scope : Scope} (hk : scope.kind = .function) (s : Shared) (H : Hp) (C : Addr) (cl : List (Str × Addr)) (fp : List Addr) (y : Str) (h : locB (ownN scope) false y = true) :
    L2.Loc (X.blk s H scope (compEnvC scope cl C X.env) fp).env.scope y ∧ ((X.blk s H scope (compEnvC scope cl C X.env) fp).fn y = true ∨ (X.blk s H scope (compEnvC scope cl C X.env) fp).env.scope.names.lookup y = some .local) := by
  have e := (blk_good gd hk s H C cl fp).nm
  unfold L2.Loc
  rw [e, relN_look]
  show _ ∧ ((scope.names.lookup y == some .cell) = true ∨ _)
  unfold locB ownN at h
  rw [look_map (f := fun _ k => if k = .cell then .local else k)] at h
  cases q : scope.names.lookup y with
  | none => rw [q] at h; cases h
  | some k0 =>
    rw [q] at h
    cases k0 <;> first | cases h | skip
    · exact ⟨.inl rfl, .inr rfl⟩
    · exact ⟨.inr rfl, .inl rfl⟩
theorem ckEs_len : ∀ (gs : Es) {nm : List (Str × NameKind)} {top : Bool} {es : List Expr}, ckEs Tb N nm top gs es = true → gs.len = es.length
  | .nil, _, _, es, h => by
    cases es with
    | nil => rfl
    | cons _ _ => exact bad h
  | .cons g gs, nm, top, es, h => by
    cases es with
    | nil => exact bad h
    | cons y ys =>
      obtain ⟨h1, h2⟩ := and2 (show (ckE Tb N nm top g y && ckEs Tb N nm top gs ys) = true from h)
      show gs.len + 1 = ys.length + 1
      rw [ckEs_len gs h2]

mutual
theorem sE : ∀ (e : E) {X : Cx} {nm : List (Str × NameKind)} {top : Bool} {W : WX} {x : Expr}, Good X cls k Tb G N nm top W → ckE Tb N nm top e x = true → PE X x (tE X.K cls G W e)
  | .var i, X, nm, top, W, x, gd, h => by
    cases x with
    | Name y p =>
      obtain ⟨h1, h2⟩ := and2 (show (decide (N[i]? = some y) && (visB nm y && okN y)) = true from h)
      obtain ⟨h2, h3⟩ := and2 h2
      obtain ⟨o1, o2, _⟩ := okN_of h3
      refine PE.weak (pe_var (i := i) (by rw [gd.hN]; exact dec1 h1) (vis_of gd.nm h2) o1 o2) fun σ H Q ⟨S, ρ, M, r, hh, d, e, w⟩ => ?_
      obtain ⟨v, e1, rd⟩ := r.at_ i d e
      exact ⟨v, e1, w v H rd hh Keeps.refl⟩
    | _ => exact bad h
  | .int z, X, nm, top, W, x, gd, h => by
    cases x with
    | Constant c j p =>
      cases c with
      | int u =>
        obtain rfl : z = u := dec1 h
        exact PE.weak pe_int fun σ H Q ⟨S, ρ, M, r, hh, w⟩ => w _ H (.int z) hh Keeps.refl
      | _ => exact bad h
    | _ => exact bad h
  | .str z, X, nm, top, W, x, gd, h => by
    cases x with
    | Constant c j p =>
      cases c with
      | str u =>
        obtain rfl : z = u := dec1 h
        exact PE.weak pe_str fun σ H Q ⟨S, ρ, M, r, hh, w⟩ => w _ H (.str z) hh Keeps.refl
      | _ => exact bad h
    | _ => exact bad h
  | .bl z, X, nm, top, W, x, gd, h => by
    cases x with
    | Constant c j p =>
      cases c with
      | bool u =>
        obtain rfl : z = u := dec1 h
        exact PE.weak pe_bl fun σ H Q ⟨S, ρ, M, r, hh, w⟩ => w _ H (.bl z) hh Keeps.refl
      | _ => exact bad h
    | _ => exact bad h
  | .dnew, X, nm, top, W, x, gd, h => by
    cases x with
    | Dict ks vs p =>
      cases ks with
      | cons _ _ => exact bad (by cases vs <;> exact h)
      | nil =>
        cases vs with
        | cons _ _ => exact bad h
        | nil => exact PE.weak pe_dnewK fun σ H Q ⟨S, ρ, M, r, hh, w⟩ p n => w p (hh.none n) (.ref p) _ (.ref p) (hh.newM n ⟨[], upd_same, .nil⟩) (Keeps.newM n)
    | _ => exact bad h
  | .non, X, nm, top, W, x, gd, h => by
    cases x with
    | Constant c j p =>
      cases c with
      | none => exact PE.weak pe_non fun σ H Q ⟨S, ρ, M, r, hh, w⟩ => w _ H .non hh Keeps.refl
      | _ => exact bad h
    | _ => exact bad h
  | .glob g, X, nm, top, W, x, gd, h => by
    cases x with
    | Name y p =>
      obtain ⟨h1, h2⟩ := and2 (show (decide (Tb.gls.lookup g = some y) && (glB nm y && okN y)) = true from h)
      obtain ⟨h2, h3⟩ := and2 h2
      obtain ⟨o1, _, _⟩ := okN_of h3
      obtain ⟨v, u, hm, rv, rd⟩ := gd.env.gl g y (dec1 h1)
      exact PE.weak (pe_glob (gl_of gd.nm h2) hm rv o1) fun σ H Q ⟨S, ρ, M, r, hh, w⟩ => w _ H (rd S M H) hh Keeps.refl
    | _ => exact bad h
  | .bin o a b, X, nm, top, W, x, gd, h => by
    cases x with
    | BinOp l p rr pos =>
      obtain ⟨h1, h2⟩ := and2 (show (decide (opOf o = p) && (ckE Tb N nm top a l && ckE Tb N nm top b rr)) = true from h)
      obtain ⟨h2, h3⟩ := and2 h2
      obtain rfl := dec1 h1
      refine PE.weak (pe_op (opr_bin (cls := cls) o) (sE a gd h2) (sE b gd h3)) fun σ H Q ⟨S, ρ, M, r, hh, w⟩ => ?_
      refine tE_in r hh w (fun _ _ z => z) fun d1 M1 v1 H1 w1 r1 h1 k1 => ?_
      refine tE_in (r.keep k1) h1 w1 (xw_id k1) fun d2 M2 v2 H2 w2 r2 h2 k2 => ?_
      exact ⟨S, M2, d1, d2, _, r1.keep k2, r2, h2, w2, fun d M' z H' q rz hz kz => q z H' rz hz ((k1.trans k2).trans kz)⟩
    | _ => exact bad h
  | .neg a, X, nm, top, W, x, gd, h => by
    cases x with
    | UnaryOp op l pos =>
      cases op with
      | USub =>
        refine PE.weak (pe_un un_neg (sE a gd h)) fun σ H Q ⟨S, ρ, M, r, hh, w⟩ => ?_
        refine tE_in r hh w (fun _ _ z => z) fun d1 M1 v1 H1 ⟨i, e, w1⟩ r1 h1 k1 => ?_
        subst e
        cases r1
        exact ⟨i, rfl, w1 _ H1 (.int _) h1 k1⟩
      | _ => exact bad h
    | _ => exact bad h
  | .cmp o a b, X, nm, top, W, x, gd, h => by
    cases x with
    | Compare l ps rs pos =>
      cases ps with
      | nil => exact bad h
      | cons p ps =>
        cases ps with
        | cons _ _ => exact bad h
        | nil =>
          cases rs with
          | nil => exact bad h
          | cons rr rs =>
            cases rs with
            | cons _ _ => exact bad h
            | nil =>
              obtain ⟨h1, h2⟩ := and2 (show (decide (copOf o = p) && (notSet rr && (ckE Tb N nm top a l && ckE Tb N nm top b rr))) = true from h)
              obtain ⟨h2, h3⟩ := and2 h2
              obtain ⟨h3, h4⟩ := and2 h3
              obtain rfl := dec1 h1
              refine PE.weak (pe_cmpR (opr_cmp (cls := cls) (room70 gd.room) o) (sE a gd h3) (sE b gd h4) (mark_plain h2 _)) fun σ H Q ⟨S, ρ, M, r, hh, w⟩ => ?_
              refine tE_in r hh w (fun _ _ z => z) fun d1 M1 v1 H1 w1 r1 h1 k1 => ?_
              refine tE_in (r.keep k1) h1 w1 (xw_id k1) fun d2 M2 v2 H2 ⟨kk, e, w2⟩ r2 h2 k2 => ?_
              exact ⟨S, M2, d1, d2, kk, r1.keep k2, r2, h2, e, w2 _ H2 (.bl kk) h2 (k1.trans k2)⟩
    | _ => exact bad h
  | .cmp2 o o2 a b c, X, nm, top, W, x, gd, h => by
    cases x with
    | Compare l ps rs pos =>
      cases ps with
      | nil => exact bad h
      | cons p ps =>
        cases ps with
        | nil => exact bad h
        | cons p2 ps =>
          cases ps with
          | cons _ _ => exact bad h
          | nil =>
            cases rs with
            | nil => exact bad h
            | cons m rs =>
              cases rs with
              | nil => exact bad h
              | cons rr rs =>
                cases rs with
                | cons _ _ => exact bad h
                | nil =>
                  obtain ⟨h1, h2⟩ := and2 (show (decide (copOf o = p) && (decide (copOf o2 = p2) && (notSet m && (notSet rr && (ckE Tb N nm top a l && (ckE Tb N nm top b m && ckE Tb N nm top c rr)))))) = true from h)
                  obtain ⟨h2, h3⟩ := and2 h2
                  obtain ⟨h3, h4⟩ := and2 h3
                  obtain ⟨h4, h5⟩ := and2 h4
                  obtain ⟨h5, h6⟩ := and2 h5
                  obtain ⟨h6, h7⟩ := and2 h6
                  obtain rfl := dec1 h1
                  obtain rfl := dec1 h2
                  refine PE.weak (pe_chain (opr_cmp (cls := cls) (room70 gd.room) o) (opr_cmp (cls := cls) (room70 gd.room) o2) (sE a gd h5) (sE b gd h6) (sE c gd h7) (mark_plain h4 _)) fun σ H Q ⟨S, ρ, M, r, hh, w⟩ => ?_
                  refine tE_in r hh w (fun _ _ z => z) fun d1 M1 v1 H1 w1 r1 h1 k1 => ?_
                  refine tE_in (r.keep k1) h1 w1 (xw_id k1) fun d2 M2 v2 H2 ⟨kk, e, w2⟩ r2 h2 k2 => ?_
                  refine ⟨S, M2, d1, d2, kk, r1.keep k2, r2, h2, e, kk, rfl, ?_⟩
                  cases kk with
                  | true =>
                    rw [if_pos rfl] at w2 ⊢
                    refine tE_in ((r.keep k1).keep k2) h2 w2 (xw_id (k1.trans k2)) fun d3 M3 v3 H3 ⟨kk, e, w3⟩ r3 h3 k3 => ?_
                    exact ⟨S, M3, d2, d3, kk, r2.keep k3, r3, h3, e, w3 _ H3 (.bl kk) h3 ((k1.trans k2).trans k3)⟩
                  | false =>
                    rw [if_neg Bool.false_ne_true] at w2 ⊢
                    exact w2 _ H2 (.bl _) h2 (k1.trans k2)
    | _ => exact bad h
  | .bop kk as, X, nm, top, W, x, gd, h => by
    cases x with
    | BoolOp p es pos =>
      obtain ⟨h1, h2⟩ := and2 (show (decide (p = if kk = true then BoolOp.And else BoolOp.Or) && ckEs Tb N nm top as es) = true from h)
      obtain rfl := dec1 h1
      exact sB as kk gd h2
    | _ => exact bad h
  | .not_ a, X, nm, top, W, x, gd, h => by
    cases x with
    | UnaryOp op l pos =>
      cases op with
      | Not =>
        refine PE.weak (pe_not (sE a gd h)) fun σ H Q ⟨S, ρ, M, r, hh, w⟩ => ?_
        refine tE_in r hh w (fun _ _ z => z) fun d1 M1 v1 H1 ⟨i, e, w1⟩ r1 h1 k1 => ?_
        subst e
        cases r1
        exact ⟨i, rfl, w1 _ H1 (.bl _) h1 k1⟩
      | _ => exact bad h
    | _ => exact bad h
  | .ite c a b, X, nm, top, W, x, gd, h => by
    cases x with
    | IfExp t l rr pos =>
      obtain ⟨h1, h2⟩ := and2 (show (ckT Tb N nm top c t && (ckE Tb N nm top a l && ckE Tb N nm top b rr)) = true from h)
      obtain ⟨h2, h3⟩ := and2 h2
      refine PE.weak (pe_ifExp (sT c gd h1) (sE a gd h2) (sE b gd h3)) fun σ H Q ⟨S, ρ, M, r, hh, w⟩ => ?_
      refine tT_in r hh w (fun _ _ z => z) fun b1 M1 H1 w1 h1 k1 => ?_
      cases b1 with
      | true =>
        rw [if_pos rfl] at w1 ⊢
        exact tE_in (r.keep k1) h1 w1 (xw_id k1) fun d M2 v H2 w2 r2 h2 k2 => w2 v H2 r2 h2 (k1.trans k2)
      | false =>
        rw [if_neg Bool.false_ne_true] at w1 ⊢
        exact tE_in (r.keep k1) h1 w1 (xw_id k1) fun d M2 v H2 w2 r2 h2 k2 => w2 v H2 r2 h2 (k1.trans k2)
    | _ => exact bad h
  | .tup as, X, nm, top, W, x, gd, h => by
    cases x with
    | Tuple es q pos =>
      obtain ⟨h1, h2⟩ := and2 (show (noStars es && ckEs Tb N nm top as es) = true from h)
      refine PE.weak (pe_tup (sEs as gd h1 h2)) fun σ H Q ⟨S, ρ, M, r, hh, w⟩ => ?_
      refine tEs_in r hh w (fun _ _ z => z) fun ds M1 vs H1 ⟨hl, w1⟩ r1 h1 k1 => ⟨by rw [← r1.length]; exact hl, fun p n => ?_⟩
      exact w1 _ _ (.tup (.inl (.inl upd_same)) (r1.keep (Keeps.newH n))) (h1.newH n) (k1.trans (Keeps.newH n))
    | _ => exact bad h
  | .lst live as, X, nm, top, W, x, gd, h => by
    cases x with
    | List es pos =>
      obtain ⟨h1, h2⟩ := and2 (show (noStars es && ckEs Tb N nm top as es) = true from h)
      refine PE.weak (pe_lst (sEs as gd h1 h2)) fun σ H Q ⟨S, ρ, M, r, hh, w⟩ => ?_
      refine tEs_in r hh w (fun _ _ z => z) fun ds M1 vs H1 ⟨hl, w1⟩ r1 h1 k1 => ⟨by rw [← r1.length]; exact hl, ?_⟩
      exact Fin.newL (cls := cls) (fun d M' z H' q rz hz kz => q z H' rz hz (k1.trans kz)) h1 r1 w1
    | _ => exact bad h
  | .ix a b, X, nm, top, W, x, gd, h => by
    cases x with
    | Subscript l rr pos =>
      obtain ⟨h1, h2⟩ := and2 (show (notSlice rr && (ckE Tb N nm top a l && ckE Tb N nm top b rr)) = true from h)
      obtain ⟨h2, h3⟩ := and2 h2
      refine PE.weak (pe_ix (ixr_D (cls := cls) (by have := gd.room.units; omega)) (sE a gd h2) (sE b gd h3) (slice_plain h1)) fun σ H Q ⟨S, ρ, M, r, hh, w⟩ => ?_
      refine tE_in r hh w (fun _ _ z => z) fun d1 M1 v1 H1 w1 r1 h1 k1 => ?_
      refine tE_in (r.keep k1) h1 w1 (xw_id k1) fun d2 M2 v2 H2 ⟨d, e, w2⟩ r2 h2 k2 => ?_
      exact ⟨S, M2, d1, d2, d, r1.keep k2, r2, h2, e, fun z rz => w2 z H2 rz h2 (k1.trans k2)⟩
    | _ => exact bad h
  | .sl a lo hi, X, nm, top, W, x, gd, h => by
    cases x with
    | Subscript l rr pos =>
      cases rr with
      | Slice u v st p2 =>
        cases st with
        | some _ => exact bad h
        | none =>
          obtain ⟨h1, h2⟩ := and2 (show (ckE Tb N nm top a l && (ckO Tb N nm top lo u && ckO Tb N nm top hi v)) = true from h)
          obtain ⟨h2, h3⟩ := and2 h2
          refine PE.weak (pe_slice (sl_D (cls := cls)) (sE a gd h1) (sO lo gd h2) (sO hi gd h3)) fun σ H Q ⟨S, ρ, M, r, hh, w⟩ => ?_
          refine tE_in r hh w (fun _ _ z => z) fun d1 M1 v1 H1 w1 r1 h1 k1 => ?_
          refine tO_in (r.keep k1) h1 w1 (xw_id k1) fun o1 M2 H2 w2 h2 k2 => ?_
          refine tO_in ((r.keep k1).keep k2) h2 w2 (xw_id (k1.trans k2)) fun o2 M3 H3 ⟨ds, e, w3⟩ h3 k3 => ?_
          exact ⟨S, M3, d1, ds, _, (r1.keep k2).keep k3, h3, e, w3, fun d M' z H' q rz hz kz => q z H' rz hz (((k1.trans k2).trans k3).trans kz)⟩
      | _ => exact bad h
    | _ => exact bad h
  | .call g as, X, nm, top, W, x, gd, h => by
    cases x with
    | Call f es ks pos =>
      cases f with
      | Name y p =>
        cases es with
        | nil => exact bad h
        | cons e es =>
          cases ks with
          | cons _ _ => exact bad h
          | nil =>
            obtain ⟨h1, h2⟩ := and2 (show (decide (Tb.fns.lookup g = some (y, (e :: es).length)) && (glB nm y && (okN y && (noStars (e :: es) && ckEs Tb N nm top as (e :: es))))) = true from h)
            obtain ⟨h2, h3⟩ := and2 h2
            obtain ⟨h3, h4⟩ := and2 h3
            obtain ⟨h4, h5⟩ := and2 h4
            obtain ⟨n1, n2⟩ := and2 (show (notStar e && noStars es) = true from h4)
            obtain ⟨o1, _, _⟩ := okN_of h3
            obtain ⟨fa, fd, ps, hl, hm, kp, bd, F⟩ := gd.env.fn g y _ (dec1 h1) h3
            refine PE.weak (pe_callS (E := WE W) F (gd.room.mono (Nat.le_succ _)) (gl_of gd.nm h2) hm kp bd (fun σ => passAt gd.tk σ) (sEs as gd h4 h5) o1 (star_cons n1 es _) (stars_any n2 _ _)) fun σ H Q ⟨S, ρ, M, r, hh, w⟩ => ?_
            refine tEs_inL r hh w (fun _ _ z => z) fun ds M1 vs H1 ln w1 r1 h1 k1 => ?_
            refine ⟨?_, S, ds, M1, r1, h1, (G.call g).mono (fun d M' q v H' a b c => q v H' a b (k1.trans c)) (fun z M' x d H' a b c => x d H' a b (k1.trans c)) w1⟩
            rw [← r1.length, ln]
            exact ckEs_len as h5
      | _ => exact bad (by cases es <;> exact h)
    | _ => exact bad h
  | .bi f as, X, nm, top, W, x, gd, h => by
    cases x with
    | Call fx es ks pos =>
      cases fx with
      | Name y p =>
        cases es with
        | nil => exact bad h
        | cons e es =>
          cases ks with
          | cons _ _ => exact bad h
          | nil =>
            obtain ⟨h1, h2⟩ := and2 (show (decide (biN f = y) && (decide (y ∈ Tb.bis) && (glB nm y && (noStars (e :: es) && ckEs Tb N nm top as (e :: es))))) = true from h)
            obtain ⟨h2, h3⟩ := and2 h2
            obtain ⟨h3, h4⟩ := and2 h3
            obtain ⟨h4, h5⟩ := and2 h4
            obtain ⟨n1, n2⟩ := and2 (show (notStar e && noStars es) = true from h4)
            obtain rfl := dec1 h1
            have hm := gd.env.bi _ (dec1 h2)
            have base : PE X (.Call (.Name (biN f) p) (e :: es) [] pos) (tCB (rBi X.K cls f) (tEs X.K cls G W as)) := by
              have cr := callR_bi (cls := cls) gd.calm gd.room.units f
              have bt := boot_bi f
              obtain ⟨b1, b2⟩ := bi_ok f
              cases hv : biV f with
              | builtin id =>
                rw [hv] at cr bt
                exact pe_callB cr (gl_of gd.nm h3) hm bt (sEs as gd h4 h5) b1 b2 (star_cons n1 es _) (stars_any n2 _ _)
              | type n =>
                rw [hv] at cr bt
                exact pe_callTy cr (gl_of gd.nm h3) hm bt (sEs as gd h4 h5) b1 b2 (star_cons n1 es _) (stars_any n2 _ _)
              | _ => cases f <;> cases hv
            refine PE.weak base fun σ H Q ⟨S, ρ, M, r, hh, w⟩ => ?_
            refine tEs_in r hh w (fun _ _ z => z) fun ds M1 vs H1 w1 r1 h1 k1 => ?_
            exact ⟨S, M1, ds, _, r1, h1, w1, fun d M' z H' q rz hz kz => q z H' rz hz (k1.trans kz)⟩
      | _ => exact bad (by cases es <;> exact h)
    | _ => exact bad h
  | .mt m a as, X, nm, top, W, x, gd, h => by
    cases x with
    | Call fx es ks pos =>
      cases fx with
      | Attribute l y ap =>
        cases ks with
        | cons _ _ => exact bad (by cases es <;> exact h)
        | nil =>
          obtain ⟨h1, h2⟩ := and2 (show (decide (miN m = y) && (noCall0 l && ((ap.endLine == pos.line) && (decide (es.length < 29) && (noStars es && (ckE Tb N nm top a l && ckEs Tb N nm top as es)))))) = true from (by cases es <;> exact h))
          obtain ⟨g2, h3⟩ := and2 h2
          obtain ⟨g3, h4⟩ := and2 h3
          obtain ⟨g4, h5⟩ := and2 h4
          obtain ⟨g5, h6⟩ := and2 h5
          obtain ⟨g6, g7⟩ := and2 h6
          obtain rfl := dec1 h1
          have hu : X.A.units + 1 < cLine := by have := gd.room.units; omega
          have facts : ∃ (pa : PySem.PlainAttrs (miT m)) (sl : PySem.Slot (miT m) (miN m) (miV m)), typeOf (.builtin (miV m)) = pure (.type "method_descriptor") := by
            cases m
            · exact ⟨PySem.F.plainAttrs_list, PySem.F.slot_list_append, PySem.F.type_list_append⟩
            · exact ⟨PySem.F.plainAttrs_list, PySem.F.slot_list_pop, PySem.F.type_list_pop⟩
            · exact ⟨PySem.F.plainAttrs_dict, PySem.F.slot_dict_get, PySem.F.type_dict_get⟩
            · exact ⟨PySem.F.plainAttrs_dict, PySem.F.slot_dict_get, PySem.F.type_dict_get⟩
            · exact ⟨PySem.F.plainAttrs_list, PySem.F.slot_list_clear, PySem.F.type_list_clear⟩
            · exact ⟨PySem.F.plainAttrs_list, PySem.F.slot_list_reverse, PySem.F.type_list_reverse⟩
            · exact ⟨PySem.F.plainAttrs_list, PySem.F.slot_list_pop, PySem.F.type_list_pop⟩
            · exact ⟨PySem.F.plainAttrs_dict, PySem.F.slot_dict_pop, PySem.F.type_dict_pop⟩
            · exact ⟨PySem.F.plainAttrs_list, PySem.F.slot_list_insert, PySem.F.type_list_insert⟩
            · exact ⟨PySem.F.plainAttrs_list, PySem.F.slot_list_count, PySem.F.type_list_count⟩
            · exact ⟨PySem.F.plainAttrs_list, PySem.F.slot_list_index, PySem.F.type_list_index⟩
          obtain ⟨pa, sl, ty⟩ := facts
          cases es with
          | nil =>
            refine PE.weak (pe_bm0 pa sl ty (mtr_D (cls := cls) hu m) (sE a gd g6) (attr_base g2 _ _) g3) fun σ H Q ⟨S, ρ, M, r, hh, w⟩ => ?_
            refine tE_in r hh w (fun _ _ z => z) fun d1 M1 v1 H1 ⟨ok, w1⟩ r1 h1 k1 => ⟨mtOk_ty h1 r1 ok, ?_⟩
            cases as with
            | nil => exact ⟨S, M1, d1, [], _, r1, .nil, h1, w1, fun d M' z H' q rz hz kz => q z H' rz hz (k1.trans kz)⟩
            | cons _ _ => exact bad g7
          | cons e es =>
            obtain ⟨n1, n2⟩ := and2 (show (notStar e && noStars es) = true from g5)
            refine PE.weak (pe_bm pa sl ty (mtr_D (cls := cls) hu m) (sE a gd g6) (sEs as gd g5 g7) (attr_base g2 _ _) ?_ g3 (star_cons n1 es _) (stars_any n2 _ _)) fun σ H Q ⟨S, ρ, M, r, hh, w⟩ => ?_
            · rw [stars_all g5]
              have l4 := dec1 g4
              have : decide ((e :: es).length + ([] : List Keyword).length + (if ([] : List Keyword).isEmpty then 0 else 1) < 30) = true := decide_eq_true (by
                show (e :: es).length + 0 + 0 < 30
                omega)
              rw [this]
              rfl
            · refine tE_in r hh w (fun _ _ z => z) fun d1 M1 v1 H1 ⟨ok, w1⟩ r1 h1 k1 => ⟨mtOk_ty h1 r1 ok, ?_⟩
              refine tEs_in (r.keep k1) h1 w1 (xw_id k1) fun ds M2 vs H2 w2 r2 h2 k2 => ?_
              exact ⟨S, M2, d1, ds, _, r1.keep k2, r2, h2, w2, fun d M' z H' q rz hz kz => q z H' rz hz ((k1.trans k2).trans kz)⟩
      | _ => exact bad (by cases es <;> first | exact h | (cases ks <;> exact h))
    | _ => exact bad h
  | .fld a f, X, nm, top, W, x, gd, h => by
    cases x with
    | Attribute l y p =>
      obtain ⟨h1, t1⟩ := and2 (show (decide (f = y) && (decide (f ∈ Tb.flds) && (noCall0 l && ckE Tb N nm top a l))) = true from h)
      obtain ⟨h2, t2⟩ := and2 t1
      obtain ⟨h3, h4⟩ := and2 t2
      obtain rfl := dec1 h1
      refine PE.weak (pe_fld (sE a gd h4) (attr_base h3 _ _)) fun σ H Q ⟨S, ρ, M, r, hh, w⟩ => ?_
      refine tE_in r hh w (fun _ _ z => z) fun d1 M1 v1 H1 ⟨p, c, fs, d, e1, e2, e3, q⟩ r1 h1' k1 => ?_
      subst e1
      cases r1
      obtain ⟨ok, dx, gs, eh, pr⟩ := h1' p _ e2
      obtain ⟨v, ev, rv⟩ := RelF.get pr e3
      obtain ⟨cc, no⟩ := gd.env.cl c ok
      exact ⟨p, cls c, dx, gs, v, rfl, eh, cc, no f (dec1 h2), ev, q v H1 rv h1' k1⟩
    | _ => exact bad h
  | .why a, X, nm, top, W, x, gd, h => by
    cases x with
    | Call fx es ks pos =>
      cases fx with
      | Name y p =>
        cases es with
        | nil => exact bad h
        | cons le es =>
          cases es with
          | cons _ _ => cases le <;> exact bad h
          | nil =>
            cases ks with
            | cons _ _ => cases le <;> exact bad h
            | nil =>
              cases le with
              | Lambda ps body scope lp =>
                obtain ⟨h1, t3⟩ := and2 (show (top && (Tb.why && (decide (y = ("_law_why" : Str)) && (glB nm y && (lamArgs ps && (LamX.lamSB ⟨.function, nm, false, false, []⟩ scope && ckE Tb N scope.names false a body)))))) = true from h)
                obtain ⟨h2, t4⟩ := and2 t3
                obtain ⟨h3, t5⟩ := and2 t4
                obtain ⟨h4, t6⟩ := and2 t5
                obtain ⟨h5, t7⟩ := and2 t6
                obtain ⟨h6, h7⟩ := and2 t7
                obtain rfl := dec1 h3
                obtain rfl := lamArgs_is h5
                subst h1
                obtain ⟨room, lok⟩ := gd.lam rfl
                obtain ⟨c, P, TB, hcode, hmT, hu⟩ := lok h2
                obtain ⟨T, rows, f, g, C1, C2, C3, fd, wi⟩ := gd.env.why h2
                obtain ⟨pg, bg, sg, fw, FD, Sg, bd, ck, gF, g1, g2, g3, l1, l2⟩ := wi.def_
                obtain ⟨oc, od, dV, kV, doc, pm, an, cdv, ct, osl, rfl, lk, hcd, _, _⟩ := FD.ex
                have L := lamS_nm gd.nm h6
                have gl1 : ∀ {y : Str}, glB sg.names y = true → sg.names.lookup y = some .globalImplicit := fun {y} z => by
                  unfold glB at z
                  split at z
                  · assumption
                  · cases z
                have va : Vis sg "_law_ask" := by
                  rcases Sg.par "_law_ask" List.mem_cons_self with z | z
                  · exact .inl z
                  · exact .inr (.inl z)
                refine PE.weak (LamX.pe_lamcall (T := cls.T) (TT := TTwhy X.K T cls rows C1 C2 C3) (k := lv k + 1) (t := fun E => tE X.K cls G (fun cl d _ H => E cl d H) a) (gl_of gd.nm h4) wi.at_ wi.kp lk hcd bd Sg rfl va
                  (why_gives wi.flds wi.nms l1 l2 (gl1 gF) (by decide +kernel) (gl1 g1) (gl1 g2) (gl1 g3) (by decide +kernel) (by decide +kernel) (by decide +kernel) wi.m1 wi.m2 wi.m3 (fun env => ?_) ck) TB hcode hmT hu room L rfl (fun q cl pm cv ctv => rfl)
                  (fun A outer s H E f c' hr => sE a (lam_good gd L A outer s H E f c' hr) h7) (by decide +kernel) (by decide +kernel) (by decide +kernel)) fun σ H Q w => why_ask wi w
                have := (room.deeper env).dp
                omega
              | _ => exact bad h
      | _ => exact bad (by cases es <;> first | exact h | (rename_i le es; cases es <;> first | exact h | (cases ks <;> first | exact h | (cases le <;> exact h))))
    | _ => exact bad h
  | .mk c as, X, nm, top, W, x, gd, h => by
    cases x with
    | Call fx es ks pos =>
      cases fx with
      | Name y p =>
        cases ks with
        | cons _ _ => exact bad h
        | nil =>
          obtain ⟨h1, t8⟩ := and2 (show (decide (Tb.cls.lookup c = some (y, es.length)) && (glB nm y && (okN y && (noStars es && ((Tb.cop c).full && ckEs Tb N nm top as es))))) = true from h)
          obtain ⟨h2, t9⟩ := and2 t8
          obtain ⟨h3, t10⟩ := and2 t9
          obtain ⟨h4, t11⟩ := and2 t10
          obtain ⟨ho, h5⟩ := and2 t11
          obtain ⟨ok, hm, f, fd, ps, Mk1, hl, bd, F⟩ := gd.env.new c y _ (dec1 h1)
          have bd := bd.full ho
          have fin : ∀ {σ : L2.St} {H : Hp} {Q : VK}, tE X.K cls G W (.mk c as) σ H Q → tEs X.K cls G W as σ H fun vs H1 => ∀ a dx, H1 a = none → H1 dx = none → dx ≠ a → spW X.K cls (es.length + 1) (G.init c) (.ref a :: vs) (upd (upd H1 dx (.own a)) a (.ins (cls c) dx [])) (fun v H2 => v = .non ∧ Q (.ref a) H2) (WE W σ) := by
            rintro σ H Q ⟨S, ρ, M, r, hh, w⟩
            refine tEs_inL r hh w (fun _ _ z => z) fun ds M1 vs H1 ln w1 r1 h1 k1 => ?_
            intro a dx na nd ne
            obtain ⟨h2, k2⟩ := h1.newI ok na nd ne
            refine ⟨by rw [List.length_cons, ← r1.length, ln, ckEs_len as h5], S, .ref a :: ds, _, .cons (.ref a) (r1.keep k2), h2, (G.init c).mono (fun d M' q v H' rv hz kz => ?_) (fun z M' q d H' a b e => q d H' a b ((k1.trans k2).trans e)) (w1 a (h1.none na))⟩
            obtain ⟨rfl, q⟩ := q
            cases rv
            exact ⟨rfl, q _ _ (.ref a) hz ((k1.trans k2).trans kz)⟩
          cases es with
          | nil =>
            refine PE.weak (pe_made0 (E := WE W) Mk1 F gd.room bd (fun σ => passAt gd.tk σ) (gl_of gd.nm h2) hm (okN_of h3).1) fun σ H Q w => ?_
            have z := fin w
            cases as with
            | nil =>
              obtain ⟨S, ρ, M, r, hh, w⟩ := z
              exact w [] H .nil hh Keeps.refl
            | cons _ _ => exact bad h5
          | cons e es => exact PE.weak (pe_made (E := WE W) Mk1 F gd.room bd (fun σ => passAt gd.tk σ) (gl_of gd.nm h2) hm (okN_of h3).1 (sEs as gd h4 h5) h4) fun σ H Q w => fin w
      | _ => exact bad h
    | _ => exact bad h
  | .meth m a as, X, nm, top, W, x, gd, h => by
    cases x with
    | Call fx es ks pos =>
      cases fx with
      | Attribute l y ap =>
        cases ks with
        | cons _ _ => exact bad h
        | nil =>
          obtain ⟨h1, t11⟩ := and2 (show (decide (m = y) && (decide (m ∈ Tb.mths) && (noCall0 l && ((ap.endLine == pos.line) && (decide (es.length < 29) && (noStars es && ((Tb.mop m).full && (ckE Tb N nm top a l && ckEs Tb N nm top as es)))))))) = true from h)
          obtain ⟨h2, t12⟩ := and2 t11
          obtain ⟨h3, t13⟩ := and2 t12
          obtain ⟨h4, t14⟩ := and2 t13
          obtain ⟨h5, t15⟩ := and2 t14
          obtain ⟨h6, t16⟩ := and2 t15
          obtain ⟨hop, t17⟩ := and2 t16
          obtain ⟨h7, h8⟩ := and2 t17
          obtain rfl := dec1 h1
          have fin : ∀ {σ : L2.St} {H : Hp} {Q : VK}, tE X.K cls G W (.meth m a as) σ H Q → tAsk X.prog X.w X.K X.mg X.base (Tb.mop m) (lv k) m (WE W) (tE X.K cls G W a) (tEs X.K cls G W as) σ H Q := by
            rintro σ H Q ⟨S, ρ, M, r, hh, w⟩
            refine tE_in r hh w (fun _ _ z => z) fun d1 M1 v1 H1 ⟨p, c, fs, F, e1, e2, e3, e4, w1⟩ r1 h1 k1 => ?_
            subst e1
            cases r1
            obtain ⟨ok, dx, gs, eh, pr⟩ := h1 p _ e2
            obtain ⟨f, fd, ps, me, len, bd, FO⟩ := gd.env.mt c m F ok e4
            refine ⟨p, cls c, dx, f, gs, fd, ps, _, rfl, eh, RelF.none pr e3, (gd.env.cl c ok).1, me, FO, bd, ?_⟩
            refine tEs_in (r.keep k1) h1 w1 (xw_id k1) fun ds M2 vs H2 w2 r2 h2 k2 => ?_
            have l1 := len _ _ _ _ w2
            refine ⟨by rw [← l1, List.length_cons, List.length_cons, r2.length], S, .ref p :: ds, M2, .cons (.ref p) r2, h2, F.mono (fun d M' q v H' a b c => q v H' a b ((k1.trans k2).trans c)) (fun z M' q d H' a b c => q d H' a b ((k1.trans k2).trans c)) w2⟩
          cases es with
          | nil =>
            refine PE.weak (pe_ask0 (E := WE W) (sE a gd h7) (gd.room.mono (Nat.le_succ _)) (fun σ => passAt gd.tk σ) (attr_base h3 _ _) h4 hop) fun σ H Q w => ?_
            cases as with
            | nil =>
              obtain ⟨S, ρ, M, r, hh, w⟩ := fin w
              refine ⟨S, ρ, M, r, hh, wpE_mono a (fun d M' q v H' a b c => ?_) (fun _ _ z => z) w⟩
              obtain ⟨aa, C, dx, f, fs, fd, ps, sp, e1, e2, e3, e4, e5, e6, e7, z⟩ := q v H' a b c
              obtain ⟨S2, ρ2, M2, r2, hh2, w2⟩ := z
              exact ⟨aa, C, dx, f, fs, fd, ps, sp, e1, e2, e3, e4, e5, e6, e7, w2 [] H' .nil hh2 Keeps.refl⟩
            | cons _ _ => exact bad h8
          | cons e es => exact PE.weak (pe_ask (E := WE W) (sE a gd h7) (gd.room.mono (Nat.le_succ _)) (fun σ => passAt gd.tk σ) (sEs as gd h6 h8) h6 (attr_base h3 _ _) (dec1 h5) h4 hop) fun σ H Q w => fin w
      | _ => exact bad h
    | _ => exact bad h
  | .rev a, X, nm, top, W, x, gd, h => by
    obtain ⟨l, j, p3, p4, p2, pos, rfl, h1⟩ : ∃ l j p3 p4 p2 pos, x = .Subscript l (.Slice none none (some (.UnaryOp .USub (.Constant (.int 1) j p3) p4)) p2) pos ∧ ckE Tb N nm top a l = true := by
      unfold ckE at h
      split at h
      all_goals first | cases h | skip
      all_goals rename_i heq1 heq2
      all_goals first | (cases heq1; done) | skip
      all_goals first | (cases heq2; done) | skip
      cases heq2
      exact ⟨_, _, _, _, _, _, rfl, h⟩
    refine PE.weak (pe_rev (sE a gd h1)) fun σ H Q ⟨S, ρ, M, r, hh, w⟩ => ?_
    refine tE_in r hh w (fun _ _ z => z) fun d1 M1 v1 H1 ⟨ds, e, w1⟩ r1 h1 k1 => ?_
    obtain ⟨pa, xs, rfl, hq, rs⟩ := seqL_rel h1 r1 e
    exact ⟨pa, xs, rfl, hq, fun p n => w1 _ _ (.lst (h1.none n) (h1.noS n) (.inl upd_same) (rs.reverse.keep (Keeps.newH n))) (h1.newH n) (k1.trans (Keeps.newH n))⟩
  | .lrng live a, X, nm, top, W, x, gd, h => by
    obtain ⟨y, q1, z, q2, l, q3, q4, rfl, h⟩ : ∃ y q1 z q2 l q3 q4, x = .Call (.Name y q1) [.Call (.Name z q2) [l] [] q3] [] q4 ∧ (decide (y = ("list" : Str)) && (decide (y ∈ Tb.bis) && (glB nm y && (decide (z = ("range" : Str)) && (decide (z ∈ Tb.bis) && (glB nm z && (notStar l && ckE Tb N nm top a l))))))) = true := by
      unfold ckE at h
      split at h
      all_goals first | cases h | skip
      all_goals rename_i heq1 heq2
      all_goals first | (cases heq1; done) | skip
      all_goals first | (cases heq2; done) | skip
      cases heq2
      exact ⟨_, _, _, _, _, _, _, rfl, h⟩
    obtain ⟨h1, m2⟩ := and2 h
    obtain ⟨h2, m3⟩ := and2 m2
    obtain ⟨h3, m4⟩ := and2 m3
    obtain ⟨h4, m5⟩ := and2 m4
    obtain ⟨h5, m6⟩ := and2 m5
    obtain ⟨h6, m7⟩ := and2 m6
    obtain ⟨h7, h8⟩ := and2 m7
    obtain rfl := dec1 h1
    obtain rfl := dec1 h4
    refine PE.weak (pe_listRg gd.calm (gl_of gd.nm h3) (gd.env.bi _ (dec1 h2)) (prg_1 (gl_of gd.nm h6) (gd.env.bi _ (dec1 h5)) (sE a gd h8) (star_cons h7 [] _)) rfl) fun σ H Q ⟨S, ρ, M, r, hh, w⟩ => ?_
    refine tE_in r hh w (fun _ _ z => z) fun d1 M1 v1 H1 ⟨n, e, b1, b2, w1⟩ r1 h1 k1 => ?_
    subst e
    cases r1
    refine ⟨n, rfl, ⟨by omega, by omega, by omega, by omega, by omega⟩, ?_⟩
    refine Fin.newL (cls := cls) (fun d M' z H' q rz hz kz => q z H' rz hz (k1.trans kz)) h1 ?_ w1
    unfold rgV
    rw [Int.sub_zero]
    exact rel_range _
  | .srtSet live a, X, nm, top, W, x, gd, h => by
    obtain ⟨y, q1, z, q2, l, q3, q4, rfl, h⟩ : ∃ y q1 z q2 l q3 q4, x = .Call (.Name y q1) [.Call (.Name z q2) [l] [] q3] [] q4 ∧ (decide (y = ("sorted" : Str)) && (decide (y ∈ Tb.bis) && (glB nm y && (decide (z = ("set" : Str)) && (decide (z ∈ Tb.bis) && (glB nm z && (notStar l && ckE Tb N nm top a l))))))) = true := by
      unfold ckE at h
      split at h
      all_goals first | cases h | skip
      all_goals rename_i heq1 heq2
      all_goals first | (cases heq1; done) | skip
      all_goals first | (cases heq2; done) | skip
      cases heq1
      cases heq2
      exact ⟨_, _, _, _, _, _, _, rfl, h⟩
    obtain ⟨h1, m2⟩ := and2 h
    obtain ⟨h2, m3⟩ := and2 m2
    obtain ⟨h3, m4⟩ := and2 m3
    obtain ⟨h4, m5⟩ := and2 m4
    obtain ⟨h5, m6⟩ := and2 m5
    obtain ⟨h6, m7⟩ := and2 m6
    obtain ⟨h7, h8⟩ := and2 m7
    obtain rfl := dec1 h1
    obtain rfl := dec1 h4
    refine PE.weak (pe_srtSet gd.calm (gl_of gd.nm h3) (gd.env.bi _ (dec1 h2)) (gl_of gd.nm h6) (gd.env.bi _ (dec1 h5)) (sE a gd h8) (star_cons h7 [] _)) fun σ H Q ⟨S, ρ, M, r, hh, w⟩ => ?_
    refine tE_in r hh w (fun _ _ z => z) fun d1 M1 v1 H1 ⟨ns, e, few, w1⟩ r1 h1 k1 => ?_
    obtain ⟨pa, xs, rfl, hq, rs⟩ := seqL_rel h1 r1 e
    obtain rfl := rel_ints rs
    exact ⟨pa, ns, rfl, hq, few, fun zs p sr mem n => Fin.newL (cls := cls) (fun d M' z H' q rz hz kz => q z H' rz hz (k1.trans kz)) h1 (ints_rel zs) (w1 zs sr mem) p n⟩
  | .lenSet a, X, nm, top, W, x, gd, h => by
    obtain ⟨y, q1, z, q2, l, q3, q4, rfl, h⟩ : ∃ y q1 z q2 l q3 q4, x = .Call (.Name y q1) [.Call (.Name z q2) [l] [] q3] [] q4 ∧ (decide (y = ("len" : Str)) && (decide (y ∈ Tb.bis) && (glB nm y && (decide (z = ("set" : Str)) && (decide (z ∈ Tb.bis) && (glB nm z && (notStar l && ckE Tb N nm top a l))))))) = true := by
      unfold ckE at h
      split at h
      all_goals first | cases h | skip
      all_goals rename_i heq1 heq2
      all_goals first | (cases heq1; done) | skip
      all_goals first | (cases heq2; done) | skip
      cases heq1
      cases heq2
      exact ⟨_, _, _, _, _, _, _, rfl, h⟩
    obtain ⟨h1, m2⟩ := and2 h
    obtain ⟨h2, m3⟩ := and2 m2
    obtain ⟨h3, m4⟩ := and2 m3
    obtain ⟨h4, m5⟩ := and2 m4
    obtain ⟨h5, m6⟩ := and2 m5
    obtain ⟨h6, m7⟩ := and2 m6
    obtain ⟨h7, h8⟩ := and2 m7
    obtain rfl := dec1 h1
    obtain rfl := dec1 h4
    refine PE.weak (pe_lenSt gd.calm (gl_of gd.nm h3) (gd.env.bi _ (dec1 h2)) (gl_of gd.nm h6) (gd.env.bi _ (dec1 h5)) (sE a gd h8) (star_cons h7 [] _)) fun σ H Q ⟨S, ρ, M, r, hh, w⟩ => ?_
    refine tE_in r hh w (fun _ _ z => z) fun d1 M1 v1 H1 ⟨ns, e, few, w1⟩ r1 h1 k1 => ?_
    obtain ⟨pa, xs, rfl, hq, rs⟩ := seqL_rel h1 r1 e
    obtain rfl := rel_ints rs
    exact ⟨pa, ns, rfl, hq, few, fun zs nd mem => w1 zs nd mem _ H1 (.int _) h1 k1⟩
  | .maxO a e0, X, nm, top, W, x, gd, h => by
    cases x with
    | Call fx es ks pos =>
      cases fx with
      | Name y p =>
        cases es with
        | nil => exact bad h
        | cons l es =>
          cases es with
          | cons _ _ => exact bad (by cases ks <;> exact h)
          | nil =>
            cases ks with
            | nil => exact bad h
            | cons kw ks =>
              obtain ⟨kz, kr, kp⟩ := kw
              cases ks with
              | cons _ _ => exact bad (by cases kz <;> exact h)
              | nil =>
                cases kz with
                | none => exact bad h
                | some z =>
                  obtain ⟨h1, t2⟩ := and2 (show (decide (y = ("max" : Str)) && (decide (y ∈ Tb.bis) && (glB nm y && (decide (z = ("default" : Str)) && (notStar l && (ckE Tb N nm top a l && ckE Tb N nm top e0 kr)))))) = true from h)
                  obtain ⟨h2, t3⟩ := and2 t2
                  obtain ⟨h3, t4⟩ := and2 t3
                  obtain ⟨h4, t5⟩ := and2 t4
                  obtain ⟨h5, t6⟩ := and2 t5
                  obtain ⟨h6, h7⟩ := and2 t6
                  obtain rfl := dec1 h1
                  obtain rfl := dec1 h4
                  have hs : noStars [l] = true := by show (notStar l && true) = true; rw [h5]; rfl
                  refine PE.weak (pe_callBK (ks := [("default" : Str)]) (crk_max (cls := cls) gd.calm) (gl_of gd.nm h3) (gd.env.bi _ (dec1 h2)) (boot_bi (.max2)) (pa_cons (sE a gd h6) pa_nil (star_cons h5 [] _)) (pk_cons (sE e0 gd h7) pk_nil) (by decide +kernel) (by decide +kernel) (by rw [star_cons h5 [] X.env]; rfl) (stars_any hs _ _)) fun σ H Q ⟨S, ρ, M, r, hh, w⟩ => ?_
                  refine tE_in r hh w (fun _ _ z => z) fun d1 M1 v1 H1 w1 r1 h1 k1 => ?_
                  refine tE_in (r.keep k1) h1 w1 (xw_id k1) fun d2 M2 v2 H2 w2 r2 h2 k2 => ?_
                  exact ⟨S, M2, _, _, d1, d2, _, rfl, rfl, r1.keep k2, r2, h2, w2, fun d M' z H' q rz hz kz => q z H' rz hz ((k1.trans k2).trans kz)⟩
      | _ => exact bad h
    | _ => exact bad h
  | .mkO true c as e0, X, nm, top, W, x, gd, h => by
    cases x with
    | Call fx es ks pos =>
      cases fx with
      | Name y p =>
        cases ks with
        | nil => exact bad (by cases es <;> exact h)
        | cons kw ks =>
          obtain ⟨kz, kr, kp⟩ := kw
          cases ks with
          | cons _ _ => exact bad (by cases es <;> cases kz <;> exact h)
          | nil =>
            cases kz with
            | none => exact bad (by cases es <;> exact h)
            | some z =>
              cases es with
              | nil => exact bad h
              | cons e es =>
                obtain ⟨h1, t8⟩ := and2 (show (decide (Tb.cls.lookup c = some (y, (e :: es).length + 1)) && (glB nm y && (okN y && (noStars (e :: es) && ((Tb.cop c).named z && (ckEs Tb N nm top as (e :: es) && ckE Tb N nm top e0 kr)))))) = true from h)
                obtain ⟨h2, t9⟩ := and2 t8
                obtain ⟨h3, t10⟩ := and2 t9
                obtain ⟨h4, t11⟩ := and2 t10
                obtain ⟨ho, t12⟩ := and2 t11
                obtain ⟨h5, h6⟩ := and2 t12
                obtain ⟨ok, hm, f, fd, ps, Mk1, hl, bd, F⟩ := gd.env.new c y _ (dec1 h1)
                refine PE.weak (pe_madeK (E := WE W) Mk1 F gd.room (bd.named ho) (fun σ => passAt gd.tk σ) (gl_of gd.nm h2) hm (okN_of h3).1 (sEs as gd h4 h5) (sE e0 gd h6) h4) fun σ H Q w => ?_
                obtain ⟨S, ρ, M, r, hh, w⟩ := w
                refine tEs_inL r hh w (fun _ _ z => z) fun ds M1 vs H1 ln w1 r1 h1 k1 => ?_
                refine tE_in (r.keep k1) h1 w1 (xw_id k1) fun d M2 v H2 w2 rv h2 k2 => ⟨rfl, fun a dx na nd ne => ?_⟩
                obtain ⟨h3, k3⟩ := h2.newI ok na nd ne
                have rds := (r1.keep k2).append (.cons rv .nil)
                have k4 := (k1.trans k2).trans k3
                refine ⟨by rw [List.length_cons, ← rds.length, List.length_append, ln, ckEs_len as h5]; rfl, S, .ref a :: (ds ++ [d]), _, .cons (.ref a) (rds.keep k3), h3, (G.init c).mono (fun d M' q v H' rv hz kz => ?_) (fun z M' q d H' a b e => q d H' a b (k4.trans e)) (w2 a (h2.none na))⟩
                obtain ⟨rfl, q⟩ := q
                cases rv
                exact ⟨rfl, q _ _ (.ref a) hz (k4.trans kz)⟩
      | _ => exact bad h
    | _ => exact bad h
  | .mkO false c as e0, X, nm, top, W, x, gd, h => by
    cases x with
    | Call fx es ks pos =>
      cases fx with
      | Name y p =>
        cases ks with
        | cons _ _ => exact bad h
        | nil =>
          obtain ⟨h1, t8⟩ := and2 (show (decide (Tb.cls.lookup c = some (y, es.length + 1)) && (glB nm y && (okN y && (noStars es && ((Tb.cop c).left e0 && ckEs Tb N nm top as es))))) = true from h)
          obtain ⟨h2, t9⟩ := and2 t8
          obtain ⟨h3, t10⟩ := and2 t9
          obtain ⟨h4, t11⟩ := and2 t10
          obtain ⟨ho, h5⟩ := and2 t11
          obtain ⟨ok, hm, f, fd, ps, Mk1, hl, bd, F⟩ := gd.env.new c y _ (dec1 h1)
          obtain ⟨cs, ld, hc⟩ := bd.left ho
          have fin : ∀ {σ : L2.St} {H : Hp} {Q : VK}, tE X.K cls G W (.mkO false c as e0) σ H Q → tEs X.K cls G W as σ H fun vs H1 => ∀ a dx, H1 a = none → H1 dx = none → dx ≠ a → spW X.K cls (es.length + 1 + 1) (G.init c) (.ref a :: (vs ++ [cs.v])) (upd (upd H1 dx (.own a)) a (.ins (cls c) dx [])) (fun v H2 => v = .non ∧ Q (.ref a) H2) (WE W σ) := by
            rintro σ H Q ⟨S, ρ, M, r, hh, w⟩
            refine tEs_inL r hh w (fun _ _ z => z) fun ds M1 vs H1 ln w1 r1 h1 k1 => ?_
            intro a dx na nd ne
            have w2 := left_wp hc w1
            obtain ⟨h2, k2⟩ := h1.newI ok na nd ne
            have rds := r1.append (.cons (Cst.rel cs) .nil)
            refine ⟨by rw [List.length_cons, ← rds.length, List.length_append, ln, ckEs_len as h5]; rfl, S, .ref a :: (ds ++ [cs.d]), _, .cons (.ref a) (rds.keep k2), h2, (G.init c).mono (fun d M' q v H' rv hz kz => ?_) (fun z M' q d H' a b e => q d H' a b ((k1.trans k2).trans e)) (w2 a (h1.none na))⟩
            obtain ⟨rfl, q⟩ := q
            cases rv
            exact ⟨rfl, q _ _ (.ref a) hz ((k1.trans k2).trans kz)⟩
          cases es with
          | nil =>
            refine PE.weak (pe_madeL0 (E := WE W) Mk1 F gd.room ld (fun σ => passAt gd.tk σ) (gl_of gd.nm h2) hm (okN_of h3).1) fun σ H Q w => ?_
            have z := fin w
            cases as with
            | nil =>
              obtain ⟨S, ρ, M, r, hh, w⟩ := z
              exact w [] H .nil hh Keeps.refl
            | cons _ _ => exact bad h5
          | cons e es => exact PE.weak (pe_madeL (E := WE W) Mk1 F gd.room ld (fun σ => passAt gd.tk σ) (gl_of gd.nm h2) hm (okN_of h3).1 (sEs as gd h4 h5) h4) fun σ H Q w => fin w
      | _ => exact bad h
    | _ => exact bad h
  | .methO true m a as e0, X, nm, top, W, x, gd, h => by
    cases x with
    | Call fx es ks pos =>
      cases fx with
      | Attribute l y ap =>
        cases es with
        | nil => exact bad h
        | cons e es =>
          cases ks with
          | nil => exact bad h
          | cons kw ks =>
            obtain ⟨kz, kr, kp⟩ := kw
            cases ks with
            | cons _ _ => cases kz <;> exact bad h
            | nil =>
              cases kz with
              | none => exact bad h
              | some z =>
                obtain ⟨h1, t11⟩ := and2 (show (decide (m = y) && (decide (m ∈ Tb.mths) && (noCall0 l && ((ap.endLine == pos.line) && (decide (es.length < 26) && (noStars (e :: es) && ((Tb.mop m).named z && (ckE Tb N nm top a l && (ckEs Tb N nm top as (e :: es) && ckE Tb N nm top e0 kr))))))))) = true from h)
                obtain ⟨h2, t12⟩ := and2 t11
                obtain ⟨h3, t13⟩ := and2 t12
                obtain ⟨h4, t14⟩ := and2 t13
                obtain ⟨h5, t15⟩ := and2 t14
                obtain ⟨h6, t16⟩ := and2 t15
                obtain ⟨hop, t17⟩ := and2 t16
                obtain ⟨h7, t18⟩ := and2 t17
                obtain ⟨h8, h9⟩ := and2 t18
                obtain rfl := dec1 h1
                have l5 := dec1 h5
                refine PE.weak (pe_askK (E := WE W) (op := Tb.mop m) (sE a gd h7) (gd.room.mono (Nat.le_succ _)) (fun σ => passAt gd.tk σ) (sEs as gd h6 h8) (sE e0 gd h9) h6 (attr_base h3 _ _) (by rw [List.length_cons]; omega) h4 hop) fun σ H Q w => ?_
                obtain ⟨S, ρ, M, r, hh, w⟩ := w
                refine tE_in r hh w (fun _ _ z => z) fun d1 M1 v1 H1 ⟨p, c, fs, F, e1, e2, e3, e4, w1⟩ r1 h1 k1 => ?_
                subst e1
                cases r1
                obtain ⟨ok, dx, gs, eh, pr⟩ := h1 p _ e2
                obtain ⟨f, fd, ps, me, len, bd, FO⟩ := gd.env.mt c m F ok e4
                refine ⟨p, cls c, dx, f, gs, fd, ps, _, rfl, eh, RelF.none pr e3, (gd.env.cl c ok).1, me, FO, bd, ?_⟩
                refine tEs_in (r.keep k1) h1 w1 (xw_id k1) fun ds M2 vs H2 w2 r2 h2 k2 => ?_
                refine tE_in ((r.keep k1).keep k2) h2 w2 (xw_id (k1.trans k2)) fun d M3 v H3 w3 rv h3 k3 => ⟨rfl, ?_⟩
                have l1 := len _ _ _ _ w3
                have rds := (r2.keep k3).append (.cons rv .nil)
                have k4 := (k1.trans k2).trans k3
                refine ⟨by rw [← l1, List.length_cons, List.length_cons, rds.length], S, .ref p :: (ds ++ [d]), M3, .cons (.ref p) rds, h3, F.mono (fun d M' q v H' a b c => q v H' a b (k4.trans c)) (fun z M' q d H' a b c => q d H' a b (k4.trans c)) w3⟩
      | _ => exact bad h
    | _ => exact bad h
  | .methO false m a as e0, X, nm, top, W, x, gd, h => by
    cases x with
    | Call fx es ks pos =>
      cases fx with
      | Attribute l y ap =>
        cases es with
        | nil => exact bad h
        | cons e es =>
          cases ks with
          | cons _ _ => exact bad h
          | nil =>
            obtain ⟨h1, t11⟩ := and2 (show (decide (m = y) && (decide (m ∈ Tb.mths) && (noCall0 l && ((ap.endLine == pos.line) && (decide (es.length < 26) && (noStars (e :: es) && ((Tb.mop m).left e0 && (ckE Tb N nm top a l && ckEs Tb N nm top as (e :: es))))))))) = true from h)
            obtain ⟨h2, t12⟩ := and2 t11
            obtain ⟨h3, t13⟩ := and2 t12
            obtain ⟨h4, t14⟩ := and2 t13
            obtain ⟨h5, t15⟩ := and2 t14
            obtain ⟨h6, t16⟩ := and2 t15
            obtain ⟨hop, t17⟩ := and2 t16
            obtain ⟨h7, h8⟩ := and2 t17
            obtain rfl := dec1 h1
            have l5 := dec1 h5
            obtain ⟨cs, hcs, hc⟩ := left_c hop
            refine PE.weak (pe_askL (E := WE W) (op := Tb.mop m) (v := cs.v) (sE a gd h7) (gd.room.mono (Nat.le_succ _)) (fun σ => passAt gd.tk σ) (sEs as gd h6 h8) h6 (attr_base h3 _ _) (by rw [List.length_cons]; omega) h4 (fun fd ps b => ⟨cs, hcs b, rfl⟩)) fun σ H Q w => ?_
            obtain ⟨S, ρ, M, r, hh, w⟩ := w
            refine tE_in r hh w (fun _ _ z => z) fun d1 M1 v1 H1 ⟨p, c, fs, F, e1, e2, e3, e4, w1⟩ r1 h1 k1 => ?_
            subst e1
            cases r1
            obtain ⟨ok, dx, gs, eh, pr⟩ := h1 p _ e2
            obtain ⟨f, fd, ps, me, len, bd, FO⟩ := gd.env.mt c m F ok e4
            refine ⟨p, cls c, dx, f, gs, fd, ps, _, rfl, eh, RelF.none pr e3, (gd.env.cl c ok).1, me, FO, bd, ?_⟩
            refine tEs_in (r.keep k1) h1 w1 (xw_id k1) fun ds M2 vs H2 w2 r2 h2 k2 => ?_
            have w3 := left_wp hc w2
            have l1 := len _ _ _ _ w3
            have rds := r2.append (.cons (Cst.rel cs) .nil)
            have k4 := k1.trans k2
            refine ⟨by rw [← l1, List.length_cons, List.length_cons, rds.length], S, .ref p :: (ds ++ [cs.d]), M2, .cons (.ref p) rds, h2, F.mono (fun d M' q v H' a b c => q v H' a b (k4.trans c)) (fun z M' q d H' a b c => q d H' a b (k4.trans c)) w3⟩
      | _ => exact bad h
    | _ => exact bad h
  | .isi a ts tup, X, nm, top, W, x, gd, h => by
    cases x with
    | Call fx es ks pos =>
      cases fx with
      | Name y p =>
        cases es with
        | nil => exact bad h
        | cons l es =>
          cases es with
          | nil => exact bad h
          | cons c es =>
            cases es with
            | cons _ _ => exact bad h
            | nil =>
              cases ks with
              | cons _ _ => exact bad h
              | nil =>
                obtain ⟨h0, h1⟩ := and2 (show (isiC Tb nm ts tup c && (decide (y = ("isinstance" : Str)) && (decide (y ∈ Tb.bis) && (glB nm y && (notStar l && (notStar c && ckE Tb N nm top a l)))))) = true from h)
                obtain ⟨f1, h2⟩ := and2 h1
                obtain ⟨f2, h3⟩ := and2 h2
                obtain ⟨f3, h4⟩ := and2 h3
                obtain ⟨f4, h5⟩ := and2 h4
                obtain ⟨f5, f6⟩ := and2 h5
                obtain ⟨n, z, pz, rfl, rfl, rfl, e0⟩ : ∃ n z pz, ts = [.ty n] ∧ tup = false ∧ c = .Name z pz ∧ (decide (z = Str.ofString n) && (decide (bootBuiltins z = some (.type n)) && (decide (z ∈ Tb.bis) && (glB nm z && okN z)))) = true := by
                  unfold isiC at h0
                  split at h0
                  · exact ⟨_, _, _, rfl, rfl, rfl, h0⟩
                  · exact bad h0
                · obtain ⟨g1, m2⟩ := and2 e0
                  obtain ⟨g2, m3⟩ := and2 m2
                  obtain ⟨g3, m4⟩ := and2 m3
                  obtain ⟨g4, g5⟩ := and2 m4
                  obtain ⟨o1, _, o3⟩ := okN_of g5
                  obtain rfl := dec1 f1
                  have pc : PE X (.Name z pz) (tC (.ty n)) := pe_bltn (gl_of gd.nm g4) (gd.env.bi _ (dec1 g3)) (dec1 g2) rfl o3 o1
                  have pa := pa_cons (sE a gd f6) (pa_cons pc pa_nil (star_cons f5 [] _)) (star_cons f4 _ _)
                  refine PE.weak (pe_callB call_isi (gl_of gd.nm f3) (gd.env.bi _ (dec1 f2)) (by decide +kernel) pa (by decide) (by decide) (star_cons f4 _ _) (by rw [star_cons f5]; rfl)) fun σ H Q ⟨S, ρ, M, r, hh, w⟩ => ?_
                  refine tE_in r hh w (fun _ _ z => z) fun d1 M1 v1 H1 ⟨kk, e, w1⟩ r1 h1 k1 => ?_
                  have e' : (match tyD M1 d1 with
                    | some t => (match kitB t n with
                      | some true => some true
                      | some false => some false
                      | none => none)
                    | none => none) = some kk := e
                  cases ht : tyD M1 d1 with
                  | none => rw [ht] at e'; cases e'
                  | some t =>
                    rw [ht] at e'
                    cases hk : kitB t n with
                    | none => simp only [hk] at e'; cases e'
                    | some b =>
                      have eb : kk = b := by
                        simp only [hk] at e'
                        cases b <;> exact (Option.some.inj e').symm
                      subst eb
                      exact ⟨v1, .ty n, .type t, .type n, kk, rfl, .ty n, tyD_ok h1 r1 ht, kit_ty hk, w1 _ H1 (.bl kk) h1 k1⟩
      | _ => exact bad (by cases es <;> exact h)
    | _ => exact bad h
  | .lc live own t it cs e, X, nm, top, W, x, gd, h => by
    cases x with
    | ListComp elt gens scope pos =>
      cases gens with
      | nil => exact bad h
      | cons c gens =>
        cases gens with
        | cons _ _ => exact bad h
        | nil =>
          obtain ⟨tg, iter, ifs, asy⟩ := c
          obtain ⟨h1, h2⟩ := and2 (show (decide (asy = 0) && (decide (ifs.length ≤ 1) && (blkC N ⟨.function, nm, false, false, []⟩ scope own && (notSet iter && (ckI Tb N nm top tg it iter && (ckG Tb N (ownN scope) false t tg && (tgOwn (own.map (·.2)) t && (ckTs Tb N (relN nm scope) false cs ifs && ckE Tb N (relN nm scope) false e elt)))))))) = true from h)
          obtain ⟨h2, h3⟩ := and2 h2
          obtain ⟨h3, h4⟩ := and2 h3
          obtain ⟨h4, h5⟩ := and2 h4
          obtain ⟨h5, h6⟩ := and2 h5
          obtain ⟨h6, h7⟩ := and2 h6
          obtain ⟨h7, h8⟩ := and2 h7
          obtain ⟨h8, h9⟩ := and2 h8
          obtain rfl := dec1 h1
          have ok0 := blkOk_by h3
          have ok : BlkOk X.N X.env.scope scope own := by
            rw [gd.hN]
            exact ⟨ok0.kind, ok0.uniq, ok0.ix, fun y a b => by rw [gd.nm]; exact ok0.free y a b, ok0.own⟩
          refine PE.weak (pe_lc gd.calm (by rw [gd.hN]; exact gd.nd) (sI it gd h5) ok (fun s H C cl fp => sGo t (blk_good gd ok0.kind s H C cl fp) (blk_own gd ok0.kind s H C cl fp) h7 h6) (fun s H C cl fp => sTt cs (blk_good gd ok0.kind s H C cl fp) (dec1 h2) h8)
            (fun s H C cl fp => sE e (blk_good gd ok0.kind s H C cl fp) h9) (set_plain h4 _)) lc_weak
    | _ => exact bad h
  | .slT a lo hi, X, nm, top, W, x, gd, h => by
    cases x with
    | Subscript l rr pos =>
      cases rr with
      | Slice u v st p2 =>
        cases st with
        | some _ => exact bad h
        | none =>
          obtain ⟨h1, h2⟩ := and2 (show (ckE Tb N nm top a l && (ckO Tb N nm top lo u && ckO Tb N nm top hi v)) = true from h)
          obtain ⟨h2, h3⟩ := and2 h2
          refine PE.weak (pe_slice sl_tup (sE a gd h1) (sO lo gd h2) (sO hi gd h3)) fun σ H Q ⟨S, ρ, M, r, hh, w⟩ => ?_
          refine tE_in r hh w (fun _ _ z => z) fun d1 M1 v1 H1 w1 r1 h1 k1 => ?_
          refine tO_in (r.keep k1) h1 w1 (xw_id k1) fun o1 M2 H2 w2 h2 k2 => ?_
          refine tO_in ((r.keep k1).keep k2) h2 w2 (xw_id (k1.trans k2)) fun o2 M3 H3 ⟨ds, e, cn, w3⟩ h3 k3 => ?_
          subst e
          obtain ⟨pa, xs, rfl, hq, rs⟩ := ((r1.keep k2).keep k3).ofTup
          refine ⟨pa, xs, rfl, hq, by rw [← rs.length]; exact cn, fun p n => ?_⟩
          exact w3 _ _ (.tup (.inl (.inl upd_same)) ((cut_rel rs o1 o2).keep (Keeps.newH n))) (h3.newH n) ((((k1.trans k2).trans k3).trans (Keeps.newH n)))
      | _ => exact bad h
    | _ => exact bad h
  | .lock a, X, nm, top, W, x, gd, h => by
    refine PE.weak (pe_lock (sE a gd (show ckE Tb N nm top a x = true by cases x <;> exact h))) fun σ H Q ⟨S, ρ, M, r, hh, p, kvs, em, w⟩ => ?_
    obtain ⟨ks, e1, pr⟩ := hh p _ em
    refine ⟨p, .dK ks, e1, True.intro, fun od => ?_⟩
    obtain ⟨h1, k1⟩ := lock_in (od := od) hh em e1 pr
    refine ⟨S, ρ, _, r.keep k1, h1, wpE_mono a (fun d M' z v H' a b c => ?_) (xw_id k1) (w (.frz od (.dK ks)))⟩
    obtain ⟨g1, g2, g3⟩ := lock_out b z.1
    exact ⟨g1, z.2 v _ (a.keep g3) g2 ((k1.trans c).trans g3)⟩
  | .sit live a, X, nm, top, W, x, gd, h => by
    obtain ⟨y, q1, l, z, ap, cp, q2, rfl, h⟩ : ∃ y q1 l z ap cp q2, x = .Call (.Name y q1) [.Call (.Attribute l z ap) [] [] cp] [] q2 ∧ (decide (y = ("sorted" : Str)) && (decide (y ∈ Tb.bis) && (glB nm y && (decide (z = ("items" : Str)) && (noCall0 l && ((ap.endLine == cp.line) && ckE Tb N nm top a l)))))) = true := by
      unfold ckE at h
      split at h
      all_goals first | cases h | skip
      all_goals rename_i heq1 heq2
      all_goals first | (cases heq1; done) | skip
      all_goals first | (cases heq2; done) | skip
      cases heq1
      cases heq2
      exact ⟨_, _, _, _, _, _, _, rfl, h⟩
    obtain ⟨h1, m2⟩ := and2 h
    obtain ⟨h2, m3⟩ := and2 m2
    obtain ⟨h3, m4⟩ := and2 m3
    obtain ⟨h4, m5⟩ := and2 m4
    obtain ⟨h5, m6⟩ := and2 m5
    obtain ⟨h6, h7⟩ := and2 m6
    obtain rfl := dec1 h1
    obtain rfl := dec1 h4
    refine PE.weak (pe_sit gd.calm gd.room.units (gl_of gd.nm h3) (gd.env.bi _ (dec1 h2)) (sE a gd h7) (attr_base h5 _ _) h6) fun σ H Q ⟨S, ρ, M, r, hh, w⟩ => ?_
    refine tE_in r hh w (fun _ _ z => z) fun d1 M1 v1 H1 ⟨p, kvs, e1, e2, e3, e4, e5, e6, w1⟩ r1 h1 k1 => ?_
    subst e1
    cases r1
    obtain ⟨ks, g1, g2⟩ := h1 p _ e2
    refine ⟨p, ks, rfl, g1, fun v nv => ?_⟩
    have k2 : Keeps X.K M1 H1 M1 (upd H1 v (L2.DX.itemsO v p)) := Keeps.newH nv
    have h2 := h1.newH (u := L2.DX.itemsO v p) nv
    refine ⟨v, p, kvs, ks, S, M1, rfl, upd_same, (upd_ne (ne_of_none g1 nv)).trans g1, Paired.mapP g2 fun _ _ z => ⟨z.1, z.2.keep k2⟩, e3, e4, e5, e6, fun H2 ys u kp nu rs => ?_⟩
    have k3 : Keeps X.K M1 (upd H1 v (L2.DX.itemsO v p)) M1 H2 := Keeps.extN fun b o q _ => kp b o q
    have h3 : Hold X.K S cls M1 H2 := h2.extN (fun b o q _ => kp b o q) (h2.tab.ext kp)
    exact Fin.newL (cls := cls) (fun d M' z H' q rz hz kz => q z H' rz hz (((k1.trans k2).trans k3).trans kz)) h3 rs w1 u nu
  | .dc own t it cs ke ve, X, nm, top, W, x, gd, h => by
    cases x with
    | DictComp kx vx gens scope pos =>
      cases gens with
      | nil => exact bad h
      | cons c gens =>
        cases gens with
        | cons _ _ => exact bad h
        | nil =>
          obtain ⟨tg, iter, ifs, asy⟩ := c
          obtain ⟨h1, h2⟩ := and2 (show (decide (asy = 0) && (decide (ifs.length ≤ 1) && (blkC N ⟨.function, nm, false, false, []⟩ scope own && (notSet iter && (ckI Tb N nm top tg it iter && (ckG Tb N (ownN scope) false t tg && (tgOwn (own.map (·.2)) t && (ckTs Tb N (relN nm scope) false cs ifs && (ckE Tb N (relN nm scope) false ke kx && ckE Tb N (relN nm scope) false ve vx))))))))) = true from h)
          obtain ⟨h2, h3⟩ := and2 h2
          obtain ⟨h3, h4⟩ := and2 h3
          obtain ⟨h4, h5⟩ := and2 h4
          obtain ⟨h5, h6⟩ := and2 h5
          obtain ⟨h6, h7⟩ := and2 h6
          obtain ⟨h7, h8⟩ := and2 h7
          obtain ⟨h8, h9⟩ := and2 h8
          obtain ⟨h9, h10⟩ := and2 h9
          obtain rfl := dec1 h1
          have ok0 := blkOk_by h3
          have ok : BlkOk X.N X.env.scope scope own := by
            rw [gd.hN]
            exact ⟨ok0.kind, ok0.uniq, ok0.ix, fun y a b => by rw [gd.nm]; exact ok0.free y a b, ok0.own⟩
          refine PE.weak (pe_dc gd.calm (by rw [gd.hN]; exact gd.nd) (sI it gd h5) ok (fun s H C cl fp => sGo t (blk_good gd ok0.kind s H C cl fp) (blk_own gd ok0.kind s H C cl fp) h7 h6) (fun s H C cl fp => sTt cs (blk_good gd ok0.kind s H C cl fp) (dec1 h2) h8)
            (fun s H C cl fp => sE ke (blk_good gd ok0.kind s H C cl fp) h9) (fun s H C cl fp => sE ve (blk_good gd ok0.kind s H C cl fp) h10) (set_plain h4 _)) dc_weak
    | _ => exact bad h
  | .frz a, X, nm, top, W, x, gd, h => by
    refine PE.weak (sE a gd (show ckE Tb N nm top a x = true by cases x <;> exact h)) fun σ H Q ⟨S, ρ, M, r, hh, w⟩ => ?_
    refine tE_in r hh w (fun _ _ z => z) fun d M1 v H1 w1 r1 h1 k1 => ?_
    cases d with
    | ref p =>
      cases r1
      cases em : M1 p with
      | none =>
        simp only [em] at w1
        exact w1 _ H1 (.ref p) h1 k1
      | some o =>
        cases o with
        | lst ds =>
          simp only [em] at w1
          exact w1 _ H1 (relD_freeze h1 em) h1.freeze (k1.trans Keeps.freeze)
        | _ =>
          simp only [em] at w1
          exact w1 _ H1 (.ref p) h1 k1
    | _ => exact w1 _ H1 r1 h1 k1
theorem sEs : ∀ (es : Es) {X : Cx} {nm : List (Str × NameKind)} {top : Bool} {W : WX} {xs : List Expr}, Good X cls k Tb G N nm top W → noStars xs = true → ckEs Tb N nm top es xs = true → PA X xs (tEs X.K cls G W es)
  | .nil, X, nm, top, W, xs, gd, hs, h => by
    cases xs with
    | nil => exact PA.weak pa_nil fun σ H Q ⟨S, ρ, M, r, hh, w⟩ => w _ H .nil hh Keeps.refl
    | cons _ _ => exact bad h
  | .cons e es, X, nm, top, W, xs, gd, hs, h => by
    cases xs with
    | nil => exact bad h
    | cons y ys =>
      obtain ⟨h1, h2⟩ := and2 (show (ckE Tb N nm top e y && ckEs Tb N nm top es ys) = true from h)
      obtain ⟨n1, n2⟩ := and2 (show (notStar y && noStars ys) = true from hs)
      refine PA.weak (pa_cons (sE e gd h1) (sEs es gd n2 h2) (star_cons n1 ys _)) fun σ H Q ⟨S, ρ, M, r, hh, w⟩ => ?_
      refine tE_in r hh w (fun _ _ z => z) fun d1 M1 v1 H1 w1 r1 h1 k1 => ?_
      refine tEs_in (r.keep k1) h1 w1 (xw_id k1) fun ds M2 vs H2 w2 r2 h2 k2 => ?_
      exact w2 _ H2 (.cons (r1.keep k2) r2) h2 (k1.trans k2)
theorem sO : ∀ (eo : EO) {X : Cx} {nm : List (Str × NameKind)} {top : Bool} {W : WX} {x : Option Expr}, Good X cls k Tb G N nm top W → ckO Tb N nm top eo x = true → PO X x (tO X.K cls G W eo)
  | .none, X, nm, top, W, x, gd, h => by
    cases x with
    | none => exact PO.weak po_none fun σ H Q ⟨S, ρ, M, r, hh, w⟩ => w H hh Keeps.refl
    | some _ => exact bad h
  | .some e, X, nm, top, W, x, gd, h => by
    cases x with
    | none => exact bad h
    | some y =>
      refine PO.weak (po_some (sE e gd h)) fun σ H Q ⟨S, ρ, M, r, hh, w⟩ => ?_
      refine tE_in r hh w (fun _ _ z => z) fun d1 M1 v1 H1 ⟨i, e, w1⟩ r1 h1 k1 => ?_
      subst e
      cases r1
      exact ⟨i, rfl, w1 H1 h1 k1⟩
theorem sB : ∀ (es : Es) (kk : Bool) {X : Cx} {nm : List (Str × NameKind)} {top : Bool} {W : WX} {xs : List Expr} {pos : Pos}, Good X cls k Tb G N nm top W → ckEs Tb N nm top es xs = true →
    PE X (.BoolOp (if kk = true then BoolOp.And else BoolOp.Or) xs pos) (tBo X.K cls G W kk es)
  | .nil, kk, X, nm, top, W, xs, pos, gd, h => ⟨fun pins s σ H Q I ⟨S, ρ, M, r, hh, w⟩ => False.elim w⟩
  | .cons e .nil, kk, X, nm, top, W, xs, pos, gd, h => by
    cases xs with
    | nil => exact bad h
    | cons y ys =>
      obtain ⟨h1, h2⟩ := and2 (show (ckE Tb N nm top e y && ckEs Tb N nm top .nil ys) = true from h)
      cases ys with
      | cons _ _ => exact bad h2
      | nil => exact PE.weak (pe_one (sE e gd h1)) fun σ H Q ⟨S, ρ, M, r, hh, w⟩ => ⟨S, ρ, M, r, hh, w⟩
  | .cons e (.cons e2 es), kk, X, nm, top, W, xs, pos, gd, h => by
    cases xs with
    | nil => exact bad h
    | cons y ys =>
      obtain ⟨h1, h2⟩ := and2 (show (ckE Tb N nm top e y && ckEs Tb N nm top (.cons e2 es) ys) = true from h)
      cases ys with
      | nil => exact bad h2
      | cons y2 ys =>
        refine PE.weak (pe_andB kk (sE e gd h1) (sB (.cons e2 es) kk gd h2)) fun σ H Q ⟨S, ρ, M, r, hh, w⟩ => ?_
        refine tE_in r hh w (fun _ _ z => z) fun d1 M1 v1 H1 ⟨b, e, w1⟩ r1 h1 k1 => ?_
        subst e
        cases r1
        refine ⟨b, rfl, ?_⟩
        by_cases hb : b = kk
        · rw [if_pos hb] at w1 ⊢
          exact tBo_in (r.keep k1) h1 w1 (xw_id k1) fun d M2 v H2 w2 r2 h2 k2 => w2 v H2 r2 h2 (k1.trans k2)
        · rw [if_neg hb] at w1 ⊢
          exact w1 _ H1 (.bl b) h1 k1
theorem sT : ∀ (t : T) {X : Cx} {nm : List (Str × NameKind)} {top : Bool} {W : WX} {x : Expr}, Good X cls k Tb G N nm top W → ckT Tb N nm top t x = true → PT X x (tT X.K cls G W t)
  | .val a, X, nm, top, W, x, gd, h => by
    obtain ⟨h1, h2⟩ := and2 (show (plainT x && ckE Tb N nm top a x) = true by cases x <;> exact h)
    refine PT.weak (pt_truth (sE a gd h2) (true_plain h1 _)) fun σ H Q ⟨S, ρ, M, r, hh, w⟩ => ?_
    exact tE_in r hh w (fun _ _ z => z) fun d1 M1 v1 H1 ⟨b, e, w1⟩ r1 h1 k1 => ⟨b, tru_D h1 r1 e, w1 H1 h1 k1⟩
  | .cmp o a b, X, nm, top, W, x, gd, h => by
    cases x with
    | Compare l ps rs pos =>
      cases ps with
      | nil => exact bad h
      | cons p ps =>
        cases ps with
        | cons _ _ => exact bad h
        | nil =>
          cases rs with
          | nil => exact bad h
          | cons rr rs =>
            cases rs with
            | cons _ _ => exact bad h
            | nil =>
              obtain ⟨h1, h2⟩ := and2 (show (decide (copOf o = p) && (notSet rr && (ckE Tb N nm top a l && ckE Tb N nm top b rr))) = true from h)
              obtain ⟨h2, h3⟩ := and2 h2
              obtain ⟨h3, h4⟩ := and2 h3
              obtain rfl := dec1 h1
              refine PT.weak (pt_cmpR (opr_cmp (cls := cls) (room70 gd.room) o) (sE a gd h3) (sE b gd h4) (mark_plain h2 _)) fun σ H Q ⟨S, ρ, M, r, hh, w⟩ => ?_
              refine tE_in r hh w (fun _ _ z => z) fun d1 M1 v1 H1 w1 r1 h1 k1 => ?_
              refine tE_in (r.keep k1) h1 w1 (xw_id k1) fun d2 M2 v2 H2 ⟨kk, e, w2⟩ r2 h2 k2 => ?_
              exact ⟨S, M2, d1, d2, kk, r1.keep k2, r2, h2, e, kk, rfl, w2 H2 h2 (k1.trans k2)⟩
    | _ => exact bad h
  | .cmp2 o o2 a b c, X, nm, top, W, x, gd, h => by
    cases x with
    | Compare l ps rs pos =>
      cases ps with
      | nil => exact bad h
      | cons p ps =>
        cases ps with
        | nil => exact bad h
        | cons p2 ps =>
          cases ps with
          | cons _ _ => exact bad h
          | nil =>
            cases rs with
            | nil => exact bad h
            | cons m rs =>
              cases rs with
              | nil => exact bad h
              | cons rr rs =>
                cases rs with
                | cons _ _ => exact bad h
                | nil =>
                  obtain ⟨h1, h2⟩ := and2 (show (decide (copOf o = p) && (decide (copOf o2 = p2) && (notSet m && (notSet rr && (ckE Tb N nm top a l && (ckE Tb N nm top b m && ckE Tb N nm top c rr)))))) = true from h)
                  obtain ⟨h2, h3⟩ := and2 h2
                  obtain ⟨h3, h4⟩ := and2 h3
                  obtain ⟨h4, h5⟩ := and2 h4
                  obtain ⟨h5, h6⟩ := and2 h5
                  obtain ⟨h6, h7⟩ := and2 h6
                  obtain rfl := dec1 h1
                  obtain rfl := dec1 h2
                  refine PT.weak (pt_chain (opr_cmp (cls := cls) (room70 gd.room) o) (opr_cmp (cls := cls) (room70 gd.room) o2) (sE a gd h5) (sE b gd h6) (sE c gd h7) (mark_plain h4 _)) fun σ H Q ⟨S, ρ, M, r, hh, w⟩ => ?_
                  refine tE_in r hh w (fun _ _ z => z) fun d1 M1 v1 H1 w1 r1 h1 k1 => ?_
                  refine tE_in (r.keep k1) h1 w1 (xw_id k1) fun d2 M2 v2 H2 ⟨kk, e, w2⟩ r2 h2 k2 => ?_
                  refine ⟨S, M2, d1, d2, kk, r1.keep k2, r2, h2, e, kk, rfl, ?_⟩
                  cases kk with
                  | true =>
                    rw [if_pos rfl] at w2 ⊢
                    refine tE_in ((r.keep k1).keep k2) h2 w2 (xw_id (k1.trans k2)) fun d3 M3 v3 H3 ⟨kk, e, w3⟩ r3 h3 k3 => ?_
                    exact ⟨S, M3, d2, d3, kk, r2.keep k3, r3, h3, e, kk, rfl, w3 H3 h3 ((k1.trans k2).trans k3)⟩
                  | false =>
                    rw [if_neg Bool.false_ne_true] at w2 ⊢
                    exact ⟨false, rfl, w2 H2 h2 (k1.trans k2)⟩
    | _ => exact bad h
  | .not_ t, X, nm, top, W, x, gd, h => by
    cases x with
    | UnaryOp op l pos =>
      cases op with
      | Not =>
        refine PT.weak (pt_not (sT t gd h)) fun σ H Q ⟨S, ρ, M, r, hh, w⟩ => ?_
        exact tT_in r hh w (fun _ _ z => z) fun b M1 H1 w1 h1 k1 => w1 H1 h1 k1
      | _ => exact bad h
    | _ => exact bad h
  | .all ts, X, nm, top, W, x, gd, h => by
    cases x with
    | BoolOp op es pos =>
      cases op with
      | Or => exact bad (by cases es <;> exact h)
      | And =>
        cases es with
        | nil => exact bad h
        | cons y ys => exact PT.weak (sTa ts gd h).pt fun σ H Q ⟨S, ρ, M, r, hh, w⟩ => ⟨S, ρ, M, r, hh, w⟩
    | _ => exact bad h
  | .any ts, X, nm, top, W, x, gd, h => by
    cases x with
    | BoolOp op es pos =>
      cases op with
      | And => exact bad (by cases es <;> exact h)
      | Or =>
        cases es with
        | nil => exact bad h
        | cons y ys => exact PT.weak (sTo ts gd h).pt fun σ H Q ⟨S, ρ, M, r, hh, w⟩ => ⟨S, ρ, M, r, hh, w⟩
    | _ => exact bad h
theorem sTa : ∀ (ts : Ts) {X : Cx} {nm : List (Str × NameKind)} {top : Bool} {W : WX} {y : Expr} {ys : List Expr} {pos : Pos}, Good X cls k Tb G N nm top W → ckTs Tb N nm top ts (y :: ys) = true → PW X (.BoolOp .And (y :: ys) pos) (tAl X.K cls G W ts)
  | .nil, X, nm, top, W, y, ys, pos, gd, h => bad h
  | .cons t ts, X, nm, top, W, y, ys, pos, gd, h => by
    obtain ⟨h1, h2⟩ := and2 (show (ckT Tb N nm top t y && ckTs Tb N nm top ts ys) = true from h)
    cases ys with
    | nil =>
      refine PW.weak (pw_and1 (sT t gd h1)) fun σ H Q ⟨S, ρ, M, r, hh, w⟩ => ?_
      refine tT_in r hh w (fun _ _ z => z) fun b M1 H1 w1 h1 k1 => ?_
      cases ts with
      | cons _ _ => exact bad h2
      | nil =>
        cases b with
        | true => rw [if_pos rfl] at w1; exact w1 H1 h1 k1
        | false => rw [if_neg Bool.false_ne_true] at w1; exact w1 H1 h1 k1
    | cons y2 ys =>
      refine PW.weak (pw_and (sT t gd h1) (sTa ts gd h2)) fun σ H Q ⟨S, ρ, M, r, hh, w⟩ => ?_
      refine tT_in r hh w (fun _ _ z => z) fun b M1 H1 w1 h1 k1 => ?_
      cases b with
      | true =>
        rw [if_pos rfl] at w1 ⊢
        exact tAl_in (r.keep k1) h1 w1 (xw_id k1) fun b M2 H2 w2 h2 k2 => w2 H2 h2 (k1.trans k2)
      | false => rw [if_neg Bool.false_ne_true] at w1 ⊢; exact w1 H1 h1 k1
theorem sTo : ∀ (ts : Ts) {X : Cx} {nm : List (Str × NameKind)} {top : Bool} {W : WX} {y : Expr} {ys : List Expr} {pos : Pos}, Good X cls k Tb G N nm top W → ckTs Tb N nm top ts (y :: ys) = true → PW X (.BoolOp .Or (y :: ys) pos) (tAn X.K cls G W ts)
  | .nil, X, nm, top, W, y, ys, pos, gd, h => bad h
  | .cons t ts, X, nm, top, W, y, ys, pos, gd, h => by
    obtain ⟨h1, h2⟩ := and2 (show (ckT Tb N nm top t y && ckTs Tb N nm top ts ys) = true from h)
    cases ys with
    | nil =>
      refine PW.weak (pw_or1 (sT t gd h1)) fun σ H Q ⟨S, ρ, M, r, hh, w⟩ => ?_
      refine tT_in r hh w (fun _ _ z => z) fun b M1 H1 w1 h1 k1 => ?_
      cases ts with
      | cons _ _ => exact bad h2
      | nil =>
        cases b with
        | true => rw [if_pos rfl] at w1; exact w1 H1 h1 k1
        | false => rw [if_neg Bool.false_ne_true] at w1; exact w1 H1 h1 k1
    | cons y2 ys =>
      refine PW.weak (pw_or (sT t gd h1) (sTo ts gd h2)) fun σ H Q ⟨S, ρ, M, r, hh, w⟩ => ?_
      refine tT_in r hh w (fun _ _ z => z) fun b M1 H1 w1 h1 k1 => ?_
      cases b with
      | true => rw [if_pos rfl] at w1 ⊢; exact w1 H1 h1 k1
      | false =>
        rw [if_neg Bool.false_ne_true] at w1 ⊢
        exact tAn_in (r.keep k1) h1 w1 (xw_id k1) fun b M2 H2 w2 h2 k2 => w2 H2 h2 (k1.trans k2)
/-- a comprehension's tests: none or one -/
theorem sTt : ∀ (ts : Ts) {X : Cx} {nm : List (Str × NameKind)} {top : Bool} {W : WX} {xs : List Expr}, Good X cls k Tb G N nm top W → xs.length ≤ 1 → ckTs Tb N nm top ts xs = true → PTs X xs (tAl X.K cls G W ts)
  | .nil, X, nm, top, W, xs, gd, hl, h => by
    cases xs with
    | nil => exact PTs.weak pts_nil fun σ H Q ⟨S, ρ, M, r, hh, w⟩ => w H hh Keeps.refl
    | cons _ _ => exact bad h
  | .cons t ts, X, nm, top, W, xs, gd, hl, h => by
    cases xs with
    | nil => exact bad h
    | cons y ys =>
      obtain ⟨h1, h2⟩ := and2 (show (ckT Tb N nm top t y && ckTs Tb N nm top ts ys) = true from h)
      cases ys with
      | cons _ _ =>
        simp only [List.length_cons] at hl
        omega
      | nil =>
        refine PTs.weak (pts_one (sT t gd h1)) fun σ H Q ⟨S, ρ, M, r, hh, w⟩ => ?_
        refine tT_in r hh w (fun _ _ z => z) fun b M1 H1 w1 h1 k1 => ?_
        cases ts with
        | cons _ _ => exact bad h2
        | nil =>
          cases b with
          | true => rw [if_pos rfl] at w1; exact w1 H1 h1 k1
          | false => rw [if_neg Bool.false_ne_true] at w1; exact w1 H1 h1 k1
theorem tupX_of {e : Expr} (h : tupX e = true) : ∃ es n p, e = .Tuple es n p := by
  cases e <;> first | exact ⟨_, _, _, rfl⟩ | cases h
theorem ls_rel {K : PySem.W.Frag} {S : Addr → Prop} {M : Mm} {H : Hp} {d : Dt} {v : V} {ds : List Dt} (hh : Hold K S cls M H) (r : RelD K S M H d v) (e : lsD M d = some ds) : ∃ a xs, v = .ref a ∧ SqL K H a xs ∧ RelDs K S M H ds xs := by
  cases d with
  | lst es => cases e; exact r.ofLst
  | ref p =>
    cases r
    change (match M p with
      | some (.lst ds) => some ds
      | _ => none) = some ds at e
    split at e
    · rename_i es em
      cases e
      obtain ⟨xs, hp, rs⟩ := hh _ _ em
      exact ⟨p, xs, rfl, .inl (.inl hp), rs⟩
    · cases e
  | _ => cases e
theorem yld_pair {K : PySem.W.Frag} {S : Addr → Prop} {M : Mm} {H : Hp} {x y : V} {d e : Dt} {t : Addr} (rd : RelD K S M H d x) (re : RelD K S M H e y) (h : Hold K S cls M H) (n : H t = none) :
    RelD K S M (upd H t (.tup [x, y])) (.tup [d, e]) (.ref t) ∧ Hold K S cls M (upd H t (.tup [x, y])) ∧ Keeps K M H M (upd H t (.tup [x, y])) :=
  ⟨.tup (.inl (.inl upd_same)) (.cons (rd.keep (Keeps.newH n)) (.cons (re.keep (Keeps.newH n)) .nil)), h.newH n, Keeps.newH n⟩
theorem zip_get {ds es : List Dt} {i : Nat} {d e : Dt} (h1 : ds[i]? = some d) (h2 : es[i]? = some e) : (zipD ds es)[i]? = some (.tup [d, e]) := by
  unfold zipD
  rw [List.getElem?_zipWith, h1, h2]
theorem enm_get {ds : List Dt} {i : Nat} {d : Dt} (h1 : ds[i]? = some d) : (enmD ds)[i]? = some (.tup [.int (i : Nat), d]) := by
  unfold enmD
  rw [List.getElem?_zipWith, List.getElem?_range (List.getElem?_eq_some_iff.mp h1).1, h1]
theorem kD_rel {K : PySem.W.Frag} {S : Addr → Prop} {M : Mm} {H : Hp} (k : Key) : RelD K S M H (kD k) (kV k) := by cases k <;> constructor
theorem pairD_get {K : PySem.W.Frag} {S : Addr → Prop} {M : Mm} {H : Hp} : ∀ {kvs : List (Key × Dt)} {ks : List (Key × V)} {i : Nat} {ky : Key} {v : V}, Paired (fun (p : Key × Dt) (q : Key × V) => p.1 = q.1 ∧ RelD K S M H p.2 q.2) kvs ks → ks[i]? = some (ky, v) → ∃ d, kvs[i]? = some (ky, d) ∧ ky = ky ∧ RelD K S M H d v
  | _, _, _, _, _, .nil, e => by simp at e
  | p :: _, _, 0, ky, v, .cons h _, e => by
    simp at e
    subst e
    obtain ⟨pk, pd⟩ := p
    obtain ⟨e1, e2⟩ := h
    dsimp only at e1 e2
    subst e1
    exact ⟨pd, rfl, rfl, e2⟩
  | _, _, i + 1, ky, v, .cons _ t, e => by
    obtain ⟨d, e1, e2, e3⟩ := pairD_get (i := i) (ky := ky) (v := v) t (by simpa using e)
    exact ⟨d, by simpa using e1, e2, e3⟩
theorem sI : ∀ (it : Ie) {X : Cx} {nm : List (Str × NameKind)} {top : Bool} {W : WX} {tg x : Expr}, Good X cls k Tb G N nm top W → ckI Tb N nm top tg it x = true → PI X tg x (tI X.K cls G W it)
  | .seq a, X, nm, top, W, tg, x, gd, h => by
    refine PI.weak (pi_seq (sE a gd (show ckE Tb N nm top a x = true by cases x <;> exact h))) fun σ H R ⟨S, ρ, M, r, hh, w⟩ => ?_
    refine tE_in r hh w (fun _ _ z => z) fun d M1 v H1 w1 r1 h1 k1 => ?_
    cases d with
    | tup ds =>
      obtain ⟨a, xs, rfl, hs, rs⟩ := r1.ofTup
      refine .inr ⟨a, xs, rfl, hs, w1 _ H1 ?_ h1 k1⟩
      intro S' hS i M2 H2 h2 k2 _
      have r2 : RelD X.K S' M2 H2 (.tup ds) (.ref a) := (RelD.more hS (.tup hs rs)).keep k2
      obtain ⟨a', xs', e, hs', rs'⟩ := r2.ofTup
      cases e
      refine ⟨fun hi => ?_, fun hi => ⟨xs', hs', by rw [← rs'.length]; exact hi⟩⟩
      obtain ⟨z, ez, rz⟩ := rs'.get (List.getElem?_eq_getElem hi)
      refine ⟨⟨xs', z, hs', ez⟩, fun x H' ⟨e, hx⟩ => ⟨_, List.getElem?_eq_getElem hi, ?_, ?_, ?_⟩⟩
      · rw [e]
        have e2 := hx xs' hs'
        rw [ez] at e2
        cases e2
        exact rz
      · rw [e]; exact h2
      · rw [e]; exact Keeps.refl
    | lst ds =>
      obtain ⟨a, xs, rfl, hs, rs⟩ := r1.ofLst
      refine .inl ⟨a, xs, rfl, hs, w1 _ H1 ?_ h1 k1⟩
      intro S' hS i M2 H2 h2 k2 _
      have r2 : RelD X.K S' M2 H2 (.lst ds) (.ref a) := (RelD.more hS r1).keep k2
      obtain ⟨a', xs', e, hs', rs'⟩ := r2.ofLst
      cases e
      refine ⟨fun hi => ?_, fun hi => ⟨xs', hs', by rw [← rs'.length]; exact hi⟩⟩
      obtain ⟨z, ez, rz⟩ := rs'.get (List.getElem?_eq_getElem hi)
      refine ⟨⟨xs', z, hs', ez⟩, fun x H' ⟨e, hx⟩ => ⟨_, List.getElem?_eq_getElem hi, ?_, ?_, ?_⟩⟩
      · rw [e]
        have e2 := hx xs' hs'
        rw [ez] at e2
        cases e2
        exact rz
      · rw [e]; exact h2
      · rw [e]; exact Keeps.refl
    | ref p =>
      cases r1
      cases em : M1 p with
      | none => simp only [em] at w1
      | some o =>
        cases o with
        | lst ds =>
          simp only [em] at w1
          obtain ⟨xs, hp, rs⟩ := h1 _ _ em
          refine .inl ⟨p, xs, rfl, .inl (.inl hp), w1 _ H1 ?_ h1 k1⟩
          intro S' hS i M2 H2 h2 k2 hk
          obtain ⟨xs', hp', rs'⟩ := h2 _ _ hk
          have hs' : SqL X.K H2 p xs' := .inl (.inl hp')
          refine ⟨fun hi => ?_, fun hi => ⟨xs', hs', by rw [← rs'.length]; exact hi⟩⟩
          obtain ⟨z, ez, rz⟩ := rs'.get (List.getElem?_eq_getElem hi)
          refine ⟨⟨xs', z, hs', ez⟩, fun x H' ⟨e, hx⟩ => ⟨_, List.getElem?_eq_getElem hi, ?_, ?_, ?_⟩⟩
          · rw [e]
            have e2 := hx xs' hs'
            rw [ez] at e2
            cases e2
            exact rz
          · rw [e]; exact h2
          · rw [e]; exact Keeps.refl
        | _ => simp only [em] at w1
    | _ => exact False.elim w1
  | .rng1 a, X, nm, top, W, tg, x, gd, h => by
    cases x with
    | Call fx es ks pos =>
      cases fx with
      | Name y p =>
        cases es with
        | nil => exact bad h
        | cons l es =>
          cases es with
          | cons _ _ => exact bad h
          | nil =>
            cases ks with
            | cons _ _ => exact bad h
            | nil =>
              obtain ⟨h1, h2⟩ := and2 (show (decide (y = ("range" : Str)) && (decide (y ∈ Tb.bis) && (glB nm y && (notStar l && ckE Tb N nm top a l)))) = true from h)
              obtain ⟨h2, h3⟩ := and2 h2
              obtain ⟨h3, h4⟩ := and2 h3
              obtain ⟨h4, h5⟩ := and2 h4
              obtain rfl := dec1 h1
              refine PI.weak (pi_range1 (gl_of gd.nm h3) (gd.env.bi _ (dec1 h2)) (pa_cons (sE a gd h5) pa_nil (star_cons h4 _ _)) (star_cons h4 _ _)) fun σ H R ⟨S, ρ, M, r, hh, w⟩ => ?_
              refine tE_in r hh w (fun _ _ z => z) fun d M1 v H1 ⟨j, e, b1, b2, w1⟩ r1 h1 k1 => ?_
              subst e
              cases r1
              refine ⟨j, rfl, b1, b2, w1 _ H1 ?_ h1 k1⟩
              intro S' hS i M2 H2 h2 k2 _
              rw [List.length_map, List.length_range]
              refine ⟨fun hi => ⟨hi, fun x H' ⟨e1, e2⟩ => ⟨.int (0 + (i : Int)), ?_, ?_, ?_, ?_⟩⟩, fun hi => hi⟩
              · rw [List.getElem?_map, List.getElem?_range hi, Int.zero_add]; rfl
              · rw [e2, e1]; exact .int _
              · rw [e1]; exact h2
              · rw [e1]; exact Keeps.refl
      | _ => exact bad (by cases es <;> exact h)
    | _ => exact bad h
  | .rng2 a b, X, nm, top, W, tg, x, gd, h => by
    cases x with
    | Call fx es ks pos =>
      cases fx with
      | Name y p =>
        cases es with
        | nil => exact bad h
        | cons l es =>
          cases es with
          | nil => exact bad h
          | cons l2 es =>
            cases es with
            | cons _ _ => exact bad h
            | nil =>
              cases ks with
              | cons _ _ => exact bad h
              | nil =>
                obtain ⟨h1, h2⟩ := and2 (show (decide (y = ("range" : Str)) && (decide (y ∈ Tb.bis) && (glB nm y && (notStar l && (notStar l2 && (ckE Tb N nm top a l && ckE Tb N nm top b l2)))))) = true from h)
                obtain ⟨h2, h3⟩ := and2 h2
                obtain ⟨h3, h4⟩ := and2 h3
                obtain ⟨h4, h5⟩ := and2 h4
                obtain ⟨h5, h6⟩ := and2 h5
                obtain ⟨h6, h7⟩ := and2 h6
                obtain rfl := dec1 h1
                have q1 := star_cons h4 [l2] X.env
                have q2 := star_cons h5 [] X.env
                refine PI.weak (pi_range2 (gl_of gd.nm h3) (gd.env.bi _ (dec1 h2)) (pa_cons (sE a gd h6) (pa_cons (sE b gd h7) pa_nil q2) q1) (q1.trans (by rw [q2]; rfl)) q2) fun σ H R ⟨S, ρ, M, r, hh, w⟩ => ?_
                refine tE_in r hh w (fun _ _ z => z) fun d1 M1 v1 H1 w1 r1 h1 k1 => ?_
                refine tE_in (r.keep k1) h1 w1 (xw_id k1) fun d2 M2 v2 H2 ⟨i, j, e1, e2, bb, w2⟩ r2 h2 k2 => ?_
                subst e1; subst e2
                cases r1; cases r2
                refine ⟨i, j, rfl, bb, w2 _ H2 ?_ h2 (k1.trans k2)⟩
                intro S' hS n M3 H3 h3 k3 _
                rw [List.length_map, List.length_range]
                refine ⟨fun hi => ⟨hi, fun x H' ⟨e1, e2⟩ => ⟨.int (i + (n : Int)), ?_, ?_, ?_, ?_⟩⟩, fun hi => hi⟩
                · rw [List.getElem?_map, List.getElem?_range hi]; rfl
                · rw [e2, e1]; exact .int _
                · rw [e1]; exact h3
                · rw [e1]; exact Keeps.refl
      | _ => exact bad (by cases es <;> exact h)
    | _ => exact bad h
  | .zip a b, X, nm, top, W, tg, x, gd, h => by
    cases x with
    | Call fx es ks pos =>
      cases fx with
      | Name y p =>
        cases es with
        | nil => exact bad h
        | cons l es =>
          cases es with
          | nil => exact bad h
          | cons l2 es =>
            cases es with
            | cons _ _ => exact bad h
            | nil =>
              cases ks with
              | cons _ _ => exact bad h
              | nil =>
                obtain ⟨h1, m2⟩ := and2 (show (decide (y = ("zip" : Str)) && (decide (y ∈ Tb.bis) && (glB nm y && (notStar l && (notStar l2 && (tupX tg && (ckE Tb N nm top a l && ckE Tb N nm top b l2))))))) = true from h)
                obtain ⟨h2, m3⟩ := and2 m2
                obtain ⟨h3, m4⟩ := and2 m3
                obtain ⟨h4, m5⟩ := and2 m4
                obtain ⟨h5, m6⟩ := and2 m5
                obtain ⟨h6, m7⟩ := and2 m6
                obtain ⟨h7, h8⟩ := and2 m7
                obtain rfl := dec1 h1
                obtain ⟨t1, t2, t3, rfl⟩ := tupX_of h6
                have q1 := star_cons h4 [l2] X.env
                have q2 := star_cons h5 [] X.env
                refine PI.weak (pi_zip (gl_of gd.nm h3) (gd.env.bi _ (dec1 h2)) (pa_cons (sE a gd h7) (pa_cons (sE b gd h8) pa_nil q2) q1) q1 (by rw [q2]; rfl)) fun σ H R ⟨S, ρ, M, r, hh, w⟩ => ?_
                refine tE_in r hh w (fun _ _ z => z) fun d1 M1 v1 H1 w1 r1 hd1 k1 => ?_
                refine tE_in (r.keep k1) hd1 w1 (xw_id k1) fun d2 M2 v2 H2 ⟨ds, es, e1, e2, w2⟩ r2 hd2 k2 => ?_
                have r1' := r1.keep k2
                obtain ⟨a1, xs, rfl, s1, rs1⟩ := ls_rel hd2 r1' e1
                obtain ⟨a2, ys, rfl, s2, rs2⟩ := ls_rel hd2 r2 e2
                refine ⟨a1, a2, xs, ys, rfl, s1, s2, w2 _ H2 ?_ hd2 (k1.trans k2)⟩
                intro S' hS n M3 H3 hd3 k3 kp
                obtain ⟨b1, xs', g1, s1', rs1'⟩ := ls_rel hd3 ((RelD.more hS r1').keep k3) kp.1
                obtain ⟨b2, ys', g2, s2', rs2'⟩ := ls_rel hd3 ((RelD.more hS r2).keep k3) kp.2
                cases g1; cases g2
                have len : (zipD ds es).length = min ds.length es.length := by unfold zipD; rw [List.length_zipWith]
                rw [len]
                refine ⟨fun hi => ?_, fun hi => ⟨xs', ys', s1', s2', by rw [← rs1'.length, ← rs2'.length]; omega⟩⟩
                obtain ⟨x, ex, rx⟩ := rs1'.get (List.getElem?_eq_getElem (show n < ds.length by omega))
                obtain ⟨y, ey, ry⟩ := rs2'.get (List.getElem?_eq_getElem (show n < es.length by omega))
                refine ⟨⟨xs', ys', x, y, s1', s2', ex, ey⟩, ?_⟩
                rintro _ H' ⟨t, x', y', rfl, nt, rfl, f1, f2⟩
                have z1 := f1 xs' s1'
                have z2 := f2 ys' s2'
                rw [ex] at z1
                rw [ey] at z2
                cases z1; cases z2
                obtain ⟨p1, p2, p3⟩ := yld_pair rx ry hd3 nt
                exact ⟨_, zip_get (List.getElem?_eq_getElem _) (List.getElem?_eq_getElem _), p1, p2, p3⟩
      | _ => exact bad (by cases es <;> exact h)
    | _ => exact bad h
  | .enm a, X, nm, top, W, tg, x, gd, h => by
    cases x with
    | Call fx es ks pos =>
      cases fx with
      | Name y p =>
        cases es with
        | nil => exact bad h
        | cons l es =>
          cases es with
          | cons _ _ => exact bad h
          | nil =>
            cases ks with
            | cons _ _ => exact bad h
            | nil =>
              obtain ⟨h1, m2⟩ := and2 (show (decide (y = ("enumerate" : Str)) && (decide (y ∈ Tb.bis) && (glB nm y && (notStar l && (tupX tg && ckE Tb N nm top a l))))) = true from h)
              obtain ⟨h2, m3⟩ := and2 m2
              obtain ⟨h3, m4⟩ := and2 m3
              obtain ⟨h4, m5⟩ := and2 m4
              obtain ⟨h6, h7⟩ := and2 m5
              obtain rfl := dec1 h1
              obtain ⟨t1, t2, t3, rfl⟩ := tupX_of h6
              refine PI.weak (pi_enumA (gl_of gd.nm h3) (gd.env.bi _ (dec1 h2)) (pa_cons (sE a gd h7) pa_nil (star_cons h4 _ _)) (star_cons h4 _ _)) fun σ H R ⟨S, ρ, M, r, hh, w⟩ => ?_
              refine tE_in r hh w (fun _ _ z => z) fun d1 M1 v1 H1 ⟨ds, e1, w1⟩ r1 hd1 k1 => ?_
              have len : (enmD ds).length = ds.length := by unfold enmD; rw [List.length_zipWith, List.length_range, Nat.min_self]
              by_cases ht : ∃ es, d1 = .tup es
              · obtain ⟨es, rfl⟩ := ht
                cases e1
                obtain ⟨a1, xs, rfl, s1, rs1⟩ := r1.ofTup
                refine ⟨a1, xs, rfl, .inr ⟨s1, w1 _ H1 ?_ hd1 k1⟩⟩
                intro S' hS n M3 H3 hd3 k3 kp
                have r3 : RelD X.K S' M3 H3 (.tup ds) (.ref a1) := (RelD.more hS (.tup s1 rs1)).keep k3
                obtain ⟨b1, xs', g1, s1', rs1'⟩ := r3.ofTup
                cases g1
                rw [len]
                refine ⟨fun hi => ?_, fun hi => ⟨xs', s1', by rw [← rs1'.length]; omega⟩⟩
                obtain ⟨x, ex, rx⟩ := rs1'.get (List.getElem?_eq_getElem hi)
                refine ⟨⟨xs', x, s1', ex⟩, ?_⟩
                rintro _ H' ⟨t, x', rfl, nt, rfl, f1⟩
                have z1 := f1 xs' s1'
                rw [ex] at z1
                cases z1
                obtain ⟨p1, p2, p3⟩ := yld_pair (.int (n : Int)) rx hd3 nt
                exact ⟨_, enm_get (List.getElem?_eq_getElem _), p1, p2, p3⟩
              · have same : ∀ M : Mm, itemsD M d1 = seqL M d1 := fun M => by
                  cases d1 with
                  | tup es => exact absurd ⟨_, rfl⟩ ht
                  | _ => rfl
                rw [same] at e1
                obtain ⟨a1, xs, rfl, s1, rs1⟩ := seqL_rel hd1 r1 e1
                refine ⟨a1, xs, rfl, .inl ⟨s1, w1 _ H1 ?_ hd1 k1⟩⟩
                intro S' hS n M3 H3 hd3 k3 kp
                rw [same] at kp
                obtain ⟨b1, xs', g1, s1', rs1'⟩ := seqL_rel hd3 ((RelD.more hS r1).keep k3) kp
                cases g1
                rw [len]
                refine ⟨fun hi => ?_, fun hi => ⟨xs', s1', by rw [← rs1'.length]; omega⟩⟩
                obtain ⟨x, ex, rx⟩ := rs1'.get (List.getElem?_eq_getElem hi)
                refine ⟨⟨xs', x, s1', ex⟩, ?_⟩
                rintro _ H' ⟨t, x', rfl, nt, rfl, f1⟩
                have z1 := f1 xs' s1'
                rw [ex] at z1
                cases z1
                obtain ⟨p1, p2, p3⟩ := yld_pair (.int (n : Int)) rx hd3 nt
                exact ⟨_, enm_get (List.getElem?_eq_getElem _), p1, p2, p3⟩
      | _ => exact bad (by cases es <;> exact h)
    | _ => exact bad h
  | .items a, X, nm, top, W, tg, x, gd, h => by
    obtain ⟨l, y, ap, cp, rfl, h⟩ : ∃ l y ap cp, x = .Call (.Attribute l y ap) [] [] cp ∧ (decide (y = ("items" : Str)) && (noCall0 l && ((ap.endLine == cp.line) && (tupX tg && ckE Tb N nm top a l)))) = true := by
      unfold ckI at h
      split at h
      all_goals first | cases h | skip
      all_goals rename_i heq1 heq2
      all_goals first | (cases heq1; done) | skip
      all_goals first | (cases heq2; done) | skip
      cases heq1
      cases heq2
      exact ⟨_, _, _, _, rfl, h⟩
    obtain ⟨h1, m2⟩ := and2 h
    obtain ⟨h2, m3⟩ := and2 m2
    obtain ⟨h3, m4⟩ := and2 m3
    obtain ⟨h4, h5⟩ := and2 m4
    obtain rfl := dec1 h1
    obtain ⟨t1, t2, t3, rfl⟩ := tupX_of h4
    refine PI.weak (pi_items (sE a gd h5) (attr_base h2 _ _) h3) fun σ H R ⟨S, ρ, M, r, hh, w⟩ => ?_
    refine tE_in r hh w (fun _ _ z => z) fun d1 M1 v1 H1 ⟨p, kvs, u, e1, e2, w1⟩ r1 h1 k1 => ?_
    subst e1
    cases r1
    obtain ⟨g1, od, ks, rfl, g2⟩ := h1 p _ e2
    refine ⟨p, od, ks, rfl, g1, w1 _ H1 ?_ h1 k1⟩
    intro S' hS i M2 H2 h2 k2 e3
    obtain ⟨f1, od', ks', z, f2⟩ := h2 p _ e3
    cases z
    have len : (kvD kvs).length = ks.length := by unfold kvD; rw [List.length_map]; exact Paired.length f2
    rw [len]
    refine ⟨fun hi => ⟨⟨f1, hi⟩, ?_⟩, fun hi => ⟨f1, hi⟩⟩
    rintro x H' ⟨t, ky, v, ek, rfl, nt, rfl⟩
    obtain ⟨q0, eq0, q1, q2⟩ := pairD_get f2 ek
    have kp : Keeps X.K M2 H2 M2 (upd H2 t (.tup [kV ky, v])) := Keeps.newH nt
    refine ⟨.tup [kD ky, q0], ?_, .tup (.inl (.inl upd_same)) (.cons (kD_rel ky) (.cons (q2.keep kp) .nil)), h2.newH nt, kp⟩
    unfold kvD
    rw [List.getElem?_map, eq0]
    rfl
end
end
end Fm

/-! The engine, part K: what is wanted of a text is enough (statements, defs). -/
namespace Fm
open PySem L2 PySem.Spec PyProof.Rows

section
variable {cls : Cl} {k : Nat} {Tb : Tab} {G : Gt} {N : List Str}
theorem sub_ha {X : Cx} {l r : Expr} (h : notSlice r = true) (pos : Pos) : ∀ v, assign (.Subscript l r pos) X.env v = (do
      let ov ← holding [v] (eval l X.env)
      let iv ← holding [v, ov] (eval r X.env)
      standAt pos
      holding [v, ov, iv] (setItem ov iv v)
      release [v, ov, iv] []) := by
  intro v
  cases r <;> first | rfl | cases h
mutual
theorem sG : ∀ (t : Tg) {X : Cx} {nm : List (Str × NameKind)} {top : Bool} {W : WX} {x : Expr}, Good X cls k Tb G N nm top W → ckG Tb N nm top t x = true → PG X x (tG X.K cls G W t)
  | .name i, X, nm, top, W, x, gd, h => by
    cases x with
    | Name y p =>
      obtain ⟨h1, h2⟩ := and2 (show (decide (N[i]? = some y) && locB nm top y) = true from h)
      obtain ⟨hl, hf⟩ := loc_of gd.nm gd.fn h2
      refine PG.weak (pg_name (i := i) (by rw [gd.hN]; exact gd.nd) (by rw [gd.hN]; exact dec1 h1) hl hf) fun v σ H Q ⟨S, d, ρ, M, rd, r, hh, w⟩ => ?_
      exact w _ _ (r.set i rd) hh Keeps.refl
    | _ => exact bad h
  | .tup gs, X, nm, top, W, x, gd, h => by
    cases x with
    | Tuple es q p =>
      obtain ⟨h1, h2⟩ := and2 (show (noStars es && ckGs Tb N nm top gs es) = true from h)
      obtain ⟨l1, l2⟩ := assign_len es X.env h1
      refine PG.weak (PG.or (pg_tup gd.calm (sGs gs gd h2) l1 l2) (pg_lst gd.calm (sGs gs gd h2) l1 l2)) fun v σ H Q ⟨S, d, ρ, M, rd, r, hh, w⟩ => ?_
      obtain ⟨ds, e, w1, w2⟩ := w
      obtain ⟨a, xs, rfl, hs, rs⟩ := items_rel hh rd e
      have hl : xs.length = es.length := by rw [← rs.length, w1]; exact ckGs_len gs h2
      rcases hs with hs | hs
      · exact .inl ⟨a, xs, rfl, hs, hl, S, ds, ρ, M, rs, r, hh, w2⟩
      · exact .inr ⟨a, xs, rfl, hs, hl, S, ds, ρ, M, rs, r, hh, w2⟩
    | _ => exact bad h
  | .star gs, X, nm, top, W, x, gd, h => by
    cases x with
    | Tuple es q p =>
      obtain ⟨g1, m2⟩ := and2 (show (starL es && (decide (es.length < 100) && ckGs Tb N nm top gs (unstar es))) = true from h)
      obtain ⟨g2, g3⟩ := and2 m2
      have g2 := of_decide_eq_true g2
      obtain ⟨a1, a2, a3, a4, a5⟩ := star_each X.env g1
      refine PG.weak (pg_star (n := es.length - 1) gd.calm (sGs gs gd g3) (by omega) a1 (by rw [a2]; omega) a3) fun v σ H Q ⟨S, d, ρ, M, rd, r, hh, w⟩ => ?_
      obtain ⟨ds, es', rfl, w0, w1, w2⟩ := w
      have gl := ckGs_len gs g3
      obtain ⟨a, xs, rfl, hs, rs⟩ := rd.ofTup
      have ln := rs.length
      rw [List.length_append] at ln
      have r1 := rs.take ds.length
      have r2 := rs.drop ds.length
      rw [List.take_left] at r1
      rw [List.drop_left] at r2
      refine ⟨a, xs.take ds.length, xs.drop ds.length, rfl, by rw [List.take_append_drop]; exact hs, by rw [← r1.length]; omega, by rw [← r2.length]; exact w1, fun p n => ?_⟩
      have k1 : Keeps X.K M H M (upd H p (.lst (xs.drop ds.length))) := Keeps.newH n
      exact ⟨S, ds ++ [.lst es'], ρ, M, (r1.keep k1).append (.cons (.lst (hh.none n) (hh.noS n) (.inl upd_same) (r2.keep k1)) .nil), r.keep k1, hh.newH n, wpGs_mono gs (fun ρ' M' q σ' H' a b c => q σ' H' a b (k1.trans c)) (fun _ _ z => z) w2⟩
    | _ => exact bad h
  | .ix a b, X, nm, top, W, x, gd, h => by
    cases x with
    | Subscript l rr pos =>
      obtain ⟨h0, h1⟩ := and2 (show (notSlice rr && (ckE Tb N nm top a l && ckE Tb N nm top b rr)) = true from h)
      obtain ⟨h1, h2⟩ := and2 h1
      refine PG.weak (pg_sub (sE a gd h1) (sE b gd h2) (set_D (cls := cls) (by have := gd.room.units; omega)) (sub_ha h0 pos)) fun v σ H Q ⟨S, d, ρ, M, rd, r, hh, w⟩ => ?_
      refine tE_in r hh w (fun _ _ z => z) fun d1 M1 v1 H1 w1 r1 h1 k1 => ?_
      refine tE_in (r.keep k1) h1 w1 (xw_id k1) fun d2 M2 v2 H2 w2 r2 h2 k2 => ?_
      have rd2 := (rd.keep k1).keep k2
      have rr2 := (r.keep k1).keep k2
      cases d1 with
      | ref p =>
        have fin : ∀ (M' : Mm) (H' : Hp), RW X.K S cls Q M H ρ M' → Hold X.K S cls M' H' → Keeps X.K M2 H2 M' H' → Q σ H' := fun M' H' q hz kz => q σ H' (rr2.keep kz) hz ((k1.trans k2).trans kz)
        cases em : M2 p with
        | none => simp only [em] at w2
        | some o =>
          cases o with
          | lst ds =>
            simp only [em] at w2
            obtain ⟨i, j, e1, e2, w2⟩ := w2
            exact ⟨S, M2, .ref p, d2, d, fun M' => RW X.K S cls Q M H ρ M', r1.keep k2, r2, rd2, h2, ⟨p, rfl, .inl ⟨ds, i, j, em, e1, e2, w2⟩⟩, fin⟩
          | dK kvs =>
            simp only [em] at w2
            obtain ⟨ky, e1, e2, w2⟩ := w2
            exact ⟨S, M2, .ref p, d2, d, fun M' => RW X.K S cls Q M H ρ M', r1.keep k2, r2, rd2, h2, ⟨p, rfl, .inr ⟨kvs, ky, em, e1, e2, w2⟩⟩, fin⟩
          | _ => simp only [em] at w2
      | _ => exact False.elim w2
    | _ => exact bad h
  | .fld a f, X, nm, top, W, x, gd, h => by
    cases x with
    | Attribute l y p =>
      obtain ⟨h1, t1⟩ := and2 (show (decide (f = y) && (decide (f ∈ Tb.flds) && ckE Tb N nm top a l)) = true from h)
      obtain ⟨h2, h3⟩ := and2 t1
      obtain rfl := dec1 h1
      refine PG.weak (pg_fld (sE a gd h3)) fun v σ H Q ⟨S, d, ρ, M, rd, r, hh, w⟩ => ?_
      refine tE_in r hh w (fun _ _ z => z) fun d1 M1 v1 H1 ⟨p, c, fs, e1, e2, e3, w1⟩ r1 h1' k1 => ?_
      subst e1
      cases r1
      obtain ⟨ok, dx, gs, eh, pr, h2', k2⟩ := h1'.setf (f := f) e2 (rd.keep k1)
      obtain ⟨cc, no⟩ := gd.env.cl c ok
      exact ⟨p, cls c, dx, gs, rfl, eh, cc, no f (dec1 h2), by rw [← RelF.len pr]; exact e3, w1 σ _ ((r.keep k1).keep k2) h2' (k1.trans k2)⟩
    | _ => exact bad h
theorem sGs : ∀ (t : Tgs) {X : Cx} {nm : List (Str × NameKind)} {top : Bool} {W : WX} {xs : List Expr}, Good X cls k Tb G N nm top W → ckGs Tb N nm top t xs = true → PGs X xs (tGs X.K cls G t)
  | .nil, X, nm, top, W, xs, gd, h => by
    cases xs with
    | nil =>
      refine PGs.weak pgs_nil fun v σ H Q ⟨S, ds, ρ, M, rd, r, hh, e, w⟩ => ?_
      subst e
      cases rd
      exact ⟨rfl, w _ _ r hh Keeps.refl⟩
    | cons _ _ => exact bad h
  | .cons g gs, X, nm, top, W, xs, gd, h => by
    cases xs with
    | nil => exact bad h
    | cons y ys =>
      obtain ⟨h1, h2⟩ := and2 (show (ckG Tb N nm top g y && ckGs Tb N nm top gs ys) = true from h)
      refine PGs.weak (pgs_cons (sG g gd h1) (sGs gs gd h2) (ckG_star h1 ys X.env)) fun v σ H Q ⟨S, ds, ρ, M, rd, r, hh, d, rr, e, w⟩ => ?_
      subst e
      cases rd with
      | cons r1 r2 =>
        refine ⟨_, _, rfl, tG_in r1 r hh w (fun _ _ z => False.elim z) fun ρ' M' σ' H' w' a b c => ?_⟩
        exact ⟨S, rr, ρ', M', r2.keep c, a, b, wpGs_mono gs (fun ρ2 M2 z σ2 H2 a2 b2 c2 => z σ2 H2 a2 b2 (c.trans c2)) (fun z M2 q => q) w'⟩
end
theorem swaps_attr (e o : Expr) (f : Str) (p : Pos) (l : Nat) (env : Env) : swapsWith e (some (.Attribute o f p)) l env = pure false := by
  cases e <;> rfl
theorem sw_par {nm : List (Str × NameKind)} {x y : Str} {px py pt p2 : Pos} {kt k2 : Nat} {l r : Expr} {env : Env} (hn : env.scope.names = nm) (hk : env.scope.kind = .function) (hx : nm.lookup x = some .local) (hy : nm.lookup y = some .local) (hxy : x ≠ y)
    (hp : (py.line == px.line) = true) (hl : notStar l = true) (hr : notStar r = true) (hf : (!([l, r].all (foldedForSure 8))) = true) (hc : (!([l, r].all (constantsAlone 8))) = true) :
    swappedStores [.Tuple [.Name x px, .Name y py] kt pt] (.Tuple [l, r] k2 p2) env = pure (some [x, y]) := by
  have e1 : env.kindOf x = some .local := by rw [← hn] at hx; exact hx
  have e2 : env.kindOf y = some .local := by rw [← hn] at hy; exact hy
  have e3 : env.blockKind = .function := by first | exact hk | (unfold Env.blockKind; rw [hk]; rfl)
  have e5 : ([l, r].all (foldedForSure 8)) = false := by revert hf; cases ([l, r].all (foldedForSure 8)) <;> simp
  have e6 : ([l, r].all (constantsAlone 8)) = false := by revert hc; cases ([l, r].all (constantsAlone 8)) <;> simp
  have hyx : (y == x) = false := by simpa using Ne.symm hxy
  have hxl : (px.line == px.line) = true := by simp
  have e7 : [x, y].eraseDups.length = 2 := by simp [List.eraseDups_cons, hyx]
  have h1 : ((NameKind.local : NameKind) == .local) = true := by decide
  have h1' : (some (NameKind.local : NameKind) == some .local) = true := by decide
  have h2 : ((ScopeKind.function : ScopeKind) != .function) = false := by decide
  unfold swappedStores
  simp only [List.length_cons, List.length_nil, e3, h2, List.any_cons, List.any_nil, List.head?_cons, Option.map_some, Option.getD_some, List.filterMap_cons, List.filterMap_nil, e1, e2, h1', Bool.true_and, hxl, hp, if_true, e5, e6]
  have hp' : (py.line == (Expr.Name x px).pos.line) = true := hp
  have hx' : (px.line == (Expr.Name x px).pos.line) = true := hxl
  rw [hp', hx']
  cases l <;> cases r <;> first | (cases hl; done) | (cases hr; done) | (simp only [if_true, e7]; rfl)

/-- the surroundings of a try's body -/
theorem good_tr {X : Cx} {nm : List (Str × NameKind)} {W W' : WX} {pn : List (Addr × Obj)} {xe : Value → Shared → Prop} (gd : Good X cls k Tb G N nm true W) (tk : Takes (X.tr pn xe) W') (pas : PassesOwn (model X.prog X.w) X.A X.env xe) : Good (X.tr pn xe) cls k Tb G N nm true W' where
  env := gd.env
  hN := gd.hN
  nd := gd.nd
  nm := gd.nm
  kind := gd.kind
  calm := gd.calm
  room := gd.room
  fn := gd.fn
  pas := pas
  tk := tk
  lam := gd.lam
  own := gd.own
theorem good_nox {X : Cx} {nm : List (Str × NameKind)} {W : WX} (gd : Good X cls k Tb G N nm true W) : Good X.nox cls k Tb G N nm true W0 where
  env := gd.env
  hN := gd.hN
  nd := gd.nd
  nm := gd.nm
  kind := gd.kind
  calm := gd.calm
  room := gd.room
  fn := gd.fn
  pas := PassesOwn.never
  tk := takes0
  lam := gd.lam
  own := gd.own
/-- what may be returned in an except clause -/
theorem sPl {X Y : Cx} {nm : List (Str × NameKind)} {W : WX} {e : E} {x : Expr} (gd : Good X cls k Tb G N nm true W) (hp : plainE e = true) (h : ckE Tb N nm true e x = true) (hN : Y.N = X.N := by rfl) (he : Y.env = X.env := by rfl) :
    PE Y x (fun σ H Q => ∃ S ρ M, RelR X.K S M H ρ σ ∧ Hold X.K S cls M H ∧ wpE G e ρ M (QW X.K S cls Q M H) (fun _ _ => False)) := by
  cases e with
  | var i =>
    cases x with
    | Name y p =>
      obtain ⟨h1, t1⟩ := and2 (show (decide (N[i]? = some y) && (visB nm y && okN y)) = true from h)
      obtain ⟨h2, h3⟩ := and2 t1
      obtain ⟨o1, o2, _⟩ := okN_of h3
      refine PE.weak (pe_var (i := i) (by rw [hN, gd.hN]; exact dec1 h1) (by rw [he]; exact vis_of gd.nm h2) o1 o2) ?_
      rintro σ H Q ⟨S, ρ, M, r, hh, d, e1, q⟩
      obtain ⟨v, e2, rv⟩ := r.at_ i d e1
      exact ⟨v, e2, q v H rv hh Keeps.refl⟩
    | _ => exact bad h
  | bl z =>
    cases x with
    | Constant c j p =>
      cases c with
      | bool u =>
        obtain rfl := dec1 (show decide (z = u) = true from h)
        refine PE.weak pe_bl ?_
        rintro σ H Q ⟨S, ρ, M, r, hh, q⟩
        exact q _ H (.bl z) hh Keeps.refl
      | _ => exact bad h
    | _ => exact bad h
  | non =>
    cases x with
    | Constant c j p =>
      cases c with
      | none =>
        refine PE.weak pe_non ?_
        rintro σ H Q ⟨S, ρ, M, r, hh, q⟩
        exact q _ H .non hh Keeps.refl
      | _ => exact bad h
    | _ => exact bad h
  | _ => exact bad hp
mutual
theorem sS : ∀ (t : Sm) {X : Cx} {nm : List (Str × NameKind)} {W : WX} {x : Stmt}, Good X cls k Tb G N nm true W → ckS Tb N nm t x = true → PS X x (tS X.K cls G W t)
  | .asg t e, X, nm, W, x, gd, h => by
    cases x with
    | Assign tgs v pos =>
      cases tgs with
      | nil => exact bad h
      | cons tg tgs =>
        cases tgs with
        | cons _ _ => exact bad h
        | nil =>
          obtain ⟨h1, h2⟩ := and2 (show (swC nm tg v && (swN nm tg v && (ckG Tb N nm true t tg && ckE Tb N nm true e v))) = true from h)
          obtain ⟨h2, h3⟩ := and2 h2
          obtain ⟨h3, h4⟩ := and2 h3
          refine PS.weak (ps_asg (sE e gd h4) (sG t gd h3) (swaps_C gd.nm h1 _) (sw_none gd.nm h2) (ckG_star h3 [] X.env)) fun D σ H ⟨S, ρ, M, r, hh, w⟩ => ?_
          refine tE_in r hh w (fun z M' q => KW.xw r Keeps.refl q) fun d M1 v H1 w1 r1 h1 k1 => ?_
          exact tG_in r1 (r.keep k1) h1 w1 (fun z M' q => KW.xw (r.keep k1) k1 q) fun ρ' M' σ' H' q a b c => q σ' H' a b (k1.trans c)
    | _ => exact bad h
  | .asgC i e, X, nm, W, x, gd, h => by
    cases e with
    | lc live own t it cs e =>
      cases x with
      | Assign tgs v spos =>
        cases tgs with
        | nil => exact bad h
        | cons tg tgs =>
          cases tg with
          | Name y py =>
            cases tgs with
            | cons _ _ => exact bad h
            | nil =>
              cases v with
              | ListComp elt gens scope pos =>
                obtain ⟨h1, h2⟩ := and2 (show (decide (N[i]? = some y) && (decide (nm.lookup y = some .local) && ((py.line == pos.line) && (!(scope.names.any fun (n, k) => n == y && (k == .local || k == .cell)) && ckE Tb N nm true (.lc live own t it cs e) (.ListComp elt gens scope pos))))) = true from h)
                obtain ⟨g2, h3⟩ := and2 h2
                obtain ⟨g3, h4⟩ := and2 h3
                obtain ⟨g4, g5⟩ := and2 h4
                cases gens with
                | nil => exact bad g5
                | cons c gens =>
                  cases gens with
                  | cons _ _ => exact bad g5
                  | nil =>
                    obtain ⟨tg, iter, ifs, asy⟩ := c
                    obtain ⟨f1, m2⟩ := and2 (show (decide (asy = 0) && (decide (ifs.length ≤ 1) && (blkC N ⟨.function, nm, false, false, []⟩ scope own && (notSet iter && (ckI Tb N nm true tg it iter && (ckG Tb N (ownN scope) false t tg && (tgOwn (own.map (·.2)) t && (ckTs Tb N (relN nm scope) false cs ifs && ckE Tb N (relN nm scope) false e elt)))))))) = true from g5)
                    obtain ⟨f2, m3⟩ := and2 m2
                    obtain ⟨f3, m4⟩ := and2 m3
                    obtain ⟨f4, m5⟩ := and2 m4
                    obtain ⟨f5, m6⟩ := and2 m5
                    obtain ⟨f6, m7⟩ := and2 m6
                    obtain ⟨f7, m8⟩ := and2 m7
                    obtain ⟨f8, f9⟩ := and2 m8
                    obtain rfl := dec1 f1
                    have ok0 := blkOk_by f3
                    have ok : BlkOk X.N X.env.scope scope own := by
                      rw [gd.hN]
                      exact ⟨ok0.kind, ok0.uniq, ok0.ix, fun y a b => by rw [gd.nm]; exact ok0.free y a b, ok0.own⟩
                    have hy : X.env.scope.names.lookup y = some .local := by rw [gd.nm]; exact dec1 g2
                    refine PS.weak (ps_setLc (wi := tI X.K cls G W it) (g := tGo X.K cls G (own.map (·.2)) t) (tt := tAl X.K cls G W0 cs) (te := tE X.K cls G W0 e) (i := i) gd.calm (by rw [gd.hN]; exact gd.nd) (by rw [gd.hN]; exact dec1 h1) hy (sw_true gd.kind hy g3 (by simpa using g4)) (sI it gd f5) ok (fun s H C cl fp => sGo t (blk_good gd ok0.kind s H C cl fp) (blk_own gd ok0.kind s H C cl fp) f7 f6) (fun s H C cl fp => sTt cs (blk_good gd ok0.kind s H C cl fp) (dec1 f2) f8)
                      (fun s H C cl fp => sE e (blk_good gd ok0.kind s H C cl fp) f9) (set_plain f4 _)) fun D σ H ⟨S, ρ, M, r, hh, w⟩ => ?_
                    refine lc_weak (live := live) σ H _ (tE_in r hh w (fun z M' q => KW.xw r Keeps.refl q) fun d M1 v H1 w1 r1 h1 k1 => ?_)
                    exact w1 _ H1 ((r.keep k1).set i r1) h1 k1
              | _ => exact bad h
          | _ => exact bad h
      | _ => exact bad h
    | _ => exact bad (by cases x <;> exact h)
  | .par i j a b, X, nm, W, x, gd, h => by
    cases x with
    | Assign tgs v spos =>
      cases tgs with
      | nil => exact bad h
      | cons tg tgs =>
        cases tgs with
        | cons _ _ => exact bad (by cases tg with
          | Tuple ts kt pt => exact (by cases ts with
            | nil => exact h
            | cons t1 ts => exact (by cases t1 <;> first | exact h | (cases ts with
              | nil => exact h
              | cons t2 ts => exact (by cases t2 <;> first | exact h | (cases ts <;> exact h)))))
          | _ => exact h)
        | nil =>
          cases tg with
          | Tuple ts kt pt =>
            cases ts with
            | nil => exact bad h
            | cons t1 ts =>
              cases t1 with
              | Name x px =>
                cases ts with
                | nil => exact bad h
                | cons t2 ts =>
                  cases t2 with
                  | Name y py =>
                    cases ts with
                    | cons _ _ => exact bad h
                    | nil =>
                      cases v with
                      | Tuple vs k2 p2 =>
                        cases vs with
                        | nil => exact bad h
                        | cons l vs =>
                          cases vs with
                          | nil => exact bad h
                          | cons rr vs =>
                            cases vs with
                            | cons _ _ => exact bad h
                            | nil =>
                              obtain ⟨f1, m2⟩ := and2 (show (decide (N[i]? = some x) && (decide (N[j]? = some y) && (decide (i ≠ j) && (decide (x ≠ y) && (decide (nm.lookup x = some .local) && (decide (nm.lookup y = some .local) && ((py.line == px.line) && (notStar l && (notStar rr && (!([l, rr].all (foldedForSure 8)) && (!([l, rr].all (constantsAlone 8)) && (ckE Tb N nm true a l && ckE Tb N nm true b rr)))))))))))) = true from h)
                              obtain ⟨f2, m3⟩ := and2 m2
                              obtain ⟨f3, m4⟩ := and2 m3
                              obtain ⟨f4, m5⟩ := and2 m4
                              obtain ⟨f5, m6⟩ := and2 m5
                              obtain ⟨f6, m7⟩ := and2 m6
                              obtain ⟨f7, m8⟩ := and2 m7
                              obtain ⟨f8, m9⟩ := and2 m8
                              obtain ⟨f9, m10⟩ := and2 m9
                              obtain ⟨f10, m11⟩ := and2 m10
                              obtain ⟨f11, m12⟩ := and2 m11
                              obtain ⟨f12, f13⟩ := and2 m12
                              have hx : X.env.scope.names.lookup x = some .local := by rw [gd.nm]; exact dec1 f5
                              have hy : X.env.scope.names.lookup y = some .local := by rw [gd.nm]; exact dec1 f6
                              refine PS.weak (ps_par (i := i) (j := j) gd.calm (by rw [gd.hN]; exact gd.nd) (by rw [gd.hN]; exact dec1 f1) (by rw [gd.hN]; exact dec1 f2) (dec1 f3) hx hy (pa_cons (sE a gd f12) (pa_cons (sE b gd f13) pa_nil (star_cons f9 _ _)) (star_cons f8 _ _))
                                (sw_par gd.nm gd.kind (dec1 f5) (dec1 f6) (dec1 f4) f7 f8 f9 f10 f11)) fun D σ H ⟨S, ρ, M, r, hh, w⟩ => ?_
                              refine tE_in r hh w (fun z M' q => KW.xw r Keeps.refl q) fun d1 M1 v1 H1 w1 r1 h1 k1 => ?_
                              refine tE_in (r.keep k1) h1 w1 (fun z M' q => KW.xw (r.keep k1) k1 q) fun d2 M2 v2 H2 w2 r2 h2 k2 => ?_
                              exact ⟨v1, v2, rfl, w2 _ H2 ((((r.keep k1).keep k2).set i (r1.keep k2)).set j r2) h2 (k1.trans k2)⟩
                      | _ => exact bad h
                  | _ => exact bad h
              | _ => exact bad h
          | _ => exact bad h
    | _ => exact bad h
  | .aug i o e, X, nm, W, x, gd, h => by
    cases x with
    | AugAssign tg p v pos =>
      cases tg with
      | Name y py =>
        obtain ⟨f1, m2⟩ := and2 (show (decide (N[i]? = some y) && (locB nm true y && ((o == .add || o == .sub) && (decide (opOf o = p) && ckE Tb N nm true e v)))) = true from h)
        obtain ⟨f2, m3⟩ := and2 m2
        obtain ⟨f3, m4⟩ := and2 m3
        obtain ⟨f4, f5⟩ := and2 m4
        obtain rfl := dec1 f4
        obtain ⟨hl, hf⟩ := loc_of gd.nm gd.fn f2
        have ho : o = .add ∨ o = .sub := by cases o <;> first | exact .inl rfl | exact .inr rfl | cases f3
        refine PS.weak (ps_aug (i := i) (by rw [gd.hN]; exact gd.nd) (by rw [gd.hN]; exact dec1 f1) hl (sE e gd f5) (opr_ibin (cls := cls) o ho) hf) fun D σ H ⟨S, ρ, M, r, hh, u, e1, w⟩ => ?_
        obtain ⟨x, ex, rx⟩ := r.at_ i u e1
        refine ⟨x, ex, tE_in r hh w (fun z M' q => KW.xw r Keeps.refl q) fun d1 M1 v1 H1 w1 r1 h1 k1 => ?_⟩
        exact ⟨S, M1, u, d1, _, rx.keep k1, r1, h1, w1, fun d M' z H' q rz hz kz => q _ H' (((r.keep k1).keep kz).set i rz) hz (k1.trans kz)⟩
      | _ => exact bad h
    | _ => exact bad h
  | .delD a i, X, nm, W, x, gd, h => by
    cases x with
    | Delete tgs pos =>
      cases tgs with
      | nil => exact bad h
      | cons tg tgs =>
        cases tg with
        | Subscript l r p =>
          cases tgs with
          | cons _ _ => exact bad h
          | nil =>
            obtain ⟨f1, f2⟩ := and2 (show (ckE Tb N nm true a l && ckE Tb N nm true i r) = true from h)
            refine PS.weak (ps_ddel (sE a gd f1) (sE i gd f2)) fun D σ H ⟨S, ρ, M, r, hh, w⟩ => ?_
            refine tE_in r hh w (fun z M' q => KW.xw r Keeps.refl q) fun d1 M1 v1 H1 w1 r1 h1 k1 => ?_
            refine tE_in (r.keep k1) h1 w1 (fun z M' q => KW.xw (r.keep k1) k1 q) fun d2 M2 v2 H2 ⟨p, kvs, y, e1, e2, e3, e4, w2⟩ r2 h2 k2 => ?_
            subst e1
            cases r1
            obtain ⟨ks, g1, g2⟩ := h2 _ _ e2
            have gk := keyV r2 e3
            have g3 : (valV ks y).isSome = true := by
              rcases valKD y g2 with ⟨z, _⟩ | ⟨_, _, _, z, _⟩
              · rw [z] at e4; cases e4
              · rw [z]; rfl
            have kp : Keeps X.K M2 H2 (mset M2 p (some (.dK (exceptD kvs y)))) (upd H2 p (.dK (dropK ks y))) := Keeps.write h2 e2
            exact ⟨p, ks, y, rfl, g1, gk, g3, w2 σ _ (((r.keep k1).keep k2).keep kp) (h2.write e2 ⟨_, upd_same, exceptKD y (Paired.mapP g2 fun _ _ z => ⟨z.1, z.2.keep kp⟩)⟩) ((k1.trans k2).trans kp)⟩
        | _ => exact bad (by cases tgs <;> exact h)
    | _ => exact bad h
  | .expr e, X, nm, W, x, gd, h => by
    cases x with
    | Expr v pos =>
      obtain ⟨f1, f2⟩ := and2 (show (noComp v && ckE Tb N nm true e v) = true from h)
      refine PS.weak (ps_expr (sE e gd f2) (swaps_plain f1 _ _ _)) fun D σ H ⟨S, ρ, M, r, hh, w⟩ => ?_
      exact tE_in r hh w (fun z M' q => KW.xw r Keeps.refl q) fun d1 M1 v1 H1 w1 r1 h1 k1 => w1 σ H1 (r.keep k1) h1 k1
    | _ => exact bad h
  | .if_ c a b, X, nm, W, x, gd, h => by
    cases x with
    | If t l rr pos =>
      obtain ⟨f1, m2⟩ := and2 (show (ckT Tb N nm true c t && (ckSs Tb N nm a l && ckSs Tb N nm b rr)) = true from h)
      obtain ⟨f2, f3⟩ := and2 m2
      refine PS.weak (ps_if (sT c gd f1) (sSs a gd f2) (sSs b gd f3)) fun D σ H ⟨S, ρ, M, r, hh, w⟩ => ?_
      refine tT_in r hh w (fun z M' q => KW.xw r Keeps.refl q) fun b1 M1 H1 w1 h1 k1 => ?_
      cases b1 with
      | true => rw [if_pos rfl] at w1 ⊢; exact tSs_in (r.keep k1) h1 w1 (KW.le k1)
      | false => rw [if_neg Bool.false_ne_true] at w1 ⊢; exact tSs_in (r.keep k1) h1 w1 (KW.le k1)
    | _ => exact bad h
  | .for_ t it b, X, nm, W, x, gd, h => by
    cases x with
    | For tg iter body orelse pos =>
      cases orelse with
      | cons _ _ => exact bad h
      | nil =>
        obtain ⟨f1, m2⟩ := and2 (show (notSet iter && (ckI Tb N nm true tg it iter && (ckG Tb N nm true t tg && ckSs Tb N nm b body))) = true from h)
        obtain ⟨f2, m3⟩ := and2 m2
        obtain ⟨f3, f4⟩ := and2 m3
        refine PS.weak (ps_for gd.pas gd.calm (sI it gd f2) (sG t gd f3) (sSs b gd f4) (set_plain f1 _)) fun D σ H ⟨S, ρ, M, r, hh, w⟩ => ?_
        refine tI_in r hh w (fun z M' q => KW.xw r Keeps.refl q) fun ds keep M1 J H1 q y h1 k1 => ?_
        refine ⟨fun i m σ2 H2 => m = ds.length - i ∧ i ≤ ds.length ∧ ∃ (ρ2 : Rho) (M2 : Mm), RelR X.K S M2 H2 ρ2 σ2 ∧ Hold X.K S cls M2 H2 ∧ Keeps X.K M1 H1 M2 H2 ∧ forRun keep _ (ds.drop i) ρ2 M2 _,
          ⟨ds.length, rfl, Nat.zero_le _, ρ, M1, r.keep k1, h1, Keeps.refl, q⟩, ?_⟩
        rintro i m σ2 H2 ⟨rfl, hi, ρ2, M2, r2, h2, k2, w2⟩
        have yy := y S (fun _ s => .inl s) i M2 H2 h2 k2
        by_cases hlt : i < ds.length
        · rw [List.drop_eq_getElem_cons hlt] at w2
          obtain ⟨wk, w2⟩ := w2
          obtain ⟨go, yi⟩ := (yy wk).1 hlt
          refine .inr ⟨go, fun σ' H' => ∃ (ρ2 : Rho) (M2 : Mm), RelR X.K S M2 H' ρ2 σ' ∧ Hold X.K S cls M2 H' ∧ Keeps X.K M1 H1 M2 H' ∧ forRun keep _ (ds.drop (i + 1)) ρ2 M2 _,
            fun σ' H' ⟨a, b, c1, c2, c3, c4⟩ => ⟨ds.length - (i + 1), by omega, rfl, hlt, a, b, c1, c2, c3, c4⟩, fun x H3 hx => ?_⟩
          obtain ⟨d, ed, rd, h3, k3⟩ := yi x H3 hx
          have ed' : ds[i] = d := by rw [List.getElem?_eq_getElem hlt] at ed; exact Option.some.inj ed
          rw [ed'] at w2
          have k13 := (k1.trans k2).trans k3
          refine tG_in rd (r2.keep k3) h3 w2 (fun z M' q => KW.xw (r2.keep k3) k13 q) fun ρ4 M4 σ4 H4 w4 r4 h4 k4 => ?_
          have k14 := k13.trans k4
          refine tSs_in r4 h4 w4 ⟨fun ρ' M' z σ' H' a b c => ⟨ρ', M', a, b, ((k2.trans k3).trans k4).trans c, z⟩, fun _ _ z v H' a b c => z v H' a b (k14.trans c), fun _ _ z σ' H' a b c => z σ' H' a b (k14.trans c),
            fun ρ' M' z σ' H' a b c => ⟨ρ', M', a, b, ((k2.trans k3).trans k4).trans c, z⟩, fun _ _ _ z σ' d H' a b c e => z σ' d H' a b c (k14.trans e)⟩
        · rw [List.drop_eq_nil_of_le (by omega)] at w2
          obtain ⟨wk, w2⟩ := w2
          exact .inl ⟨(yy wk).2 (by omega), w2 σ2 H2 r2 h2 (k1.trans k2)⟩
    | _ => exact bad h
  | .while_ c b, X, nm, W, x, gd, h => by
    cases x with
    | While t body orelse pos =>
      cases orelse with
      | cons _ _ => exact bad h
      | nil =>
        obtain ⟨f1, f2⟩ := and2 (show (ckT Tb N nm true c t && ckSs Tb N nm b body) = true from h)
        refine PS.weak (ps_while gd.pas (sT c gd f1) (sSs b gd f2)) fun D σ H ⟨S, ρ, M, r, hh, n, w⟩ => ?_
        refine ⟨fun m σ2 H2 => ∃ (ρ2 : Rho) (M2 : Mm), RelR X.K S M2 H2 ρ2 σ2 ∧ Hold X.K S cls M2 H2 ∧ Keeps X.K M H M2 H2 ∧ whRun _ m ρ2 M2, ⟨n, ρ, M, r, hh, Keeps.refl, w⟩, ?_⟩
        rintro m σ2 H2 ⟨ρ2, M2, r2, h2, k2, w2⟩
        cases m with
        | zero => exact False.elim w2
        | succ m =>
          have w2' : wpT G c ρ2 M2 (fun t M1 => if t = true then wpSs G b { (KW X.K S cls W D M H) with nx := whRun _ m, ct := whRun _ m, bk := (KW X.K S cls W D M H).nx } ρ2 M1 else (KW X.K S cls W D M H).nx ρ2 M1) (fun z M' => (KW X.K S cls W D M H).xx z ρ2 M') := w2
          refine tT_in r2 h2 w2' (fun z M' q => KW.xw r2 k2 q) fun b1 M3 H3 w3 h3 k3 => ?_
          have k13 := k2.trans k3
          cases b1 with
          | true =>
            rw [if_pos rfl] at w3 ⊢
            refine ⟨fun σ' H' => ∃ (ρ2 : Rho) (M2 : Mm), RelR X.K S M2 H' ρ2 σ' ∧ Hold X.K S cls M2 H' ∧ Keeps X.K M H M2 H' ∧ whRun _ m ρ2 M2, fun σ' H' z => ⟨m, Nat.lt_succ_self m, z⟩, ?_⟩
            exact tSs_in (r2.keep k3) h3 w3 ⟨fun ρ' M' z σ' H' a b c => ⟨ρ', M', a, b, k13.trans c, z⟩, fun _ _ z v H' a b c => z v H' a b (k13.trans c), fun _ _ z σ' H' a b c => z σ' H' a b (k13.trans c),
              fun ρ' M' z σ' H' a b c => ⟨ρ', M', a, b, k13.trans c, z⟩, fun _ _ _ z σ' d H' a b c e => z σ' d H' a b c (k13.trans e)⟩
          | false =>
            rw [if_neg Bool.false_ne_true] at w3 ⊢
            exact w3 σ2 H3 (r2.keep k3) h3 k13
    | _ => exact bad h
  | .ret e, X, nm, W, x, gd, h => by
    cases x with
    | Return v pos =>
      cases v with
      | none => exact bad h
      | some v =>
        refine PS.weak (ps_ret (sE e gd h)) fun D σ H ⟨S, ρ, M, r, hh, w⟩ => ?_
        exact tE_in r hh w (fun z M' q => KW.xw r Keeps.refl q) fun d1 M1 v1 H1 w1 r1 h1 k1 => w1 v1 H1 r1 h1 k1
    | _ => exact bad h
  | .retN, X, nm, W, x, gd, h => by
    cases x with
    | Return v pos =>
      cases v with
      | some _ => exact bad h
      | none => exact PS.weak ps_retN fun D σ H ⟨S, ρ, M, r, hh, w⟩ => w _ H .non hh Keeps.refl
    | _ => exact bad h
  | .brk, X, nm, W, x, gd, h => by
    cases x with
    | Break pos => exact PS.weak ps_break fun D σ H ⟨S, ρ, M, r, hh, w⟩ => w σ H r hh Keeps.refl
    | _ => exact bad h
  | .cont, X, nm, W, x, gd, h => by
    cases x with
    | Continue pos => exact PS.weak ps_continue fun D σ H ⟨S, ρ, M, r, hh, w⟩ => w σ H r hh Keeps.refl
    | _ => exact bad h
  | .pass, X, nm, W, x, gd, h => by
    cases x with
    | Pass pos => exact PS.weak ps_pass fun D σ H ⟨S, ρ, M, r, hh, w⟩ => w σ H r hh Keeps.refl
    | _ => exact bad h
  | .never, X, nm, W, x, gd, h => PS.weak ps_never fun D σ H ⟨S, ρ, M, r, hh, w⟩ => False.elim w
  | .raise c as, X, nm, W, x, gd, h => by
    cases x with
    | Raise v cause pos =>
      obtain ⟨y, p, es, p2, rfl, rfl, h⟩ : ∃ y p es p2, v = some (.Call (.Name y p) es [] p2) ∧ cause = none ∧ (decide (Tb.exs.lookup c = some (y, es.length)) && (glB nm y && (okN y && (decide (es.length < 29) && (noStars es && ckEs Tb N nm true as es))))) = true := by
        cases v with
        | none => exact bad h
        | some e =>
          cases e with
          | Call f es ks p2 =>
            cases f with
            | Name y p =>
              cases ks with
              | cons _ _ => exact bad h
              | nil =>
                cases cause with
                | some _ => exact bad h
                | none => exact ⟨y, p, es, p2, rfl, rfl, h⟩
            | _ => exact bad (by cases ks <;> exact h)
          | _ => exact bad h
      obtain ⟨h1, t1⟩ := and2 h
      obtain ⟨h2, t2⟩ := and2 t1
      obtain ⟨h3, t3⟩ := and2 t2
      obtain ⟨h4, t4⟩ := and2 t3
      obtain ⟨h5, h6⟩ := and2 t4
      obtain ⟨hm, b, fI, fd, ps, sp, T, iC, tI, F, bd, lvs⟩ := gd.env.ex c y _ (dec1 h1)
      have h4 := dec1 h4
      have room : Room (2 + 1) X.A := gd.room.mono (by unfold lv; omega)
      have pass : Passes (L2.CX X.prog X.w) X (fun _ _ _ => False) := passes_call LamX.takes0 fun _ _ _ _ z => z
      have fin : ∀ {σ : L2.St} {H : Hp} {D : Ends}, tS X.K cls G W (.raise c as) D σ H → tEs X.K cls G W as σ H fun vs H1 => vs.length ≤ 1000 ∧ ∀ a, H1 a = none → sp (.ref a :: vs) (upd H1 a (exo a (cls c) none))
          (fun v H2 => v = .non ∧ ∃ (d : Addr) (gs : List (Str × V)), H2 a = some (exo a (cls c) (some d)) ∧ H2 d = some (exd d gs) ∧ H1 d = none ∧ W (.ref (cls c)) (some d) σ (upd (del H2 a) d (.xd gs))) (fun _ _ _ => False) := by
        rintro σ H D ⟨S, ρ, M, r, hh, w⟩
        refine tEs_inL r hh w (fun z M' q => KW.xw r Keeps.refl q) fun ds M1 vs H1 ln ⟨fs, ex, w1⟩ r1 h1 k1 => ?_
        have len : vs.length = es.length := by rw [← r1.length, ln, ckEs_len as h6]
        refine ⟨by omega, fun a na => lvs S M1 H1 ds vs fs (fun cl d H' => W cl d σ H') a r1 len ex na fun d gs nd pr => ?_⟩
        have k2 : Keeps X.K M1 H1 M1 (upd H1 d (.xd gs)) := Keeps.newH nd
        exact w1 σ d _ ((r.keep k1).keep k2) ⟨gs, upd_same, RelF.keep pr k2⟩ (h1.newH nd) (k1.trans k2)
      cases es with
      | nil =>
        refine PS.weak (ps_raise gd.calm gd.tk (pmk_cls0 T iC tI F room bd pass (gl_of gd.nm h2) hm (okN_of h3).1)) fun D σ H w => ?_
        have z := fin w
        cases as with
        | nil =>
          obtain ⟨S, ρ, M, r, hh, w⟩ := z
          exact w [] H .nil hh Keeps.refl
        | cons _ _ => exact bad h6
      | cons e es => exact PS.weak (ps_raise gd.calm gd.tk (pmk_cls T iC tI F room bd pass (gl_of gd.nm h2) hm (okN_of h3).1 (sEs as gd h5 h6) h5)) fun D σ H w => fin w
    | _ => exact bad h
  | .setf a f e, X, nm, W, x, gd, h => by
    cases x with
    | Assign tgs v pos =>
      cases tgs with
      | nil => exact bad h
      | cons tg tgs =>
        cases tg with
        | Attribute l y p =>
          cases tgs with
          | cons _ _ => exact bad h
          | nil =>
            obtain ⟨h1, t1⟩ := and2 (show (decide (f = y) && (decide (f ∈ Tb.flds) && (ckE Tb N nm true a l && ckE Tb N nm true e v))) = true from h)
            obtain ⟨h2, t2⟩ := and2 t1
            obtain ⟨h3, h4⟩ := and2 t2
            obtain rfl := dec1 h1
            refine PS.weak (ps_fld (sE a gd h3) (sE e gd h4) (swaps_attr _ _ _ _ _ _)) fun D σ H ⟨S, ρ, M, r, hh, w⟩ => ?_
            refine tE_in r hh w (fun z M' q => KW.xw r Keeps.refl q) fun d1 M1 v1 H1 w1 r1 h1 k1 => ?_
            refine tE_in (r.keep k1) h1 w1 (fun z M' q => KW.xw (r.keep k1) k1 q) fun d2 M2 v2 H2 ⟨p2, c, fs, e1, e2, e3, w2⟩ r2 h2' k2 => ?_
            subst e1
            cases r2
            obtain ⟨ok, dx, gs, eh, pr, h3', k3⟩ := h2'.setf (f := f) e2 (r1.keep k2)
            obtain ⟨cc, no⟩ := gd.env.cl c ok
            exact ⟨p2, cls c, dx, gs, rfl, eh, cc, no f (dec1 h2), by rw [← RelF.len pr]; exact e3, w2 σ _ (((r.keep k1).keep k2).keep k3) h3' ((k1.trans k2).trans k3)⟩
        | _ => exact bad (by cases tgs <;> exact h)
    | _ => exact bad h
  | .augf a f o e, X, nm, W, x, gd, h => by
    cases x with
    | AugAssign tg p v pos =>
      cases tg with
      | Attribute l y py =>
        obtain ⟨h1, t1⟩ := and2 (show (decide (f = y) && (decide (f ∈ Tb.flds) && ((o == .add || o == .sub) && (decide (opOf o = p) && (ckE Tb N nm true a l && ckE Tb N nm true e v))))) = true from h)
        obtain ⟨h2, t2⟩ := and2 t1
        obtain ⟨h3, t3⟩ := and2 t2
        obtain ⟨h4, t4⟩ := and2 t3
        obtain ⟨h5, h6⟩ := and2 t4
        obtain rfl := dec1 h1
        obtain rfl := dec1 h4
        have ho : o = .add ∨ o = .sub := by cases o <;> first | exact .inl rfl | exact .inr rfl | cases h3
        refine PS.weak (ps_fldaug (sE a gd h5) (sE e gd h6) (opr_ibin (cls := cls) o ho)) fun D σ H ⟨S, ρ, M, r, hh, w⟩ => ?_
        refine tE_in r hh w (fun z M' q => KW.xw r Keeps.refl q) fun d1 M1 v1 H1 ⟨p1, c, fs, yv, e1, e2, e3, w1⟩ r1 h1' k1 => ?_
        subst e1
        cases r1
        obtain ⟨ok, dx, gs, eh, pr⟩ := h1' p1 _ e2
        obtain ⟨cc, no⟩ := gd.env.cl c ok
        obtain ⟨vf, ev, rv⟩ := RelF.get pr e3
        refine ⟨p1, cls c, dx, gs, vf, rfl, eh, cc, no f (dec1 h2), ev, ?_⟩
        refine tE_in (r.keep k1) h1' w1 (fun z M' q => KW.xw (r.keep k1) k1 q) fun d2 M2 v2 H2 w2 r2 h2' k2 => ?_
        refine ⟨S, M2, yv, d2, _, rv.keep k2, r2, h2', w2, fun d3 M3 v3 H3 ⟨fs', e4, e5, w3⟩ r3 h3' k3 => ?_⟩
        obtain ⟨ok', dx', gs', eh', pr', h4', k4⟩ := h3'.setf (f := f) e4 r3
        exact ⟨dx', gs', eh', by rw [← RelF.len pr']; exact e5, w3 σ _ ((((r.keep k1).keep k2).keep k3).keep k4) h4' (((k1.trans k2).trans k3).trans k4)⟩
      | _ => exact bad h
    | _ => exact bad h
  | .tryN b, X, nm, W, x, gd, h => by
    cases x with
    | Try body hs orelse fin pos =>
      obtain ⟨h0, h1, rfl, rfl, rfl, h⟩ : ∃ h0 h1, hs = h0 :: h1 ∧ orelse = [] ∧ fin = [] ∧ ckSs Tb N nm b body = true := by
        unfold ckS at h
        split at h
        all_goals first | cases h | skip
        all_goals rename_i heq1 heq2
        all_goals first | (cases heq1; done) | skip
        all_goals first | (cases heq2; done) | skip
        cases heq1
        cases heq2
        exact ⟨_, _, rfl, rfl, rfl, h⟩
      refine PS.weak (ps_try_thru0 (sSs b (good_nox gd) h)) fun D σ H ⟨S, ρ, M, r, hh, w⟩ => ?_
      exact tSs_in (W := W0) r hh w ⟨fun _ _ z => z, fun _ _ z => z, fun _ _ z => z, fun _ _ z => z, fun _ _ _ z => z.elim⟩
    | _ => exact bad h
  | .tryR b c e, X, nm, W, x, gd, h => by
    cases x with
    | Try body hs orelse fin pos =>
      obtain ⟨y, q1, v, q2, q3, rfl, rfl, rfl, h⟩ : ∃ y q1 v q2 q3, hs = [.ExceptHandler (some (.Name y q1)) none [.Return (some v) q2] q3] ∧ orelse = [] ∧ fin = [] ∧ (decide ((Tb.exs.lookup c).map (·.1) = some y) && (glB nm y && (okN y && (plainE e && (ckE Tb N nm true e v && ckSs Tb N nm b body))))) = true := by
        unfold ckS at h
        split at h
        all_goals first | cases h | skip
        all_goals rename_i heq1 heq2
        all_goals first | (cases heq1; done) | skip
        all_goals first | (cases heq2; done) | skip
        cases heq1
        cases heq2
        exact ⟨_, _, _, _, _, rfl, rfl, rfl, h⟩
      obtain ⟨h1, t1⟩ := and2 h
      obtain ⟨h2, t2⟩ := and2 t1
      obtain ⟨h3, t3⟩ := and2 t2
      obtain ⟨h4, t4⟩ := and2 t3
      obtain ⟨h5, h6⟩ := and2 t4
      obtain ⟨n, hn⟩ : ∃ n, Tb.exs.lookup c = some (y, n) := by
        have z := dec1 h1
        cases q : Tb.exs.lookup c with
        | none => rw [q] at z; cases z
        | some p => rw [q] at z; cases z; exact ⟨p.2, rfl⟩
      obtain ⟨hm, _⟩ := gd.env.ex c y n hn
      obtain ⟨own1, own2⟩ := gd.own rfl
      refine PS.weak (ps_try_only (ts := fun a cl d D σ H => ∃ S ρ M, RelR X.K S M H ρ σ ∧ Hold X.K S cls M H ∧ wpE G e ρ M (QW X.K S cls D.rt M H) (fun _ _ => False)) (tb := fun W' => tSs X.K cls G W' b) (Wout := W) own1 own2 ⟨gl_of gd.nm h2, (okN_of h3).1, .inl hm⟩ gd.tk
        (fun W' pn xe tk pas => sSs b (good_tr gd tk pas) h6) (fun a oe cl d pn hz hf => pss_one (PS.weak (ps_ret (sPl gd h4 h5)) ?_))) ?_
      · rintro D σ H ⟨S, ρ, M, r, hh, w⟩
        exact ⟨S, ρ, M, r, hh, w⟩
      · rintro D σ H ⟨S, ρ, M, r, hh, w⟩
        refine tSs_in r hh w ⟨fun _ _ z => z, fun _ _ z => z, fun _ _ z => z, fun _ _ z => z, fun z ρ' M' q σ' d H' r' xc h' k' => ?_⟩
        obtain ⟨bb, e1, q⟩ := q
        refine ⟨bb, gd.env.sub _ _ _ e1, fun hb a na => ?_, fun hb => ?_⟩
        · subst hb
          exact ⟨S, ρ', M', r', h', wpE_mono e (fun d M2 z v H2 a b c => z v H2 a b (k'.trans c)) (fun _ _ z => z) q⟩
        · subst hb
          exact q σ' d H' r' xc h' k'
    | _ => exact bad h
  | .lock s, X, nm, W, x, gd, h => by
    refine PS.weak (ps_lock (sS s gd (show ckS Tb N nm s x = true by cases x <;> exact h))) fun D σ H ⟨S, ρ, M, r, hh, p, kvs, em, w⟩ => ?_
    obtain ⟨ks, e1, pr⟩ := hh p _ em
    refine ⟨p, .dK ks, e1, True.intro, fun od => ?_⟩
    obtain ⟨h1, k1⟩ := lock_in (od := od) hh em e1 pr
    have back : ∀ {M' : Mm} {H' : Hp}, Hold X.K S cls M' H' → Keeps X.K (mset M p (some (.dF kvs (.frz od (.dK ks))))) (upd H p (.frz od (.dK ks))) M' H' → M' p = some (.dF kvs (.frz od (.dK ks))) →
        H' p = some (.frz od (.dK ks)) ∧ Hold X.K S cls (mset M' p (some (.dK kvs))) (upd H' p (.dK ks)) ∧ Keeps X.K M' H' (mset M' p (some (.dK kvs))) (upd H' p (.dK ks)) ∧ Keeps X.K M H (mset M' p (some (.dK kvs))) (upd H' p (.dK ks)) := fun h' k' e' => by
      obtain ⟨g1, g2, g3⟩ := lock_out h' e'
      exact ⟨g1, g2, g3, (k1.trans k').trans g3⟩
    refine ⟨S, ρ, _, r.keep k1, h1, wpS_mono s ⟨fun ρ' M' z σ' H' a b c => ?_, fun d M' z v H' a b c => ?_, fun ρ' M' z σ' H' a b c => ?_, fun ρ' M' z σ' H' a b c => ?_, fun zz ρ' M' z σ' d H' a b c e => ?_⟩ (w (.frz od (.dK ks)))⟩
    · obtain ⟨g1, g2, g3, g4⟩ := back b c z.1
      exact ⟨g1, z.2 σ' _ (a.keep g3) g2 g4⟩
    · obtain ⟨g1, g2, g3, g4⟩ := back b c z.1
      exact ⟨g1, z.2 v _ (a.keep g3) g2 g4⟩
    · obtain ⟨g1, g2, g3, g4⟩ := back b c z.1
      exact ⟨g1, z.2 σ' _ (a.keep g3) g2 g4⟩
    · obtain ⟨g1, g2, g3, g4⟩ := back b c z.1
      exact ⟨g1, z.2 σ' _ (a.keep g3) g2 g4⟩
    · exact z σ' d H' a b c (k1.trans e)
  | .par3 i j l a b c, X, nm, W, x, gd, h => by
    have hx : ∃ tx ty tz px py pz kt pt u v w k2 p2 sp, x = .Assign [.Tuple [.Name tx px, .Name ty py, .Name tz pz] kt pt] (.Tuple [u, v, w] k2 p2) sp ∧ (decide (N[i]? = some tx ∧ N[j]? = some ty ∧ N[l]? = some tz ∧ i ≠ j ∧ i ≠ l ∧ j ≠ l ∧ tx ≠ ty ∧ tx ≠ tz ∧ ty ≠ tz ∧ nm.lookup tx = some .local ∧ nm.lookup ty = some .local ∧ nm.lookup tz = some .local) && ((py.line == px.line) && ((pz.line == px.line) && (notStar u && (notStar v && (notStar w && (!([u, v, w].all (foldedForSure 8)) && (!([u, v, w].all (constantsAlone 8)) && (ckE Tb N nm true a u && (ckE Tb N nm true b v && ckE Tb N nm true c w)))))))))) = true := by
      unfold ckS at h
      split at h
      all_goals first | cases h | skip
      all_goals rename_i heq1 heq2
      all_goals first | (cases heq1; done) | skip
      all_goals first | (cases heq2; done) | skip
      cases heq1
      cases heq2
      exact ⟨_, _, _, _, _, _, _, _, _, _, _, _, _, _, rfl, h⟩
    obtain ⟨tx, ty, tz, px, py, pz, kt, pt, u, v, w, k2, p2, sp, rfl, h⟩ := hx
    obtain ⟨f1, m2⟩ := and2 h
    obtain ⟨f2, m3⟩ := and2 m2
    obtain ⟨f3, m4⟩ := and2 m3
    obtain ⟨f4, m5⟩ := and2 m4
    obtain ⟨f5, m6⟩ := and2 m5
    obtain ⟨f6, m7⟩ := and2 m6
    obtain ⟨f7, m8⟩ := and2 m7
    obtain ⟨f8, m9⟩ := and2 m8
    obtain ⟨f9, m10⟩ := and2 m9
    obtain ⟨f10, f11⟩ := and2 m10
    obtain ⟨n1, n2, n3, d1, d2, d3, d4, d5, d6, l1, l2, l3⟩ := dec1 f1
    refine PS.weak (ps_par3 (i := i) (j := j) (l := l) gd.calm (by rw [gd.hN]; exact gd.nd) (by rw [gd.hN]; exact n1) (by rw [gd.hN]; exact n2) (by rw [gd.hN]; exact n3) d1 d2 d3 (by rw [gd.nm]; exact l1) (by rw [gd.nm]; exact l2) (by rw [gd.nm]; exact l3)
      (pa_cons (sE a gd f9) (pa_cons (sE b gd f10) (pa_cons (sE c gd f11) pa_nil (star_cons f6 _ _)) (star_cons f5 _ _)) (star_cons f4 _ _)) (sw_par3 gd.nm gd.kind l1 l2 l3 d4 d5 d6 f2 f3 f4 f5 f6 f7 f8)) fun D σ H ⟨S, ρ, M, r, hh, w⟩ => ?_
    refine tE_in r hh w (fun z M' q => KW.xw r Keeps.refl q) fun d1 M1 v1 H1 w1 r1 h1 k1 => ?_
    refine tE_in (r.keep k1) h1 w1 (fun z M' q => KW.xw (r.keep k1) k1 q) fun d2 M2 v2 H2 w2 r2 h2 k2 => ?_
    refine tE_in ((r.keep k1).keep k2) h2 w2 (fun z M' q => KW.xw ((r.keep k1).keep k2) (k1.trans k2) q) fun d3 M3 v3 H3 w3 r3 h3 k3 => ?_
    exact ⟨v1, v2, v3, rfl, w3 _ H3 ((((((r.keep k1).keep k2).keep k3).set i ((r1.keep k2).keep k3)).set j (r2.keep k3)).set l r3) h3 ((k1.trans k2).trans k3)⟩
theorem sSs : ∀ (ts : Sms) {X : Cx} {nm : List (Str × NameKind)} {W : WX} {xs : List Stmt}, Good X cls k Tb G N nm true W → ckSs Tb N nm ts xs = true → PSs X xs (tSs X.K cls G W ts)
  | .nil, X, nm, W, xs, gd, h => by
    cases xs with
    | nil => exact PSs.weak pss_nil fun D σ H ⟨S, ρ, M, r, hh, w⟩ => w σ H r hh Keeps.refl
    | cons _ _ => exact bad h
  | .cons s ss, X, nm, W, xs, gd, h => by
    cases xs with
    | nil => exact bad h
    | cons y ys =>
      obtain ⟨f1, f2⟩ := and2 (show (ckS Tb N nm s y && ckSs Tb N nm ss ys) = true from h)
      refine PSs.weak (pss_cons (sS s gd f1) (sSs ss gd f2)) fun D σ H ⟨S, ρ, M, r, hh, w⟩ => ?_
      refine tS_in r hh w ⟨fun ρ' M' z σ' H' a b c => tSs_in a b z (KW.le c), fun _ _ z => z, fun _ _ z => z, fun _ _ z => z, fun _ _ _ z => z⟩
end
end
end Fm

/-! The engine, part L: defs by their texts, all defs of a law at once, the law's end. -/
namespace Fm
open PySem L2 PySem.Spec PyProof.Rows

def startR (N : List Str) (ds : List Dt) : Rho := ds.map some ++ List.replicate (N.length - ds.length) none
def bodyK (q : QD) (x : QX) : Kn := ⟨fun _ M' => q .non M', q, fun _ _ => False, fun _ _ => False, fun z _ M' => x z M'⟩
def wfB (G : Gt) (N : List Str) (n : Nat) (b : Sms) : Wf where
  run ds M q x := ds.length = n ∧ wpSs G b (bodyK q x) (startR N ds) M
  mono := fun hq hx h => ⟨h.1, wpSs_mono b (k := bodyK _ _) (k' := bodyK _ _) ⟨fun _ M z => hq .non M z, fun d M z => hq d M z, fun _ _ z => z, fun _ _ z => z, fun z _ M y => hx z M y⟩ h.2⟩
def botW : Wf where
  run _ _ _ _ := False
  mono := fun _ _ h => h

section
variable {K : PySem.W.Frag} {S : Addr → Prop} {M : Mm} {H : Hp}
theorem RelR.start {N : List Str} : ∀ {ds : List Dt} {vs : List V}, RelDs K S M H ds vs → RelR K S M H (startR N ds) (L2.start N vs) := by
  intro ds vs r
  have l := r.length
  refine ⟨?_, fun i d e => ?_⟩
  · unfold startR L2.start
    rw [List.length_append, List.length_append, List.length_map, List.length_map, List.length_replicate, List.length_replicate, l]
  · unfold startR at e
    unfold L2.start
    by_cases hi : i < ds.length
    · rw [List.getElem?_append_left (by rw [List.length_map]; exact hi), List.getElem?_map] at e
      rw [List.getElem?_append_left (by rw [List.length_map, ← l]; exact hi), List.getElem?_map]
      cases q : ds[i]? with
      | none => rw [q] at e; cases e
      | some d' =>
        rw [q] at e
        cases e
        obtain ⟨v, h1, h2⟩ := r.get q
        exact ⟨v, by rw [h1]; rfl, h2⟩
    · rw [List.getElem?_append_right (by rw [List.length_map]; omega), List.getElem?_replicate] at e
      split at e <;> cases e
end

def DD.ps (d : DD) : List Str := d.N.take d.np
/-- the name by which it is called -/
def DD.fnName (d : DD) : Str := match d.cn with
  | none => if d.op.full = true then d.name else "__debug__"
  | some _ => "__debug__"
def DD.scB (d : DD) : Bool := decide ((defScope d.st).kind = .function) && (!(defScope d.st).isCoroutine && (!(defScope d.st).isGenerator && (decide d.N.Nodup && (decide (d.ps.length = d.np) &&
  (d.ps.all (fun x => decide ((defScope d.st).names.lookup x = some .local) || decide ((defScope d.st).names.lookup x = some .cell)) && (defScope d.st).names.all fun y => !decide (y.2 = .free))))))
/-- all parameters are told by their places, no defaults -/
def BindN (d : DD) : Prop := ∀ (kV doc pm : Value) (an : Option Addr) (cdv ct : Value) (us : List Value), us.length = d.ps.length → bindArgs (PySem.W.fnOf d.name d.qual (defArgs d.st) (defBody d.st) (defScope d.st) .none kV doc pm an cdv ct) ⟨us, []⟩ = pure (d.ps.zip us)
/-- the last is left out; it is told by its name -/
def BindK (d : DD) (x : Str) : Prop := ∀ (D : Addr) (doc pm : Value) (an : Option Addr) (cdv ct : Value) (us : List Value) (w : Value), us.length + 1 = d.ps.length →
  KwChain D [(x, w)] (bindArgs (PySem.W.fnOf d.name d.qual (defArgs d.st) (defBody d.st) (defScope d.st) .none (.ref D) doc pm an cdv ct) ⟨us, []⟩) (d.ps.zip (us ++ [w])) ∧
  bindArgs (PySem.W.fnOf d.name d.qual (defArgs d.st) (defBody d.st) (defScope d.st) .none (.ref D) doc pm an cdv ct) ⟨us, [(x, w)]⟩ = pure (d.ps.zip (us ++ [w]))
/-- the last is told by its place, or left out -/
def BindP (d : DD) : Prop := ∀ (T : Addr) (kV doc pm : Value) (an : Option Addr) (cdv ct : Value) (us : List Value) (w : Value),
  (us.length = d.ps.length → ∃ k, bindArgs (PySem.W.fnOf d.name d.qual (defArgs d.st) (defBody d.st) (defScope d.st) (.ref T) kV doc pm an cdv ct) ⟨us, []⟩ = seqItems? (.ref T) >>= k ∧ k (some #[w]) = pure (d.ps.zip us)) ∧
  (us.length + 1 = d.ps.length → ∃ k, bindArgs (PySem.W.fnOf d.name d.qual (defArgs d.st) (defBody d.st) (defScope d.st) (.ref T) kV doc pm an cdv ct) ⟨us, []⟩ = seqItems? (.ref T) >>= k ∧ k (some #[w]) = pure (d.ps.zip (us ++ [w])))
def DD.Bind (d : DD) : Prop := match d.op with
  | .no => BindN d
  | .kw x _ => BindK d x
  | .ps _ => BindP d
theorem DD.scope {d : DD} (h : d.scB = true) : FnScope d.N d.ps (defScope d.st) ∧ d.ps.length = d.np := by
  obtain ⟨h1, h⟩ := and2 h
  obtain ⟨h2, h⟩ := and2 h
  obtain ⟨h3, h⟩ := and2 h
  obtain ⟨h4, h⟩ := and2 h
  obtain ⟨h5, h⟩ := and2 h
  obtain ⟨h6, h7⟩ := and2 h
  refine ⟨⟨dec1 h1, by simpa using h2, by simpa using h3, dec1 h4, ?_, fun x hx => ?_, fun y hy => ?_⟩, dec1 h5⟩
  · rw [dec1 h5]; rfl
  · have := List.all_eq_true.mp h6 x hx
    simpa using this
  · have := List.all_eq_true.mp h7 y hy
    simpa using this
theorem mem_lk {α κ : Type} [BEq κ] [LawfulBEq κ] {g : κ} {b : α} : ∀ {l : List (κ × α)}, l.lookup g = some b → (g, b) ∈ l
  | (a, c) :: r, h => by
    rw [List.lookup_cons] at h
    cases q : g == a with
    | true =>
      rw [q] at h
      have e1 : g = a := beq_iff_eq.mp q
      subst e1
      cases h
      exact List.mem_cons_self
    | false =>
      rw [q] at h
      exact List.mem_cons_of_mem _ (mem_lk h)
theorem lookup_map {α β κ : Type} [BEq κ] (f : α → β) (g : κ) : ∀ l : List (κ × α), (l.map fun p => (p.1, f p.2)).lookup g = (l.lookup g).map f
  | [] => rfl
  | (a, b) :: r => by
    rw [List.map_cons, List.lookup_cons, List.lookup_cons]
    cases g == a with
    | true => rfl
    | false => exact lookup_map f g r
def Gv.d : Gv → Dt
  | .int i => .int i
  | .str s => .str s
def Txt.opOf (T : Txt) (g : Nat) : Op := match T.defs.lookup g with
  | some d => d.op
  | none => .no
def Txt.tab (T : Txt) : Tab where
  fns := T.defs.map fun p => (p.1, p.2.fnName, p.2.np)
  gls := T.gls.map fun p => (p.1, p.2.1)
  bis := T.bis
  exs := T.exs.map fun p => (p.1, p.2.name, p.2.N.length - 1)
  cls := T.cls.map fun p => (p.1, p.2.1, p.2.2.2)
  mths := T.mts.map fun p => p.1.2
  cops := T.cls.map fun p => (p.1, T.opOf p.2.2.1)
  mops := T.mts.map fun p => (p.1.2, T.opOf p.2)
  flds := T.flds
  why := T.why.isSome
def putFsD : List (Str × Nat) → List Dt → List (Str × Dt) → List (Str × Dt)
  | [], _, gs => gs
  | (f, i) :: r, vs, gs => putFsD r vs ((f, vs.getD i .non) :: gs)
def ExR.give (r : ExR) (ds : List Dt) : Option (List (Str × Dt)) := match r.sh, ds with
  | .base _ none, [w] => some [("word", w)]
  | .base _ (some z), [] => some [("word", .str z)]
  | .sub _ w fs, ds => if ds.length + 1 = r.N.length then some (putFsD fs (.non :: ds) [("word", .str w)]) else none
  | _, _ => none
def Txt.told (T : Txt) (c : Nat) (fs : List (Str × Dt)) : Option Dt := T.why.bind fun t => (T.exs.lookup c).bind fun r => if r.leaf = true then rowsD c fs t.rows else none
def Txt.gv (T : Txt) (g : Nat) : Dt := match T.gls.lookup g with
  | some p => p.2.d
  | none => .non
/-- what the defs do with so many calls nested -/
def gnC (T : Txt) (F : Nat → Wf) : Gt where
  call := F
  gval := T.gv
  exc := fun c ds => (T.exs.lookup c).bind fun r => r.give ds
  told := T.told
  sub := T.sub
  init := fun c => match T.cls.lookup c with
    | some p => F p.2.1
    | none => botW
  meth := fun c m => (T.mts.lookup (c, m)).map F
def Gn (T : Txt) : Nat → Gt
  | 0 => gnC T fun _ => botW
  | n + 1 => gnC T fun g => match T.defs.lookup g with
    | some d => wfB (Gn T n) d.N d.np d.body
    | none => botW
/-- the look at the texts -/
def ExR.ok (r : ExR) : Bool := r.dd.scB && (ckInit r.par r.N r.sh (defBody r.st) && match r.sh with
  | .base b _ => glB (defScope r.st).names (Str.ofString b.nm)
  | .sub _ _ fs => glB (defScope r.st).names r.par && (decide (fs.length ≤ 800) && fs.all fun p => decide (0 < p.2)))
def WhyT.ok (T : Txt) (t : WhyT) : Bool := t.ddW.scB && (t.ddF.scB && (ckWhy "FarError" "Missing" "NothingLeft" "_law_fields" (defBody t.stW) && (glB (defScope t.stW).names "_law_fields" && (glB (defScope t.stW).names "FarError" && (glB (defScope t.stW).names "Missing" && (glB (defScope t.stW).names "NothingLeft" &&
  (decide ((defScope t.stW).names.lookup ("_law_found" : Str) = some .local) && (decide ((defScope t.stW).names.lookup ("_law_e" : Str) = some .local) && (ckFields T.rowN (defScope t.stF).names t.ev t.rows (defBody t.stF) && okN t.ev)))))))))
def Txt.ok (T : Txt) : Bool := (T.defs.all fun p => p.2.scB && ckSs T.tab p.2.N (defScope p.2.st).names p.2.body (defBody p.2.st)) && ((T.exs.all fun p => p.2.ok) && ((match T.why with
  | some t => t.ok T
  | none => true) && ((T.cls.all fun p => match T.defs.lookup p.2.2.1 with
    | some d => decide (d.cn = some p.2.1) && (decide (d.name = ("__init__" : Str)) && decide (d.np = p.2.2.2 + 1))
    | none => false) && (T.mts.all fun p => match T.defs.lookup p.2, T.cls.lookup p.1.1 with
    | some d, some q => decide (d.cn = some q.1) && (decide (d.name = p.1.2) && decide (d.op = T.tab.mop p.1.2))
    | _, _ => false))))
def AllBind : List DD → Prop
  | [] => True
  | d :: r => d.Bind ∧ AllBind r
theorem AllBind.mem_ : ∀ {ds : List DD} {p : DD}, AllBind ds → p ∈ ds → p.Bind
  | d :: r, p, h, e => by
    rcases List.mem_cons.mp e with e | e
    · subst e; exact h.1
    · exact AllBind.mem_ h.2 e

/-! ### what the head is asked of the text's objects -/

/-! ### the hook: what the names reach, and the interpreter's own statics beside it (a class is read only where they are seen) -/
theorem told_at {as : List Addr} {T : Txt} {w : World} {h : Heap} {K : PySem.W.Frag} (eK : He.frT h.get? as = K)
    (a1 : He.obsT T.fa T.fn [] K = He.valT T.fn [] w) (a2 : (T.ex T.tf K && He.tabsB h.get? T.tf K) = true) : He.SaysX T.fa T.fn [] T.tf (T.ex T.tf) w h K := by
  obtain ⟨b1, b2⟩ := and2 a2
  have each : ∀ d, d ∈ T.tf → PySem.W.codeHdIn K (He.cT K d).1 (He.cT K d).2 = true ∧ ∃ z, h.get? (He.cT K d).2 = some z ∧ He.emptyTab z = true := by
    intro d hd
    obtain ⟨c1, c2⟩ := and2 (List.all_eq_true.mp b2 d hd)
    refine ⟨c1, ?_⟩
    split at c2
    · rename_i z ez
      exact ⟨z, ez, c2⟩
    · cases c2
  subst eK
  constructor
  · exact a1
  · exact b1
  · intro d hd; exact (each d hd).1
  · intro d hd
    have ⟨_, z, e, t⟩ := each d hd
    exact He.frT_none e t
  · intro d hd
    have ⟨_, z, e, t⟩ := each d hd
    rw [e, He.emptyTab_eq t]
def hookF (n : Nat) (T : Txt) : PySem.W.Hook where
  α := He.AlX
  obs := fun s => obsF n T s.heap.get?
  val := fun w => He.valX T.fn [] w
  says := fun w h => ∃ K : PySem.W.Frag, K.In h ∧ He.SaysX T.fa T.fn [] T.tf (T.ex T.tf) w h K
  of := fun _ h e => ⟨_, He.frT_in, told_at (as := reachF n h.heap.get?) rfl (congrArg Prod.fst e) (congrArg Prod.snd e)⟩
  keeps := fun _ _ _ z keep => by
    obtain ⟨K, i, c⟩ := z
    exact ⟨K, i.keeps keep, c.t, c.more, c.hd, c.out, fun p hp => keep _ _ (c.empty p hp)⟩
theorem obsF_eq {n : Nat} {T : Txt} {g : Addr → Option Obj} {s : Shared} (h : ∀ a, g a = s.heap.get? a) : obsF n T g = (hookF n T).obs s := by
  rw [show g = s.heap.get? from funext h]
  rfl
end Fm

/-! The engine, part T: all defs of a law at once, the law's end. -/
namespace Fm
open PySem L2 PySem.Spec PyProof.Rows

/-- the classes of a law, by numbers -/
def Txt.cl (T : Txt) (K : PySem.W.Frag) : Cl where
  of := fun c => match T.exs.lookup c with
    | some r => He.ga K r.name
    | none => match T.cls.lookup c with
      | some p => He.ga K p.1
      | none => match T.nms.lookup c with
        | some n => He.ga K n
        | none => 0
  T := if T.why.isSome = true then T.defs.map fun p => ((He.cT K p.2.at_).2, p.2.qual ++ ".<locals>." ++ "<lambda>") else []
  ok := fun c => T.exs.lookup c = none ∧ (T.cls.lookup c).isSome = true
def DD.dvs (K : PySem.W.Frag) (d : DD) : List V := d.op.dfl.map (He.Dv.v K)
def DD.kws (K : PySem.W.Frag) (d : DD) : List (Str × V) := d.op.kwd.map fun q => (q.1, q.2.v K)
/-- a def, with its defaults -/
abbrev DD.Fun (K : PySem.W.Frag) (d : DD) (f : Addr) (fd : FuncData) : Prop := FunD K d.name d.qual (defArgs d.st) (defBody d.st) (defScope d.st) (d.dvs K) (d.kws K) f fd
theorem bd_ok {K : PySem.W.Frag} {d : DD} (B : d.Bind) {f : Addr} {fd : FuncData} (F : d.Fun K f fd) : BdOk K fd d.ps d.op := by
  unfold DD.Fun DD.dvs DD.kws at F
  unfold DD.Bind at B
  cases e : d.op with
  | no =>
    rw [e] at B F
    exact FunD.bindsN F B
  | kw x c =>
    rw [e] at B F
    have B : BindK d x := B
    have F : FunD K d.name d.qual (defArgs d.st) (defBody d.st) (defScope d.st) [] [(x, c.dv.v K)] f fd := F
    have cv : c.dv.v K = c.v := by cases c <;> rfl
    rw [cv] at F
    refine ⟨?_, ?_⟩
    · by_cases hp : d.ps.length = 0
      · obtain ⟨oc, od, dV, kV, doc, pm, an, cdv, ct, osl, rfl, lk, hcd, hD, hK⟩ := F.ex
        rcases hK with z | ⟨D, rfl, hq⟩
        · cases z
        · obtain ⟨u, _, ru⟩ := hq _ List.mem_cons_self
          exact ⟨u, ru, fun s us _ l => by rw [List.length_append, hp] at l; cases l⟩
      · obtain ⟨ds, rd, bd⟩ := F.binds0 (ps := d.ps) (d.ps.length - 1) (by simp) (by show d.ps.length - 1 + 1 = _; omega) fun D doc pm an cdv ct us ks l1 l2 => by
          match ks, l2 with
          | [w], _ => exact (B D doc pm an cdv ct us w (by omega)).1
        match ds, rd with
        | [u], .cons ru .nil => exact ⟨u, ru, bd⟩
    · intro s us w X l
      obtain ⟨oc, od, dV, kV, doc, pm, an, cdv, ct, osl, rfl, lk, hcd, hD, hK⟩ := F.ex
      rcases hD with ⟨_, rfl⟩ | ⟨z, _⟩
      · rcases hK with z | ⟨D, rfl, hq⟩
        · cases z
        · exact .of_eq (B D doc pm an cdv ct us w l).2
      · exact absurd rfl z
  | ps c =>
    rw [e] at B F
    have B : BindP d := B
    have F : FunD K d.name d.qual (defArgs d.st) (defBody d.st) (defScope d.st) [c.dv.v K] [] f fd := F
    have cv : c.dv.v K = c.v := by cases c <;> rfl
    rw [cv] at F
    refine ⟨?_, ?_⟩
    · obtain ⟨ds, rd, bd⟩ := F.binds1 (ps := d.ps) d.ps.length 1 (by simp) rfl fun T kV doc pm an cdv ct us its l1 l2 => by
        match its, l2 with
        | [w], _ =>
          obtain ⟨k, e1, e2⟩ := (B T kV doc pm an cdv ct us w).1 l1
          exact ⟨k, e1, by rw [show ([w] : List Value).drop 1 = [] from rfl, List.append_nil]; exact e2⟩
      match ds, rd with
      | [], .nil => exact bd
    · by_cases hp : d.ps.length = 0
      · obtain ⟨oc, od, dV, kV, doc, pm, an, cdv, ct, osl, rfl, lk, hcd, hD, hK⟩ := F.ex
        rcases hD with ⟨z, _⟩ | ⟨_, T, o, its, n, rfl, _, _, rT⟩
        · cases z
        · match its, rT with
          | [u], .cons ru .nil => exact ⟨u, ru, fun s us _ l => by rw [List.length_append, hp] at l; cases l⟩
      · obtain ⟨ds, rd, bd⟩ := F.binds1 (ps := d.ps) (d.ps.length - 1) 0 (by simp) (by show d.ps.length - 1 + 1 = _; omega) fun T kV doc pm an cdv ct us its l1 l2 => by
          match its, l2 with
          | [w], _ => exact (B T kV doc pm an cdv ct us w).2 (by omega)
        match ds, rd with
        | [u], .cons ru .nil => exact ⟨u, ru, bd⟩
/-- what the head has told -/
structure Told (K : PySem.W.Frag) (mg : Str → Option Value) (T : Txt) : Prop where
  inn : ∃ h : Heap, K.In h ∧ h.Ns mainGlobals mg
  fa : ∀ f ∈ T.fa, f.ok K = true
  df : ∀ d ∈ T.all, ∃ fd, d.Fun K (He.fAd K d.at_) fd
  ex : T.ex T.tf K = true
  ok : T.ok = true
  bd : AllBind T.all
section
variable {K : PySem.W.Frag} {mg : Str → Option Value} {T : Txt}
theorem Told.glo (t : Told K mg T) {x : Str} (h : He.Fa.glo x ∈ T.fa) : mg x = some (.ref (He.ga K x)) := by
  obtain ⟨_, X, G⟩ := t.inn
  exact He.glo_ok X G (t.fa _ h)
theorem Told.free (t : Told K mg T) {x : Str} (h : He.Fa.free x ∈ T.fa) : mg x = none := by
  obtain ⟨_, X, G⟩ := t.inn
  exact He.free_ok X G (t.fa _ h)
theorem Told.none_ (t : Told K mg T) {x : Str} (h : PySem.W.nsIn K mainGlobals x = some none) : mg x = none := by
  obtain ⟨_, X, G⟩ := t.inn
  exact PySem.W.mg_none_of X G h
theorem fa_ex {p : Nat × ExR} (h : p ∈ T.exs) : He.Fa.glo p.2.name ∈ T.fa := by
  unfold Txt.fa
  exact List.mem_append_right _ (List.mem_append_right _ (List.mem_append_right _ (List.mem_append_left _ (List.mem_map.mpr ⟨p, h, rfl⟩))))
theorem fa_cls {p : Nat × Str × Nat × Nat} (h : p ∈ T.cls) {f : He.Fa} (hf : f ∈ [He.Fa.glo p.2.1, .cls p.2.1, .mkr p.2.1] ++ T.flds.map (fun f => .noat p.2.1 f)) : f ∈ T.fa := by
  unfold Txt.fa
  exact List.mem_append_right _ (List.mem_append_right _ (List.mem_append_right _ (List.mem_append_right _ (List.mem_append_left _ (List.mem_flatMap.mpr ⟨p, h, hf⟩)))))
theorem fa_mt {p : (Nat × Str) × Nat} {q : Str × Nat × Nat} (h : p ∈ T.mts) (hq : T.cls.lookup p.1.1 = some q) : He.Fa.meth q.1 p.1.2 ∈ T.fa := by
  unfold Txt.fa
  exact List.mem_append_right _ (List.mem_append_right _ (List.mem_append_right _ (List.mem_append_right _ (List.mem_append_right _ (List.mem_append_left _ (List.mem_filterMap.mpr ⟨p, h, by rw [hq]; rfl⟩))))))
theorem fa_why {t : WhyT} (h : T.why = some t) {f : He.Fa} (hf : f ∈ [He.Fa.glo "_law_why", .glo "_law_fields", .glo "FarError", .glo "Missing", .glo "NothingLeft", .free "isinstance"]) : f ∈ T.fa := by
  unfold Txt.fa
  rw [h]
  exact List.mem_append_right _ (List.mem_append_right _ (List.mem_append_right _ (List.mem_append_right _ (List.mem_append_right _ (List.mem_append_right _ (List.mem_append_left _ hf))))))
theorem fa_nm {t : WhyT} (h : T.why = some t) {p : Nat × Str} (hp : p ∈ T.nms) : He.Fa.glo p.2 ∈ T.fa := by
  unfold Txt.fa
  rw [h]
  exact List.mem_append_right _ (List.mem_append_right _ (List.mem_append_right _ (List.mem_append_right _ (List.mem_append_right _ (List.mem_append_right _ (List.mem_append_right _ (List.mem_map.mpr ⟨p, hp, rfl⟩)))))))
theorem fa_gl {p : Nat × Str × Gv} (h : p ∈ T.gls) : p.2.2.fa p.2.1 ∈ T.fa := by
  unfold Txt.fa
  exact List.mem_append_right _ (List.mem_append_right _ (List.mem_append_left _ (List.mem_map.mpr ⟨p, h, rfl⟩)))
theorem fa_bi {x : Str} (h : x ∈ T.bis) : He.Fa.free x ∈ T.fa := by
  unfold Txt.fa
  exact List.mem_append_right _ (List.mem_append_left _ (List.mem_map.mpr ⟨x, h, rfl⟩))
theorem fa_def {p : Nat × DD} (h : p ∈ T.defs) (hc : p.2.cn = none) : He.Fa.glo p.2.name ∈ T.fa := by
  unfold Txt.fa
  exact List.mem_append_left _ (List.mem_filterMap.mpr ⟨p, h, by rw [hc]⟩)
theorem all_def {g : Nat} {d : DD} (h : T.defs.lookup g = some d) : d ∈ T.all := List.mem_append_left _ (List.mem_map.mpr ⟨_, mem_lk h, rfl⟩)
theorem all_ex {p : Nat × ExR} (h : p ∈ T.exs) : p.2.dd ∈ T.all := List.mem_append_right _ (List.mem_append_left _ (List.mem_map.mpr ⟨p, h, rfl⟩))
theorem all_why {t : WhyT} (h : T.why = some t) : t.ddW ∈ T.all ∧ t.ddF ∈ T.all := by
  unfold Txt.all
  rw [h]
  exact ⟨List.mem_append_right _ (List.mem_append_right _ List.mem_cons_self), List.mem_append_right _ (List.mem_append_right _ (List.mem_cons_of_mem _ List.mem_cons_self))⟩
/-- the texts are looked at -/
theorem Told.defOk (t : Told K mg T) {g : Nat} {d : DD} (h : T.defs.lookup g = some d) : d.scB = true ∧ ckSs T.tab d.N (defScope d.st).names d.body (defBody d.st) = true := by
  obtain ⟨z, _⟩ := and2 t.ok
  exact and2 (List.all_eq_true.mp z (g, d) (mem_lk h))
theorem Told.exOk (t : Told K mg T) {p : Nat × ExR} (h : p ∈ T.exs) : p.2.ok = true ∧ exB K T p.2 = true := by
  obtain ⟨_, z⟩ := and2 t.ok
  obtain ⟨z, _⟩ := and2 z
  obtain ⟨y, _⟩ := and2 t.ex
  exact ⟨List.all_eq_true.mp z p h, List.all_eq_true.mp y p h⟩
theorem Told.whyOk (t : Told K mg T) {y : WhyT} (h : T.why = some y) : y.ok T = true ∧ PySem.W.specialIn K (.builtin "object.__class__") "__get__" = some (some (.builtin "getset_descriptor.__get__")) ∧ PySem.W.takesIn K (.builtin "object.__class__") = some true ∧
    ∀ p ∈ T.exs, p.2.leaf = true → ctB K T y p.1 p.2 = true := by
  obtain ⟨_, z⟩ := and2 t.ok
  obtain ⟨_, z⟩ := and2 z
  obtain ⟨z, _⟩ := and2 z
  obtain ⟨_, x⟩ := and2 t.ex
  obtain ⟨_, x⟩ := and2 x
  obtain ⟨x, _⟩ := and2 x
  rw [h] at z x
  obtain ⟨x1, x⟩ := and2 x
  obtain ⟨x2, x3⟩ := and2 x
  refine ⟨z, dec1 x1, dec1 x2, fun p hp hl => ?_⟩
  have w := List.all_eq_true.mp x3 p hp
  rw [hl] at w
  exact w
theorem Told.bind (t : Told K mg T) {d : DD} (h : d ∈ T.all) : d.Bind := AllBind.mem_ t.bd h

/-! ### exception classes -/
theorem cl_ex {c : Nat} {r : ExR} (h : T.exs.lookup c = some r) : (T.cl K) c = He.ga K r.name := by
  show (match T.exs.lookup c with
    | some r => He.ga K r.name
    | none => match T.cls.lookup c with
      | some p => He.ga K p.1
      | none => match T.nms.lookup c with
        | some n => He.ga K n
        | none => 0) = _
  rw [h]
theorem cl_nm {c : Nat} {n : Str} (h1 : T.exs.lookup c = none) (h2 : T.cls.lookup c = none) (h : T.nms.lookup c = some n) : (T.cl K) c = He.ga K n := by
  show (match T.exs.lookup c with
    | some r => He.ga K r.name
    | none => match T.cls.lookup c with
      | some p => He.ga K p.1
      | none => match T.nms.lookup c with
        | some n => He.ga K n
        | none => 0) = _
  rw [h1, h2, h]
theorem oxc_of {r : ExR} (h : exB K T r = true) : OxC K (He.ga K r.name) r.sh.bk ∧ PySem.W.findIn K (.ref (He.ga K r.name)) "__init__" = some (some (.ref (He.ma K (He.ga K r.name) "__init__"))) ∧
    PySem.W.typeIn K (.ref (He.ma K (He.ga K r.name) "__init__")) = some (.type "function") ∧ PySem.W.findIn K (.ref (He.ga K r.name)) "word" = some none := by
  unfold exB at h
  obtain ⟨h1, z1⟩ := and2 h
  obtain ⟨h2, z2⟩ := and2 z1
  obtain ⟨h3, z3⟩ := and2 z2
  obtain ⟨h4, z4⟩ := and2 z3
  obtain ⟨h5, z5⟩ := and2 z4
  obtain ⟨h6, z6⟩ := and2 z5
  obtain ⟨h7, z7⟩ := and2 z6
  obtain ⟨h8, z8⟩ := and2 z7
  obtain ⟨h9, _⟩ := and2 z8
  refine ⟨⟨h1, ?_, dec1 h3, dec1 h4, dec1 h5, h6⟩, dec1 h7, dec1 h8, dec1 h9⟩
  cases q : PySem.W.clsIn K (He.ga K r.name) with
  | none => rw [q] at h2; cases h2
  | some cd =>
    rw [q] at h2
    obtain ⟨g1, g2⟩ := and2 (show (ownRow r.sh.bk cd.mro && cd.hasDict) = true from h2)
    exact ⟨cd, rfl, g1, g2⟩
theorem shape_of {r : ExR} (h : exB K T r = true) : (match r.sh with
    | .base b _ => decide (PySem.W.nsIn K mainGlobals (Str.ofString b.nm) = some none) && (match PySem.W.findCls K (.type b.nm) (.type "type") "__init__" with
      | some (.val (.builtin z)) => decide (z = b.ini)
      | _ => false)
    | .sub b _ fs => (fs.all fun p => decide (PySem.W.findIn K (.ref (He.ga K r.name)) p.1 = some none)) && ((T.exs.any fun q => decide (q.2.name = r.par) && (match q.2.sh with
        | .base b' none => decide (b' = b)
        | _ => false)) &&
      (decide (PySem.W.specialIn K (.ref (He.ga K r.par)) "__getattribute__" = some (some (.builtin "type.__getattribute__"))) && (PySem.W.readsIn K (He.ga K r.par) (.type "type") && (match PySem.W.findCls K (.ref (He.ga K r.par)) (.type "type") "__init__" with
      | some (.val (.ref z)) => decide (z = He.ma K (He.ga K r.par) "__init__")
      | _ => false))))) = true := by
  unfold exB at h
  obtain ⟨_, z1⟩ := and2 h
  obtain ⟨_, z2⟩ := and2 z1
  obtain ⟨_, z3⟩ := and2 z2
  obtain ⟨_, z4⟩ := and2 z3
  obtain ⟨_, z5⟩ := and2 z4
  obtain ⟨_, z6⟩ := and2 z5
  obtain ⟨_, z7⟩ := and2 z6
  obtain ⟨_, z8⟩ := and2 z7
  exact (and2 z8).2
theorem ps_all {r : ExR} (h : r.dd.scB = true) : r.dd.ps = r.N := by
  have := (DD.scope h).2
  show r.N.take r.N.length = r.N
  exact List.take_length
section
variable {P : Program} {w : World} {base : Heap}
theorem glk {nm : List (Str × NameKind)} {y : Str} (h : glB nm y = true) : nm.lookup y = some .globalImplicit := by
  unfold glB at h
  split at h
  · assumption
  · cases h
theorem bind_of (t : Told K mg T) {d : DD} (h : d ∈ T.all) {f : Addr} {fd : FuncData} (F : d.Fun K f fd) : BdOk K fd d.ps d.op := bd_ok (t.bind h) F
/-- an __init__ straight over a built-in base -/
theorem ex_base (t : Told K mg T) {p : Nat × ExR} (h : p ∈ T.exs) {b : Bk} {c : Option Str} (hs : p.2.sh = .base b c) (k : Nat) (CT : CXT) :
    ∃ fd, FnOk P w K mg base CT (k + 1) (He.ma K (He.ga K p.2.name) "__init__") fd p.2.N (spBase K b c p.2.N.length) ∧ Binds K fd p.2.N [] := by
  obtain ⟨h1, h2⟩ := t.exOk h
  obtain ⟨s1, z⟩ := and2 (show (p.2.dd.scB && (ckInit p.2.par p.2.N p.2.sh (defBody p.2.st) && _)) = true from h1)
  obtain ⟨s2, s3⟩ := and2 z
  rw [hs] at s2 s3
  have sh := shape_of h2
  rw [hs] at sh
  obtain ⟨x1, x2⟩ := and2 sh
  have hv : PySem.W.findCls K (.type b.nm) (.type "type") "__init__" = some (.val (.builtin b.ini)) := by
    split at x2
    · rename_i z e; rw [e, dec1 x2]
    · cases x2
  obtain ⟨fd, F⟩ := t.df _ (all_ex h)
  have S := (DD.scope s1).1
  rw [ps_all s1] at S
  refine ⟨fd, fn_base (par := p.2.par) F S s2 (glk s3) (t.none_ (dec1 x1)) hv, ?_⟩
  have := bind_of t (all_ex h) F
  rw [ps_all s1] at this
  exact this
theorem leaves_base {C : Addr} {b : Bk} {r : ExR} {c : Option Str} (T1 : OxC K C b) (nw : PySem.W.findIn K (.ref C) "word" = some none) (hs : r.sh = .base b c) (hl : r.N.length = (initN c).length) : Leaves K C (spBase K b c r.N.length) (r.N.length - 1) fun ds => r.give ds := by
  intro S M H ds vs fs Q a rd len ex na k
  have key : ∀ (wd : Dt) (wv : V), wordV c (.ref a :: vs) = some wv → fs = [(("word" : Str), wd)] → RelD K S M H wd wv → spBase K b c r.N.length (.ref a :: vs) (upd H a (exo a C none)) (fun v H2 => v = .non ∧ ∃ (d : Addr) (gs : List (Str × V)), H2 a = some (exo a C (some d)) ∧ H2 d = some (exd d gs) ∧ H d = none ∧ Q (.ref C) (some d) (upd (del H2 a) d (.xd gs))) (fun _ _ _ => False) := by
    intro wd wv ew ef rw1
    refine ⟨?_, a, C, wv, rfl, ew, T1, nw, upd_same, fun dx n ne => ⟨rfl, dx, [(("word" : Str), wv)], put1_a, put1_d ne, ?_, ?_⟩⟩
    · rw [List.length_cons, len, hl]
      cases c <;> rfl
    · rw [upd_ne ne] at n; exact n
    · rw [del_put na ne]
      rw [upd_ne ne] at n
      exact k dx _ n (by rw [ef]; exact .cons ⟨rfl, rw1⟩ .nil)
  cases c with
  | none =>
    have ex : (match ds with
      | [w] => some [(("word" : Str), w)]
      | _ => none) = some fs := by
      unfold ExR.give at ex
      rw [hs] at ex
      cases ds with
      | nil => exact ex
      | cons w ds => cases ds <;> exact ex
    cases rd with
    | nil => cases ex
    | cons r1 rt =>
      cases rt with
      | nil => cases ex; exact key _ _ rfl rfl r1
      | cons _ _ => cases ex
  | some z =>
    have ex : (match ds with
      | [] => some [(("word" : Str), Dt.str z)]
      | _ => none) = some fs := by
      unfold ExR.give at ex
      rw [hs] at ex
      cases ds <;> exact ex
    cases rd with
    | nil => cases ex; exact key _ _ rfl rfl (.str z)
    | cons _ _ => cases ex
theorem putFs_rel {S : Addr → Prop} {M : Mm} {H : Hp} {ds : List Dt} {vs : List V} (rd : RelDs K S M H ds vs) : ∀ (fs : List (Str × Nat)) {gs : List (Str × Dt)} {hs : List (Str × V)}, (∀ p ∈ fs, p.2 < ds.length) → RelF K S M H gs hs → RelF K S M H (putFsD fs ds gs) (putFs fs vs hs)
  | [], _, _, _, r => r
  | (f, i) :: fs, gs, hs, hi, r => by
    refine putFs_rel rd fs (fun p m => hi p (List.mem_cons_of_mem _ m)) (.cons ⟨rfl, ?_⟩ r)
    have h1 : i < ds.length := hi (f, i) List.mem_cons_self
    have e1 : ds[i]? = some ds[i] := List.getElem?_eq_getElem h1
    obtain ⟨v, e2, rv⟩ := rd.get e1
    show RelD K S M H (ds.getD i .non) (vs.getD i .non)
    rw [List.getD_eq_getElem?_getD, List.getD_eq_getElem?_getD, e1, e2]
    exact rv
theorem putFs_0 : ∀ (fs : List (Str × Nat)) (ds : List Dt) (a : Dt) (vs : List V) (b : V) (gs : List (Str × Dt)), (∀ p ∈ fs, 0 < p.2) → putFsD fs (a :: ds) gs = putFsD fs (.non :: ds) gs
  | [], _, _, _, _, _, _ => rfl
  | (f, i) :: fs, ds, a, vs, b, gs, h => by
    have h1 : 0 < i := h (f, i) List.mem_cons_self
    show putFsD fs (a :: ds) ((f, (a :: ds).getD i .non) :: gs) = putFsD fs (.non :: ds) ((f, (Dt.non :: ds).getD i .non) :: gs)
    have e : (a :: ds).getD i .non = (Dt.non :: ds).getD i .non := by
      cases i with
      | zero => omega
      | succ i => rfl
    rw [e]
    exact putFs_0 fs ds a vs b _ fun p m => h p (List.mem_cons_of_mem _ m)
/-- an __init__ over another class of the module -/
theorem ex_sub (t : Told K mg T) {p : Nat × ExR} (h : p ∈ T.exs) {b : Bk} {wd : Str} {fs : List (Str × Nat)} (hs : p.2.sh = .sub b wd fs) :
    ∃ fd, FnOk P w K mg base (L2.CX P w) 2 (He.ma K (He.ga K p.2.name) "__init__") fd p.2.N (spSub K b wd fs p.2.N.length) ∧ Binds K fd p.2.N [] ∧ (∀ q ∈ fs, PySem.W.findIn K (.ref (He.ga K p.2.name)) q.1 = some none ∧ 0 < q.2 ∧ q.2 < p.2.N.length) := by
  obtain ⟨h1, h2⟩ := t.exOk h
  obtain ⟨s1, z⟩ := and2 (show (p.2.dd.scB && (ckInit p.2.par p.2.N p.2.sh (defBody p.2.st) && _)) = true from h1)
  obtain ⟨s2, s3⟩ := and2 z
  rw [hs] at s2 s3
  obtain ⟨s3, s4⟩ := and2 s3
  obtain ⟨s4, s5⟩ := and2 s4
  have sh := shape_of h2
  rw [hs] at sh
  obtain ⟨x1, x2⟩ := and2 sh
  obtain ⟨x2, x3⟩ := and2 x2
  obtain ⟨x3, x4⟩ := and2 x3
  obtain ⟨x4, x5⟩ := and2 x4
  obtain ⟨q, hq, hq2⟩ := List.any_eq_true.mp x2
  obtain ⟨q1, q2⟩ := and2 hq2
  have q1 := dec1 q1
  have hb : q.2.sh = .base b none := by
    split at q2
    · rename_i b' e; rw [e, dec1 q2]
    · cases q2
  obtain ⟨fd2, F2, b2⟩ := ex_base (P := P) (w := w) (base := base) t hq hb 0 (L2.CX P w)
  have hN2 : q.2.N.length = 2 := by
    obtain ⟨g1, _⟩ := t.exOk hq
    obtain ⟨_, z⟩ := and2 (show (q.2.dd.scB && (ckInit q.2.par q.2.N q.2.sh (defBody q.2.st) && _)) = true from g1)
    obtain ⟨z, _⟩ := and2 z
    rw [hb] at z
    unfold ckInit at z
    split at z
    · rename_i heq _
      cases heq
      obtain ⟨_, z⟩ := and2 z
      obtain ⟨_, z⟩ := and2 z
      rw [dec1 z]
      rfl
    · rename_i heq _; cases heq
    · cases z
  rw [hN2, q1] at F2
  obtain ⟨fd, F⟩ := t.df _ (all_ex h)
  have S := (DD.scope s1).1
  rw [ps_all s1] at S
  have mgP : mg p.2.par = some (.ref (He.ga K p.2.par)) := by rw [← q1]; exact t.glo (fa_ex hq)
  have kp : PySem.W.keepIn K (.ref (He.ma K (He.ga K p.2.par) "__init__")) = true := by
    obtain ⟨fd3, F3⟩ := t.df _ (all_ex hq)
    have := F3.kp
    rw [show He.fAd K q.2.dd.at_ = He.ma K (He.ga K p.2.par) "__init__" from by rw [← q1]; rfl] at this
    exact this
  have ci : ClsInit K (He.ga K p.2.par) (He.ma K (He.ga K p.2.par) "__init__") := by
    refine ⟨dec1 x3, x4, ?_, rfl, kp⟩
    split at x5
    · rename_i z e; rw [e, dec1 x5]
    · cases x5
  refine ⟨fd, fn_sub (par := p.2.par) (j := 0) F S s2 (glk s3) mgP ci F2 b2 (dec1 s4), ?_, fun q hq => ?_⟩
  · have := bind_of t (all_ex h) F
    rw [ps_all s1] at this
    exact this
  · refine ⟨dec1 (List.all_eq_true.mp x1 q hq), dec1 (List.all_eq_true.mp s5 q hq), ?_⟩
    unfold ckInit at s2
    split at s2
    · rename_i heq _; cases heq
    · rename_i heq _
      cases heq
      obtain ⟨_, z⟩ := and2 s2
      obtain ⟨_, z⟩ := and2 z
      obtain ⟨_, z⟩ := and2 z
      obtain ⟨_, z⟩ := and2 z
      exact dec1 (List.all_eq_true.mp z q hq)
    · cases s2
theorem leaves_sub {C : Addr} {b : Bk} {r : ExR} {wd : Str} {fs : List (Str × Nat)} (T1 : OxC K C b) (nw : PySem.W.findIn K (.ref C) "word" = some none) (hs : r.sh = .sub b wd fs) (hf : ∀ q ∈ fs, PySem.W.findIn K (.ref C) q.1 = some none ∧ 0 < q.2 ∧ q.2 < r.N.length) (hN : 0 < r.N.length) :
    Leaves K C (spSub K b wd fs r.N.length) (r.N.length - 1) fun ds => r.give ds := by
  intro S M H ds vs gs Q a rd len ex na k
  have ex : (if ds.length + 1 = r.N.length then some (putFsD fs (.non :: ds) [(("word" : Str), Dt.str wd)]) else none) = some gs := by
    unfold ExR.give at ex
    rw [hs] at ex
    exact ex
  split at ex
  · rename_i hl
    cases ex
    refine ⟨by rw [List.length_cons, len]; omega, a, C, rfl, T1, nw, fun q hq => (hf q hq).1, upd_same, fun dx n ne => ⟨rfl, dx, putFs fs (.ref a :: vs) [(("word" : Str), .str wd)], put1_a, put1_d ne, ?_, ?_⟩⟩
    · rw [upd_ne ne] at n; exact n
    · rw [del_put na ne]
      rw [upd_ne ne] at n
      refine k dx _ n ?_
      rw [← putFs_0 fs ds (.ref a) vs (.ref a) _ fun q hq => (hf q hq).2.1]
      exact putFs_rel (.cons (.ref a) rd) fs (fun q hq => by rw [List.length_cons, hl]; exact (hf q hq).2.2) (.cons ⟨rfl, .str wd⟩ .nil)
  · cases ex
theorem exIn (t : Told K mg T) {c : Nat} {x : Str} {n : Nat} (h : T.tab.exs.lookup c = some (x, n)) : ExIn P w K mg base (T.cl K) x n c fun ds => (T.exs.lookup c).bind fun r => r.give ds := by
  have h' : (T.exs.map fun p => (p.1, p.2.name, p.2.N.length - 1)).lookup c = some (x, n) := h
  rw [lookup_map fun z : ExR => (z.name, z.N.length - 1)] at h'
  cases q : T.exs.lookup c with
  | none => rw [q] at h'; cases h'
  | some r =>
    rw [q] at h'
    cases h'
    have hm := mem_lk q
    have eg := t.exOk hm
    obtain ⟨T1, iC, tI, nw⟩ := oxc_of eg.2
    have hc := cl_ex (K := K) q
    refine ⟨by rw [hc]; exact t.glo (fa_ex hm), ?_⟩
    rw [hc]
    cases hs : r.sh with
    | base b cc =>
      obtain ⟨fd, F, bd⟩ := ex_base (P := P) (w := w) (base := base) t hm hs 1 (L2.CX P w)
      have hl : r.N.length = (initN cc).length := by
        obtain ⟨_, z⟩ := and2 (show (r.dd.scB && (ckInit r.par r.N r.sh (defBody r.st) && _)) = true from eg.1)
        obtain ⟨z, _⟩ := and2 z
        rw [hs] at z
        unfold ckInit at z
        split at z
        · rename_i heq _
          cases heq
          obtain ⟨_, z⟩ := and2 z
          obtain ⟨_, z⟩ := and2 z
          rw [dec1 z]
        · rename_i heq _; cases heq
        · cases z
      have T2 : OxC K (He.ga K r.name) b := by rw [hs] at T1; exact T1
      exact ⟨b, _, fd, r.N, _, T2, iC, tI, F, bd, leaves_base T2 nw hs hl⟩
    | sub b wd fs =>
      obtain ⟨fd, F, bd, hf⟩ := ex_sub (P := P) (w := w) (base := base) t hm hs
      have T2 : OxC K (He.ga K r.name) b := by rw [hs] at T1; exact T1
      have hN : 0 < r.N.length := by
        obtain ⟨_, z⟩ := and2 (show (r.dd.scB && (ckInit r.par r.N r.sh (defBody r.st) && _)) = true from eg.1)
        obtain ⟨z, _⟩ := and2 z
        rw [hs] at z
        unfold ckInit at z
        split at z
        · rename_i heq _; cases heq
        · rename_i heq _
          cases heq
          obtain ⟨_, z⟩ := and2 z
          obtain ⟨_, z⟩ := and2 z
          obtain ⟨_, z⟩ := and2 z
          obtain ⟨z, _⟩ := and2 z
          cases hN : r.N with
          | nil => rw [hN] at z; cases dec1 z
          | cons _ _ => simp
        · cases z
      exact ⟨b, _, fd, r.N, _, T2, iC, tI, F, bd, leaves_sub T2 nw hs hf hN⟩
end
end
end Fm

/-! The engine, part Y: the surroundings of a law's defs; the law's end. -/
namespace Fm
open PySem L2 PySem.Spec PyProof.Rows

section
variable {K : PySem.W.Frag} {mg : Str → Option Value} {T : Txt}
theorem rowN_in {t : WhyT} (hw : T.why = some t) {c : Nat} {y : Str} (h : T.rowN.lookup c = some y) : (c, y) ∈ T.rowN ∧ ((∃ p ∈ T.exs, p.1 = c ∧ p.2.name = y) ∨ (c, y) ∈ T.nms) := by
  have m := mem_lk h
  refine ⟨m, ?_⟩
  unfold Txt.rowN at m
  rw [hw] at m
  obtain ⟨m, _⟩ := List.mem_filter.mp m
  rcases List.mem_append.mp m with m | m
  · obtain ⟨p, hp, e⟩ := List.mem_map.mp m
    cases e
    exact .inl ⟨p, hp, rfl, rfl⟩
  · exact .inr m
/-- the numbers of the exception classes are told once -/
def Txt.once (T : Txt) : Bool := decide ((T.exs.map (·.1)).Nodup) && ((T.cls.all fun p => (T.exs.lookup p.1).isNone) && (decide ((T.nms.map (·.1)).Nodup) && T.nms.all fun p => (T.exs.lookup p.1).isNone && (T.cls.lookup p.1).isNone))
theorem lk_mem {α : Type} {g : Nat} {b : α} : ∀ {l : List (Nat × α)}, (l.map (·.1)).Nodup → (g, b) ∈ l → l.lookup g = some b
  | (a, c) :: r, nd, h => by
    rw [List.map_cons, List.nodup_cons] at nd
    rw [List.lookup_cons]
    rcases List.mem_cons.mp h with e | m
    · cases e; simp
    · have ne : g ≠ a := fun e => nd.1 (by rw [← e]; exact List.mem_map.mpr ⟨_, m, rfl⟩)
      have : (g == a) = false := by simpa using ne
      rw [this]
      exact lk_mem nd.2 m
theorem whyIn (t : Told K mg T) (on : T.once = true) {y : WhyT} (hw : T.why = some y) : ∃ f g C1 C2 C3 fd, WhyIn K mg (T.cl K) T.told T.rowN y.rows f g C1 C2 C3 fd := by
  obtain ⟨k0, k1, k2, k3⟩ := t.whyOk hw
  unfold WhyT.ok at k0
  obtain ⟨a1, z⟩ := and2 k0
  obtain ⟨a2, z⟩ := and2 z
  obtain ⟨a3, z⟩ := and2 z
  obtain ⟨a4, z⟩ := and2 z
  obtain ⟨a5, z⟩ := and2 z
  obtain ⟨a6, z⟩ := and2 z
  obtain ⟨a7, z⟩ := and2 z
  obtain ⟨a8, z⟩ := and2 z
  obtain ⟨a9, z⟩ := and2 z
  obtain ⟨a10, a11⟩ := and2 z
  obtain ⟨mW, mF⟩ := all_why hw
  obtain ⟨fw, FW⟩ := t.df _ mW
  obtain ⟨fd, FF⟩ := t.df _ mF
  have SW := (DD.scope a1).1
  have SF := (DD.scope a2).1
  have glo : ∀ {x : Str}, He.Fa.glo x ∈ [He.Fa.glo "_law_why", .glo "_law_fields", .glo "FarError", .glo "Missing", .glo "NothingLeft", .free "isinstance"] → mg x = some (.ref (He.ga K x)) := fun h => t.glo (fa_why hw h)
  have g1 := glo (x := "_law_why") (by simp)
  have g2 := glo (x := "_law_fields") (by simp)
  have on' := dec1 (and2 on).1
  have clN : ∀ {c : Nat} {n : Str}, T.rowN.lookup c = some n → (T.cl K) c = He.ga K n := by
    intro c n h
    obtain ⟨_, ⟨p, hp, e1, e2⟩ | hm⟩ := rowN_in hw h
    · subst e1 e2
      exact cl_ex (lk_mem on' hp)
    · obtain ⟨o1, o2⟩ := and2 (and2 (and2 on).2).2
      obtain ⟨o3, o4⟩ := and2 (List.all_eq_true.mp o2 _ hm)
      exact cl_nm (Option.isNone_iff_eq_none.mp o3) (Option.isNone_iff_eq_none.mp o4) (lk_mem (dec1 o1) hm)
  refine ⟨He.ga K "_law_fields", He.ga K "_law_why", He.ga K "FarError", He.ga K "Missing", He.ga K "NothingLeft", fd, ?_⟩
  refine ⟨⟨⟨_, _, _, y.ev, FF, SF, bind_of t mF FF, a10, a11⟩, g2, FF.kp, t.free (fa_why hw (by simp))⟩, fun c' n h => ?_, g1, FW.kp, ⟨_, _, _, fw, FW, SW, bind_of t mW FW, a3, a4, a5, a6, a7, dec1 a8, dec1 a9⟩, glo (by simp), glo (by simp), glo (by simp), fun c fs d h => ?_⟩
  · rw [clN h]
    obtain ⟨_, ⟨p, hp, _, e2⟩ | hm⟩ := rowN_in hw h
    · rw [← e2]
      exact t.glo (fa_ex hp)
    · exact t.glo (fa_nm hw hm)
  · unfold Txt.told at h
    rw [hw, Option.bind_some] at h
    obtain ⟨r, hr, h⟩ := Option.bind_eq_some_iff.mp h
    split at h
    · rename_i hl
      have hm := mem_lk hr
      have ct := k3 _ hm hl
      rw [cl_ex hr]
      unfold ctB at ct
      obtain ⟨c1, z⟩ := and2 ct
      obtain ⟨c2, z⟩ := and2 z
      obtain ⟨c3, z⟩ := and2 z
      obtain ⟨c4, z⟩ := and2 z
      obtain ⟨c5, z⟩ := and2 z
      obtain ⟨c6, c7⟩ := and2 z
      refine ⟨h, ⟨⟨xfB_ok c1, c2, dec1 c3, k1, k2, dec1 c4⟩, fun c' hc => ?_, (oxc_of (t.exOk hm).2).2.2.2, fun row hr f hf => ?_⟩, ?_⟩
      · obtain ⟨n, hn⟩ := Option.isSome_iff_exists.mp hc
        rw [clN hn]
        exact dec1 (List.all_eq_true.mp c6 (c', n) (mem_lk hn))
      · exact dec1 (List.all_eq_true.mp (List.all_eq_true.mp c5 row hr) f hf)
      · cases q : PySem.W.exmOne K (.ref (He.ga K r.name)) (.ref (He.ga K "FarError")) with
        | none => rw [q] at c7; cases c7
        | some b1 =>
          refine ⟨b1, rfl, fun e1 => ?_⟩
          subst e1
          rw [q] at c7
          cases q2 : PySem.W.exmOne K (.ref (He.ga K r.name)) (.ref (He.ga K "Missing")) with
          | none => rw [q2] at c7; cases c7
          | some b2 =>
            refine ⟨b2, rfl, fun e2 => ?_⟩
            subst e2
            rw [q2] at c7
            obtain ⟨d1, d2⟩ := and2 c7
            exact ⟨dec1 d1, fun row hr => dec1 (List.all_eq_true.mp d2 row hr)⟩
    · cases h
section
variable {P : Program} {w : World} {base : Heap}
/-- the tables of code objects are there -/
def Tables (K : PySem.W.Frag) (mg : Str → Option Value) (base : Heap) (T : Txt) : Prop := ∀ p ∈ T.tf, LamX.TabB base mg (He.cT K p).1 (He.cT K p).2
theorem lamOk_of (t : Told K mg T) (tb : Tables K mg base T) {g : Nat} {d : DD} (hd : T.defs.lookup g = some d) {f : Addr} {fd : FuncData} {oc : Value} {od : Option Addr} {osl : Array (Option Value)} {cdv : Value} (ef : f = He.fAd K d.at_) (lk : K.lookup f = some ⟨oc, od, .func fd, osl⟩)
    (ec : fd.code = cdv) (hcd : PySem.W.codeIn K cdv d.qual = true) (hw : T.why.isSome = true) {A : Around} {outer : List Env} {s : Shared} {H : Hp} {E : XK} :
    LamOk (cxOf (L2.CX P w) P w K mg base d.N d.qual (defScope d.st) f cdv A outer s H E) (T.cl K) := by
  obtain ⟨c, e⟩ := He.codeIn_ref hcd
  have hc : He.codeOf K d.at_ = c := He.codeOf_eq (p := d.at_) (by rw [← ef]; exact lk) (by rw [ec, e])
  have m : d.at_ ∈ T.tf := by
    unfold Txt.tf
    rw [if_pos hw]
    exact List.mem_map.mpr ⟨_, mem_lk hd, rfl⟩
  have TB := tb _ m
  have e1 : (He.cT K d.at_).1 = c := hc
  rw [e1] at TB
  have eT : (T.cl K).T = T.defs.map fun p => ((He.cT K p.2.at_).2, p.2.qual ++ (".<locals>." : Str) ++ ("<lambda>" : Str)) := by
    show (if T.why.isSome = true then _ else _) = _
    rw [if_pos hw]
  refine ⟨c, (He.cT K d.at_).2, TB, e, ?_, ?_⟩
  · rw [eT]
    exact List.mem_map.mpr ⟨_, mem_lk hd, rfl⟩
  · intro q hq e2
    rw [eT] at hq
    obtain ⟨p, hp, e3⟩ := List.mem_map.mp hq
    have nd : (T.tf.map fun p => (He.cT K p).2).Nodup := by
      obtain ⟨_, z⟩ := and2 t.ex
      obtain ⟨_, z⟩ := and2 z
      obtain ⟨_, z⟩ := and2 z
      exact dec1 z
    have tfe : T.tf = T.defs.map fun p => p.2.at_ := by
      unfold Txt.tf
      rw [if_pos hw]
    rw [tfe, List.map_map] at nd
    have same : ∀ {l : List (Nat × DD)}, (l.map ((fun p => (He.cT K p).2) ∘ fun p : Nat × DD => p.2.at_)).Nodup → p ∈ l → (g, d) ∈ l → (He.cT K p.2.at_).2 = (He.cT K d.at_).2 → p = (g, d) := by
      intro l
      induction l with
      | nil => intro _ h; cases h
      | cons a l ih =>
        intro nd hp hg e
        rw [List.map_cons, List.nodup_cons] at nd
        rcases List.mem_cons.mp hp with hp | hp
        · rcases List.mem_cons.mp hg with hg | hg
          · rw [hp, hg]
          · exfalso
            refine nd.1 (List.mem_map.mpr ⟨_, hg, ?_⟩)
            rw [← hp]
            exact e.symm
        · rcases List.mem_cons.mp hg with hg | hg
          · exfalso
            refine nd.1 (List.mem_map.mpr ⟨_, hp, ?_⟩)
            rw [← hg]
            exact e
          · exact ih nd.2 hp hg e
    have e4 : p = (g, d) := same nd hp (mem_lk hd) (by rw [← e3] at e2; exact e2)
    rw [← e3, e4]
    rfl
/-- a def keeps what its text wants -/
theorem fn_sound (t : Told K mg T) (tb : Tables K mg base T) {g : Nat} {d : DD} (hd : T.defs.lookup g = some d) {fd : FuncData} {k : Nat} {G : Gt} (F : d.Fun K (He.fAd K d.at_) fd)
    (env : EnvOk P w K mg base (T.cl K) k T.tab G) : FnOk P w K mg base (L2.CX P w) (lv (k + 1)) (He.fAd K d.at_) fd d.ps (spW K (T.cl K) d.np (wfB G d.N d.np d.body)) := by
  obtain ⟨hs, hck⟩ := t.defOk hd
  obtain ⟨S, hl⟩ := DD.scope hs
  obtain ⟨oc, od, dV, kV, doc, pm, an, cdv, ct, osl, rfl, lk, hcd, _, _⟩ := F.ex
  refine fn_of (k := lv k + 3) lk hcd S (fun vs H Q E h => h.1.trans hl.symm) fun A outer s H vs Q E hr h => ?_
  have gd : Good (cxOf (L2.CX P w) P w K mg base d.N d.qual (defScope d.st) (He.fAd K d.at_) cdv A outer s H E) (T.cl K) k T.tab G d.N (defScope d.st).names true (fun c z _ H' => E c z H') :=
    ⟨env, rfl, S.nd, rfl, S.kind, rfl, hr.mono (by omega), fun _ _ => rfl, passes_of rfl, takes_of rfl rfl rfl rfl, fun _ => ⟨hr, fun hw => lamOk_of t tb hd rfl lk rfl hcd hw⟩, fun _ => ⟨rfl, rfl⟩⟩
  refine ⟨_, sSs d.body gd hck, ?_⟩
  obtain ⟨hlen, S', ds, M, rd, hh, w0⟩ := h
  obtain ⟨hl2, w2⟩ : ds.length = d.np ∧ wpSs G d.body (bodyK _ _) (startR d.N ds) M := w0
  refine tSs_in (RelR.start rd) hh w2 ⟨fun ρ' M' z σ' H' a b c => z .non H' .non b c, fun _ _ z => z, fun _ _ z => False.elim z, fun _ _ z => False.elim z, fun z ρ' M' q σ' dd H' a b c e => q dd H' b c e⟩
/-- what holds of a def whose wishes are never met -/
theorem fn_bot {f : Addr} {fd : FuncData} {ps : List Str} {k n : Nat} (hl : ps.length = n) : FnOk P w K mg base (L2.CX P w) k f fd ps (spW K (T.cl K) n botW) :=
  ⟨fun vs H Q E h => h.1.trans hl.symm, fun A outer s H args us vs Q E _ _ _ _ h => by
    obtain ⟨_, _, _, _, _, _, z⟩ := h
    exact z.elim⟩
theorem np_bot {ds : List Dt} {M : Mm} {q : QD} {x : QX} (h : botW.run ds M q x) {n : Nat} : ds.length = n := (show False from h).elim
theorem _root_.Fm.Told.clsOk (t : Told K mg T) {p : Nat × Str × Nat × Nat} (h : p ∈ T.cls) : ∃ d, T.defs.lookup p.2.2.1 = some d ∧ d.cn = some p.2.1 ∧ d.name = "__init__" ∧ d.np = p.2.2.2 + 1 := by
  obtain ⟨_, z⟩ := and2 t.ok
  obtain ⟨_, z⟩ := and2 z
  obtain ⟨_, z⟩ := and2 z
  obtain ⟨z, _⟩ := and2 z
  have y := List.all_eq_true.mp z p h
  cases q : T.defs.lookup p.2.2.1 with
  | none => rw [q] at y; cases y
  | some d =>
    rw [q] at y
    obtain ⟨y1, y⟩ := and2 y
    obtain ⟨y2, y3⟩ := and2 y
    exact ⟨d, rfl, dec1 y1, dec1 y2, dec1 y3⟩
theorem _root_.Fm.Told.mtOk (t : Told K mg T) {p : (Nat × Str) × Nat} (h : p ∈ T.mts) : ∃ d q, T.defs.lookup p.2 = some d ∧ T.cls.lookup p.1.1 = some q ∧ d.cn = some q.1 ∧ d.name = p.1.2 ∧ d.op = T.tab.mop p.1.2 := by
  obtain ⟨_, z⟩ := and2 t.ok
  obtain ⟨_, z⟩ := and2 z
  obtain ⟨_, z⟩ := and2 z
  obtain ⟨_, z⟩ := and2 z
  have y := List.all_eq_true.mp z p h
  cases q : T.defs.lookup p.2 with
  | none => rw [q] at y; cases y
  | some d =>
    cases q2 : T.cls.lookup p.1.1 with
    | none => rw [q, q2] at y; cases y
    | some r =>
      rw [q, q2] at y
      obtain ⟨y1, y⟩ := and2 y
      obtain ⟨y2, y3⟩ := and2 y
      exact ⟨d, r, rfl, rfl, dec1 y1, dec1 y2, dec1 y3⟩
/-- the surroundings, from what each def does -/
theorem env_of (t : Told K mg T) (on : T.once = true) {k : Nat} {F : Nat → Wf} (hF : ∀ g d, T.defs.lookup g = some d → (∀ ds M q x, (F g).run ds M q x → ds.length = d.np) ∧ ∃ fd, d.Fun K (He.fAd K d.at_) fd ∧
    FnOk P w K mg base (L2.CX P w) (lv k) (He.fAd K d.at_) fd d.ps (spW K (T.cl K) d.np (F g))) : EnvOk P w K mg base (T.cl K) k T.tab (gnC T F) where
  fn := fun g x n e okx => by
    have e' : (T.defs.map fun p => (p.1, p.2.fnName, p.2.np)).lookup g = some (x, n) := e
    rw [lookup_map fun z : DD => (z.fnName, z.np)] at e'
    cases q : T.defs.lookup g with
    | none => rw [q] at e'; cases e'
    | some d =>
      rw [q] at e'
      have e2 := Option.some.inj e'
      obtain ⟨e3, e4⟩ := Prod.mk.inj e2
      have e3 : (match d.cn with
        | none => if d.op.full = true then d.name else ("__debug__" : Str)
        | some _ => ("__debug__" : Str)) = x := e3
      cases hc : d.cn with
      | some c =>
        rw [hc] at e3
        rw [← e3] at okx
        have z := (okN_of okx).1
        exact absurd z (show ¬ (("__debug__" : Str) == ("__debug__" : Str)) = false from by decide +kernel)
      | none =>
        rw [hc] at e3
        have e3 : (if d.op.full = true then d.name else ("__debug__" : Str)) = x := e3
        by_cases hfull : d.op.full = true
        case neg =>
          rw [if_neg hfull] at e3
          rw [← e3] at okx
          have z := (okN_of okx).1
          exact absurd z (show ¬ (("__debug__" : Str) == ("__debug__" : Str)) = false from by decide +kernel)
        rw [if_pos hfull] at e3
        obtain ⟨_, fd, FD, FO⟩ := hF g d q
        obtain ⟨hs, _⟩ := t.defOk q
        have ea : He.fAd K d.at_ = He.ga K d.name := by unfold DD.at_; rw [hc]; rfl
        have hm : mg x = some (.ref (He.fAd K d.at_)) := by rw [ea, ← e3]; exact t.glo (fa_def (mem_lk q) hc)
        rw [← e4]
        exact ⟨_, fd, d.ps, (DD.scope hs).2, hm, FD.kp, (bind_of t (all_def q) FD).full hfull, FO⟩
  gl := fun g x e => by
    have e' : (T.gls.map fun p => (p.1, p.2.1)).lookup g = some x := e
    rw [lookup_map fun z : Str × Gv => z.1] at e'
    cases q : T.gls.lookup g with
    | none => rw [q] at e'; cases e'
    | some p =>
      rw [q] at e'
      obtain ⟨y, v⟩ := p
      cases e'
      obtain ⟨_, X, G⟩ := t.inn
      have f1 := t.fa _ (fa_gl (mem_lk q))
      have eg : (gnC T F).gval g = v.d := by
        show T.gv g = _
        unfold Txt.gv
        rw [q]
      rw [eg]
      cases v with
      | int i =>
        obtain ⟨tk, ht⟩ := He.int_ok X G f1
        exact ⟨.int i, _, ht, ⟨_, rfl⟩, fun _ _ _ => .int i⟩
      | str s =>
        obtain ⟨tk, ht⟩ := He.str_ok X G f1
        exact ⟨.str s, _, ht, ⟨_, rfl⟩, fun _ _ _ => .str s⟩
  bi := fun x h => t.free (fa_bi h)
  ex := fun c x n e => exIn t e
  sub := fun c c' b e => by
    obtain ⟨r, hr, e1⟩ := Option.bind_eq_some_iff.mp (show T.sub c c' = some b from e)
    split at e1
    · rename_i hl
      obtain ⟨r', hr', e2⟩ := Option.map_eq_some_iff.mp e1
      rw [cl_ex hr, cl_ex hr']
      obtain ⟨_, z⟩ := and2 t.ex
      obtain ⟨z, _⟩ := and2 z
      have y := List.all_eq_true.mp (List.all_eq_true.mp z _ (mem_lk hr)) _ (mem_lk hr')
      rw [hl] at y
      exact (dec1 y).trans e
    · cases e1
  cl := fun c ok => by
    obtain ⟨h1, h2⟩ := ok
    obtain ⟨p, hp⟩ := Option.isSome_iff_exists.mp h2
    have ec : (T.cl K) c = He.ga K p.1 := by
      show (match T.exs.lookup c with
        | some r => He.ga K r.name
        | none => match T.cls.lookup c with
          | some p => He.ga K p.1
          | none => match T.nms.lookup c with
            | some n => He.ga K n
            | none => 0) = _
      rw [h1, hp]
    rw [ec]
    have m := mem_lk hp
    refine ⟨He.cls_ok (t.fa _ (fa_cls m (by simp))), fun f hf => He.noat_ok (t.fa _ (fa_cls m (List.mem_append_right _ (List.mem_map.mpr ⟨f, hf, rfl⟩))))⟩
  new := fun c x n e => by
    have e' : (T.cls.map fun p => (p.1, p.2.1, p.2.2.2)).lookup c = some (x, n) := e
    rw [lookup_map fun z : Str × Nat × Nat => (z.1, z.2.2)] at e'
    cases q : T.cls.lookup c with
    | none => rw [q] at e'; cases e'
    | some p =>
      rw [q] at e'
      cases e'
      have m := mem_lk q
      obtain ⟨d, hd, hcn, hnm, hnp⟩ := t.clsOk m
      have ec : (T.cl K) c = He.ga K p.1 ∧ T.exs.lookup c = none := by
        have nx : T.exs.lookup c = none := Option.isNone_iff_eq_none.mp (List.all_eq_true.mp (and2 (and2 on).2).1 (c, p) m)
        refine ⟨?_, nx⟩
        show (match T.exs.lookup c with
          | some r => He.ga K r.name
          | none => match T.cls.lookup c with
            | some p => He.ga K p.1
            | none => match T.nms.lookup c with
              | some n => He.ga K n
              | none => 0) = _
        rw [nx, q]
      obtain ⟨_, fd, FD, FO⟩ := hF _ d hd
      obtain ⟨hs, _⟩ := t.defOk hd
      rw [ec.1]
      have ea : He.fAd K d.at_ = He.ma K (He.ga K p.1) "__init__" := by unfold DD.at_; rw [hcn, hnm]; rfl
      have ini : (gnC T F).init c = F p.2.1 := by
        show (match T.cls.lookup c with
          | some p => F p.2.1
          | none => botW) = _
        rw [q]
      rw [ini, ← hnp]
      have eop : T.tab.cop c = d.op := by
        show ((T.cls.map fun p => (p.1, T.opOf p.2.2.1)).lookup c).getD .no = d.op
        rw [lookup_map fun z : Str × Nat × Nat => T.opOf z.2.1, q]
        show T.opOf p.2.1 = d.op
        unfold Txt.opOf
        rw [hd]
      rw [eop]
      refine ⟨⟨ec.2, by rw [q]; rfl⟩, t.glo (fa_cls m (by simp)), _, fd, d.ps, ?_, ?_, bind_of t (all_def hd) FD, FO⟩
      · rw [ea]
        exact He.mkr_ok (t.fa _ (fa_cls m (by simp)))
      · rw [(DD.scope hs).2]
  mt := fun c m F' ok e => by
    obtain ⟨h1, h2⟩ := ok
    have e' : (T.mts.lookup (c, m)).map F = some F' := e
    cases q : T.mts.lookup (c, m) with
    | none => rw [q] at e'; cases e'
    | some g =>
      rw [q] at e'
      cases e'
      have mm := mem_lk q
      obtain ⟨d, pq, hd, hq, hcn, hnm, hop⟩ := t.mtOk mm
      obtain ⟨len, fd, FD, FO⟩ := hF _ d hd
      obtain ⟨hs, _⟩ := t.defOk hd
      have ec : (T.cl K) c = He.ga K pq.1 := by
        show (match T.exs.lookup c with
          | some r => He.ga K r.name
          | none => match T.cls.lookup c with
            | some p => He.ga K p.1
            | none => match T.nms.lookup c with
              | some n => He.ga K n
              | none => 0) = _
        rw [h1, hq]
      have ea : He.fAd K d.at_ = He.ma K (He.ga K pq.1) m := by unfold DD.at_; rw [hcn, hnm]; rfl
      rw [ec]
      have hl := (DD.scope hs).2
      refine ⟨_, fd, d.ps, ?_, fun ds M q x h => (len ds M q x h).trans hl.symm, by rw [← show d.op = T.tab.mop m from hop]; exact bind_of t (all_def hd) FD, by rw [hl]; exact FO⟩
      rw [ea]
      exact He.meth_ok (t.fa _ (fa_mt mm hq))
  why := fun h => by
    obtain ⟨y, hy⟩ := Option.isSome_iff_exists.mp (show T.why.isSome = true from h)
    obtain ⟨f, g, C1, C2, C3, fd, wi⟩ := whyIn t on hy
    exact ⟨_, _, f, g, C1, C2, C3, fd, wi⟩
theorem env_all (t : Told K mg T) (on : T.once = true) (tb : Tables K mg base T) : ∀ n, EnvOk P w K mg base (T.cl K) n T.tab (Gn T n)
  | 0 => env_of t on fun g d hd => by
    obtain ⟨fd, FD⟩ := t.df d (all_def hd)
    exact ⟨fun ds M q x h => np_bot h, fd, FD, fn_bot (DD.scope (t.defOk hd).1).2⟩
  | n + 1 => env_of t on fun g d hd => by
    obtain ⟨fd, FD⟩ := t.df d (all_def hd)
    have FO := fn_sound t tb hd FD (env_all t on tb n)
    have e : (match T.defs.lookup g with
      | some d => wfB (Gn T n) d.N d.np d.body
      | none => botW) = wfB (Gn T n) d.N d.np d.body := by rw [hd]
    show (∀ ds M q x, (match T.defs.lookup g with
      | some d => wfB (Gn T n) d.N d.np d.body
      | none => botW).run ds M q x → _) ∧ ∃ fd, _ ∧ FnOk P w K mg base _ _ _ fd _ (spW K _ _ (match T.defs.lookup g with
      | some d => wfB (Gn T n) d.N d.np d.body
      | none => botW))
    rw [e]
    exact ⟨fun ds M q x h => h.1, fd, FD, FO⟩
end
end

/-- a law's promise, in plain words -/
def LawIs (T : Txt) (n g : Nat) : Prop := ∀ ns : List Int, ns.length ≤ 63 → ((Gn T n).call g).run [.lst (ns.map Dt.int)] (fun _ => none) (fun d _ => d = .bl true) (fun _ _ => False)
theorem RelDs.ofInts {K : PySem.W.Frag} {S : Addr → Prop} {M : Mm} {H : Hp} : ∀ ns : List Int, RelDs K S M H (ns.map Dt.int) (ns.map V.int)
  | [] => .nil
  | n :: ns => .cons (.int n) (RelDs.ofInts ns)
theorem law_end {l : PySem.W.OpenLaw} {q : Program} {loose : List Str} {XP : (Str → Option Value) → Heap → Prop} {YP : World → Heap → Prop} {d : DefRec} {T : Txt} {n g : Nat} {lw : DD} {x : Str}
    (hok : T.ok = true) (on : T.once = true) (hb : AllBind T.all) (hlw : T.defs.lookup g = some lw) (hcn : lw.cn = none) (hop : lw.op = .no) (hps : lw.ps = [x]) (hn : l.most = some 63) (hdf : d.params.defaults = []) (hname : d.name = lw.name) (hr : Room (lv (n + 1)) callerA) (law : LawIs T (n + 1) g)
    (hY : ∀ w h, YP w h → ∃ K : PySem.W.Frag, K.In h ∧ He.SaysX T.fa T.fn [] T.tf (T.ex T.tf) w h K) :
    PySem.W.WalkO q loose XP YP l.row.toRowW d [] (fun f vs => PySem.call f vs) := by
  refine LamX.walk_ofTsE (l := l) (n := 63) (k := lv (n + 1)) (x := x) (CX := fun w => L2.CX l.prog w) hn (by decide) hdf hr ?F ?C
  case C =>
    rintro w H s e s' ⟨_, _, _, _, _, _, _, _, _, _, _, _, z⟩
    exact z
  intro w mg fa h Y G hmg
  obtain ⟨K, KX, c⟩ := hY w h Y
  have t : Told K mg T := ⟨⟨h, KX, G⟩, fun f hf => c.t.d.facts hf, fun d hd => He.SaysD.defs c.t.d (d := d.toD) (List.mem_map.mpr ⟨d, hd, rfl⟩), c.more, hok, hb⟩
  obtain ⟨fd, F⟩ := t.df _ (all_def hlw)
  have ea : He.fAd K lw.at_ = He.ga K lw.name := by unfold DD.at_; rw [hcn]; rfl
  have h1 : mg lw.name = some (.ref (He.fAd K lw.at_)) := by rw [ea]; exact t.glo (fa_def (mem_lk hlw) hcn)
  rw [hname] at hmg
  have e := hmg.symm.trans h1
  cases e
  obtain ⟨hs, hc⟩ := t.defOk hlw
  have hnp : lw.np = 1 := by rw [← (DD.scope hs).2, hps]; rfl
  have eg : (Gn T (n + 1)).call g = wfB (Gn T n) lw.N lw.np lw.body := by
    show (match T.defs.lookup g with
      | some d => wfB (Gn T n) d.N d.np d.body
      | none => botW) = _
    rw [hlw]
  refine ⟨K, KX, fd, T.tf.map (He.cT K), spW K (T.cl K) lw.np ((Gn T (n + 1)).call g), ?_, ?_, ?_, fun s u => ?_, fun H a ns hl _ hT hS => ?_, fun base KXb Gb TB => ?_⟩
  · intro p hp
    obtain ⟨q, hq, rfl⟩ := List.mem_map.mp hp
    exact c.empty q hq
  · intro p hp
    obtain ⟨q, hq, rfl⟩ := List.mem_map.mp hp
    exact c.out q hq
  · intro p hp
    obtain ⟨q, hq, rfl⟩ := List.mem_map.mp hp
    exact PySem.W.codeHd_of_K KX (c.hd q hq)
  · have B : lw.Bind := t.bind (all_def hlw)
    unfold DD.Bind at B
    unfold DD.Fun DD.dvs DD.kws at F
    rw [hop] at B F
    exact FunD.bindsA F (ps := [x]) (by rw [← hps]; exact B) s [u] rfl
  · have tabs : LamX.Tabs (T.cl K).T H := by
      intro p hp
      have hp : p ∈ (if T.why.isSome = true then T.defs.map fun p => ((He.cT K p.2.at_).2, p.2.qual ++ (".<locals>." : Str) ++ ("<lambda>" : Str)) else []) := hp
      split at hp
      · rename_i hw
        obtain ⟨q, hq, rfl⟩ := List.mem_map.mp hp
        refine LamX.TabS.nil (hT _ (List.mem_map.mpr ⟨q.2.at_, ?_, rfl⟩))
        unfold Txt.tf
        rw [if_pos hw]
        exact List.mem_map.mpr ⟨q, hq, rfl⟩
      · cases hp
    refine ⟨hnp.symm, fun _ => False, [.lst (ns.map Dt.int)], fun _ => none, .cons ?_ .nil, Hold.mk (fun a o z => nomatch (show (none : Option Mo) = some o from z)) (fun a z => False.elim z) tabs, ((Gn T (n + 1)).call g).mono (fun d' M' e => ?_) (fun z M' e => False.elim e) (law ns hl)⟩
    · rcases hS with h1 | h1
      · exact .lst rfl id h1 (RelDs.ofInts ns)
      · exact .lstK h1 (RelDs.ofInts ns)
    · subst e
      intro v H' r _ _
      cases r
      rfl
  · have tb : Tables K mg base T := fun p hp => TB _ (List.mem_map.mpr ⟨p, hp, rfl⟩)
    have R := fn_sound (P := l.prog) (w := w) t tb hlw F (env_all t on tb n)
    rw [eg, ← hps]
    exact R
end Fm

/-! The engine, part M: running texts, the drawing defs that every law has. -/
namespace Fm
open PySem L2 PySem.Spec PyProof.Rows

theorem wpSs_cons {G : Gt} {s : Sm} {ss : Sms} {k : Kn} {ρ : Rho} {M : Mm} : wpSs G (.cons s ss) k ρ M = wpS G s ⟨wpSs G ss k, k.rt, k.bk, k.ct, k.xx⟩ ρ M := rfl
theorem wp_seq {G : Gt} {s : Sm} {ss : Sms} {k : Kn} {ρ : Rho} {M : Mm} (N : Rho → Mm → Prop) (h1 : wpS G s ⟨N, k.rt, k.bk, k.ct, k.xx⟩ ρ M) (h2 : ∀ ρ' M', N ρ' M' → wpSs G ss k ρ' M') : wpSs G (.cons s ss) k ρ M :=
  wpS_mono s (k := ⟨N, k.rt, k.bk, k.ct, k.xx⟩) (k' := ⟨wpSs G ss k, k.rt, k.bk, k.ct, k.xx⟩) ⟨h2, fun _ _ z => z, fun _ _ z => z, fun _ _ z => z, fun _ _ _ z => z⟩ h1
theorem atI_nat {α : Type} {xs : List α} {i : Nat} : atI xs (i : Int) = xs[i]? := by
  unfold atI ixN
  rw [if_pos (by omega)]
  by_cases h : i < xs.length
  · rw [if_pos (by omega)]; simp
  · rw [if_neg (by omega), List.getElem?_eq_none (by omega)]; rfl
theorem atI_0 {α : Type} {a : α} {xs : List α} : atI (a :: xs) 0 = some a := atI_nat (i := 0)
theorem atI_1 {α : Type} {a b : α} {xs : List α} : atI (a :: b :: xs) 1 = some b := atI_nat (i := 1)
theorem atI_2 {α : Type} {a b c : α} {xs : List α} : atI (a :: b :: c :: xs) 2 = some c := atI_nat (i := 2)
theorem atI_3 {α : Type} {a b c d : α} {xs : List α} : atI (a :: b :: c :: d :: xs) 3 = some d := atI_nat (i := 3)
theorem atI_4 {α : Type} {a b c d e : α} {xs : List α} : atI (a :: b :: c :: d :: e :: xs) 4 = some e := atI_nat (i := 4)
theorem ixN_nat {n i : Nat} (h : i < n) : ixN n (i : Int) = some i := by
  unfold ixN
  rw [if_pos (by omega), if_pos (by omega)]; rfl
theorem ixN_0 {n : Nat} : ixN (n + 1) 0 = some 0 := ixN_nat (n := n + 1) (i := 0) (by omega)
theorem ixN_1 : ixN 4 1 = some 1 := rfl
theorem ixN_2 : ixN 4 2 = some 2 := rfl
theorem ixN_3 : ixN 4 3 = some 3 := rfl
theorem ixN_4 : ixN 5 4 = some 4 := rfl
theorem mul_r {i j : Int} (h1 : -(2 ^ 64) < j) (h2 : j < 2 ^ 64) : mulOk i j := .inl (.inr ⟨h1, h2⟩)
theorem log2_lt {j : Int} {n : Nat} (h1 : 0 < j) (h2 : j < 2 ^ n) : j.natAbs.log2 < n := by
  rw [Nat.log2_lt (by omega)]
  have h3 : ((2 ^ n : Nat) : Int) = 2 ^ n := by rw [Int.natCast_pow]; rfl
  omega
theorem div_ok {i j : Int} (h1 : 0 < j) (h2 : j < 2 ^ 200) : CDivW i j := ⟨h1, by have := log2_lt h1 h2; omega⟩
theorem div_lit {i j : Int} (h1 : 0 < j) (h2 : j < 2 ^ 64) : CDivW i j := ⟨h1, by have := log2_lt h1 h2; omega⟩

/-! ### what texts want, one way at a time -/
section
variable {G : Gt} {ρ : Rho} {M : Mm} {q : QD} {x : QX} {qL : QL} {qB : QB} {qO : Option Int → Mm → Prop} {qI : List Dt → (Mm → Prop) → Mm → Prop} {qR : QR} {K : Kn}
variable {a b c e : E} {es : Es} {t : T} {ts : Ts} {o p : CO} {i j : Nat} {g : Tg} {gs : Tgs} {d : Dt} {ds : List Dt} {k live : Bool} {lo hi : EO} {it : Ie} {own : List (Str × Nat)} {ss s2 : Sms}
theorem w_var : wpE G (.var i) ρ M q x = ∃ d, ρ[i]? = some (some d) ∧ q d M := rfl
theorem w_int {z : Int} : wpE G (.int z) ρ M q x = q (.int z) M := rfl
theorem w_str {z : Str} : wpE G (.str z) ρ M q x = q (.str z) M := rfl
theorem w_bl {z : Bool} : wpE G (.bl z) ρ M q x = q (.bl z) M := rfl
theorem w_slT {a : E} {lo hi : EO} : wpE G (.slT a lo hi) ρ M q x = wpE G a ρ M (fun u M1 => wpO G lo ρ M1 (fun l M2 => wpO G hi ρ M2 (fun h M3 => ∃ ds, u = .tup ds ∧ ¬ (HT.sIx ds.length 0 l = 0 ∧ HT.sIx ds.length ds.length h = ds.length) ∧ q (.tup (cutD ds l h)) M3) x) x) x := rfl
theorem w_lock {a : E} : wpE G (.lock a) ρ M q x = ∃ p kvs, M p = some (.dK kvs) ∧ ∀ u, wpE G a ρ (mset M p (some (.dF kvs u))) (fun d M' => M' p = some (.dF kvs u) ∧ q d (mset M' p (some (.dK kvs)))) x := rfl
theorem w_sit {live : Bool} {a : E} : wpE G (.sit live a) ρ M q x = wpE G a ρ M (fun u M1 => ∃ p kvs, u = .ref p ∧ M1 p = some (.dK kvs) ∧ kvs.length ≤ 1000 ∧ (∀ d, d ∈ kvD kvs → (pyD d).isSome = true ∧ (enD d).depth ≤ 60) ∧ PySem.W.AllAlike ((kvD kvs).map enD) ∧ PySem.W.Sortable ((kvD kvs).map enD) ∧ newL live ((kvD kvs).mergeSort (PySem.W.dataLe false enD)) M1 q) x := rfl
theorem w_srtSet {live : Bool} {a : E} : wpE G (.srtSet live a) ρ M q x = wpE G a ρ M (fun u M1 => ∃ ns : List Int, seqL M1 u = some (ns.map .int) ∧ ns.length < 64 ∧ ∀ zs : List Int, zs.Pairwise (· < ·) → (∀ k : Int, k ∈ zs ↔ k ∈ ns) → newL live (zs.map .int) M1 q) x := rfl
theorem w_lenSet {a : E} : wpE G (.lenSet a) ρ M q x = wpE G a ρ M (fun u M1 => ∃ ns : List Int, seqL M1 u = some (ns.map .int) ∧ ns.length < 64 ∧ ∀ zs : List Int, zs.Nodup → (∀ k : Int, k ∈ zs ↔ k ∈ ns) → q (.int zs.length) M1) x := rfl
theorem w_dc {own : List (Str × Nat)} {g : Tg} {it : Ie} {ts : Ts} {ke ve : E} : wpE G (.dc own g it ts ke ve) ρ M q x = wpI G it ρ M (fun ds keep M1 => dcRun (fun d M2 k => keep M2 ∧ wpG G g d (wipeR ρ (own.map (·.2))) M2 (fun ρ3 M3 =>
      wpAll G ts ρ3 M3 (fun b M4 => if b = true then wpE G ke ρ3 M4 (fun y M5 => wpE G ve ρ3 M5 (fun z M6 => k (some (y, z)) M6) (fun _ _ => False)) (fun _ _ => False) else k none M4) (fun _ _ => False)) (fun _ _ => False)) ds [] M1
      (fun acc M2 => keep M2 ∧ ∀ p, M2 p = none → q (.ref p) (mset M2 p (some (.dK acc))))) x := rfl
theorem w_dnew : wpE G .dnew ρ M q x = ∀ p, M p = none → q (.ref p) (mset M p (some (.dK []))) := rfl
theorem w_non : wpE G .non ρ M q x = q .non M := rfl
theorem w_glob : wpE G (.glob i) ρ M q x = q (G.gval i) M := rfl
theorem w_bin {o : BO} : wpE G (.bin o a b) ρ M q x = wpE G a ρ M (fun u M1 => wpE G b ρ M1 (fun v M2 => binD o u v M2 q) x) x := rfl
theorem w_neg : wpE G (.neg a) ρ M q x = wpE G a ρ M (fun u M1 => ∃ i, u = .int i ∧ q (.int (-i)) M1) x := rfl
theorem w_cmp : wpE G (.cmp o a b) ρ M q x = wpE G a ρ M (fun u M1 => wpE G b ρ M1 (fun v M2 => ∃ k, cmpD o u v M2 = some k ∧ q (.bl k) M2) x) x := rfl
theorem w_cmp2 : wpE G (.cmp2 o p a b c) ρ M q x = wpE G a ρ M (fun u M1 => wpE G b ρ M1 (fun v M2 => ∃ k, cmpD o u v M2 = some k ∧
      if k = true then wpE G c ρ M2 (fun w M3 => ∃ k, cmpD p v w M3 = some k ∧ q (.bl k) M3) x else q (.bl false) M2) x) x := rfl
theorem w_bop : wpE G (.bop k es) ρ M q x = wpB G k es ρ M q x := rfl
theorem w_b1 : wpB G k (.cons e .nil) ρ M q x = wpE G e ρ M q x := rfl
theorem w_b2 {e2 : E} : wpB G k (.cons e (.cons e2 es)) ρ M q x = wpE G e ρ M (fun d M1 => ∃ b, d = .bl b ∧ if b = k then wpB G k (.cons e2 es) ρ M1 q x else q (.bl b) M1) x := rfl
theorem w_not : wpE G (.not_ a) ρ M q x = wpE G a ρ M (fun u M1 => ∃ k, u = .bl k ∧ q (.bl (!k)) M1) x := rfl
theorem w_ite : wpE G (.ite t a b) ρ M q x = wpT G t ρ M (fun k M1 => if k = true then wpE G a ρ M1 q x else wpE G b ρ M1 q x) x := rfl
theorem w_tup : wpE G (.tup es) ρ M q x = wpEs G es ρ M (fun ds M1 => ds.length ≤ sizeLine ∧ q (.tup ds) M1) x := rfl
theorem w_lst : wpE G (.lst live es) ρ M q x = wpEs G es ρ M (fun ds M1 => ds.length ≤ sizeLine ∧ newL live ds M1 q) x := rfl
theorem w_ix : wpE G (.ix a b) ρ M q x = wpE G a ρ M (fun u M1 => wpE G b ρ M1 (fun v M2 => ∃ d, ixD M2 u v = some d ∧ q d M2) x) x := rfl
theorem w_sl : wpE G (.sl a lo hi) ρ M q x = wpE G a ρ M (fun u M1 => wpO G lo ρ M1 (fun l M2 => wpO G hi ρ M2 (fun h M3 => ∃ ds, seqL M3 u = some ds ∧ q (.lst (cutD ds l h)) M3) x) x) x := rfl
theorem w_call : wpE G (.call i es) ρ M q x = wpEs G es ρ M (fun ds M1 => (G.call i).run ds M1 q x) x := rfl
theorem w_bi {f : BI} : wpE G (.bi f es) ρ M q x = wpEs G es ρ M (fun ds M1 => biD f ds M1 q) x := rfl
theorem w_mt {m : MI} : wpE G (.mt m a es) ρ M q x = wpE G a ρ M (fun u M1 => mtOk m M1 u = true ∧ wpEs G es ρ M1 (fun ds M2 => mtD m u ds M2 q) x) x := rfl
theorem w_isi {l : List TyR} : wpE G (.isi a l k) ρ M q x = wpE G a ρ M (fun u M1 => ∃ k, isiD M1 u l = some k ∧ q (.bl k) M1) x := rfl
theorem w_lc : wpE G (.lc live own g it ts e) ρ M q x = wpI G it ρ M (fun ds keep M1 => lcRun (fun d M2 k => keep M2 ∧ wpG G g d (wipeR ρ (own.map (·.2))) M2 (fun ρ3 M3 =>
      wpAll G ts ρ3 M3 (fun b M4 => if b = true then wpE G e ρ3 M4 (fun y M5 => k (some y) M5) (fun _ _ => False) else k none M4) (fun _ _ => False)) (fun _ _ => False)) ds [] M1
      (fun acc M2 => keep M2 ∧ newL live acc M2 q)) x := rfl
/-- a list made fast -/
def frzD (M1 : Mm) (q : QD) : Dt → Prop
  | .ref p => (match M1 p with
      | some (.lst ds) => q (.lst ds) (mset M1 p none)
      | _ => q (.ref p) M1)
  | u => q u M1
theorem frz_l : frzD M q (.lst ds) = q (.lst ds) M := rfl
theorem frz_r {p : Addr} (h : M p = some (.lst ds)) : frzD M q (.ref p) = q (.lst ds) (mset M p none) := by
  show (match M p with
      | some (.lst ds) => q (.lst ds) (mset M p none)
      | _ => q (.ref p) M) = _
  rw [h]
theorem frz_m {p : Addr} : frzD (mset M p (some (.lst ds))) q (.ref p) = q (.lst ds) (mset M p none) := by rw [frz_r mset_same, mset_mset]
theorem w_frz : wpE G (.frz a) ρ M q x = wpE G a ρ M (fun u M1 => frzD M1 q u) x := by
  have e : (fun (u : Dt) (M1 : Mm) => frzD M1 q u) = (fun u M1 => match u with
    | .ref p => (match M1 p with
      | some (.lst ds) => q (.lst ds) (mset M1 p none)
      | _ => q u M1)
    | u => q u M1) := by
    funext u M1
    cases u <;> rfl
  rw [e]; rfl
theorem w_es0 : wpEs G .nil ρ M qL x = qL [] M := rfl
theorem w_es1 : wpEs G (.cons e es) ρ M qL x = wpE G e ρ M (fun d M1 => wpEs G es ρ M1 (fun ds M2 => qL (d :: ds) M2) x) x := rfl
theorem w_o0 : wpO G .none ρ M qO x = qO none M := rfl
theorem w_o1 : wpO G (.some e) ρ M qO x = wpE G e ρ M (fun d M1 => ∃ i, d = .int i ∧ qO (some i) M1) x := rfl
theorem w_tval : wpT G (.val a) ρ M qB x = wpE G a ρ M (fun d M1 => ∃ b, truD M1 d = some b ∧ qB b M1) x := rfl
theorem w_tcmp : wpT G (.cmp o a b) ρ M qB x = wpE G a ρ M (fun u M1 => wpE G b ρ M1 (fun v M2 => ∃ k, cmpD o u v M2 = some k ∧ qB k M2) x) x := rfl
theorem w_tcmp2 : wpT G (.cmp2 o p a b c) ρ M qB x = wpE G a ρ M (fun u M1 => wpE G b ρ M1 (fun v M2 => ∃ k, cmpD o u v M2 = some k ∧
      if k = true then wpE G c ρ M2 (fun w M3 => ∃ k, cmpD p v w M3 = some k ∧ qB k M3) x else qB false M2) x) x := rfl
theorem w_tnot : wpT G (.not_ t) ρ M qB x = wpT G t ρ M (fun b M1 => qB (!b) M1) x := rfl
theorem w_tall : wpT G (.all ts) ρ M qB x = wpAll G ts ρ M qB x := rfl
theorem w_tany : wpT G (.any ts) ρ M qB x = wpAny' G ts ρ M qB x := rfl
theorem w_all0 : wpAll G .nil ρ M qB x = qB true M := rfl
theorem w_all1 : wpAll G (.cons t .nil) ρ M qB x = wpT G t ρ M (fun b M1 => if b = true then qB true M1 else qB false M1) x := rfl
theorem w_all2 {t2 : T} : wpAll G (.cons t (.cons t2 ts)) ρ M qB x = wpT G t ρ M (fun b M1 => if b = true then wpAll G (.cons t2 ts) ρ M1 qB x else qB false M1) x := rfl
theorem w_any0 : wpAny' G .nil ρ M qB x = qB false M := rfl
theorem w_any1 : wpAny' G (.cons t .nil) ρ M qB x = wpT G t ρ M (fun b M1 => if b = true then qB true M1 else qB false M1) x := rfl
theorem w_any2 {t2 : T} : wpAny' G (.cons t (.cons t2 ts)) ρ M qB x = wpT G t ρ M (fun b M1 => if b = true then qB true M1 else wpAny' G (.cons t2 ts) ρ M1 qB x) x := rfl
/-- what an iterator's data give -/
def itD (M1 : Mm) (qI : List Dt → (Mm → Prop) → Mm → Prop) : Dt → Prop
  | .tup ds => qI ds (fun _ => True) M1
  | .lst ds => qI ds (fun _ => True) M1
  | .ref p => (match M1 p with
      | some (.lst ds) => qI ds (fun M => M p = some (.lst ds)) M1
      | _ => False)
  | _ => False
theorem it_t : itD M qI (.tup ds) = qI ds (fun _ => True) M := rfl
theorem it_l : itD M qI (.lst ds) = qI ds (fun _ => True) M := rfl
theorem it_r {p : Addr} (h : M p = some (.lst ds)) : itD M qI (.ref p) = qI ds (fun M => M p = some (.lst ds)) M := by
  show (match M p with
    | some (.lst ds) => qI ds (fun (M : Mm) => M p = some (Mo.lst ds)) M
    | _ => False) = _
  rw [h]
theorem w_seq : wpI G (.seq a) ρ M qI x = wpE G a ρ M (fun d M1 => itD M1 qI d) x := by
  have e : (fun (d : Dt) (M1 : Mm) => itD M1 qI d) = (fun d M1 => match d with
    | .tup ds => qI ds (fun _ => True) M1
    | .lst ds => qI ds (fun _ => True) M1
    | .ref p => (match M1 p with
      | some (.lst ds) => qI ds (fun M => M p = some (.lst ds)) M1
      | _ => False)
    | _ => False) := by
    funext d M1
    cases d <;> rfl
  rw [e]; rfl
theorem w_rng1 : wpI G (.rng1 a) ρ M qI x = wpE G a ρ M (fun d M1 => ∃ j, d = .int j ∧ -(2 ^ 62) ≤ j ∧ j < 2 ^ 62 ∧ qI ((List.range j.toNat).map fun (k : Nat) => .int (k : Int)) (fun _ => True) M1) x := rfl
theorem w_rng2 : wpI G (.rng2 a b) ρ M qI x = wpE G a ρ M (fun d M1 => wpE G b ρ M1 (fun e M2 => ∃ i j, d = .int i ∧ e = .int j ∧ (-(2 ^ 62) ≤ i ∧ i < 2 ^ 62 ∧ -(2 ^ 62) ≤ j ∧ j < 2 ^ 62) ∧
      qI ((List.range (j - i).toNat).map fun (k : Nat) => .int (i + (k : Int))) (fun _ => True) M2) x) x := rfl
theorem w_zip : wpI G (.zip a b) ρ M qI x = wpE G a ρ M (fun d M1 => wpE G b ρ M1 (fun e M2 => ∃ ds es, lsD M2 d = some ds ∧ lsD M2 e = some es ∧ qI (zipD ds es) (fun M => lsD M d = some ds ∧ lsD M e = some es) M2) x) x := rfl
theorem w_enm : wpI G (.enm a) ρ M qI x = wpE G a ρ M (fun d M1 => ∃ ds, itemsD M1 d = some ds ∧ qI (enmD ds) (fun M => itemsD M d = some ds) M1) x := rfl
theorem w_items : wpI G (.items a) ρ M qI x = wpE G a ρ M (fun d M1 => ∃ p kvs u, d = .ref p ∧ M1 p = some (.dF kvs u) ∧ qI (kvD kvs) (fun M => M p = some (.dF kvs u)) M1) x := rfl
theorem w_gfld {d : Dt} {f : Str} : wpG G (.fld a f) d ρ M qR x = wpE G a ρ M (fun u M1 => ∃ p c fs, u = .ref p ∧ M1 p = some (.ins c fs) ∧ fs.length < 1000 ∧ qR ρ (mset M1 p (some (.ins c (putFd f d fs))))) x := rfl
theorem w_gst {d : Dt} {es : List Dt} {g1 g2 : Tg} : wpG G (.star (.cons g1 (.cons g2 .nil))) (.tup (d :: es)) ρ M qR x = (es.length < 16384 ∧ wpGs G (.cons g1 (.cons g2 .nil)) [d, .lst es] ρ M qR (fun _ _ => False)) := propext ⟨fun ⟨ds, es', e, hl, h1, h2⟩ => by
    match ds, hl, e with
    | [a], _, e => cases e; exact ⟨h1, h2⟩
    | [], hl, _ => cases hl
    | _ :: _ :: ds, hl, _ => exact absurd hl (by simp [Tgs.len]), fun ⟨h1, h2⟩ => ⟨[d], _, rfl, rfl, h1, h2⟩⟩
theorem w_gst4 {d1 d2 d3 : Dt} {es : List Dt} {g1 g2 g3 g4 : Tg} : wpG G (.star (.cons g1 (.cons g2 (.cons g3 (.cons g4 .nil))))) (.tup (d1 :: d2 :: d3 :: es)) ρ M qR x = (es.length < 16384 ∧ wpGs G (.cons g1 (.cons g2 (.cons g3 (.cons g4 .nil)))) [d1, d2, d3, .lst es] ρ M qR (fun _ _ => False)) := propext ⟨fun ⟨ds, es', e, hl, h1, h2⟩ => by
    match ds, hl, e with
    | [a, b, c], _, e => cases e; exact ⟨h1, h2⟩
    | [], hl, _ => cases hl
    | [_], hl, _ => cases hl
    | [_, _], hl, _ => cases hl
    | _ :: _ :: _ :: _ :: ds, hl, _ => exact absurd hl (by simp [Tgs.len]), fun ⟨h1, h2⟩ => ⟨[d1, d2, d3], _, rfl, rfl, h1, h2⟩⟩
theorem w_gn : wpG G (.name i) d ρ M qR x = qR (ρ.set i (some d)) M := rfl
theorem w_gt : wpG G (.tup gs) (.tup ds) ρ M qR x = (ds.length = gs.len ∧ wpGs G gs ds ρ M qR (fun _ _ => False)) := by
  show (∃ es, some ds = some es ∧ es.length = gs.len ∧ wpGs G gs es ρ M qR (fun _ _ => False)) = _
  exact propext ⟨fun ⟨es, e, h⟩ => by cases e; exact h, fun h => ⟨ds, rfl, h⟩⟩
theorem w_gl : wpG G (.tup gs) (.lst ds) ρ M qR x = (ds.length = gs.len ∧ wpGs G gs ds ρ M qR (fun _ _ => False)) := by
  show (∃ es, some ds = some es ∧ es.length = gs.len ∧ wpGs G gs es ρ M qR (fun _ _ => False)) = _
  exact propext ⟨fun ⟨es, e, h⟩ => by cases e; exact h, fun h => ⟨ds, rfl, h⟩⟩
/-- what a store by index wants -/
def ixSt (d : Dt) (ρ : Rho) (q : QR) (M2 : Mm) (v : Dt) : Dt → Prop
  | .ref p => (match M2 p with
      | some (.lst ds) => ∃ i j, v = Dt.int i ∧ ixN ds.length i = some j ∧ q ρ (mset M2 p (some (.lst (ds.set j d))))
      | some (.dK kvs) => ∃ k, keyOf v = some k ∧ kvs.length < sizeLine ∧ q ρ (mset M2 p (some (.dK (putD kvs k d))))
      | _ => False)
  | _ => False
theorem ixSt_l {p : Addr} {n : Int} (h : M p = some (.lst ds)) : ixSt d ρ qR M (.int n) (.ref p) = ∃ j, ixN ds.length n = some j ∧ qR ρ (mset M p (some (.lst (ds.set j d)))) := by
  show (match M p with
      | some (.lst ds) => ∃ i j, Dt.int n = Dt.int i ∧ ixN ds.length i = some j ∧ qR ρ (mset M p (some (.lst (ds.set j d))))
      | some (.dK kvs) => ∃ k, keyOf (Dt.int n) = some k ∧ kvs.length < sizeLine ∧ qR ρ (mset M p (some (.dK (putD kvs k d))))
      | _ => False) = _
  rw [h]
  simp only [Dt.int.injEq]
  exact propext ⟨fun ⟨i, j, e, r⟩ => ⟨j, by rw [e]; exact r⟩, fun ⟨j, r⟩ => ⟨n, j, rfl, r⟩⟩
theorem w_gi : wpG G (.ix a b) d ρ M qR x = wpE G a ρ M (fun u M1 => wpE G b ρ M1 (fun v M2 => ixSt d ρ qR M2 v u) x) x := by
  have e : (fun (u : Dt) (M1 : Mm) => wpE G b ρ M1 (fun v M2 => ixSt d ρ qR M2 v u) x) = (fun u M1 => wpE G b ρ M1 (fun v M2 => match u with
    | .ref p => (match M2 p with
      | some (.lst ds) => ∃ i j, v = Dt.int i ∧ ixN ds.length i = some j ∧ qR ρ (mset M2 p (some (.lst (ds.set j d))))
      | some (.dK kvs) => ∃ k, keyOf v = some k ∧ kvs.length < sizeLine ∧ qR ρ (mset M2 p (some (.dK (putD kvs k d))))
      | _ => False)
    | _ => False) x) := by
    funext u M1
    cases u <;> rfl
  rw [e]; rfl
theorem w_gs0 : wpGs G .nil ds ρ M qR x = (ds = [] ∧ qR ρ M) := rfl
theorem w_gs1 : wpGs G (.cons g gs) (d :: ds) ρ M qR x = wpG G g d ρ M (fun ρ1 M1 => wpGs G gs ds ρ1 M1 qR x) x := by
  show (∃ d' r, d :: ds = d' :: r ∧ wpG G g d' ρ M (fun ρ1 M1 => wpGs G gs r ρ1 M1 qR x) x) = _
  exact propext ⟨fun ⟨d', r, e, h⟩ => by cases e; exact h, fun h => ⟨d, ds, rfl, h⟩⟩
theorem s_asg : wpS G (.asg g e) K ρ M = wpE G e ρ M (fun d M1 => wpG G g d ρ M1 K.nx fun z M' => K.xx z ρ M') fun z M' => K.xx z ρ M' := rfl
theorem s_asgC : wpS G (.asgC i e) K ρ M = wpE G e ρ M (fun d M1 => K.nx (ρ.set i (some d)) M1) fun z M' => K.xx z ρ M' := rfl
theorem s_par : wpS G (.par i j a b) K ρ M = wpE G a ρ M (fun u M1 => wpE G b ρ M1 (fun v M2 => K.nx ((ρ.set i (some u)).set j (some v)) M2) fun z M' => K.xx z ρ M') fun z M' => K.xx z ρ M' := rfl
theorem s_aug {o : BO} : wpS G (.aug i o e) K ρ M = ∃ u, ρ[i]? = some (some u) ∧ wpE G e ρ M (fun v M1 => binD o u v M1 fun w M2 => K.nx (ρ.set i (some w)) M2) fun z M' => K.xx z ρ M' := rfl
theorem s_lock {s : Sm} : wpS G (.lock s) K ρ M = ∃ p kvs, M p = some (.dK kvs) ∧ ∀ u, wpS G s (lockK p kvs u K) ρ (mset M p (some (.dF kvs u))) := rfl
theorem s_par3 {i j l : Nat} {c : E} : wpS G (.par3 i j l a b c) K ρ M = wpE G a ρ M (fun u M1 => wpE G b ρ M1 (fun v M2 => wpE G c ρ M2 (fun w M3 => K.nx (((ρ.set i (some u)).set j (some v)).set l (some w)) M3) fun z M' => K.xx z ρ M') fun z M' => K.xx z ρ M') fun z M' => K.xx z ρ M' := rfl
theorem s_delD {i : E} : wpS G (.delD a i) K ρ M = wpE G a ρ M (fun u M1 => wpE G i ρ M1 (fun v M2 => ∃ p kvs y, u = .ref p ∧ M2 p = some (.dK kvs) ∧ keyOf v = some y ∧ (valD kvs y).isSome = true ∧ K.nx ρ (mset M2 p (some (.dK (exceptD kvs y))))) fun z M' => K.xx z ρ M') fun z M' => K.xx z ρ M' := rfl
theorem s_expr : wpS G (.expr e) K ρ M = wpE G e ρ M (fun _ M1 => K.nx ρ M1) fun z M' => K.xx z ρ M' := rfl
theorem s_if : wpS G (.if_ t ss s2) K ρ M = wpT G t ρ M (fun b M1 => if b = true then wpSs G ss K ρ M1 else wpSs G s2 K ρ M1) fun z M' => K.xx z ρ M' := rfl
theorem s_for : wpS G (.for_ g it ss) K ρ M = wpI G it ρ M (fun ds keep M1 => forRun keep (fun d ρ2 M2 n => wpG G g d ρ2 M2 (fun ρ3 M3 => wpSs G ss ⟨n, K.rt, K.nx, n, K.xx⟩ ρ3 M3) fun z M' => K.xx z ρ2 M') ds ρ M1 K.nx) fun z M' => K.xx z ρ M' := rfl
theorem s_while : wpS G (.while_ t ss) K ρ M = ∃ n, whRun (fun n ρ M => wpT G t ρ M (fun b M1 => if b = true then wpSs G ss ⟨n, K.rt, K.nx, n, K.xx⟩ ρ M1 else K.nx ρ M1) fun z M' => K.xx z ρ M') n ρ M := rfl
theorem s_ret : wpS G (.ret e) K ρ M = wpE G e ρ M K.rt fun z M' => K.xx z ρ M' := rfl
theorem s_retN : wpS G .retN K ρ M = K.rt .non M := rfl
theorem s_brk : wpS G .brk K ρ M = K.bk ρ M := rfl
theorem s_cont : wpS G .cont K ρ M = K.ct ρ M := rfl
theorem s_pass : wpS G .pass K ρ M = K.nx ρ M := rfl
theorem s_nil : wpSs G .nil K ρ M = K.nx ρ M := rfl
theorem w_why : wpE G (.why a) ρ M q x = wpE G a ρ M (fun _ M1 => q (.tup [.str "", .non]) M1) fun z M1 => ∃ w d, z.fs.lookup ("word" : Str) = some w ∧ G.told z.c z.fs = some d ∧ q (.tup [w, d]) M1 := rfl
theorem w_mk : wpE G (.mk i es) ρ M q x = wpEs G es ρ M (fun ds M1 => ∀ p, M1 p = none → (G.init i).run (.ref p :: ds) (mset M1 p (some (.ins i []))) (fun v M2 => v = .non ∧ q (.ref p) M2) x) x := rfl
theorem w_meth {m : Str} : wpE G (.meth m a es) ρ M q x = wpE G a ρ M (fun u M1 => ∃ p c fs F, u = .ref p ∧ M1 p = some (.ins c fs) ∧ fs.lookup m = none ∧ G.meth c m = some F ∧ wpEs G es ρ M1 (fun ds M2 => F.run (.ref p :: ds) M2 q x) x) x := rfl
theorem w_mkO {k : Bool} : wpE G (.mkO k i es e) ρ M q x = wpEs G es ρ M (fun ds M1 => wpE G e ρ M1 (fun d M2 => ∀ p, M2 p = none → (G.init i).run (.ref p :: (ds ++ [d])) (mset M2 p (some (.ins i []))) (fun v M3 => v = .non ∧ q (.ref p) M3) x) x) x := rfl
theorem w_methO {k : Bool} {m : Str} : wpE G (.methO k m a es e) ρ M q x = wpE G a ρ M (fun u M1 => ∃ p c fs F, u = .ref p ∧ M1 p = some (.ins c fs) ∧ fs.lookup m = none ∧ G.meth c m = some F ∧ wpEs G es ρ M1 (fun ds M2 => wpE G e ρ M2 (fun d M3 => F.run (.ref p :: (ds ++ [d])) M3 q x) x) x) x := rfl
theorem w_revS : wpE G (.rev a) ρ M q x = wpE G a ρ M (fun u M1 => ∃ ds, seqL M1 u = some ds ∧ q (.lst ds.reverse) M1) x := rfl
theorem w_lrng : wpE G (.lrng live a) ρ M q x = wpE G a ρ M (fun u M1 => ∃ n, u = .int n ∧ -(2 ^ 62) ≤ n ∧ n ≤ 2 ^ 24 ∧ newL live ((List.range n.toNat).map fun (k : Nat) => .int (k : Int)) M1 q) x := rfl
theorem w_maxO : wpE G (.maxO a e) ρ M q x = wpE G a ρ M (fun u M1 => wpE G e ρ M1 (fun d M2 => maxOD u d M2 q) x) x := rfl
theorem w_fld {f : Str} : wpE G (.fld a f) ρ M q x = wpE G a ρ M (fun u M1 => ∃ p c fs d, u = .ref p ∧ M1 p = some (.ins c fs) ∧ fs.lookup f = some d ∧ q d M1) x := rfl
theorem s_raise : wpS G (.raise i es) K ρ M = wpEs G es ρ M (fun ds M1 => ∃ fs, G.exc i ds = some fs ∧ K.xx ⟨i, fs⟩ ρ M1) fun z M' => K.xx z ρ M' := rfl
theorem s_setf {f : Str} : wpS G (.setf a f e) K ρ M = wpE G e ρ M (fun d M1 => wpE G a ρ M1 (fun u M2 => ∃ p c fs, u = .ref p ∧ M2 p = some (.ins c fs) ∧ fs.length < 1000 ∧ K.nx ρ (mset M2 p (some (.ins c (putFd f d fs))))) fun z M' => K.xx z ρ M') fun z M' => K.xx z ρ M' := rfl
theorem s_augf {f : Str} {o : BO} : wpS G (.augf a f o e) K ρ M = wpE G a ρ M (fun u M1 => ∃ p c fs y, u = .ref p ∧ M1 p = some (.ins c fs) ∧ fs.lookup f = some y ∧ wpE G e ρ M1 (fun v M2 => binD o y v M2 fun w M3 => ∃ fs', M3 p = some (.ins c fs') ∧ fs'.length < 1000 ∧ K.nx ρ (mset M3 p (some (.ins c (putFd f w fs'))))) fun z M' => K.xx z ρ M') fun z M' => K.xx z ρ M' := rfl
theorem s_tryN : wpS G (.tryN ss) K ρ M = wpSs G ss ⟨K.nx, K.rt, K.bk, K.ct, fun _ _ _ => False⟩ ρ M := rfl
theorem s_tryR : wpS G (.tryR ss i e) K ρ M = wpSs G ss ⟨K.nx, K.rt, K.bk, K.ct, fun z ρ' M' => ∃ b, G.sub z.c i = some b ∧ if b = true then wpE G e ρ' M' K.rt (fun _ _ => False) else K.xx z ρ' M'⟩ ρ M := rfl
end

/-! ### what operations give, one way at a time -/
section
variable {M : Mm} {q : QD} {i j : Int} {s t : Str} {a : Addr} {ds : List Dt} {d d2 : Dt} {b c : Bool}
theorem cmp_neT {xs ys : List Dt} : cmpD .neT (.tup xs) (.tup ys) M = (eqIs M xs ys).map (!·) := rfl
theorem bin_add : binD .add (.int i) (.int j) M q = q (.int (i + j)) M := rfl
theorem bin_adds : binD .add (.str s) (.str t) M q = (s.length + t.length ≤ sizeLine ∧ q (.str (s ++ t)) M) := rfl
theorem bin_sub : binD .sub (.int i) (.int j) M q = q (.int (i - j)) M := rfl
theorem bin_bsub {M : Mm} {q : QD} {i : Bool} {j : Int} : binD .sub (.bl i) (.int j) M q = q (.int ((if i = true then 1 else 0) - j)) M := rfl
theorem bin_badd {M : Mm} {q : QD} {i : Bool} {j : Int} : binD .add (.bl i) (.int j) M q = q (.int ((if i = true then 1 else 0) + j)) M := rfl
theorem bin_subb {M : Mm} {q : QD} {i : Int} {j : Bool} : binD .sub (.int i) (.bl j) M q = q (.int (i - if j = true then 1 else 0)) M := rfl
theorem bin_mul : binD .mul (.int i) (.int j) M q = (mulOk i j ∧ q (.int (i * j)) M) := rfl
theorem bin_fdiv : binD .fdiv (.int i) (.int j) M q = (CDivW i j ∧ q (.int (i / j)) M) := rfl
theorem bin_mod : binD .mod (.int i) (.int j) M q = (0 < j ∧ q (.int (i % j)) M) := rfl
theorem bin_pow : binD .pow (.int i) (.int j) M q = (CPow i j ∧ q (.int (i ^ j.toNat)) M) := rfl
theorem bin_xor : binD .xor (.int i) (.int j) M q = q (.int (Builtin.bitXor i j)) M := rfl
theorem cmp_lt : cmpD .lt (.int i) (.int j) M = some (decide (i < j)) := rfl
theorem cmp_le : cmpD .le (.int i) (.int j) M = some (decide (i ≤ j)) := rfl
theorem cmp_gt : cmpD .gt (.int i) (.int j) M = some (decide (j < i)) := rfl
theorem cmp_ge : cmpD .ge (.int i) (.int j) M = some (decide (j ≤ i)) := rfl
theorem cmp_eqi : cmpD .eq (.int i) (.int j) M = some (decide (i = j)) := rfl
theorem cmp_eqs : cmpD .eq (.str s) (.str t) M = some (decide (s = t)) := rfl
theorem cmp_eqb : cmpD .eq (.bl b) (.bl c) M = some (decide (b = c)) := rfl
theorem cmp_nei : cmpD .ne (.int i) (.int j) M = some (!decide (i = j)) := rfl
theorem cmp_nes : cmpD .ne (.str s) (.str t) M = some (!decide (s = t)) := rfl
theorem cmp_neb : cmpD .ne (.bl b) (.bl c) M = some (!decide (b = c)) := rfl
theorem cmp_is0 : cmpD .is_ .non .non M = some true := rfl
theorem cmp_is1 : cmpD .is_ (.int i) .non M = some false := rfl
theorem cmp_is2 : cmpD .is_ (.tup ds) .non M = some false := rfl
theorem cmp_is3 : cmpD .is_ (.lst ds) .non M = some false := rfl
theorem cmp_is4 : cmpD .is_ (.ref a) .non M = some false := rfl
theorem cmp_is5 : cmpD .is_ (.str s) .non M = some false := rfl
theorem cmp_is6 : cmpD .is_ (.bl b) .non M = some false := rfl
theorem cmp_isn0 : cmpD .isnot .non .non M = some false := rfl
theorem cmp_isn1 : cmpD .isnot (.int i) .non M = some true := rfl
theorem cmp_isn2 : cmpD .isnot (.tup ds) .non M = some true := rfl
theorem cmp_isn3 : cmpD .isnot (.lst ds) .non M = some true := rfl
theorem cmp_isn4 : cmpD .isnot (.ref a) .non M = some true := rfl
theorem cmp_isn5 : cmpD .isnot (.str s) .non M = some true := rfl
theorem cmp_in : cmpD .in_ d d2 M = inD M d d2 := by cases d <;> cases d2 <;> rfl
theorem cmp_notin : cmpD .notin d d2 M = (inD M d d2).map (!·) := by cases d <;> cases d2 <;> rfl
theorem bi_lens : biD .len [.str s] M q = (s.length ≤ sizeLine ∧ q (.int s.length) M) := rfl
theorem bi_lent : biD .len [.tup ds] M q = q (.int ds.length) M := rfl
theorem bi_lenl : biD .len [.lst ds] M q = q (.int ds.length) M := rfl
theorem bi_lenr (h : M a = some (.lst ds)) : biD .len [.ref a] M q = q (.int ds.length) M := by
  show (match M a with
    | some (.lst ds) => q (.int ds.length) M
    | some (.dK ds) => q (.int ds.length) M
    | _ => False) = _
  rw [h]
theorem bi_min : biD .min2 [.int i, .int j] M q = q (.int (min i j)) M := by
  show q (.int (if j < i then j else i)) M = _
  have : (if j < i then j else i) = min i j := by split <;> omega
  rw [this]
theorem bi_max : biD .max2 [.int i, .int j] M q = q (.int (max i j)) M := by
  show q (.int (if j > i then j else i)) M = _
  have : (if j > i then j else i) = max i j := by split <;> omega
  rw [this]
theorem bin_rep {xs : List Dt} {n : Int} : binD .rep (.lst xs) (.int n) M q = (-(2 ^ 63) ≤ n ∧ n < 2 ^ 63 ∧ xs.length * n.toNat ≤ sizeLine ∧ q (.lst (List.replicate n.toNat xs).flatten) M) := rfl
theorem bin_cat {xs ys : List Dt} : binD .cat (.lst xs) (.lst ys) M q = (xs.length + ys.length ≤ sizeLine ∧ q (.lst (xs ++ ys)) M) := rfl
theorem bi_sortedK {l : Bool} {p : Addr} : biD (.sortedK l) [.ref p] M q = ∃ (kvs : List (Key × Dt)) (ks : List Int), M p = some (.dK kvs) ∧ kvs.map (·.1) = ks.map Sum.inl ∧ ks.length ≤ 16000000 ∧ ∀ ys : List Int, ys.Perm ks → ys.Pairwise (· ≤ ·) → newL l (ys.map .int) M q := rfl
theorem bi_sortedKS {l : Bool} {p : Addr} : biD (.sortedKS l) [.ref p] M q = ∃ (kvs : List (Key × Dt)) (ks : List Str), M p = some (.dK kvs) ∧ kvs.map (·.1) = ks.map Sum.inr ∧ ks.length ≤ 16000000 ∧ ∀ ys : List Str, ys.Perm ks → PyProof.Rows.sortedS ys = true → newL l (ys.map .str) M q := rfl
theorem mt_cnt {u : Dt} {k : Int} : mtD .count u [.int k] M q = ∃ ns : List Int, seqL M u = some (ns.map .int) ∧ q (.int (ns.count k : Nat)) M := rfl
theorem mt_idx {u d : Dt} : mtD .index u [d] M q = ∃ (ks : List Key) (k : Key) (j : Nat), seqL M u = some (ks.map kD) ∧ d = kD k ∧ ks[j]? = some k ∧ (∀ m, m < j → ks[m]? ≠ some k) ∧ q (.int (j : Nat)) M := rfl
theorem mtOk_cl {ds : List Dt} : mtOk .count M (.lst ds) = true := rfl
theorem mtOk_il {ds : List Dt} : mtOk .index M (.lst ds) = true := rfl
theorem bi_dictD {p : Addr} : biD .dictD [.ref p] M q = ∃ kvs : List (Key × Dt), M p = some (.dK kvs) ∧ ∀ p, M p = none → q (.ref p) (mset M p (some (.dK kvs))) := rfl
theorem bi_abs : biD .abs [.int i] M q = q (.int (if i < 0 then -i else i)) M := rfl
theorem bi_listT {l : Bool} : biD (.listOf l) [.tup ds] M q = newL l ds M q := rfl
theorem bi_listL {l : Bool} : biD (.listOf l) [.lst ds] M q = ∃ es, some ds = some es ∧ newL l es M q := rfl
theorem bi_tupT : biD .tupOf [.tup ds] M q = q (.tup ds) M := rfl
theorem bi_tupL : biD .tupOf [.lst ds] M q = ∃ es, some ds = some es ∧ q (.tup es) M := rfl
theorem bi_maxL : biD .maxL [d] M q = ∃ ns : List Int, itemsD M d = some (ns.map .int) ∧ 0 < ns.length ∧ ∀ m, m ∈ ns → (∀ y, y ∈ ns → y ≤ m) → q (.int m) M := by cases d <;> rfl
theorem bi_minL : biD .minL [d] M q = ∃ ns : List Int, itemsD M d = some (ns.map .int) ∧ 0 < ns.length ∧ ∀ m, m ∈ ns → (∀ y, y ∈ ns → m ≤ y) → q (.int m) M := by cases d <;> rfl
theorem bi_sumL : biD .sumL [d] M q = ∃ ns : List Int, seqL M d = some (ns.map .int) ∧ q (.int ns.sum) M := by cases d <;> rfl
theorem bi_anyL : biD .anyL [d] M q = ∃ bs : List Bool, seqL M d = some (bs.map .bl) ∧ q (.bl (bs.any id)) M := by cases d <;> rfl
theorem bi_allL : biD .allL [d] M q = ∃ bs : List Bool, seqL M d = some (bs.map .bl) ∧ q (.bl (bs.all id)) M := by cases d <;> rfl
theorem bi_sorted {l : Bool} : biD (.sorted l) [d] M q = ∃ ds : List Dt, seqL M d = some ds ∧ (∀ d, d ∈ ds → (pyD d).isSome = true ∧ (enD d).depth ≤ 60) ∧ PySem.W.AllAlike (ds.map enD) ∧ PySem.W.Sortable (ds.map enD) ∧ newL l (ds.mergeSort (PySem.W.dataLe false enD)) M q := by cases d <;> rfl
theorem seqL_l : seqL M (.lst ds) = some ds := rfl
theorem items_l : itemsD M (.lst ds) = some ds := rfl
theorem items_t : itemsD M (.tup ds) = some ds := rfl
theorem seqL_r (h : M a = some (.lst ds)) : seqL M (.ref a) = some ds := by
  show (match M a with
    | some (.lst ds) => some ds
    | _ => none) = _
  rw [h]
theorem new_f : newL false ds M q = q (.lst ds) M := rfl
theorem new_t : newL true ds M q = ∀ p, M p = none → q (.ref p) (mset M p (some (.lst ds))) := rfl
theorem mt_app (h : M a = some (.lst ds)) : mtD .append (.ref a) [d] M q = (ds.length < sizeLine ∧ q .non (mset M a (some (.lst (ds ++ [d]))))) := by
  show (match M a with
    | some (.lst xs) => xs.length < sizeLine ∧ q .non (mset M a (some (.lst (xs ++ [d]))))
    | _ => False) = _
  rw [h]
theorem mt_pop (h : M a = some (.lst ds)) : mtD .pop (.ref a) [] M q = ∃ d, ds[ds.length - 1]? = some d ∧ q d (mset M a (some (.lst ds.dropLast))) := by
  show (match M a with
    | some (.lst xs) => ∃ d, xs[xs.length - 1]? = some d ∧ q d (mset M a (some (.lst xs.dropLast)))
    | _ => False) = _
  rw [h]
theorem mtOk_app (h : M a = some (.lst ds)) : mtOk .append M (.ref a) = true := by
  show mtOkMo .append (M a) = true
  rw [h]; rfl
theorem mtOk_pop (h : M a = some (.lst ds)) : mtOk .pop M (.ref a) = true := by
  show mtOkMo .pop (M a) = true
  rw [h]; rfl
theorem ix_t : ixD M (.tup ds) (.int i) = atI ds i := rfl
theorem ix_l : ixD M (.lst ds) (.int i) = atI ds i := rfl
theorem ix_r (h : M a = some (.lst ds)) : ixD M (.ref a) (.int i) = atI ds i := by
  show ixMo (M a) (.int i) = _
  rw [h]; rfl
theorem tru_b : truD M (.bl b) = some b := rfl
theorem tru_n : truD M .non = some false := rfl
theorem tru_i : truD M (.int i) = some (i != 0) := rfl
theorem tru_l : truD M (.lst ds) = some (!ds.isEmpty) := rfl
theorem tru_t : truD M (.tup ds) = some (!ds.isEmpty) := rfl
theorem tru_r (h : M a = some (.lst ds)) : truD M (.ref a) = some (!ds.isEmpty) := by
  show truMo (M a) = _
  rw [h]; rfl
theorem isi_b : isiD M (.bl b) [.ty "bool"] = some true := rfl
theorem isi_bi : isiD M (.bl b) [.ty "int"] = some true := rfl
theorem isi_ii : isiD M (.int i) [.ty "int"] = some true := rfl
theorem isi_ib : isiD M (.int i) [.ty "bool"] = some false := rfl
theorem isi_is : isiD M (.int i) [.ty "str"] = some false := rfl
theorem isi_it : isiD M (.int i) [.ty "tuple"] = some false := rfl
theorem isi_il : isiD M (.int i) [.ty "list"] = some false := rfl
theorem isi_sb : isiD M (.str s) [.ty "bool"] = some false := rfl
theorem isi_si : isiD M (.str s) [.ty "int"] = some false := rfl
theorem isi_ss : isiD M (.str s) [.ty "str"] = some true := rfl
theorem isi_tb : isiD M (.tup ds) [.ty "bool"] = some false := rfl
theorem isi_ti : isiD M (.tup ds) [.ty "int"] = some false := rfl
theorem isi_ts : isiD M (.tup ds) [.ty "str"] = some false := rfl
theorem isi_tt : isiD M (.tup ds) [.ty "tuple"] = some true := rfl
theorem isi_tl : isiD M (.tup ds) [.ty "list"] = some false := rfl
theorem isi_lb : isiD M (.lst ds) [.ty "bool"] = some false := rfl
theorem isi_li : isiD M (.lst ds) [.ty "int"] = some false := rfl
theorem isi_ls : isiD M (.lst ds) [.ty "str"] = some false := rfl
theorem isi_lt : isiD M (.lst ds) [.ty "tuple"] = some false := rfl
theorem isi_ll : isiD M (.lst ds) [.ty "list"] = some true := rfl
theorem isi_nb : isiD M .non [.ty "bool"] = some false := rfl
theorem isi_ni : isiD M .non [.ty "int"] = some false := rfl
theorem isi_ns : isiD M .non [.ty "str"] = some false := rfl
theorem isi_nt : isiD M .non [.ty "tuple"] = some false := rfl
theorem isi_nl : isiD M .non [.ty "list"] = some false := rfl
end

section
variable {M : Mm} {q : QD} {qI : List Dt → (Mm → Prop) → Mm → Prop} {qR : QR} {ρ : Rho} {i : Int} {a : Addr} {ds : List Dt} {d v : Dt}
theorem ix_m : ixD (mset M a (some (.lst ds))) (.ref a) (.int i) = atI ds i := ix_r mset_same
theorem tru_m : truD (mset M a (some (.lst ds))) (.ref a) = some (!ds.isEmpty) := tru_r mset_same
theorem bi_lenm : biD .len [.ref a] (mset M a (some (.lst ds))) q = q (.int ds.length) (mset M a (some (.lst ds))) := bi_lenr mset_same
theorem items_m : itemsD (mset M a (some (.lst ds))) (.ref a) = some ds := seqL_r mset_same
theorem seqL_m : seqL (mset M a (some (.lst ds))) (.ref a) = some ds := seqL_r mset_same
theorem mt_appm : mtD .append (.ref a) [d] (mset M a (some (.lst ds))) q = (ds.length < sizeLine ∧ q .non (mset M a (some (.lst (ds ++ [d]))))) := by rw [mt_app mset_same, mset_mset]
theorem mt_popAt {i : Int} : mtD .popAt (.ref a) [.int i] (mset M a (some (.lst ds))) q = (-(2 ^ 63) ≤ i ∧ i < 2 ^ 63 ∧ ∃ k d, ixN ds.length i = some k ∧ ds[k]? = some d ∧ q d (mset M a (some (.lst (ds.eraseIdx k))))) := by
  show (match mset M a (some (.lst ds)) a with
    | some (.lst xs) => -(2 ^ 63) ≤ i ∧ i < 2 ^ 63 ∧ ∃ k d, ixN xs.length i = some k ∧ xs[k]? = some d ∧ q d (mset (mset M a (some (.lst ds))) a (some (.lst (xs.eraseIdx k))))
    | _ => False) = _
  rw [mset_same]
  simp only [mset_mset]
theorem mt_ins {i : Int} : mtD .insert (.ref a) [.int i, d] (mset M a (some (.lst ds))) q = (0 ≤ i ∧ i < 2 ^ 63 ∧ ds.length < sizeLine ∧ q .non (mset M a (some (.lst (ds.take i.toNat ++ [d] ++ ds.drop i.toNat))))) := by
  show (match mset M a (some (.lst ds)) a with
    | some (.lst xs) => 0 ≤ i ∧ i < 2 ^ 63 ∧ xs.length < sizeLine ∧ q .non (mset (mset M a (some (.lst ds))) a (some (.lst (xs.take i.toNat ++ [d] ++ xs.drop i.toNat))))
    | _ => False) = _
  rw [mset_same]
  simp only [mset_mset]
theorem mtOk_ins : mtOk .insert (mset M a (some (.lst ds))) (.ref a) = true := by
  show mtOkMo .insert (mset M a (some (.lst ds)) a) = true
  rw [mset_same]
  rfl
theorem cmp_notinp {x : Dt} {ds : List Dt} : cmpD .notinp x (.tup ds) M = (inpD M x ds).map (!·) := rfl
theorem cmp_inp {x : Dt} {ds : List Dt} : cmpD .inp x (.tup ds) M = inpD M x ds := rfl
theorem mtOk_popAt : mtOk .popAt (mset M a (some (.lst ds))) (.ref a) = true := by
  show mtOkMo .popAt (mset M a (some (.lst ds)) a) = true
  rw [mset_same]
  rfl
theorem mt_popm : mtD .pop (.ref a) [] (mset M a (some (.lst ds))) q = ∃ d, ds[ds.length - 1]? = some d ∧ q d (mset M a (some (.lst ds.dropLast))) := by rw [mt_pop mset_same, mset_mset]
theorem mtOk_appm : mtOk .append (mset M a (some (.lst ds))) (.ref a) = true := mtOk_app mset_same
theorem mtOk_popm : mtOk .pop (mset M a (some (.lst ds))) (.ref a) = true := mtOk_pop mset_same
theorem it_m : itD (mset M a (some (.lst ds))) qI (.ref a) = qI ds (fun M' => M' a = some (.lst ds)) (mset M a (some (.lst ds))) := it_r mset_same
theorem ixSt_m {n : Int} : ixSt d ρ qR (mset M a (some (.lst ds))) (.int n) (.ref a) = ∃ j, ixN ds.length n = some j ∧ qR ρ (mset M a (some (.lst (ds.set j d)))) := by
  rw [ixSt_l mset_same]
  simp only [mset_mset]
end

theorem cpow_10 {n : Int} : CPow 10 n = (0 ≤ n ∧ n ≤ 1000000) := propext ⟨fun h => ⟨h.1, h.2.1⟩, fun h => ⟨h.1, h.2, by decide⟩⟩
theorem cpow_2 {n : Int} : CPow 2 n = (0 ≤ n ∧ n ≤ 1000000) := propext ⟨fun h => ⟨h.1, h.2.1⟩, fun h => ⟨h.1, h.2, by decide⟩⟩
theorem emod_lt {a b : Int} (h : 0 < b) : 0 ≤ a % b ∧ a % b < b := ⟨Int.emod_nonneg _ (by omega), Int.emod_lt_of_pos _ h⟩
/-- what a draw holds -/
structure Drw where
  cs : List Int
  i : Int
  c : Int
  s : Int
def Drw.o (d : Drw) : Mo := .lst [.lst (d.cs.map .int), .int d.i, .int d.c, .int d.s]
structure Drw.Ok (d : Drw) : Prop where
  i0 : 0 ≤ d.i
  c0 : 0 ≤ d.c
  s0 : 0 ≤ d.s
  s1 : d.s < 2147483629

def PullOk (W : Wf) : Prop := ∀ (p : Addr) (cap : Int) (d : Drw) M q x, M p = some d.o → d.Ok → 0 < cap → cap < 2 ^ 200 → (∀ r (d' : Drw), d'.Ok → 0 ≤ r → r < cap → q (.int r) (mset M p (some d'.o))) → W.run [.ref p, .int cap] M q x
def pullMid (p : Addr) (cap : Int) (M : Mm) : Rho → Mm → Prop := fun ρ' M' => ∃ (d' : Drw) (o : Option Dt), d'.Ok ∧ ρ' = [some (.ref p), some (.int cap), o, none, none] ∧ M' = mset M p (some d'.o)
local macro_rules
  | `(tactic| simp only [rx_]) => `(tactic| simp only [Int.reduceNeg, Int.reduceAdd, Int.reduceSub, Int.reduceMul, cpow_10, cpow_2, Int.reduceLE, Int.reduceLT, Int.reduceToNat, Int.reducePow, mset_same, mset_mset, Tgs.len, List.getElem?_cons_zero, List.getElem?_cons_succ, List.set_cons_zero, List.set_cons_succ, List.getElem?_nil, Option.some.injEq, exists_eq_left', exists_eq_left, true_and, and_true, if_true, if_false, Bool.false_eq_true, reduceCtorEq, Dt.int.injEq, Dt.bl.injEq, Dt.str.injEq, Dt.lst.injEq, Dt.tup.injEq, Dt.ref.injEq, decide_eq_true_eq, List.length_cons, List.length_nil, Nat.zero_add, Nat.reduceAdd, Option.map_some, Bool.not_true, Bool.not_false, atI_0, atI_1, atI_2, atI_3, atI_4, ixN_0, ixN_1, ixN_2, ixN_3, ixN_4, w_var, w_int, w_str, w_bl, w_non, w_glob, w_bin, w_neg, w_cmp, w_cmp2, w_bop, w_b1, w_b2, w_not, w_ite, w_tup, w_lst, w_ix, w_sl, w_call, w_bi, w_mt, w_isi, w_lc, w_frz, w_es0, w_es1, w_o0, w_o1, w_tval, w_tcmp, w_tcmp2, w_tnot, w_tall, w_tany, w_all0, w_all1, w_all2, w_any0, w_any1, w_any2, it_t, it_l, w_seq, w_rng1, w_rng2, w_zip, w_enm, w_gn, w_gt, w_gi, w_gs0, w_gs1, s_asg, s_asgC, s_par, s_aug, s_expr, s_if, s_for, s_while, s_ret, s_retN, s_brk, s_cont, s_pass, s_nil, frz_l, frz_m, bin_add, bin_adds, bin_sub, bin_mul, bin_fdiv, bin_mod, bin_pow, bin_xor, cmp_lt, cmp_le, cmp_gt, cmp_ge, cmp_eqi, cmp_eqs, cmp_eqb, cmp_nei, cmp_nes, cmp_neb, cmp_is0, cmp_is1, cmp_is2, cmp_is3, cmp_is4, cmp_is5, cmp_is6, cmp_isn0, cmp_isn1, cmp_isn2, cmp_isn3, cmp_isn4, cmp_isn5, cmp_in, cmp_notin, bi_lens, bi_lent, bi_lenl, bi_min, bi_max, bi_abs, bi_listT, bi_listL, bi_tupT, bi_tupL, bi_maxL, bi_minL, bi_sumL, bi_anyL, bi_allL, bi_sorted, seqL_l, items_l, items_t, items_m, w_gl, new_f, new_t, ix_t, ix_l, tru_b, tru_n, tru_i, tru_l, tru_t, isi_b, isi_bi, isi_ii, isi_ib, isi_is, isi_it, isi_il, isi_sb, isi_si, isi_ss, isi_tb, isi_ti, isi_ts, isi_tt, isi_tl, isi_lb, isi_li, isi_ls, isi_lt, isi_ll, isi_nb, isi_ni, isi_ns, isi_nt, isi_nl, ix_m, tru_m, bi_lenm, seqL_m, mt_appm, mt_popm, mtOk_appm, mtOk_popm, it_m, ixSt_m, w_why, w_mk, w_meth, w_fld, s_raise, s_setf, s_augf, s_delD, w_dnew, w_gst, w_gfld, w_slT, cmp_inp, cmp_notinp, mt_ins, mtOk_ins, w_lock, w_sit, w_dc, w_items, s_lock, s_par3, bin_cat, bi_sortedK, bi_dictD, Fm.mt_popAt, mtOk_popAt, s_tryR, bin_subb, bin_bsub, bin_badd, w_mkO, w_methO, w_maxO, cmp_neT, bin_rep, w_revS, w_lrng, w_gst4, s_tryN, w_srtSet, w_lenSet, bi_sortedKS, mt_cnt, mt_idx, mtOk_cl, mtOk_il])
  | `(tactic| simp only [rx_, $ts,*]) => `(tactic| simp only [Int.reduceNeg, Int.reduceAdd, Int.reduceSub, Int.reduceMul, cpow_10, cpow_2, Int.reduceLE, Int.reduceLT, Int.reduceToNat, Int.reducePow, mset_same, mset_mset, Tgs.len, List.getElem?_cons_zero, List.getElem?_cons_succ, List.set_cons_zero, List.set_cons_succ, List.getElem?_nil, Option.some.injEq, exists_eq_left', exists_eq_left, true_and, and_true, if_true, if_false, Bool.false_eq_true, reduceCtorEq, Dt.int.injEq, Dt.bl.injEq, Dt.str.injEq, Dt.lst.injEq, Dt.tup.injEq, Dt.ref.injEq, decide_eq_true_eq, List.length_cons, List.length_nil, Nat.zero_add, Nat.reduceAdd, Option.map_some, Bool.not_true, Bool.not_false, atI_0, atI_1, atI_2, atI_3, atI_4, ixN_0, ixN_1, ixN_2, ixN_3, ixN_4, w_var, w_int, w_str, w_bl, w_non, w_glob, w_bin, w_neg, w_cmp, w_cmp2, w_bop, w_b1, w_b2, w_not, w_ite, w_tup, w_lst, w_ix, w_sl, w_call, w_bi, w_mt, w_isi, w_lc, w_frz, w_es0, w_es1, w_o0, w_o1, w_tval, w_tcmp, w_tcmp2, w_tnot, w_tall, w_tany, w_all0, w_all1, w_all2, w_any0, w_any1, w_any2, it_t, it_l, w_seq, w_rng1, w_rng2, w_zip, w_enm, w_gn, w_gt, w_gi, w_gs0, w_gs1, s_asg, s_asgC, s_par, s_aug, s_expr, s_if, s_for, s_while, s_ret, s_retN, s_brk, s_cont, s_pass, s_nil, frz_l, frz_m, bin_add, bin_adds, bin_sub, bin_mul, bin_fdiv, bin_mod, bin_pow, bin_xor, cmp_lt, cmp_le, cmp_gt, cmp_ge, cmp_eqi, cmp_eqs, cmp_eqb, cmp_nei, cmp_nes, cmp_neb, cmp_is0, cmp_is1, cmp_is2, cmp_is3, cmp_is4, cmp_is5, cmp_is6, cmp_isn0, cmp_isn1, cmp_isn2, cmp_isn3, cmp_isn4, cmp_isn5, cmp_in, cmp_notin, bi_lens, bi_lent, bi_lenl, bi_min, bi_max, bi_abs, bi_listT, bi_listL, bi_tupT, bi_tupL, bi_maxL, bi_minL, bi_sumL, bi_anyL, bi_allL, bi_sorted, seqL_l, items_l, items_t, items_m, w_gl, new_f, new_t, ix_t, ix_l, tru_b, tru_n, tru_i, tru_l, tru_t, isi_b, isi_bi, isi_ii, isi_ib, isi_is, isi_it, isi_il, isi_sb, isi_si, isi_ss, isi_tb, isi_ti, isi_ts, isi_tt, isi_tl, isi_lb, isi_li, isi_ls, isi_lt, isi_ll, isi_nb, isi_ni, isi_ns, isi_nt, isi_nl, ix_m, tru_m, bi_lenm, seqL_m, mt_appm, mt_popm, mtOk_appm, mtOk_popm, it_m, ixSt_m, w_why, w_mk, w_meth, w_fld, s_raise, s_setf, s_augf, s_delD, w_dnew, w_gst, w_gfld, w_slT, cmp_inp, cmp_notinp, mt_ins, mtOk_ins, w_lock, w_sit, w_dc, w_items, s_lock, s_par3, bin_cat, bi_sortedK, bi_dictD, Fm.mt_popAt, mtOk_popAt, s_tryR, bin_subb, bin_bsub, bin_badd, w_mkO, w_methO, w_maxO, cmp_neT, bin_rep, w_revS, w_lrng, w_gst4, s_tryN, w_srtSet, w_lenSet, bi_sortedKS, mt_cnt, mt_idx, mtOk_cl, mtOk_il, $ts,*])
theorem pull_ok (G : Gt) : PullOk (wfB G n__law_pull 2 b__law_pull) := by
  intro p cap d M q x hM hd hc hc2 h
  refine ⟨rfl, ?_⟩
  have e0 : startR n__law_pull [.ref p, .int cap] = [some (.ref p), some (.int cap), none, none, none] := rfl
  rw [e0]
  generalize hk : bodyK q x = k
  unfold b__law_pull b__law_pull_0
  refine @wp_seq G _ _ k _ M (pullMid p cap M) ?_ ?_
  · obtain ⟨cs, i, c, s⟩ := d
    obtain ⟨i0, c0, s0, s1⟩ := hd
    simp only [Drw.o] at hM
    simp only [rx_, ix_r hM, bi_lenr hM]
    have stay : pullMid p cap M [some (.ref p), some (.int cap), none, none, none] M := ⟨⟨cs, i, c, s⟩, none, ⟨i0, c0, s0, s1⟩, rfl, (mset_self hM).symm⟩
    split
    · split
      · rename_i h1 h2
        simp only [List.length_map] at h2
        obtain ⟨n, rfl⟩ : ∃ n : Nat, i = n := ⟨i.toNat, by have : 0 ≤ i := i0; omega⟩
        obtain ⟨v, hv⟩ : ∃ v, cs[n]? = some v := ⟨_, List.getElem?_eq_getElem (by omega)⟩
        have hv' : atI (cs.map Dt.int) (n : Int) = some (.int v) := by rw [atI_nat, List.getElem?_map, hv]; rfl
        unfold b__law_pull_1
        rw [wpSs_cons]
        simp only [rx_, ix_r hM, hv']
        unfold b__law_pull_2
        rw [wpSs_cons]
        simp only [rx_, ix_r hM, ixSt_l hM]
        unfold b__law_pull_3
        rw [wpSs_cons]
        simp only [rx_]
        unfold b__law_pull_4
        rw [wpSs_cons]
        simp only [rx_]
        split
        · unfold b__law_pull_5
          rw [wpSs_cons]
          simp only [rx_]
          exact ⟨⟨cs, (n : Int) + 1, v, s⟩, _, ⟨by show (0 : Int) ≤ n + 1; omega, by show 0 ≤ v; omega, s0, s1⟩, rfl, rfl⟩
        · unfold b__law_pull_6
          rw [wpSs_cons]
          simp only [rx_]
          refine ⟨mul_r (by decide) (by decide), mul_r (by decide) (by decide), ?_⟩
          have z := emod_lt (a := s * 39373 + v % 2147483647 * 48271 + 31) (b := 2147483629) (by decide)
          exact ⟨⟨cs, (n : Int) + 1, 0, _⟩, _, ⟨by show (0 : Int) ≤ n + 1; omega, Int.le_refl 0, z.1, z.2⟩, rfl, rfl⟩
      · exact stay
    · exact stay
  · rintro ρ' M' ⟨⟨cs, i, c, s⟩, o, ⟨i0, c0, s0, s1⟩, rfl, rfl⟩
    simp only [Drw.o]
    unfold b__law_pull_7
    rw [wpSs_cons]
    simp only [rx_]
    have c0' : 0 ≤ c := c0
    have s0' : 0 ≤ s := s0
    have s1' : s < 2147483629 := s1
    split
    · unfold b__law_pull_8
      rw [wpSs_cons]
      simp only [rx_, hc]
      unfold b__law_pull_9
      rw [wpSs_cons]
      simp only [rx_]
      refine ⟨div_ok hc hc2, ?_⟩
      unfold b__law_pull_10
      rw [wpSs_cons]
      simp only [rx_]
      have z := emod_lt (a := c) (b := cap) hc
      rw [← hk]
      exact h _ ⟨cs, i, c / cap, s⟩ ⟨i0, Int.ediv_nonneg c0' (by omega), s0, s1⟩ z.1 z.2
    · unfold b__law_pull_11
      rw [wpSs_cons]
      simp only [rx_]
      unfold b__law_pull_12
      rw [wpSs_cons]
      simp only [rx_]
      have zb := emod_lt (a := s * s) (b := 2147483647) (by decide)
      have z := emod_lt (a := s * s % 2147483647 * 3 + s * 45991 + 746773) (b := 2147483629) (by decide)
      refine ⟨mul_r (by omega) (by omega), mul_r (by decide) (by decide), mul_r (by decide) (by decide), ?_⟩
      generalize (s * s % 2147483647 * 3 + s * 45991 + 746773) % 2147483629 = u at z
      unfold b__law_pull_13
      rw [wpSs_cons]
      simp only [rx_]
      have z5 (a : Int) := emod_lt (a := a) (b := cap) hc
      split
      · unfold b__law_pull_14
        rw [wpSs_cons]
        simp only [rx_]
        refine ⟨div_lit (by decide) (by decide), mul_r (by decide) (by decide), hc, ?_⟩
        rw [← hk]
        exact h _ ⟨cs, i, c, u⟩ ⟨i0, c0, z.1, z.2⟩ (z5 _).1 (z5 _).2
      · unfold b__law_pull_15
        rw [wpSs_cons]
        simp only [rx_]
        refine ⟨⟨by decide, by decide, by omega⟩, div_lit (by decide) (by decide), hc, ?_⟩
        rw [← hk]
        exact h _ ⟨cs, i, c, u⟩ ⟨i0, c0, z.1, z.2⟩ (z5 _).1 (z5 _).2
end Fm

/-! The engine, part N: loops, the opening of a draw, the comparing def. -/
namespace Fm
open PySem L2 PySem.Spec PyProof.Rows

theorem forRun_from {keep : Mm → Prop} {step : Dt → Rho → Mm → QR → Prop} {q : QR} (I : Nat → Rho → Mm → Prop) (ds : List Dt) (hk : ∀ i ρ M, I i ρ M → keep M)
    (hs : ∀ i d ρ M (n : QR), ds[i]? = some d → I i ρ M → (∀ ρ' M', I (i + 1) ρ' M' → n ρ' M') → step d ρ M n) (he : ∀ ρ M, I ds.length ρ M → q ρ M) :
    ∀ (r : List Dt) (i : Nat) (ρ : Rho) (M : Mm), r = ds.drop i → i ≤ ds.length → I i ρ M → forRun keep step r ρ M q
  | [], i, ρ, M, e, hi, h => by
    have : i = ds.length := by
      have := congrArg List.length e
      rw [List.length_drop, List.length_nil] at this
      omega
    subst this
    exact ⟨hk _ _ _ h, he _ _ h⟩
  | d :: r, i, ρ, M, e, hi, h => by
    have hl : i < ds.length := by
      have := congrArg List.length e
      rw [List.length_drop, List.length_cons] at this
      omega
    rw [List.drop_eq_getElem_cons hl] at e
    obtain ⟨e1, e2⟩ := List.cons.inj e
    refine ⟨hk _ _ _ h, hs i d ρ M _ (by rw [List.getElem?_eq_getElem hl, e1]) h fun ρ' M' h' => ?_⟩
    exact forRun_from I ds hk hs he r (i + 1) ρ' M' e2 hl h'
/-- a for loop, by what holds ahead of each turn -/
theorem forRun_inv {keep : Mm → Prop} {step : Dt → Rho → Mm → QR → Prop} {q : QR} {ds : List Dt} {ρ : Rho} {M : Mm} (I : Nat → Rho → Mm → Prop) (h0 : I 0 ρ M) (hk : ∀ i ρ M, I i ρ M → keep M)
    (hs : ∀ i d ρ M (n : QR), ds[i]? = some d → I i ρ M → (∀ ρ' M', I (i + 1) ρ' M' → n ρ' M') → step d ρ M n) (he : ∀ ρ M, I ds.length ρ M → q ρ M) : forRun keep step ds ρ M q :=
  forRun_from I ds hk hs he ds 0 ρ M rfl (Nat.zero_le _) h0
/-- a comprehension that leaves the memory -/
theorem lcRun_map {step : Dt → Mm → (Option Dt → Mm → Prop) → Prop} {q : QL} {M : Mm} (f : Dt → Option Dt) : ∀ (ds acc : List Dt), (∀ d, d ∈ ds → ∀ k : Option Dt → Mm → Prop, k (f d) M → step d M k) → acc.length + ds.length ≤ sizeLine → q (acc ++ ds.filterMap f) M → lcRun step ds acc M q
  | [], acc, _, _, h => by
    have h' : q (acc ++ []) M := h
    rw [List.append_nil] at h'
    exact h'
  | d :: ds, acc, hs, hl, h => by
    rw [List.length_cons] at hl
    refine hs d List.mem_cons_self _ ?_
    rw [List.filterMap_cons] at h
    cases e : f d with
    | none =>
      rw [e] at h
      exact lcRun_map f ds acc (fun d hd => hs d (List.mem_cons_of_mem _ hd)) (by omega) h
    | some y =>
      rw [e] at h
      refine ⟨by omega, lcRun_map f ds (acc ++ [y]) (fun d hd => hs d (List.mem_cons_of_mem _ hd)) (by rw [List.length_append, List.length_cons, List.length_nil]; omega) ?_⟩
      rw [List.append_assoc]
      exact h
theorem cut_to {xs : List Dt} {n : Nat} : cutD xs none (some (n : Int)) = xs.take n := by
  unfold cutD
  rw [HT.sIx_none, HT.sIx_nat, List.drop_zero, Nat.sub_zero]
  by_cases h : n ≤ xs.length
  · rw [Nat.min_eq_left h]
  · rw [Nat.min_eq_right (by omega), List.take_of_length_le (Nat.le_refl _), List.take_of_length_le (by omega)]
/-! ### the opening -/
def OpenOk (W : Wf) : Prop := ∀ (ns : List Int) M q x, ns.length ≤ 63 → (∀ (p : Addr) (d : Drw), M p = none → d.Ok → q (.ref p) (mset M p (some d.o))) → W.run [.lst (ns.map .int)] M q x
local macro_rules
  | `(tactic| simp only [rx_]) => `(tactic| simp only [Int.reduceNeg, Int.reduceAdd, Int.reduceSub, Int.reduceMul, cpow_10, cpow_2, Int.reduceLE, Int.reduceLT, Int.reduceToNat, Int.reducePow, mset_same, mset_mset, Tgs.len, List.getElem?_cons_zero, List.getElem?_cons_succ, List.set_cons_zero, List.set_cons_succ, List.getElem?_nil, Option.some.injEq, exists_eq_left', exists_eq_left, true_and, and_true, if_true, if_false, Bool.false_eq_true, reduceCtorEq, Dt.int.injEq, Dt.bl.injEq, Dt.str.injEq, Dt.lst.injEq, Dt.tup.injEq, Dt.ref.injEq, decide_eq_true_eq, List.length_cons, List.length_nil, Nat.zero_add, Nat.reduceAdd, Option.map_some, Bool.not_true, Bool.not_false, atI_0, atI_1, atI_2, atI_3, atI_4, ixN_0, ixN_1, ixN_2, ixN_3, ixN_4, w_var, w_int, w_str, w_bl, w_non, w_glob, w_bin, w_neg, w_cmp, w_cmp2, w_bop, w_b1, w_b2, w_not, w_ite, w_tup, w_lst, w_ix, w_sl, w_call, w_bi, w_mt, w_isi, w_lc, w_frz, w_es0, w_es1, w_o0, w_o1, w_tval, w_tcmp, w_tcmp2, w_tnot, w_tall, w_tany, w_all0, w_all1, w_all2, w_any0, w_any1, w_any2, it_t, it_l, w_seq, w_rng1, w_rng2, w_zip, w_enm, w_gn, w_gt, w_gi, w_gs0, w_gs1, s_asg, s_asgC, s_par, s_aug, s_expr, s_if, s_for, s_while, s_ret, s_retN, s_brk, s_cont, s_pass, s_nil, frz_l, frz_m, bin_add, bin_adds, bin_sub, bin_mul, bin_fdiv, bin_mod, bin_pow, bin_xor, cmp_lt, cmp_le, cmp_gt, cmp_ge, cmp_eqi, cmp_eqs, cmp_eqb, cmp_nei, cmp_nes, cmp_neb, cmp_is0, cmp_is1, cmp_is2, cmp_is3, cmp_is4, cmp_is5, cmp_is6, cmp_isn0, cmp_isn1, cmp_isn2, cmp_isn3, cmp_isn4, cmp_isn5, cmp_in, cmp_notin, bi_lens, bi_lent, bi_lenl, bi_min, bi_max, bi_abs, bi_listT, bi_listL, bi_tupT, bi_tupL, bi_maxL, bi_minL, bi_sumL, bi_anyL, bi_allL, bi_sorted, seqL_l, items_l, items_t, items_m, w_gl, new_f, new_t, ix_t, ix_l, tru_b, tru_n, tru_i, tru_l, tru_t, isi_b, isi_bi, isi_ii, isi_ib, isi_is, isi_it, isi_il, isi_sb, isi_si, isi_ss, isi_tb, isi_ti, isi_ts, isi_tt, isi_tl, isi_lb, isi_li, isi_ls, isi_lt, isi_ll, isi_nb, isi_ni, isi_ns, isi_nt, isi_nl, ix_m, tru_m, bi_lenm, seqL_m, mt_appm, mt_popm, mtOk_appm, mtOk_popm, it_m, ixSt_m, w_why, w_mk, w_meth, w_fld, s_raise, s_setf, s_augf, s_delD, w_dnew, w_gst, w_gfld, w_slT, cmp_inp, cmp_notinp, mt_ins, mtOk_ins, w_lock, w_sit, w_dc, w_items, s_lock, s_par3, bin_cat, bi_sortedK, bi_dictD, Fm.mt_popAt, mtOk_popAt, s_tryR, bin_subb, bin_bsub, bin_badd, w_mkO, w_methO, w_maxO, cmp_neT, bin_rep, w_revS, w_lrng, w_gst4, s_tryN, w_srtSet, w_lenSet, bi_sortedKS, mt_cnt, mt_idx, mtOk_cl, mtOk_il])
  | `(tactic| simp only [rx_, $ts,*]) => `(tactic| simp only [Int.reduceNeg, Int.reduceAdd, Int.reduceSub, Int.reduceMul, cpow_10, cpow_2, Int.reduceLE, Int.reduceLT, Int.reduceToNat, Int.reducePow, mset_same, mset_mset, Tgs.len, List.getElem?_cons_zero, List.getElem?_cons_succ, List.set_cons_zero, List.set_cons_succ, List.getElem?_nil, Option.some.injEq, exists_eq_left', exists_eq_left, true_and, and_true, if_true, if_false, Bool.false_eq_true, reduceCtorEq, Dt.int.injEq, Dt.bl.injEq, Dt.str.injEq, Dt.lst.injEq, Dt.tup.injEq, Dt.ref.injEq, decide_eq_true_eq, List.length_cons, List.length_nil, Nat.zero_add, Nat.reduceAdd, Option.map_some, Bool.not_true, Bool.not_false, atI_0, atI_1, atI_2, atI_3, atI_4, ixN_0, ixN_1, ixN_2, ixN_3, ixN_4, w_var, w_int, w_str, w_bl, w_non, w_glob, w_bin, w_neg, w_cmp, w_cmp2, w_bop, w_b1, w_b2, w_not, w_ite, w_tup, w_lst, w_ix, w_sl, w_call, w_bi, w_mt, w_isi, w_lc, w_frz, w_es0, w_es1, w_o0, w_o1, w_tval, w_tcmp, w_tcmp2, w_tnot, w_tall, w_tany, w_all0, w_all1, w_all2, w_any0, w_any1, w_any2, it_t, it_l, w_seq, w_rng1, w_rng2, w_zip, w_enm, w_gn, w_gt, w_gi, w_gs0, w_gs1, s_asg, s_asgC, s_par, s_aug, s_expr, s_if, s_for, s_while, s_ret, s_retN, s_brk, s_cont, s_pass, s_nil, frz_l, frz_m, bin_add, bin_adds, bin_sub, bin_mul, bin_fdiv, bin_mod, bin_pow, bin_xor, cmp_lt, cmp_le, cmp_gt, cmp_ge, cmp_eqi, cmp_eqs, cmp_eqb, cmp_nei, cmp_nes, cmp_neb, cmp_is0, cmp_is1, cmp_is2, cmp_is3, cmp_is4, cmp_is5, cmp_is6, cmp_isn0, cmp_isn1, cmp_isn2, cmp_isn3, cmp_isn4, cmp_isn5, cmp_in, cmp_notin, bi_lens, bi_lent, bi_lenl, bi_min, bi_max, bi_abs, bi_listT, bi_listL, bi_tupT, bi_tupL, bi_maxL, bi_minL, bi_sumL, bi_anyL, bi_allL, bi_sorted, seqL_l, items_l, items_t, items_m, w_gl, new_f, new_t, ix_t, ix_l, tru_b, tru_n, tru_i, tru_l, tru_t, isi_b, isi_bi, isi_ii, isi_ib, isi_is, isi_it, isi_il, isi_sb, isi_si, isi_ss, isi_tb, isi_ti, isi_ts, isi_tt, isi_tl, isi_lb, isi_li, isi_ls, isi_lt, isi_ll, isi_nb, isi_ni, isi_ns, isi_nt, isi_nl, ix_m, tru_m, bi_lenm, seqL_m, mt_appm, mt_popm, mtOk_appm, mtOk_popm, it_m, ixSt_m, w_why, w_mk, w_meth, w_fld, s_raise, s_setf, s_augf, s_delD, w_dnew, w_gst, w_gfld, w_slT, cmp_inp, cmp_notinp, mt_ins, mtOk_ins, w_lock, w_sit, w_dc, w_items, s_lock, s_par3, bin_cat, bi_sortedK, bi_dictD, Fm.mt_popAt, mtOk_popAt, s_tryR, bin_subb, bin_bsub, bin_badd, w_mkO, w_methO, w_maxO, cmp_neT, bin_rep, w_revS, w_lrng, w_gst4, s_tryN, w_srtSet, w_lenSet, bi_sortedKS, mt_cnt, mt_idx, mtOk_cl, mtOk_il, $ts,*])
theorem open_ok (G : Gt) : OpenOk (wfB G n__law_open 1 b__law_open) := by
  intro ns M q x hl h
  refine ⟨rfl, ?_⟩
  have e0 : startR n__law_open [.lst (ns.map .int)] = [some (.lst (ns.map .int)), none, none] := rfl
  rw [e0]
  generalize hk : bodyK q x = k
  have ecut : cutD (ns.map Dt.int) none (some (63 : Int)) = ns.map Dt.int := by
    have := cut_to (xs := ns.map Dt.int) (n := 63)
    rw [List.take_of_length_le (by rw [List.length_map]; exact hl)] at this
    exact this
  unfold b__law_open b__law_open_0
  rw [wpSs_cons]
  simp only [rx_]
  unfold b__law_open_1
  rw [wpSs_cons]
  simp only [rx_, ecut]
  refine forRun_inv (fun _ ρ' M' => ∃ (s : Int) (o : Option Dt), 0 ≤ s ∧ s < 2147483629 ∧ ρ' = [some (.lst (ns.map .int)), some (.int s), o] ∧ M' = M) ⟨_, _, by decide, by decide, rfl, rfl⟩ (fun _ _ _ _ => trivial) ?_ ?_
  · rintro i d ρ' M' n hd ⟨s, o, s0, s1, rfl, rfl⟩ hn
    obtain ⟨c, hc, rfl⟩ : ∃ c, ns[i]? = some c ∧ .int c = d := by
      rw [List.getElem?_map] at hd
      cases q : ns[i]? with
      | none => rw [q] at hd; cases hd
      | some c => rw [q] at hd; exact ⟨c, rfl, Option.some.inj hd⟩
    simp only [rx_]
    unfold b__law_open_2
    rw [wpSs_cons]
    simp only [rx_]
    have z := emod_lt (a := s * 69621 + c % 2147483587 + 11) (b := 2147483629) (by decide)
    exact ⟨mul_r (by decide) (by decide), hn _ _ ⟨_, _, z.1, z.2, rfl, rfl⟩⟩
  · rintro ρ' M' ⟨s, o, s0, s1, rfl, rfl⟩
    unfold b__law_open_3
    rw [wpSs_cons]
    simp only [rx_, ecut]
    refine ⟨by decide, fun p hp => ?_⟩
    rw [← hk]
    exact h p ⟨ns, 0, 0, s⟩ hp ⟨Int.le_refl 0, Int.le_refl 0, s0, s1⟩

/-! ### the comparing -/
/-- a list or a tuple of these -/
def SeqD (t : Bool) (M : Mm) (d : Dt) (xs : List Dt) : Prop := (t = true ∧ d = .tup xs) ∨ (t = false ∧ (d = .lst xs ∨ ∃ a, d = .ref a ∧ M a = some (.lst xs)))
section
variable {t : Bool} {M : Mm} {d : Dt} {xs : List Dt} {q : QD}
theorem SeqD.isi_l {M : Mm} {a : Addr} {xs : List Dt} (h : M a = some (.lst xs)) (n : String) : isiD M (.ref a) [.ty n] = isiD M (.lst xs) [.ty n] := by
  have e : tyD M (.ref a) = some "list" := by
    show tyMo (M a) = _
    rw [h]; rfl
  show (match tyD M (.ref a) with
    | some t => (match kitB t n with
      | some true => some true
      | some false => some false
      | none => none)
    | none => none) = _
  rw [e]; rfl
theorem SeqD.facts (h : SeqD t M d xs) : cmpD .is_ d .non M = some false ∧ isiD M d [.ty "bool"] = some false ∧ isiD M d [.ty "int"] = some false ∧ isiD M d [.ty "str"] = some false ∧ isiD M d [.ty "tuple"] = some t ∧ isiD M d [.ty "list"] = some (!t) := by
  rcases h with ⟨rfl, rfl⟩ | ⟨rfl, rfl | ⟨a, rfl, e⟩⟩
  · exact ⟨rfl, rfl, rfl, rfl, rfl, rfl⟩
  · exact ⟨rfl, rfl, rfl, rfl, rfl, rfl⟩
  · refine ⟨rfl, ?_, ?_, ?_, ?_, ?_⟩ <;> rw [SeqD.isi_l e] <;> rfl
theorem SeqD.len (h : SeqD t M d xs) : biD .len [d] M q = q (.int xs.length) M := by
  rcases h with ⟨rfl, rfl⟩ | ⟨rfl, rfl | ⟨a, rfl, e⟩⟩
  · rfl
  · rfl
  · exact bi_lenr e
theorem SeqD.ix (h : SeqD t M d xs) {i : Int} : ixD M d (.int i) = atI xs i := by
  rcases h with ⟨rfl, rfl⟩ | ⟨rfl, rfl | ⟨a, rfl, e⟩⟩
  · rfl
  · rfl
  · exact ix_r e
end
def Like (M : Mm) : Nat → Dt → Dt → Prop
  | 0, _, _ => False
  | n + 1, d, e => (d = .non ∧ e = .non) ∨ (∃ b, d = .bl b ∧ e = .bl b) ∨ (∃ i, d = .int i ∧ e = .int i) ∨ (∃ s, d = .str s ∧ e = .str s) ∨
      ∃ t xs ys, SeqD t M d xs ∧ SeqD t M e ys ∧ xs.length = ys.length ∧ ys.length ≤ sizeLine ∧ ∀ (i : Nat) x y, xs[i]? = some x → ys[i]? = some y → Like M n x y
def LikeOk (n : Nat) (W : Wf) : Prop := ∀ d e M q x, Like M n d e → q (.bl true) M → W.run [d, e] M q x
theorem all_true {ds : List Dt} (h : ∀ d, d ∈ ds → d = .bl true) : ∃ bs : List Bool, ds = bs.map .bl ∧ bs.all id = true := by
  refine ⟨List.replicate ds.length true, ?_, by simp⟩
  rw [List.map_replicate]
  exact List.eq_replicate_iff.mpr ⟨rfl, h⟩
theorem like_ok {n : Nat} {G : Gt} (hc : LikeOk n (G.call 53)) : LikeOk (n + 1) (wfB G n__law_like 2 b__law_like) := by
  intro d e M q x hl h
  refine ⟨rfl, ?_⟩
  have e0 : startR n__law_like [d, e] = [some d, some e, none] := rfl
  rw [e0]
  generalize hk : bodyK q x = k
  have hrt : k.rt (.bl true) M := by rw [← hk]; exact h
  unfold b__law_like b__law_like_0
  rw [wpSs_cons]
  rcases hl with ⟨rfl, rfl⟩ | ⟨b, rfl, rfl⟩ | ⟨i, rfl, rfl⟩ | ⟨s, rfl, rfl⟩ | ⟨t, xs, ys, h1, h2, h3, h4, h5⟩
  · simp only [rx_]
    unfold b__law_like_1
    rw [wpSs_cons]
    simp only [rx_]
    exact hrt
  · simp only [rx_]
    unfold b__law_like_2
    rw [wpSs_cons]
    simp only [rx_]
    unfold b__law_like_3
    rw [wpSs_cons]
    simp only [rx_, decide_true]
    exact hrt
  · simp only [rx_]
    unfold b__law_like_2
    rw [wpSs_cons]
    simp only [rx_]
    unfold b__law_like_4
    rw [wpSs_cons]
    simp only [rx_]
    unfold b__law_like_5
    rw [wpSs_cons]
    simp only [rx_, decide_true]
    exact hrt
  · simp only [rx_]
    unfold b__law_like_2
    rw [wpSs_cons]
    simp only [rx_]
    unfold b__law_like_4
    rw [wpSs_cons]
    simp only [rx_]
    unfold b__law_like_6
    rw [wpSs_cons]
    simp only [rx_]
    unfold b__law_like_7
    rw [wpSs_cons]
    simp only [rx_, decide_true]
    exact hrt
  · obtain ⟨a1, a2, a3, a4, a5, a6⟩ := h1.facts
    obtain ⟨b1, b2, b3, b4, b5, b6⟩ := h2.facts
    simp only [rx_, b1]
    unfold b__law_like_2
    rw [wpSs_cons]
    simp only [rx_, b2]
    unfold b__law_like_4
    rw [wpSs_cons]
    simp only [rx_, b3]
    unfold b__law_like_6
    rw [wpSs_cons]
    simp only [rx_, b4]
    unfold b__law_like_8
    rw [wpSs_cons]
    simp only [rx_, b5, b6, a5, a6, decide_true]
    unfold b__law_like_10
    rw [wpSs_cons]
    simp only [rx_, h1.len, h2.len, h3, decide_true]
    unfold b__law_like_12
    rw [wpSs_cons]
    simp only [rx_, h2.len]
    refine ⟨by omega, by unfold sizeLine at h4; omega, ?_⟩
    rw [Int.toNat_natCast]
    refine lcRun_map (fun _ => some (.bl true)) _ _ ?_ (by rw [List.length_map, List.length_range, List.length_nil]; omega) ?_
    · intro d1 hd k1 hk1
      obtain ⟨j, hj, rfl⟩ := List.mem_map.mp hd
      rw [List.mem_range] at hj
      have w : wipeR [some d, some e, none] ([(("_law_j" : Str), 2)].map (·.2)) = [some d, some e, none] := rfl
      rw [w]
      simp only [rx_, h1.ix, h2.ix, atI_nat]
      refine ⟨_, List.getElem?_eq_getElem (by omega), _, List.getElem?_eq_getElem hj, ?_⟩
      exact hc _ _ _ _ _ (h5 j _ _ (List.getElem?_eq_getElem (by omega)) (List.getElem?_eq_getElem hj)) hk1
    · obtain ⟨bs, eb, hb⟩ := all_true (ds := [] ++ List.filterMap (fun _ => some (Dt.bl true)) (List.map (fun (k : Nat) => Dt.int (k : Int)) (List.range ys.length))) (by
        intro d hd
        rw [List.nil_append] at hd
        obtain ⟨_, _, z⟩ := List.mem_filterMap.mp hd
        exact (Option.some.inj z).symm)
      refine ⟨bs, eb, ?_⟩
      rw [hb]
      exact hrt
theorem Gn_call {T : Txt} {g : Nat} {d : DD} (e : T.defs.lookup g = some d) (m : Nat) : (Gn T (m + 1)).call g = wfB (Gn T m) d.N d.np d.body := by
  show (match T.defs.lookup g with | some d => wfB (Gn T m) d.N d.np d.body | none => botW) = _
  rw [e]
theorem like_all {T : Txt} {d : DD} (e : T.defs.lookup 53 = some d) (h1 : d.N = n__law_like) (h2 : d.np = 2) (h3 : d.body = b__law_like) : ∀ n m, n ≤ m → LikeOk n ((Gn T m).call 53)
  | 0, _, _ => fun _ _ _ _ _ h => False.elim h
  | n + 1, 0, h => absurd h (Nat.not_succ_le_zero n)
  | n + 1, m + 1, h => by
    rw [Gn_call e m, h1, h2, h3]
    exact like_ok (like_all e h1 h2 h3 n m (Nat.le_of_succ_le_succ h))
theorem PullOk.go {W : Wf} (h : PullOk W) {p : Addr} {cap : Int} {d : Drw} {M : Mm} {q : QD} {x : QX} (hd : d.Ok) (h0 : 0 < cap) (h1 : cap < 2 ^ 200) (k : ∀ r (d' : Drw), d'.Ok → 0 ≤ r → r < cap → q (.int r) (mset M p (some d'.o))) : W.run [.ref p, .int cap] (mset M p (some d.o)) q x :=
  h p cap d _ q x mset_same hd h0 h1 fun r d' hd' a b => by
    rw [mset_mset]
    exact k r d' hd' a b
theorem sz {n : Nat} (h : n ≤ 16777216) : n ≤ sizeLine := h
end Fm

/-! Matings: what the program's defs and the laws' helpers do with one. -/
namespace Fm
open PySem L2 PySem.Spec PyProof.Rows
/-- a mating as data -/
abbrev mtg (a b m t : Int) : Dt := .tup [.int a, .int b, .int m, .int t]
local macro_rules
  | `(tactic| simp only [rx_]) => `(tactic| simp only [Int.reduceNeg, Int.reduceAdd, Int.reduceSub, Int.reduceMul, cpow_10, cpow_2, Int.reduceLE, Int.reduceLT, Int.reduceToNat, Int.reducePow, mset_same, mset_mset, Tgs.len, List.getElem?_cons_zero, List.getElem?_cons_succ, List.set_cons_zero, List.set_cons_succ, List.getElem?_nil, Option.some.injEq, exists_eq_left', exists_eq_left, true_and, and_true, if_true, if_false, Bool.false_eq_true, reduceCtorEq, Dt.int.injEq, Dt.bl.injEq, Dt.str.injEq, Dt.lst.injEq, Dt.tup.injEq, Dt.ref.injEq, decide_eq_true_eq, List.length_cons, List.length_nil, Nat.zero_add, Nat.reduceAdd, Option.map_some, Bool.not_true, Bool.not_false, atI_0, atI_1, atI_2, atI_3, atI_4, ixN_0, ixN_1, ixN_2, ixN_3, ixN_4, w_var, w_int, w_str, w_bl, w_non, w_glob, w_bin, w_neg, w_cmp, w_cmp2, w_bop, w_b1, w_b2, w_not, w_ite, w_tup, w_lst, w_ix, w_sl, w_call, w_bi, w_mt, w_isi, w_lc, w_frz, w_es0, w_es1, w_o0, w_o1, w_tval, w_tcmp, w_tcmp2, w_tnot, w_tall, w_tany, w_all0, w_all1, w_all2, w_any0, w_any1, w_any2, it_t, it_l, w_seq, w_rng1, w_rng2, w_zip, w_enm, w_gn, w_gt, w_gi, w_gs0, w_gs1, s_asg, s_asgC, s_par, s_aug, s_expr, s_if, s_for, s_while, s_ret, s_retN, s_brk, s_cont, s_pass, s_nil, frz_l, frz_m, bin_add, bin_adds, bin_sub, bin_mul, bin_fdiv, bin_mod, bin_pow, bin_xor, cmp_lt, cmp_le, cmp_gt, cmp_ge, cmp_eqi, cmp_eqs, cmp_eqb, cmp_nei, cmp_nes, cmp_neb, cmp_is0, cmp_is1, cmp_is2, cmp_is3, cmp_is4, cmp_is5, cmp_is6, cmp_isn0, cmp_isn1, cmp_isn2, cmp_isn3, cmp_isn4, cmp_isn5, cmp_in, cmp_notin, bi_lens, bi_lent, bi_lenl, bi_min, bi_max, bi_abs, bi_listT, bi_listL, bi_tupT, bi_tupL, bi_maxL, bi_minL, bi_sumL, bi_anyL, bi_allL, bi_sorted, seqL_l, items_l, items_t, items_m, w_gl, new_f, new_t, ix_t, ix_l, tru_b, tru_n, tru_i, tru_l, tru_t, isi_b, isi_bi, isi_ii, isi_ib, isi_is, isi_it, isi_il, isi_sb, isi_si, isi_ss, isi_tb, isi_ti, isi_ts, isi_tt, isi_tl, isi_lb, isi_li, isi_ls, isi_lt, isi_ll, isi_nb, isi_ni, isi_ns, isi_nt, isi_nl, ix_m, tru_m, bi_lenm, seqL_m, mt_appm, mt_popm, mtOk_appm, mtOk_popm, it_m, ixSt_m, w_why, w_mk, w_meth, w_fld, s_raise, s_setf, s_augf, s_delD, w_dnew, w_gst, w_gfld, w_slT, cmp_inp, cmp_notinp, mt_ins, mtOk_ins, w_lock, w_sit, w_dc, w_items, s_lock, s_par3, bin_cat, bi_sortedK, bi_dictD, Fm.mt_popAt, mtOk_popAt, s_tryR, bin_subb, bin_bsub, bin_badd, w_mkO, w_methO, w_maxO, cmp_neT, bin_rep, w_revS, w_lrng, w_gst4, s_tryN, w_srtSet, w_lenSet, bi_sortedKS, mt_cnt, mt_idx, mtOk_cl, mtOk_il])
  | `(tactic| simp only [rx_, $ts,*]) => `(tactic| simp only [Int.reduceNeg, Int.reduceAdd, Int.reduceSub, Int.reduceMul, cpow_10, cpow_2, Int.reduceLE, Int.reduceLT, Int.reduceToNat, Int.reducePow, mset_same, mset_mset, Tgs.len, List.getElem?_cons_zero, List.getElem?_cons_succ, List.set_cons_zero, List.set_cons_succ, List.getElem?_nil, Option.some.injEq, exists_eq_left', exists_eq_left, true_and, and_true, if_true, if_false, Bool.false_eq_true, reduceCtorEq, Dt.int.injEq, Dt.bl.injEq, Dt.str.injEq, Dt.lst.injEq, Dt.tup.injEq, Dt.ref.injEq, decide_eq_true_eq, List.length_cons, List.length_nil, Nat.zero_add, Nat.reduceAdd, Option.map_some, Bool.not_true, Bool.not_false, atI_0, atI_1, atI_2, atI_3, atI_4, ixN_0, ixN_1, ixN_2, ixN_3, ixN_4, w_var, w_int, w_str, w_bl, w_non, w_glob, w_bin, w_neg, w_cmp, w_cmp2, w_bop, w_b1, w_b2, w_not, w_ite, w_tup, w_lst, w_ix, w_sl, w_call, w_bi, w_mt, w_isi, w_lc, w_frz, w_es0, w_es1, w_o0, w_o1, w_tval, w_tcmp, w_tcmp2, w_tnot, w_tall, w_tany, w_all0, w_all1, w_all2, w_any0, w_any1, w_any2, it_t, it_l, w_seq, w_rng1, w_rng2, w_zip, w_enm, w_gn, w_gt, w_gi, w_gs0, w_gs1, s_asg, s_asgC, s_par, s_aug, s_expr, s_if, s_for, s_while, s_ret, s_retN, s_brk, s_cont, s_pass, s_nil, frz_l, frz_m, bin_add, bin_adds, bin_sub, bin_mul, bin_fdiv, bin_mod, bin_pow, bin_xor, cmp_lt, cmp_le, cmp_gt, cmp_ge, cmp_eqi, cmp_eqs, cmp_eqb, cmp_nei, cmp_nes, cmp_neb, cmp_is0, cmp_is1, cmp_is2, cmp_is3, cmp_is4, cmp_is5, cmp_is6, cmp_isn0, cmp_isn1, cmp_isn2, cmp_isn3, cmp_isn4, cmp_isn5, cmp_in, cmp_notin, bi_lens, bi_lent, bi_lenl, bi_min, bi_max, bi_abs, bi_listT, bi_listL, bi_tupT, bi_tupL, bi_maxL, bi_minL, bi_sumL, bi_anyL, bi_allL, bi_sorted, seqL_l, items_l, items_t, items_m, w_gl, new_f, new_t, ix_t, ix_l, tru_b, tru_n, tru_i, tru_l, tru_t, isi_b, isi_bi, isi_ii, isi_ib, isi_is, isi_it, isi_il, isi_sb, isi_si, isi_ss, isi_tb, isi_ti, isi_ts, isi_tt, isi_tl, isi_lb, isi_li, isi_ls, isi_lt, isi_ll, isi_nb, isi_ni, isi_ns, isi_nt, isi_nl, ix_m, tru_m, bi_lenm, seqL_m, mt_appm, mt_popm, mtOk_appm, mtOk_popm, it_m, ixSt_m, w_why, w_mk, w_meth, w_fld, s_raise, s_setf, s_augf, s_delD, w_dnew, w_gst, w_gfld, w_slT, cmp_inp, cmp_notinp, mt_ins, mtOk_ins, w_lock, w_sit, w_dc, w_items, s_lock, s_par3, bin_cat, bi_sortedK, bi_dictD, Fm.mt_popAt, mtOk_popAt, s_tryR, bin_subb, bin_bsub, bin_badd, w_mkO, w_methO, w_maxO, cmp_neT, bin_rep, w_revS, w_lrng, w_gst4, s_tryN, w_srtSet, w_lenSet, bi_sortedKS, mt_cnt, mt_idx, mtOk_cl, mtOk_il, $ts,*])
/-- where a place is led -/
def ledI (a b m t p : Int) : Dt := if a ≤ p ∧ p < a + m then (if t = 1 then .int (b + m - 1 - (p - a)) else .int (b + p - a)) else .non
def LedOk (W : Wf) : Prop := ∀ (a b m t : Int) (p : Dt) M q x, (match p with
  | .bl _ => q .non M
  | .int p => q (ledI a b m t p) M
  | _ => False) → W.run [mtg a b m t, p] M q x
theorem led_ok (G : Gt) : LedOk (wfB G n_led 2 b_led) := by
  intro a b m t p M q x h
  refine ⟨rfl, ?_⟩
  have e0 : startR n_led [mtg a b m t, p] = [some (mtg a b m t), some p, none, none, none, none] := rfl
  rw [e0]
  generalize hk : bodyK q x = k
  have hrt : ∀ d, k.rt d = q d := by intro d; rw [← hk]; rfl
  unfold b_led b_led_0
  rw [wpSs_cons]
  simp only [rx_]
  unfold b_led_1
  rw [wpSs_cons]
  cases p with
  | bl z =>
    simp only [rx_]
    unfold b_led_2
    rw [wpSs_cons]
    simp only [rx_, hrt]
    exact h
  | int p =>
    have h' : q (ledI a b m t p) M := h
    unfold ledI at h'
    simp only [rx_]
    have no : ¬ (a ≤ p ∧ p < a + m) → wpSs G b_led_2 ⟨wpSs G b_led_3 k, k.rt, k.bk, k.ct, k.xx⟩ [some (mtg a b m t), some (.int p), some (.int a), some (.int b), some (.int m), some (.int t)] M := by
      intro hn
      rw [if_neg hn] at h'
      unfold b_led_2
      rw [wpSs_cons]
      simp only [rx_, hrt]
      exact h'
    by_cases h1 : a ≤ p
    · by_cases h2 : p < a + m
      · simp only [rx_, h1, h2]
        unfold b_led_3
        rw [wpSs_cons]
        simp only [rx_]
        rw [if_pos ⟨h1, h2⟩] at h'
        by_cases ht : t = 1
        · rw [if_pos ht] at h' ⊢
          unfold b_led_4
          rw [wpSs_cons]
          simp only [rx_, hrt]
          exact h'
        · rw [if_neg ht] at h' ⊢
          unfold b_led_5
          rw [wpSs_cons]
          simp only [rx_, hrt]
          exact h'
      · simp only [rx_, h1, h2]
        exact no (by omega)
    · simp only [rx_, h1]
      exact no (by omega)
  | _ => exact False.elim h

/-! the laws' helpers -/
def MatingOk (W : Wf) : Prop := ∀ (p : Addr) (L : Int) (d : Drw) M q x, M p = some d.o → d.Ok → 0 < L → L < 2 ^ 199 → (∀ a b m t (d' : Drw), d'.Ok → 0 ≤ a → 0 ≤ b → 1 ≤ m → a + m ≤ L → b + m ≤ L → (t = 0 ∨ t = 1) → q (mtg a b m t) (mset M p (some d'.o))) → W.run [.ref p, .int L] M q x
def matMid (p : Addr) (L : Int) (M : Mm) : Rho → Mm → Prop := fun ρ' M' => ∃ (d' : Drw) (m : Int), d'.Ok ∧ 1 ≤ m ∧ m ≤ L ∧ ρ' = [some (.ref p), some (.int L), some (.int m), none] ∧ M' = mset M p (some d'.o)
theorem mating_ok (G : Gt) (hpu : PullOk (G.call 51)) : MatingOk (wfB G n__law_mating 2 b__law_mating) := by
  intro p L d M q x hM hd h0 h1 h
  have h1' : L < 2 ^ 200 := by omega
  refine ⟨rfl, ?_⟩
  have e0 : startR n__law_mating [.ref p, .int L] = [some (.ref p), some (.int L), none, none] := rfl
  rw [e0]
  generalize hk : bodyK q x = k
  have hrt : ∀ d, k.rt d = q d := by intro d; rw [← hk]; rfl
  unfold b__law_mating b__law_mating_0
  rw [wpSs_cons]
  simp only [rx_]
  refine hpu p L d _ _ _ hM hd h0 h1' fun r d hd r0 r1 => ?_
  simp only [rx_]
  unfold b__law_mating_1
  refine @wp_seq G _ _ k _ _ (matMid p L M) ?_ ?_
  · simp only [rx_]
    refine hpu.go hd (by decide) (by decide) fun r2 d hd r20 r21 => ?_
    simp only [rx_]
    split
    · unfold b__law_mating_2
      rw [wpSs_cons]
      simp only [rx_]
      refine hpu.go hd (by omega) (by omega) fun r3 d hd r30 r31 => ?_
      simp only [rx_]
      exact ⟨d, 1 + r3, hd, by omega, by omega, rfl, rfl⟩
    · exact ⟨d, 1 + r, hd, by omega, by omega, rfl, rfl⟩
  · rintro ρ' M' ⟨d, m, hd, m1, m2, rfl, rfl⟩
    unfold b__law_mating_3
    rw [wpSs_cons]
    simp only [rx_]
    unfold b__law_mating_4
    rw [wpSs_cons]
    simp only [rx_]
    refine hpu.go hd (by omega) (by omega) fun a d hd a0 a1 => ?_
    refine hpu.go hd (by omega) (by omega) fun b d hd b0 b1 => ?_
    refine hpu.go hd (by decide) (by decide) fun t d hd t0 t1 => ?_
    simp only [rx_, hrt]
    exact ⟨sz (by decide), h a b m t d hd a0 b0 m1 (by omega) (by omega) (by omega)⟩
/-- the pairs of places that a mating leads -/
def endP (a b m t : Int) (j : Nat) : Dt := .tup [.int (a + j), .int (if t = 1 then b + m - 1 - j else b + j)]
def endsL (a b m t : Int) : List Dt := (List.range m.toNat).map (endP a b m t)
def EndsOk (W : Wf) : Prop := ∀ (a b m t : Int) M q x, 0 ≤ m → m ≤ 16777216 → q (.lst (endsL a b m t)) M → W.run [mtg a b m t] M q x
theorem ends_ok (G : Gt) : EndsOk (wfB G n__law_ends 1 b__law_ends) := by
  intro a b m t M q x m0 m1 h
  refine ⟨rfl, ?_⟩
  have e0 : startR n__law_ends [mtg a b m t] = [some (mtg a b m t), none, none, none, none, none, none] := rfl
  rw [e0]
  generalize hk : bodyK q x = k
  have hrt : ∀ d, k.rt d = q d := by intro d; rw [← hk]; rfl
  unfold b__law_ends b__law_ends_0
  rw [wpSs_cons]
  simp only [rx_]
  unfold b__law_ends_1
  rw [wpSs_cons]
  simp only [rx_]
  refine ⟨sz (by decide), fun p hp => ?_⟩
  unfold b__law_ends_2
  rw [wpSs_cons]
  simp only [rx_]
  refine ⟨by omega, by omega, ?_⟩
  refine forRun_inv (fun i ρ' M' => ∃ o : Option Dt, ρ' = [some (mtg a b m t), some (.int a), some (.int b), some (.int m), some (.int t), some (.ref p), o] ∧ M' = mset M p (some (.lst ((List.range i).map (endP a b m t)))) ∧ i ≤ m.toNat) ⟨none, rfl, rfl, Nat.zero_le _⟩ (fun _ _ _ _ => trivial) ?_ ?_
  · rintro i v ρ' M' n hv ⟨o, rfl, rfl, hi⟩ hn
    have hlt : i < m.toNat := by
      have := (List.getElem?_eq_some_iff.mp hv).1
      rwa [List.length_map, List.length_range] at this
    have ev : v = .int (i : Int) := by
      rw [List.getElem?_map, List.getElem?_range hlt] at hv
      exact (Option.some.inj hv).symm
    subst ev
    simp only [rx_]
    unfold b__law_ends_3
    rw [wpSs_cons]
    have fin : ∀ z : Int, z = (if t = 1 then b + m - 1 - i else b + i) → 2 ≤ sizeLine ∧ (List.map (endP a b m t) (List.range i)).length < sizeLine ∧ n [some (mtg a b m t), some (.int a), some (.int b), some (.int m), some (.int t), some (.ref p), some (.int (i : Int))] (mset M p (some (.lst (List.map (endP a b m t) (List.range i) ++ [.tup [.int (a + i), .int z]])))) := by
      intro z hz
      refine ⟨sz (by decide), by rw [List.length_map, List.length_range]; show i < 16777216; omega, hn _ _ ⟨_, rfl, ?_, hlt⟩⟩
      rw [List.range_succ, List.map_append]
      subst hz
      rfl
    simp only [rx_]
    split
    · rename_i ht
      exact fin _ (by rw [if_pos ht])
    · rename_i ht
      exact fin _ (by rw [if_neg ht])
  · rintro ρ' M' ⟨o, rfl, rfl, hi⟩
    unfold b__law_ends_4
    rw [wpSs_cons]
    simp only [rx_, hrt]
    rw [mset_self hp, List.length_map, List.length_range]
    exact h
/-! dicts by keys -/
section
variable {κ : Type} [DecidableEq κ]
end
/-! alike to itself -/
theorem like_i {M : Mm} {n : Nat} {i : Int} : Like M (n + 1) (.int i) (.int i) := .inr (.inr (.inl ⟨_, rfl, rfl⟩))
theorem like_n {M : Mm} {n : Nat} : Like M (n + 1) .non .non := .inl ⟨rfl, rfl⟩
theorem like_q {M : Mm} {n : Nat} {t : Bool} {d e : Dt} {xs : List Dt} (h1 : SeqD t M d xs) (h2 : SeqD t M e xs) (hl : xs.length ≤ 16777216) (h : ∀ x, x ∈ xs → Like M n x x) : Like M (n + 1) d e :=
  .inr (.inr (.inr (.inr ⟨t, xs, xs, h1, h2, rfl, hl, fun i x y e1 e2 => by
    rw [e1] at e2
    cases e2
    exact h x (List.mem_of_getElem? e1)⟩)))
theorem like_t {M : Mm} {n : Nat} {xs : List Dt} (hl : xs.length ≤ 16777216) (h : ∀ x, x ∈ xs → Like M n x x) : Like M (n + 1) (.tup xs) (.tup xs) := like_q (.inl ⟨rfl, rfl⟩) (.inl ⟨rfl, rfl⟩) hl h
theorem like_l {M : Mm} {n : Nat} {xs : List Dt} (hl : xs.length ≤ 16777216) (h : ∀ x, x ∈ xs → Like M n x x) : Like M (n + 1) (.lst xs) (.lst xs) := like_q (.inr ⟨rfl, .inl rfl⟩) (.inr ⟨rfl, .inl rfl⟩) hl h
theorem like_m {M : Mm} {n : Nat} {a b m t : Int} : Like M (n + 2) (mtg a b m t) (mtg a b m t) := like_t (by show 4 ≤ 16777216; decide) (by
  intro x hx
  simp only [List.mem_cons, List.not_mem_nil, or_false] at hx
  rcases hx with rfl | rfl | rfl | rfl <;> exact like_i)
end Fm

/-! Plain data compared; parts of matings, matings moved, swelled, clipped. -/
namespace Fm
open PySem L2 PySem.Spec PyProof.Rows
def Plain : Nat → Dt → Prop
  | _, .non => True
  | _, .bl _ => True
  | _, .int _ => True
  | _, .str s => (PyData.str s).canLay0 = true
  | n + 1, .tup ds => ∀ d, d ∈ ds → Plain n d
  | n + 1, .lst ds => ∀ d, d ∈ ds → Plain n d
  | _, _ => False
theorem plain_pys {n : Nat} : ∀ ds : List Dt, (∀ d, d ∈ ds → ∃ p, pyD d = some p ∧ p.canLay0 = true ∧ p.depth ≤ n) → ∃ ps, pyDs ds = some ps ∧ PyData.canLayAll0 ps = true ∧ PyData.depthAll ps ≤ n ∧ ps.length = ds.length
  | [], _ => ⟨[], rfl, rfl, Nat.zero_le _, rfl⟩
  | d :: ds, h => by
    obtain ⟨p, h1, h2, h3⟩ := h d List.mem_cons_self
    obtain ⟨ps, g1, g2, g3, g4⟩ := plain_pys ds fun d hd => h d (List.mem_cons_of_mem _ hd)
    refine ⟨p :: ps, ?_, ?_, ?_, by rw [List.length_cons, List.length_cons, g4]⟩
    · show (pyD d).bind (fun p => (pyDs ds).map fun r => p :: r) = _
      rw [h1, g1]; rfl
    · show (p.canLay0 && PyData.canLayAll0 ps) = true
      rw [h2, g2]; rfl
    · show max p.depth (PyData.depthAll ps) ≤ n
      omega
theorem Plain.py : ∀ (n : Nat) (d : Dt), Plain n d → ∃ p, pyD d = some p ∧ p.canLay0 = true ∧ p.depth ≤ n
  | _, .non, _ => ⟨_, rfl, rfl, Nat.zero_le _⟩
  | _, .bl _, _ => ⟨_, rfl, rfl, Nat.zero_le _⟩
  | _, .int _, _ => ⟨_, rfl, rfl, Nat.zero_le _⟩
  | n, .str _, h => ⟨_, rfl, by cases n <;> exact h, Nat.zero_le _⟩
  | n + 1, .tup ds, h => by
    obtain ⟨ps, g1, g2, g3, g4⟩ := plain_pys (n := n) ds fun d hd => Plain.py n d (h d hd)
    refine ⟨.tuple ps, ?_, g2, ?_⟩
    · show (pyDs ds).map PyData.tuple = _
      rw [g1]; rfl
    · show PyData.depthAll ps + 1 ≤ n + 1
      omega
  | n + 1, .lst ds, h => by
    obtain ⟨ps, g1, g2, g3, g4⟩ := plain_pys (n := n) ds fun d hd => Plain.py n d (h d hd)
    refine ⟨.list ps, ?_, g2, ?_⟩
    · show (pyDs ds).map PyData.list = _
      rw [g1]; rfl
    · show PyData.depthAll ps + 1 ≤ n + 1
      omega
  | 0, .tup _, h => False.elim h
  | 0, .lst _, h => False.elim h
  | 0, .ref _, h => False.elim h
  | _ + 1, .ref _, h => False.elim h
theorem cmp_eq_nil {M : Mm} {ds : List Dt} (h : ∀ d, d ∈ ds → Plain 60 d) : cmpD .eq (.lst ds) (.lst []) M = some ds.isEmpty := by
  obtain ⟨ps, g1, g2, g3, g4⟩ := plain_pys (n := 60) ds fun d hd => Plain.py 60 d (h d hd)
  show (match (pyDs ds).map PyData.list, some (PyData.list []) with
    | some d, some e => if SeqAt.shaped d = true ∧ SeqAt.shaped e = true then some (PyData.eqv d e) else none
    | _, _ => none) = _
  rw [g1]
  have e1 : SeqAt.shaped (.list ps) = true := by
    show ((PyData.list ps).canLay0 && decide ((PyData.list ps).depth ≤ 64)) = true
    have : (PyData.list ps).depth ≤ 64 := by
      show PyData.depthAll ps + 1 ≤ 64
      omega
    rw [decide_eq_true this, Bool.and_true]
    exact g2
  show (if SeqAt.shaped (.list ps) = true ∧ SeqAt.shaped (.list []) = true then some (PyData.eqv (.list ps) (.list [])) else none) = _
  rw [if_pos ⟨e1, by decide +kernel⟩]
  cases ps with
  | nil =>
    cases ds with
    | nil => rfl
    | cons _ _ => cases g4
  | cons p ps =>
    cases ds with
    | nil => cases g4
    | cons _ _ => rfl
/-- where a part of a mating leads -/
def partB (a b m t at_ n : Int) : Int := if t = 1 then b + m - n - (at_ - a) else b + (at_ - a)
def PartOk (W : Wf) : Prop := ∀ (a b m t at_ n : Int) M q x, a ≤ at_ → at_ + n ≤ a + m → 1 ≤ n → q (mtg at_ (partB a b m t at_ n) n t) M → W.run [mtg a b m t, .int at_, .int n] M q x
local macro_rules
  | `(tactic| simp only [rx_]) => `(tactic| simp only [Int.reduceNeg, Int.reduceAdd, Int.reduceSub, Int.reduceMul, cpow_10, cpow_2, Int.reduceLE, Int.reduceLT, Int.reduceToNat, Int.reducePow, mset_same, mset_mset, Tgs.len, List.getElem?_cons_zero, List.getElem?_cons_succ, List.set_cons_zero, List.set_cons_succ, List.getElem?_nil, Option.some.injEq, exists_eq_left', exists_eq_left, true_and, and_true, if_true, if_false, Bool.false_eq_true, reduceCtorEq, Dt.int.injEq, Dt.bl.injEq, Dt.str.injEq, Dt.lst.injEq, Dt.tup.injEq, Dt.ref.injEq, decide_eq_true_eq, List.length_cons, List.length_nil, Nat.zero_add, Nat.reduceAdd, Option.map_some, Bool.not_true, Bool.not_false, atI_0, atI_1, atI_2, atI_3, atI_4, ixN_0, ixN_1, ixN_2, ixN_3, ixN_4, w_var, w_int, w_str, w_bl, w_non, w_glob, w_bin, w_neg, w_cmp, w_cmp2, w_bop, w_b1, w_b2, w_not, w_ite, w_tup, w_lst, w_ix, w_sl, w_call, w_bi, w_mt, w_isi, w_lc, w_frz, w_es0, w_es1, w_o0, w_o1, w_tval, w_tcmp, w_tcmp2, w_tnot, w_tall, w_tany, w_all0, w_all1, w_all2, w_any0, w_any1, w_any2, it_t, it_l, w_seq, w_rng1, w_rng2, w_zip, w_enm, w_gn, w_gt, w_gi, w_gs0, w_gs1, s_asg, s_asgC, s_par, s_aug, s_expr, s_if, s_for, s_while, s_ret, s_retN, s_brk, s_cont, s_pass, s_nil, frz_l, frz_m, bin_add, bin_adds, bin_sub, bin_mul, bin_fdiv, bin_mod, bin_pow, bin_xor, cmp_lt, cmp_le, cmp_gt, cmp_ge, cmp_eqi, cmp_eqs, cmp_eqb, cmp_nei, cmp_nes, cmp_neb, cmp_is0, cmp_is1, cmp_is2, cmp_is3, cmp_is4, cmp_is5, cmp_is6, cmp_isn0, cmp_isn1, cmp_isn2, cmp_isn3, cmp_isn4, cmp_isn5, cmp_in, cmp_notin, bi_lens, bi_lent, bi_lenl, bi_min, bi_max, bi_abs, bi_listT, bi_listL, bi_tupT, bi_tupL, bi_maxL, bi_minL, bi_sumL, bi_anyL, bi_allL, bi_sorted, seqL_l, items_l, items_t, items_m, w_gl, new_f, new_t, ix_t, ix_l, tru_b, tru_n, tru_i, tru_l, tru_t, isi_b, isi_bi, isi_ii, isi_ib, isi_is, isi_it, isi_il, isi_sb, isi_si, isi_ss, isi_tb, isi_ti, isi_ts, isi_tt, isi_tl, isi_lb, isi_li, isi_ls, isi_lt, isi_ll, isi_nb, isi_ni, isi_ns, isi_nt, isi_nl, ix_m, tru_m, bi_lenm, seqL_m, mt_appm, mt_popm, mtOk_appm, mtOk_popm, it_m, ixSt_m, w_why, w_mk, w_meth, w_fld, s_raise, s_setf, s_augf, s_delD, w_dnew, w_gst, w_gfld, w_slT, cmp_inp, cmp_notinp, mt_ins, mtOk_ins, w_lock, w_sit, w_dc, w_items, s_lock, s_par3, bin_cat, bi_sortedK, bi_dictD, Fm.mt_popAt, mtOk_popAt, s_tryR, bin_subb, bin_bsub, bin_badd, w_mkO, w_methO, w_maxO, cmp_neT, bin_rep, w_revS, w_lrng, w_gst4, s_tryN, w_srtSet, w_lenSet, bi_sortedKS, mt_cnt, mt_idx, mtOk_cl, mtOk_il])
  | `(tactic| simp only [rx_, $ts,*]) => `(tactic| simp only [Int.reduceNeg, Int.reduceAdd, Int.reduceSub, Int.reduceMul, cpow_10, cpow_2, Int.reduceLE, Int.reduceLT, Int.reduceToNat, Int.reducePow, mset_same, mset_mset, Tgs.len, List.getElem?_cons_zero, List.getElem?_cons_succ, List.set_cons_zero, List.set_cons_succ, List.getElem?_nil, Option.some.injEq, exists_eq_left', exists_eq_left, true_and, and_true, if_true, if_false, Bool.false_eq_true, reduceCtorEq, Dt.int.injEq, Dt.bl.injEq, Dt.str.injEq, Dt.lst.injEq, Dt.tup.injEq, Dt.ref.injEq, decide_eq_true_eq, List.length_cons, List.length_nil, Nat.zero_add, Nat.reduceAdd, Option.map_some, Bool.not_true, Bool.not_false, atI_0, atI_1, atI_2, atI_3, atI_4, ixN_0, ixN_1, ixN_2, ixN_3, ixN_4, w_var, w_int, w_str, w_bl, w_non, w_glob, w_bin, w_neg, w_cmp, w_cmp2, w_bop, w_b1, w_b2, w_not, w_ite, w_tup, w_lst, w_ix, w_sl, w_call, w_bi, w_mt, w_isi, w_lc, w_frz, w_es0, w_es1, w_o0, w_o1, w_tval, w_tcmp, w_tcmp2, w_tnot, w_tall, w_tany, w_all0, w_all1, w_all2, w_any0, w_any1, w_any2, it_t, it_l, w_seq, w_rng1, w_rng2, w_zip, w_enm, w_gn, w_gt, w_gi, w_gs0, w_gs1, s_asg, s_asgC, s_par, s_aug, s_expr, s_if, s_for, s_while, s_ret, s_retN, s_brk, s_cont, s_pass, s_nil, frz_l, frz_m, bin_add, bin_adds, bin_sub, bin_mul, bin_fdiv, bin_mod, bin_pow, bin_xor, cmp_lt, cmp_le, cmp_gt, cmp_ge, cmp_eqi, cmp_eqs, cmp_eqb, cmp_nei, cmp_nes, cmp_neb, cmp_is0, cmp_is1, cmp_is2, cmp_is3, cmp_is4, cmp_is5, cmp_is6, cmp_isn0, cmp_isn1, cmp_isn2, cmp_isn3, cmp_isn4, cmp_isn5, cmp_in, cmp_notin, bi_lens, bi_lent, bi_lenl, bi_min, bi_max, bi_abs, bi_listT, bi_listL, bi_tupT, bi_tupL, bi_maxL, bi_minL, bi_sumL, bi_anyL, bi_allL, bi_sorted, seqL_l, items_l, items_t, items_m, w_gl, new_f, new_t, ix_t, ix_l, tru_b, tru_n, tru_i, tru_l, tru_t, isi_b, isi_bi, isi_ii, isi_ib, isi_is, isi_it, isi_il, isi_sb, isi_si, isi_ss, isi_tb, isi_ti, isi_ts, isi_tt, isi_tl, isi_lb, isi_li, isi_ls, isi_lt, isi_ll, isi_nb, isi_ni, isi_ns, isi_nt, isi_nl, ix_m, tru_m, bi_lenm, seqL_m, mt_appm, mt_popm, mtOk_appm, mtOk_popm, it_m, ixSt_m, w_why, w_mk, w_meth, w_fld, s_raise, s_setf, s_augf, s_delD, w_dnew, w_gst, w_gfld, w_slT, cmp_inp, cmp_notinp, mt_ins, mtOk_ins, w_lock, w_sit, w_dc, w_items, s_lock, s_par3, bin_cat, bi_sortedK, bi_dictD, Fm.mt_popAt, mtOk_popAt, s_tryR, bin_subb, bin_bsub, bin_badd, w_mkO, w_methO, w_maxO, cmp_neT, bin_rep, w_revS, w_lrng, w_gst4, s_tryN, w_srtSet, w_lenSet, bi_sortedKS, mt_cnt, mt_idx, mtOk_cl, mtOk_il, $ts,*])
theorem part_ok (G : Gt) (hl : LedOk (G.call 6)) : PartOk (wfB G n_part 3 b_part) := by
  intro a b m t at_ n M q x h1 h2 h3 h
  refine ⟨rfl, ?_⟩
  have e0 : startR n_part [mtg a b m t, .int at_, .int n] = [some (mtg a b m t), some (.int at_), some (.int n)] := rfl
  rw [e0]
  generalize hk : bodyK q x = k
  have hrt : ∀ d, k.rt d = q d := by intro d; rw [← hk]; rfl
  have l1 : ledI a b m t at_ = .int (if t = 1 then b + m - 1 - (at_ - a) else b + at_ - a) := by
    unfold ledI
    rw [if_pos (by omega)]
    split <;> rfl
  have l2 : ledI a b m t (at_ + n - 1) = .int (if t = 1 then b + m - 1 - (at_ + n - 1 - a) else b + (at_ + n - 1) - a) := by
    unfold ledI
    rw [if_pos (by omega)]
    split <;> rfl
  have h3' : ¬ n < 1 := by omega
  unfold b_part b_part_0
  rw [wpSs_cons]
  simp only [rx_, h3', decide_false]
  unfold b_part_2
  rw [wpSs_cons]
  simp only [rx_]
  refine hl a b m t _ _ _ _ ?_
  simp only [rx_, l1]
  refine hl a b m t _ _ _ _ ?_
  simp only [rx_, l2]
  unfold b_part_4
  rw [wpSs_cons]
  simp only [rx_]
  refine hl a b m t _ _ _ _ ?_
  simp only [rx_, l1]
  refine hl a b m t _ _ _ _ ?_
  simp only [rx_, l2, hrt]
  refine ⟨sz (by decide), ?_⟩
  have e : min (if t = 1 then b + m - 1 - (at_ - a) else b + at_ - a) (if t = 1 then b + m - 1 - (at_ + n - 1 - a) else b + (at_ + n - 1) - a) = partB a b m t at_ n := by
    unfold partB
    split <;> omega
  rw [e]
  exact h
def MovedOk (W : Wf) : Prop := ∀ (a b m t y : Int) M q x, q (mtg (a + y) (b + y) m t) M → W.run [mtg a b m t, .int y] M q x
theorem moved_ok (G : Gt) : MovedOk (wfB G n_moved 2 b_moved) := by
  intro a b m t y M q x h
  refine ⟨rfl, ?_⟩
  have e0 : startR n_moved [mtg a b m t, .int y] = [some (mtg a b m t), some (.int y)] := rfl
  rw [e0]
  generalize hk : bodyK q x = k
  have hrt : ∀ d, k.rt d = q d := by intro d; rw [← hk]; rfl
  unfold b_moved b_moved_0
  rw [wpSs_cons]
  simp only [rx_, hrt]
  exact ⟨sz (by decide), h⟩
def SwelledOk (W : Wf) : Prop := ∀ (a b m t y : Int) M q x, -(2 ^ 64) < y → y < 2 ^ 64 → q (mtg (a * y) (b * y) (m * y) t) M → W.run [mtg a b m t, .int y] M q x
theorem swelled_ok (G : Gt) : SwelledOk (wfB G n_swelled 2 b_swelled) := by
  intro a b m t y M q x y0 y1 h
  refine ⟨rfl, ?_⟩
  have e0 : startR n_swelled [mtg a b m t, .int y] = [some (mtg a b m t), some (.int y)] := rfl
  rw [e0]
  generalize hk : bodyK q x = k
  have hrt : ∀ d, k.rt d = q d := by intro d; rw [← hk]; rfl
  unfold b_swelled b_swelled_0
  rw [wpSs_cons]
  simp only [rx_, hrt]
  exact ⟨mul_r y0 y1, mul_r y0 y1, mul_r y0 y1, sz (by decide), h⟩
/-- a mating clipped -/
def clipLo (b m t L : Int) : Int := if t = 1 then max 0 (b + m - L) else 0
def clipHi (a b m t L : Int) : Int := if t = 1 then min m (L - a) else min (min m (L - a)) (L - b)
def clipD (a b m t L : Int) : Dt := if clipHi a b m t L ≤ clipLo b m t L then .non else
  mtg (a + clipLo b m t L) (if t = 1 then b + m - clipHi a b m t L else b + clipLo b m t L) (clipHi a b m t L - clipLo b m t L) t
def ClippedOk (W : Wf) : Prop := ∀ (a b m t L : Int) M q x, q (clipD a b m t L) M → W.run [mtg a b m t, .int L] M q x
def clipMid (a b m t L : Int) (M : Mm) : Rho → Mm → Prop := fun ρ' M' => ρ' = [some (mtg a b m t), some (.int L), some (.int a), some (.int b), some (.int m), some (.int t), some (.int (clipLo b m t L)), some (.int (clipHi a b m t L))] ∧ M = M'
theorem clipped_ok (G : Gt) (hp : PartOk (G.call 7)) : ClippedOk (wfB G n_clipped 2 b_clipped) := by
  intro a b m t L M q x h
  refine ⟨rfl, ?_⟩
  have e0 : startR n_clipped [mtg a b m t, .int L] = [some (mtg a b m t), some (.int L), none, none, none, none, none, none] := rfl
  rw [e0]
  generalize hk : bodyK q x = k
  have hrt : ∀ d, k.rt d = q d := by intro d; rw [← hk]; rfl
  unfold b_clipped b_clipped_0
  rw [wpSs_cons]
  simp only [rx_]
  unfold b_clipped_1
  rw [wpSs_cons]
  simp only [rx_]
  unfold b_clipped_2
  refine @wp_seq G _ _ k _ _ (clipMid a b m t L M) ?_ ?_
  · simp only [rx_]
    split
    · rename_i ht
      unfold b_clipped_3
      rw [wpSs_cons]
      simp only [rx_]
      unfold clipMid clipLo clipHi
      rw [if_pos ht, if_pos ht]
      exact ⟨rfl, rfl⟩
    · rename_i ht
      unfold b_clipped_4
      rw [wpSs_cons]
      simp only [rx_]
      unfold clipMid clipLo clipHi
      rw [if_neg ht, if_neg ht]
      exact ⟨rfl, rfl⟩
  · rintro ρ' M' ⟨rfl, rfl⟩
    unfold b_clipped_5
    rw [wpSs_cons]
    simp only [rx_]
    unfold clipD at h
    have hlo : 0 ≤ clipLo b m t L := by unfold clipLo; split <;> omega
    have hhi : clipHi a b m t L ≤ m := by unfold clipHi; split <;> omega
    generalize clipLo b m t L = lo at h hlo ⊢
    generalize clipHi a b m t L = hi at h hhi ⊢
    by_cases hc : hi ≤ lo
    · rw [if_pos hc] at h ⊢
      unfold b_clipped_6
      rw [wpSs_cons]
      simp only [rx_, hrt]
      exact h
    · rw [if_neg hc] at h ⊢
      unfold b_clipped_7
      rw [wpSs_cons]
      simp only [rx_]
      refine hp _ _ _ _ _ _ _ _ _ (by omega) (by omega) (by omega) ?_
      rw [hrt]
      have e : partB a b m t (a + lo) (hi - lo) = if t = 1 then b + m - hi else b + lo := by
        unfold partB
        split <;> omega
      rw [e]
      exact h

abbrev mtd (z : Int × Int × Int × Int) : Dt := mtg z.1 z.2.1 z.2.2.1 z.2.2.2
def scl (k : Int) (z : Int × Int × Int × Int) : Int × Int × Int × Int := (z.1 * k, z.2.1 * k, z.2.2.1 * k, z.2.2.2)
def ScaledOk (W : Wf) : Prop := ∀ (l : List (Int × Int × Int × Int)) (k : Int) M q x, l.length ≤ 16777216 → -(2 ^ 64) < k → k < 2 ^ 64 → q (.lst (l.map fun z => mtd (scl k z))) M → W.run [.lst (l.map mtd), .int k] M q x
theorem scaled_ok (G : Gt) : ScaledOk (wfB G n__law_scaled 2 b__law_scaled) := by
  intro l y M q x hl y0 y1 h
  refine ⟨rfl, ?_⟩
  have e0 : startR n__law_scaled [.lst (l.map mtd), .int y] = [some (.lst (l.map mtd)), some (.int y), none, none, none, none] := rfl
  rw [e0]
  generalize hk : bodyK q x = k
  have hrt : ∀ d, k.rt d = q d := by intro d; rw [← hk]; rfl
  unfold b__law_scaled b__law_scaled_0
  rw [wpSs_cons]
  simp only [rx_, hrt]
  let f : Dt → Option Dt := fun d => match d with
    | .tup [.int a, .int b, .int m, .int t] => some (mtg (a * y) (b * y) (m * y) t)
    | _ => none
  have hfm : (l.map mtd).filterMap f = l.map fun z => mtd (scl y z) := by
    rw [List.filterMap_map, ← List.filterMap_eq_map]
    rfl
  refine lcRun_map f _ _ ?_ (by rw [List.length_map]; show 0 + _ ≤ 16777216; omega) ?_
  · intro d1 hd1 k1 hk1
    obtain ⟨z, hz, rfl⟩ := List.mem_map.mp hd1
    have w : ∀ (a b : Option Dt), wipeR [a, b, none, none, none, none] ([(("_law_one" : Str), 2), ("_law_other", 3), ("_law_many", 4), ("_law_flips", 5)].map (·.2)) = [a, b, none, none, none, none] := fun _ _ => rfl
    rw [w]
    simp only [rx_]
    exact ⟨mul_r y0 y1, mul_r y0 y1, mul_r y0 y1, sz (by decide), hk1⟩
  · rw [List.nil_append, hfm]
    exact h
/-- one mating made as much greater -/
theorem ScaledOk.one {W : Wf} (h : ScaledOk W) {a b m t k : Int} {M : Mm} {q : QD} {x : QX} (k0 : -(2 ^ 64) < k) (k1 : k < 2 ^ 64) (hq : q (.lst [mtg (a * k) (b * k) (m * k) t]) M) : W.run [.lst [mtg a b m t], .int k] M q x :=
  h [(a, b, m, t)] k M q x (by show 1 ≤ 16777216; decide) k0 k1 hq
def CutOk (W : Wf) : Prop := ∀ (p : Addr) (a b m t L : Int) (d : Drw) M q x, M p = some d.o → d.Ok → 0 ≤ a → 0 ≤ b → 0 ≤ L → L ≤ 100 → (∀ d' : Drw, d'.Ok → q (.bl true) (mset M p (some d'.o))) → W.run [.ref p, mtg a b m t, .int L] M q x
theorem like_clip {M : Mm} {n : Nat} {a b m t L : Int} : Like M (n + 2) (clipD a b m t L) (clipD a b m t L) := by
  unfold clipD
  split
  · exact like_n
  · exact like_m
def cutMid (p : Addr) (d1 : Dt) (M : Mm) (f1 f2 a b m t k C L : Int) : Rho → Mm → Prop := fun ρ' M' => ρ' = [some (.ref p), some d1, some (.int L), some (.int k), some (.int a), some (.int b), some (.int m), some (.int t), some (.int C), some (.int f1), some (.int f2), none] ∧ M = M'
theorem cut_ok (G : Gt) (hpu : PullOk (G.call 51)) (hsc : ScaledOk (G.call 69)) (hcl : ClippedOk (G.call 10)) (hsw : SwelledOk (G.call 9)) (hli : LikeOk 2 (G.call 53)) : CutOk (wfB G n__law_cut_far 3 b__law_cut_far) := by
  intro p a b m t L d M q x hM hd a0 b0 L0 L1 h
  refine ⟨rfl, ?_⟩
  have e0 : startR n__law_cut_far [.ref p, mtg a b m t, .int L] = [some (.ref p), some (mtg a b m t), some (.int L), none, none, none, none, none, none, none, none, none] := rfl
  rw [e0]
  generalize hk : bodyK q x = k
  have hrt : ∀ d, k.rt d = q d := by intro d; rw [← hk]; rfl
  unfold b__law_cut_far b__law_cut_far_0
  rw [wpSs_cons]
  simp only [rx_]
  refine hpu p _ d _ _ _ hM hd (by decide) (by decide) fun y d hd y0 y1 => ?_
  simp only [rx_]
  unfold b__law_cut_far_1
  rw [wpSs_cons]
  simp only [rx_]
  generalize hT : 1 + y = T
  refine ⟨sz (by decide), hsc.one (by omega) (by omega) ?_⟩
  simp only [rx_]
  generalize hA : a * T = A
  generalize hB : b * T = B
  generalize hm : m * T = m'
  have hLT : 0 ≤ L * T ∧ L * T ≤ 100 * 1000000000000000 := by
    refine ⟨Int.mul_nonneg L0 (by omega), ?_⟩
    exact Int.mul_le_mul L1 (by omega) (by omega) (by decide)
  unfold b__law_cut_far_2
  rw [wpSs_cons]
  simp only [rx_]
  refine ⟨mul_r (by omega) (by omega), hpu.go hd (by omega) (by omega) fun c d hd c0 c1 => ?_⟩
  refine ⟨sz (by decide), hpu.go hd (by decide) (by decide) fun z d hd z0 z1 => ?_⟩
  obtain ⟨C, eC⟩ : ∃ C : Int, atI [Dt.int c, Dt.int (A + m'), Dt.int (B + m'), Dt.int (B + m' - 1)] z = some (.int C) := by
    have : z = 0 ∨ z = 1 ∨ z = 2 ∨ z = 3 := by omega
    rcases this with rfl | rfl | rfl | rfl
    · exact ⟨_, rfl⟩
    · exact ⟨_, rfl⟩
    · exact ⟨_, rfl⟩
    · exact ⟨_, rfl⟩
  simp only [rx_, eC]
  unfold b__law_cut_far_3
  rw [wpSs_cons]
  simp only [rx_]
  generalize hM2 : mset M p (some d.o) = M2
  unfold b__law_cut_far_4
  refine @wp_seq G _ _ k _ _ (cutMid p (mtg a b m t) M2 (clipLo B m' t C) (clipHi A B m' t C) A B m' t T C L) ?_ ?_
  · simp only [rx_]
    unfold cutMid clipLo clipHi
    split
    · rename_i ht
      unfold b__law_cut_far_5
      rw [wpSs_cons]
      simp only [rx_]
    · rename_i ht
      unfold b__law_cut_far_6
      rw [wpSs_cons]
      simp only [rx_]
  · rintro ρ' M' ⟨rfl, rfl⟩
    unfold b__law_cut_far_7
    rw [wpSs_cons]
    have tail : ∀ u : Dt, wpSs G b__law_cut_far_10 k [some (.ref p), some (mtg a b m t), some (.int L), some (.int T), some (.int A), some (.int B), some (.int m'), some (.int t), some (.int C), some (.int (clipLo B m' t C)), some (.int (clipHi A B m' t C)), some u] M2 := by
      intro u
      unfold b__law_cut_far_10
      rw [wpSs_cons]
      simp only [rx_]
      refine hsw a b m t T _ _ _ (by omega) (by omega) ?_
      refine ⟨sz (by decide), ?_⟩
      rw [hA, hB, hm]
      refine hli _ _ _ _ _ like_m ?_
      rw [hrt, ← hM2]
      exact h d hd
    have go : ∀ z : Int, z = (if t = 1 then B + m' - clipHi A B m' t C else B + clipLo B m' t C) → wpSs G b__law_cut_far_8 k [some (.ref p), some (mtg a b m t), some (.int L), some (.int T), some (.int A), some (.int B), some (.int m'), some (.int t), some (.int C), some (.int (clipLo B m' t C)), some (.int (clipHi A B m' t C)), some (mtg (A + clipLo B m' t C) z (clipHi A B m' t C - clipLo B m' t C) t)] M2 := by
      rintro z hz
      unfold b__law_cut_far_8
      rw [wpSs_cons]
      simp only [rx_]
      refine ⟨sz (by decide), hcl A B m' t C _ _ _ ?_⟩
      by_cases hc : clipLo B m' t C < clipHi A B m' t C
      · have e : mtg (A + clipLo B m' t C) z (clipHi A B m' t C - clipLo B m' t C) t = clipD A B m' t C := by
          unfold clipD
          rw [if_neg (by omega), hz]
        simp only [hc, if_true]
        rw [e]
        refine hli _ _ _ _ _ like_clip ?_
        simp only [rx_]
        exact tail _
      · have e : clipD A B m' t C = .non := by
          unfold clipD
          rw [if_pos (by omega)]
        simp only [hc, if_false]
        rw [e]
        refine hli _ _ _ _ _ like_n ?_
        simp only [rx_]
        exact tail _
    simp only [rx_]
    split
    · rename_i ht
      exact ⟨sz (by decide), go _ (by rw [if_pos ht])⟩
    · rename_i ht
      exact ⟨sz (by decide), go _ (by rw [if_neg ht])⟩
end Fm

namespace K07
open Fm PySem L2 PySem.Spec PyProof.Rows
theorem txt_ok : txt.ok = true := by decide +kernel
theorem txt_once : txt.once = true := by decide +kernel
theorem txt_bind : AllBind txt.all := ⟨fun _ _ _ _ _ _ us hl => match us, hl with | [_, _], _ => rfl, fun _ _ _ _ _ _ us hl => match us, hl with | [_, _, _], _ => rfl, fun _ _ _ _ _ _ us hl => match us, hl with | [_, _], _ => rfl, fun _ _ _ _ _ _ us hl => match us, hl with | [_, _], _ => rfl, fun _ _ _ _ _ _ us hl => match us, hl with | [_, _], _ => rfl, fun _ _ _ _ _ _ us hl => match us, hl with | [_], _ => rfl, fun _ _ _ _ _ _ us hl => match us, hl with | [_, _], _ => rfl, fun _ _ _ _ _ _ us hl => match us, hl with | [_, _], _ => rfl, fun _ _ _ _ _ _ us hl => match us, hl with | [_, _], _ => rfl, fun _ _ _ _ _ _ us hl => match us, hl with | [_], _ => rfl, fun _ _ _ _ _ _ us hl => match us, hl with | [_, _], _ => rfl, fun _ _ _ _ _ _ us hl => match us, hl with | [_, _, _], _ => rfl, fun _ _ _ _ _ _ us hl => match us, hl with | [_], _ => rfl, fun _ _ _ _ _ _ us hl => match us, hl with | [_, _], _ => rfl, fun _ _ _ _ _ _ us hl => match us, hl with | [_, _, _], _ => rfl, trivial⟩

/-! ### which places stay -/
theorem fm_congr {α β : Type} {f g : α → Option β} : ∀ {l : List α}, (∀ x, x ∈ l → f x = g x) → l.filterMap f = l.filterMap g
  | [], _ => rfl
  | a :: l, h => by
    rw [List.filterMap_cons, List.filterMap_cons, h a List.mem_cons_self, fm_congr fun x hx => h x (List.mem_cons_of_mem _ hx)]
theorem filter_range {α : Type} (g : Nat → α) (lo hi : Nat) : ∀ n : Nat, (List.range n).filterMap (fun j => if lo ≤ j ∧ j < hi then some (g j) else none) = (List.range (min hi n - lo)).map fun i => g (lo + i)
  | 0 => by rw [Nat.min_zero, Nat.zero_sub]; rfl
  | n + 1 => by
    rw [List.range_succ, List.filterMap_append, filter_range g lo hi n]
    by_cases h : lo ≤ n ∧ n < hi
    · have e : min hi (n + 1) - lo = (min hi n - lo) + 1 := by omega
      rw [e, List.range_succ, List.map_append]
      congr 1
      show (match (if lo ≤ n ∧ n < hi then some (g n) else none) with
        | none => []
        | some b => [b]) = [g (lo + (min hi n - lo))]
      rw [if_pos h]
      have : lo + (min hi n - lo) = n := by omega
      rw [this]
    · have e : min hi (n + 1) - lo = min hi n - lo := by omega
      rw [e]
      show _ ++ (match (if lo ≤ n ∧ n < hi then some (g n) else none) with
        | none => []
        | some b => [b]) = _
      rw [if_neg h, List.append_nil]
def dueF (S : Int) (d : Dt) : Option Dt := match d with
  | .tup [.int x, .int y] => if max x y < S then some d else none
  | _ => none
def dueL (a b m t S : Int) : List Dt := if clipHi a b m t S ≤ clipLo b m t S then [] else
  endsL (a + clipLo b m t S) (if t = 1 then b + m - clipHi a b m t S else b + clipLo b m t S) (clipHi a b m t S - clipLo b m t S) t
theorem due_is {a b m t S : Int} (hm : 0 ≤ m) : (endsL a b m t).filterMap (dueF S) = dueL a b m t S := by
  have hlo : 0 ≤ clipLo b m t S := by unfold clipLo; split <;> omega
  have hhi : clipHi a b m t S ≤ m := by unfold clipHi; split <;> omega
  have e1 : (endsL a b m t).filterMap (dueF S) = (List.range m.toNat).filterMap (fun j => if (clipLo b m t S).toNat ≤ j ∧ j < (clipHi a b m t S).toNat then some (endP a b m t j) else none) := by
    unfold endsL
    rw [List.filterMap_map]
    refine fm_congr fun j hj => ?_
    rw [List.mem_range] at hj
    show (if max (a + (j : Int)) (if t = 1 then b + m - 1 - j else b + j) < S then some (endP a b m t j) else none) = _
    have : (max (a + (j : Int)) (if t = 1 then b + m - 1 - j else b + j) < S) ↔ ((clipLo b m t S).toNat ≤ j ∧ j < (clipHi a b m t S).toNat) := by
      unfold clipLo clipHi
      split <;> omega
    by_cases h : max (a + (j : Int)) (if t = 1 then b + m - 1 - j else b + j) < S
    · rw [if_pos h, if_pos (this.mp h)]
    · rw [if_neg h, if_neg fun z => h (this.mpr z)]
  rw [e1, filter_range]
  unfold dueL
  by_cases hc : clipHi a b m t S ≤ clipLo b m t S
  · rw [if_pos hc]
    have : min (clipHi a b m t S).toNat m.toNat - (clipLo b m t S).toNat = 0 := by omega
    rw [this]; rfl
  · rw [if_neg hc]
    have : min (clipHi a b m t S).toNat m.toNat - (clipLo b m t S).toNat = (clipHi a b m t S - clipLo b m t S).toNat := by omega
    rw [this]
    unfold endsL
    refine List.map_congr_left fun i hi => ?_
    rw [List.mem_range] at hi
    unfold endP
    congr 2
    · congr 1; omega
    · congr 2; split <;> omega
theorem plain_ends {a b m t : Int} {n : Nat} : ∀ d, d ∈ endsL a b m t → Plain (n + 1) d := by
  intro d hd
  obtain ⟨j, _, rfl⟩ := List.mem_map.mp hd
  intro x hx
  simp only [List.mem_cons, List.not_mem_nil, or_false] at hx
  rcases hx with rfl | rfl <;> (cases n <;> trivial)
theorem like_ends {M : Mm} {n : Nat} {a b m t : Int} : ∀ x, x ∈ endsL a b m t → Like M (n + 2) x x := by
  intro x hx
  obtain ⟨j, _, rfl⟩ := List.mem_map.mp hx
  refine like_t (by show 2 ≤ 16777216; decide) fun y hy => ?_
  simp only [List.mem_cons, List.not_mem_nil, or_false] at hy
  rcases hy with rfl | rfl <;> exact like_i
theorem len_ends {a b m t : Int} : (endsL a b m t).length = m.toNat := by
  unfold endsL
  rw [List.length_map, List.length_range]
local macro_rules
  | `(tactic| simp only [rx_]) => `(tactic| simp only [Int.reduceNeg, Int.reduceAdd, Int.reduceSub, Int.reduceMul, cpow_10, cpow_2, Int.reduceLE, Int.reduceLT, Int.reduceToNat, Int.reducePow, mset_same, mset_mset, Tgs.len, List.getElem?_cons_zero, List.getElem?_cons_succ, List.set_cons_zero, List.set_cons_succ, List.getElem?_nil, Option.some.injEq, exists_eq_left', exists_eq_left, true_and, and_true, if_true, if_false, Bool.false_eq_true, reduceCtorEq, Dt.int.injEq, Dt.bl.injEq, Dt.str.injEq, Dt.lst.injEq, Dt.tup.injEq, Dt.ref.injEq, decide_eq_true_eq, List.length_cons, List.length_nil, Nat.zero_add, Nat.reduceAdd, Option.map_some, Bool.not_true, Bool.not_false, atI_0, atI_1, atI_2, atI_3, atI_4, ixN_0, ixN_1, ixN_2, ixN_3, ixN_4, w_var, w_int, w_str, w_bl, w_non, w_glob, w_bin, w_neg, w_cmp, w_cmp2, w_bop, w_b1, w_b2, w_not, w_ite, w_tup, w_lst, w_ix, w_sl, w_call, w_bi, w_mt, w_isi, w_lc, w_frz, w_es0, w_es1, w_o0, w_o1, w_tval, w_tcmp, w_tcmp2, w_tnot, w_tall, w_tany, w_all0, w_all1, w_all2, w_any0, w_any1, w_any2, it_t, it_l, w_seq, w_rng1, w_rng2, w_zip, w_enm, w_gn, w_gt, w_gi, w_gs0, w_gs1, s_asg, s_asgC, s_par, s_aug, s_expr, s_if, s_for, s_while, s_ret, s_retN, s_brk, s_cont, s_pass, s_nil, frz_l, frz_m, bin_add, bin_adds, bin_sub, bin_mul, bin_fdiv, bin_mod, bin_pow, bin_xor, cmp_lt, cmp_le, cmp_gt, cmp_ge, cmp_eqi, cmp_eqs, cmp_eqb, cmp_nei, cmp_nes, cmp_neb, cmp_is0, cmp_is1, cmp_is2, cmp_is3, cmp_is4, cmp_is5, cmp_is6, cmp_isn0, cmp_isn1, cmp_isn2, cmp_isn3, cmp_isn4, cmp_isn5, cmp_in, cmp_notin, bi_lens, bi_lent, bi_lenl, bi_min, bi_max, bi_abs, bi_listT, bi_listL, bi_tupT, bi_tupL, bi_maxL, bi_minL, bi_sumL, bi_anyL, bi_allL, bi_sorted, seqL_l, items_l, items_t, items_m, w_gl, new_f, new_t, ix_t, ix_l, tru_b, tru_n, tru_i, tru_l, tru_t, isi_b, isi_bi, isi_ii, isi_ib, isi_is, isi_it, isi_il, isi_sb, isi_si, isi_ss, isi_tb, isi_ti, isi_ts, isi_tt, isi_tl, isi_lb, isi_li, isi_ls, isi_lt, isi_ll, isi_nb, isi_ni, isi_ns, isi_nt, isi_nl, ix_m, tru_m, bi_lenm, seqL_m, mt_appm, mt_popm, mtOk_appm, mtOk_popm, it_m, ixSt_m, w_why, w_mk, w_meth, w_fld, s_raise, s_setf, s_augf, s_delD, w_dnew, w_gst, w_gfld, w_slT, cmp_inp, cmp_notinp, mt_ins, mtOk_ins, w_lock, w_sit, w_dc, w_items, s_lock, s_par3, bin_cat, bi_sortedK, bi_dictD, Fm.mt_popAt, mtOk_popAt, s_tryR, bin_subb, bin_bsub, bin_badd, w_mkO, w_methO, w_maxO, cmp_neT, bin_rep, w_revS, w_lrng, w_gst4, s_tryN, w_srtSet, w_lenSet, bi_sortedKS, mt_cnt, mt_idx, mtOk_cl, mtOk_il])
  | `(tactic| simp only [rx_, $ts,*]) => `(tactic| simp only [Int.reduceNeg, Int.reduceAdd, Int.reduceSub, Int.reduceMul, cpow_10, cpow_2, Int.reduceLE, Int.reduceLT, Int.reduceToNat, Int.reducePow, mset_same, mset_mset, Tgs.len, List.getElem?_cons_zero, List.getElem?_cons_succ, List.set_cons_zero, List.set_cons_succ, List.getElem?_nil, Option.some.injEq, exists_eq_left', exists_eq_left, true_and, and_true, if_true, if_false, Bool.false_eq_true, reduceCtorEq, Dt.int.injEq, Dt.bl.injEq, Dt.str.injEq, Dt.lst.injEq, Dt.tup.injEq, Dt.ref.injEq, decide_eq_true_eq, List.length_cons, List.length_nil, Nat.zero_add, Nat.reduceAdd, Option.map_some, Bool.not_true, Bool.not_false, atI_0, atI_1, atI_2, atI_3, atI_4, ixN_0, ixN_1, ixN_2, ixN_3, ixN_4, w_var, w_int, w_str, w_bl, w_non, w_glob, w_bin, w_neg, w_cmp, w_cmp2, w_bop, w_b1, w_b2, w_not, w_ite, w_tup, w_lst, w_ix, w_sl, w_call, w_bi, w_mt, w_isi, w_lc, w_frz, w_es0, w_es1, w_o0, w_o1, w_tval, w_tcmp, w_tcmp2, w_tnot, w_tall, w_tany, w_all0, w_all1, w_all2, w_any0, w_any1, w_any2, it_t, it_l, w_seq, w_rng1, w_rng2, w_zip, w_enm, w_gn, w_gt, w_gi, w_gs0, w_gs1, s_asg, s_asgC, s_par, s_aug, s_expr, s_if, s_for, s_while, s_ret, s_retN, s_brk, s_cont, s_pass, s_nil, frz_l, frz_m, bin_add, bin_adds, bin_sub, bin_mul, bin_fdiv, bin_mod, bin_pow, bin_xor, cmp_lt, cmp_le, cmp_gt, cmp_ge, cmp_eqi, cmp_eqs, cmp_eqb, cmp_nei, cmp_nes, cmp_neb, cmp_is0, cmp_is1, cmp_is2, cmp_is3, cmp_is4, cmp_is5, cmp_is6, cmp_isn0, cmp_isn1, cmp_isn2, cmp_isn3, cmp_isn4, cmp_isn5, cmp_in, cmp_notin, bi_lens, bi_lent, bi_lenl, bi_min, bi_max, bi_abs, bi_listT, bi_listL, bi_tupT, bi_tupL, bi_maxL, bi_minL, bi_sumL, bi_anyL, bi_allL, bi_sorted, seqL_l, items_l, items_t, items_m, w_gl, new_f, new_t, ix_t, ix_l, tru_b, tru_n, tru_i, tru_l, tru_t, isi_b, isi_bi, isi_ii, isi_ib, isi_is, isi_it, isi_il, isi_sb, isi_si, isi_ss, isi_tb, isi_ti, isi_ts, isi_tt, isi_tl, isi_lb, isi_li, isi_ls, isi_lt, isi_ll, isi_nb, isi_ni, isi_ns, isi_nt, isi_nl, ix_m, tru_m, bi_lenm, seqL_m, mt_appm, mt_popm, mtOk_appm, mtOk_popm, it_m, ixSt_m, w_why, w_mk, w_meth, w_fld, s_raise, s_setf, s_augf, s_delD, w_dnew, w_gst, w_gfld, w_slT, cmp_inp, cmp_notinp, mt_ins, mtOk_ins, w_lock, w_sit, w_dc, w_items, s_lock, s_par3, bin_cat, bi_sortedK, bi_dictD, Fm.mt_popAt, mtOk_popAt, s_tryR, bin_subb, bin_bsub, bin_badd, w_mkO, w_methO, w_maxO, cmp_neT, bin_rep, w_revS, w_lrng, w_gst4, s_tryN, w_srtSet, w_lenSet, bi_sortedKS, mt_cnt, mt_idx, mtOk_cl, mtOk_il, $ts,*])
theorem law_is : LawIs txt 41 76 := by
  intro ns hns
  have hop : OpenOk ((Gn txt 40).call 50) := open_ok (Gn txt 39)
  have hpu : PullOk ((Gn txt 40).call 51) := pull_ok (Gn txt 39)
  have hma : MatingOk ((Gn txt 40).call 65) := mating_ok (Gn txt 39) (pull_ok (Gn txt 38))
  have hen : EndsOk ((Gn txt 40).call 66) := ends_ok (Gn txt 39)
  have hmo : MovedOk ((Gn txt 40).call 8) := moved_ok (Gn txt 39)
  have hsw : SwelledOk ((Gn txt 40).call 9) := swelled_ok (Gn txt 39)
  have hcl : ClippedOk ((Gn txt 40).call 10) := clipped_ok (Gn txt 39) (part_ok (Gn txt 38) (led_ok (Gn txt 37)))
  have hcu : CutOk ((Gn txt 40).call 75) := cut_ok (Gn txt 39) (pull_ok (Gn txt 38)) (scaled_ok (Gn txt 38)) (clipped_ok (Gn txt 38) (part_ok (Gn txt 37) (led_ok (Gn txt 36)))) (swelled_ok (Gn txt 38)) (like_all rfl rfl rfl rfl 2 39 (by decide))
  have hli : ∀ n, n ≤ 4 → LikeOk n ((Gn txt 40).call 53) := fun n h => like_all rfl rfl rfl rfl n 40 (by omega)
  rw [Gn_call (T := txt) (d := d_law) rfl 40]
  generalize Gn txt 40 = G at hop hpu hma hen hmo hsw hcl hcu hli
  refine ⟨rfl, ?_⟩
  have e0 : startR d_law.N [.lst (ns.map .int)] = [some (.lst (ns.map .int)), none, none, none, none, none, none, none, none, none, none, none, none, none, none, none] := rfl
  rw [e0]
  show wpSs G b_law_0 _ _ _
  generalize hk : bodyK (fun d _ => d = .bl true) (fun _ _ => False) = k
  have hrt : ∀ M, k.rt (.bl true) M := by intro M; rw [← hk]; rfl
  unfold b_law_0
  rw [wpSs_cons]
  simp only [rx_]
  refine hop ns _ _ _ hns fun p d hp hd => ?_
  unfold b_law_1
  rw [wpSs_cons]
  simp only [rx_]
  refine forRun_inv (fun _ ρ' M' => ∃ (d : Drw) (o2 o3 o4 o5 o6 o7 o8 o9 o10 o11 o12 o13 o14 : Option Dt), d.Ok ∧ ρ' = [some (.lst (ns.map .int)), some (.ref p), o2, o3, o4, o5, o6, o7, o8, o9, o10, o11, o12, o13, o14, none] ∧ M' p = some d.o) ⟨d, _, _, _, _, _, _, _, _, _, _, _, _, _, hd, rfl, mset_same⟩ (fun _ _ _ _ => trivial) ?_ ?_
  · rintro i v ρ' M n - ⟨d, o2, o3, o4, o5, o6, o7, o8, o9, o10, o11, o12, o13, o14, hd, rfl, hM⟩ hn
    simp only [rx_]
    unfold b_law_2
    rw [wpSs_cons]
    simp only [rx_]
    refine hpu p 16 d _ _ _ hM hd (by decide) (by decide) fun r d hd r0 r1 => ?_
    simp only [rx_]
    generalize hL : 1 + r = L
    unfold b_law_3
    rw [wpSs_cons]
    simp only [rx_]
    refine hma p L d _ _ _ mset_same hd (by omega) (by omega) fun a b m t d hd a0 b0 m1 a1 b1 ht => ?_
    try simp only [rx_]
    unfold b_law_4
    rw [wpSs_cons]
    simp only [rx_]
    refine hpu.go hd (by decide) (by decide) fun y d hd y0 y1 => ?_
    try simp only [rx_]
    refine hpu.go hd (by decide) (by decide) fun z d hd z0 z1 => ?_
    try simp only [rx_]
    refine ⟨sz (by decide), ?_⟩
    generalize hT : 1 + z = T
    have hMp : ∀ M' : Mm, M' = mset M p (some d.o) → M' p = some d.o := by
      intro M' e
      rw [e, mset_same]
    generalize mset M p (some d.o) = M1 at hMp
    have hMp := hMp M1 rfl
    clear hM
    unfold b_law_5
    rw [wpSs_cons]
    simp only [rx_]
    refine hen a b m t _ _ _ (by omega) (by omega) ?_
    unfold b_law_6
    rw [wpSs_cons]
    simp only [rx_]
    refine hmo a b m t y _ _ _ ?_
    refine hen (a + y) (b + y) m t _ _ _ (by omega) (by omega) ?_
    let f : Dt → Option Dt := fun d => match d with
      | .tup [.int u, .int w] => some (.tup [.int (u + y), .int (w + y)])
      | _ => none
    have hfm : (endsL a b m t).filterMap f = endsL (a + y) (b + y) m t := by
      unfold endsL
      rw [List.filterMap_map, ← List.filterMap_eq_map]
      refine fm_congr fun j hj => ?_
      show some (Dt.tup [.int (a + j + y), .int ((if t = 1 then b + m - 1 - (j : Int) else b + j) + y)]) = some (endP (a + y) (b + y) m t j)
      unfold endP
      congr 3
      · congr 1; omega
      · congr 2; split <;> omega
    refine lcRun_map f _ _ ?_ (by rw [len_ends]; show 0 + _ ≤ 16777216; omega) ?_
    · intro d1 hd1 k1 hk1
      obtain ⟨j, hj, rfl⟩ := List.mem_map.mp hd1
      have w : ∀ (a b c d e f g h i l o p q r : Option Dt), wipeR [a, b, c, d, e, f, g, h, i, l, o, p, q, r, o14, none] ([(("_law_one" : Str), 9), ("_law_other", 10)].map (·.2)) = [a, b, c, d, e, f, g, h, i, none, none, p, q, r, o14, none] := fun _ _ _ _ _ _ _ _ _ _ _ _ _ _ => rfl
      rw [w]
      unfold endP at hk1 ⊢
      simp only [rx_]
      exact ⟨sz (by decide), hk1⟩
    rw [List.nil_append, hfm]
    refine hli 3 (by decide) _ _ _ _ _ (like_l (by rw [len_ends]; omega) like_ends) ?_
    simp only [rx_]
    unfold b_law_8
    rw [wpSs_cons]
    simp only [rx_]
    refine ⟨sz (by decide), fun p8 hp8 => ?_⟩
    have hp8p : p ≠ p8 := by
      intro e
      rw [← e, hMp] at hp8
      cases hp8
    unfold b_law_9
    rw [wpSs_cons]
    simp only [rx_]
    obtain ⟨Tn, hTn⟩ : ∃ Tn : Nat, T = Tn := ⟨T.toNat, by omega⟩
    obtain ⟨mn, hmn⟩ : ∃ mn : Nat, m = mn := ⟨m.toNat, by omega⟩
    let W (c : Nat) : Mm := mset M1 p8 (some (.lst ((List.range c).map (endP (a * T) (b * T) (m * T) t))))
    refine forRun_inv (fun j ρ' M' => ∃ (o9 o10 o11 : Option Dt), ρ' = [some (.lst (ns.map .int)), some (.ref p), some v, some (.int L), some (mtg a b m t), some (.int y), some (.int T), some (.lst (endsL a b m t)), some (.ref p8), o9, o10, o11, o12, o13, o14, none] ∧ M' = W (j * Tn)) ⟨_, _, _, rfl, by rw [Nat.zero_mul]; rfl⟩ (fun _ _ _ _ => trivial) ?_ ?_
    · rintro j w ρ' M' n1 hw ⟨o9, o10, o11, rfl, rfl⟩ hn1
      have hj : j < mn := by
        have := (List.getElem?_eq_some_iff.mp hw).1
        rw [len_ends] at this
        omega
      have ew : w = endP a b m t j := by
        unfold endsL at hw
        rw [List.getElem?_map, List.getElem?_range (by omega)] at hw
        exact (Option.some.inj hw).symm
      subst ew
      unfold endP
      simp only [rx_]
      unfold b_law_10
      rw [wpSs_cons]
      simp only [rx_]
      refine ⟨by omega, by omega, ?_⟩
      refine forRun_inv (fun c ρ' M' => ∃ (o11 : Option Dt), ρ' = [some (.lst (ns.map .int)), some (.ref p), some v, some (.int L), some (mtg a b m t), some (.int y), some (.int T), some (.lst (endsL a b m t)), some (.ref p8), some (.int (a + j)), some (.int (if t = 1 then b + m - 1 - j else b + j)), o11, o12, o13, o14, none] ∧ M' = W (j * Tn + c)) ⟨_, rfl, rfl⟩ (fun _ _ _ _ => trivial) ?_ ?_
      · rintro c w ρ' M' n2 hw ⟨o11, rfl, rfl⟩ hn2
        have hc : c < Tn := by
          have := (List.getElem?_eq_some_iff.mp hw).1
          rw [List.length_map, List.length_range] at this
          omega
        have ew : w = .int (c : Int) := by
          rw [List.getElem?_map, List.getElem?_range (by omega)] at hw
          exact (Option.some.inj hw).symm
        subst ew
        simp only [rx_]
        unfold b_law_11
        rw [wpSs_cons]
        have hle : j * Tn + c < 16777216 := by
          have h1 : j * Tn ≤ 20 * 5 := Nat.mul_le_mul (by omega) (by omega)
          omega
        have fin : ∀ u w2 : Int, u = (a + j) * T + c → w2 = (if t = 1 then b + m - 1 - j else b + j) * T + (if t = 1 then T - 1 - c else c) → 2 ≤ sizeLine ∧ (List.map (endP (a * T) (b * T) (m * T) t) (List.range (j * Tn + c))).length < sizeLine ∧
            n2 [some (.lst (ns.map .int)), some (.ref p), some v, some (.int L), some (mtg a b m t), some (.int y), some (.int T), some (.lst (endsL a b m t)), some (.ref p8), some (.int (a + j)), some (.int (if t = 1 then b + m - 1 - j else b + j)), some (.int (c : Int)), o12, o13, o14, none] (mset M1 p8 (some (.lst (List.map (endP (a * T) (b * T) (m * T) t) (List.range (j * Tn + c)) ++ [.tup [.int u, .int w2]])))) := by
          intro u w2 hu hw2
          refine ⟨sz (by decide), by rw [List.length_map, List.length_range]; show _ < 16777216; exact hle, hn2 _ _ ⟨_, rfl, ?_⟩⟩
          show _ = mset M1 p8 (some (.lst ((List.range (j * Tn + (c + 1))).map (endP (a * T) (b * T) (m * T) t))))
          rw [show j * Tn + (c + 1) = (j * Tn + c) + 1 from rfl, List.range_succ, List.map_append]
          have e2 : Dt.tup [.int u, .int w2] = endP (a * T) (b * T) (m * T) t (j * Tn + c) := by
            unfold endP
            have hcast : ((j * Tn + c : Nat) : Int) = (j : Int) * T + c := by
              rw [hTn, Int.natCast_add, Int.natCast_mul]
            rw [hcast]
            congr 2
            · congr 1
              rw [hu, Int.add_mul]; omega
            · congr 2
              rw [hw2]
              by_cases h1 : t = 1
              · rw [if_pos h1, if_pos h1, if_pos h1]
                have : (b + m - 1 - (j : Int)) * T = b * T + m * T - T - j * T := by
                  rw [Int.sub_mul, Int.sub_mul, Int.add_mul, Int.one_mul]
                omega
              · rw [if_neg h1, if_neg h1, if_neg h1, Int.add_mul]; omega
          rw [e2]; rfl
        have mT : mulOk (a + j) T ∧ mulOk (if t = 1 then b + m - 1 - (j : Int) else b + j) T := ⟨mul_r (by omega) (by omega), mul_r (by omega) (by omega)⟩
        show wpS G _ _ _ (mset M1 p8 (some (.lst ((List.range (j * Tn + c)).map (endP (a * T) (b * T) (m * T) t)))))
        by_cases h1 : t = 1
        · simp only [h1, if_true, if_false] at mT fin
          simp only [rx_, h1]
          refine ⟨mT.1, mT.2, ?_⟩
          exact fin _ _ rfl rfl
        · simp only [h1, if_true, if_false] at mT fin
          simp only [rx_, h1]
          refine ⟨mT.1, mT.2, ?_⟩
          exact fin _ _ rfl rfl
      · rintro ρ' M' ⟨o11, rfl, rfl⟩
        refine hn1 _ _ ⟨_, _, _, rfl, ?_⟩
        rw [List.length_map, List.length_range]
        have : T.toNat = Tn := by omega
        rw [this, Nat.add_mul, Nat.one_mul]
    · rintro ρ' M' ⟨o9, o10, o11, rfl, hW⟩
      have hW' : M' = mset M1 p8 (some (.lst (endsL (a * T) (b * T) (m * T) t))) := by
        rw [hW, len_ends]
        show mset M1 p8 _ = _
        unfold endsL
        have : (m * T).toNat = m.toNat * Tn := by
          rw [hmn, hTn, ← Int.natCast_mul, Int.toNat_natCast, Int.toNat_natCast]
        rw [this]
      subst hW'
      clear hW
      unfold b_law_12
      rw [wpSs_cons]
      simp only [rx_]
      have hmT : 0 ≤ m * T ∧ m * T ≤ 20 * 5 := ⟨Int.mul_nonneg (by omega) (by omega), Int.mul_le_mul (by omega) (by omega) (by omega) (by decide)⟩
      refine hsw a b m t T _ _ _ (by omega) (by omega) ?_
      refine hen (a * T) (b * T) (m * T) t _ _ _ hmT.1 (by omega) ?_
      refine hli 3 (by decide) _ _ _ _ _ (like_q (t := false) (xs := endsL (a * T) (b * T) (m * T) t) (.inr ⟨rfl, .inl rfl⟩) (.inr ⟨rfl, .inr ⟨_, rfl, mset_same⟩⟩) (by rw [len_ends]; omega) like_ends) ?_
      simp only [rx_]
      generalize hM3 : mset M1 p8 (some (.lst (endsL (a * T) (b * T) (m * T) t))) = M3
      have r1 : M3 p = some d.o := by rw [← hM3, mset_ne hp8p, hMp]
      clear hM3
      unfold b_law_14
      rw [wpSs_cons]
      simp only [rx_]
      refine ⟨by omega, by omega, ?_⟩
      refine forRun_inv (fun _ ρ' M' => ∃ (o12 o13 o14 : Option Dt), ρ' = [some (.lst (ns.map .int)), some (.ref p), some v, some (.int L), some (mtg a b m t), some (.int y), some (.int T), some (.lst (endsL a b m t)), some (.ref p8), o9, o10, o11, o12, o13, o14, none] ∧ M3 = M') ⟨_, _, _, rfl, rfl⟩ (fun _ _ _ _ => trivial) ?_ ?_
      · rintro c w ρ' M' n2 hw ⟨o12, o13, o14, rfl, rfl⟩ hn2
        obtain ⟨S, rfl⟩ : ∃ S : Int, w = .int S := by
          obtain ⟨j, -, e⟩ := List.mem_map.mp (List.mem_of_getElem? hw)
          exact ⟨_, e.symm⟩
        simp only [rx_]
        unfold b_law_15
        rw [wpSs_cons]
        simp only [rx_]
        refine lcRun_map (dueF S) _ _ ?_ (by rw [len_ends]; show 0 + _ ≤ 16777216; omega) ?_
        · intro d1 hd1 k1 hk1
          obtain ⟨j, hj, rfl⟩ := List.mem_map.mp hd1
          have w : ∀ (a b c d e f g h i l o p q r s : Option Dt), wipeR [a, b, c, d, e, f, g, h, i, l, o, p, q, r, s, none] ([(("_law_pair" : Str), 15)].map (·.2)) = [a, b, c, d, e, f, g, h, i, l, o, p, q, r, s, none] := fun _ _ _ _ _ _ _ _ _ _ _ _ _ _ _ => rfl
          rw [w]
          generalize hu : (a + (j : Int)) = u
          generalize hv : (if t = 1 then b + m - 1 - (j : Int) else b + j) = v2
          have ep : endP a b m t j = .tup [.int u, .int v2] := by
            unfold endP
            rw [hu, hv]
          rw [ep] at hk1 ⊢
          have hk1' : k1 (if max u v2 < S then some (.tup [.int u, .int v2]) else none) M3 := hk1
          simp only [rx_]
          refine ⟨[u, v2], rfl, by show 0 < 2; decide, fun x hx hmax => ?_⟩
          have hx2 : x = max u v2 := by
            have h1 := hmax u (by simp)
            have h2 := hmax v2 (by simp)
            simp only [List.mem_cons, List.not_mem_nil, or_false] at hx
            omega
          rw [hx2]
          by_cases hS : max u v2 < S
          · rw [if_pos hS] at hk1' ⊢
            exact hk1'
          · rw [if_neg hS] at hk1' ⊢
            exact hk1'
        rw [List.nil_append, due_is (by omega)]
        unfold b_law_16
        rw [wpSs_cons]
        simp only [rx_]
        refine hcl a b m t S _ _ _ ?_
        unfold b_law_17
        rw [wpSs_cons]
        have pl : ∀ d, d ∈ dueL a b m t S → Plain 60 d := by
          intro d hd
          unfold dueL at hd
          split at hd
          · cases hd
          · exact plain_ends d hd
        simp only [rx_, cmp_eq_nil pl]
        refine ⟨sz (by decide), ?_⟩
        have done : ∀ (u w2 : Dt), n2 [some (.lst (ns.map .int)), some (.ref p), some v, some (.int L), some (mtg a b m t), some (.int y), some (.int T), some (.lst (endsL a b m t)), some (.ref p8), o9, o10, o11, some (.int S), some u, some w2, none] M3 := fun u w2 => hn2 _ _ ⟨_, _, _, rfl, rfl⟩
        by_cases hc : clipHi a b m t S ≤ clipLo b m t S
        · have e1 : dueL a b m t S = [] := by unfold dueL; rw [if_pos hc]
          have e2 : clipD a b m t S = .non := by unfold clipD; rw [if_pos hc]
          rw [e1, e2]
          simp only [rx_, List.isEmpty_nil]
          unfold b_law_18
          rw [wpSs_cons]
          simp only [rx_]
          exact done _ _
        · have hlo : 0 ≤ clipLo b m t S := by unfold clipLo; split <;> omega
          have hhi : clipHi a b m t S ≤ m := by unfold clipHi; split <;> omega
          have e1 : dueL a b m t S = endsL (a + clipLo b m t S) (if t = 1 then b + m - clipHi a b m t S else b + clipLo b m t S) (clipHi a b m t S - clipLo b m t S) t := by unfold dueL; rw [if_neg hc]
          have e2 : clipD a b m t S = mtg (a + clipLo b m t S) (if t = 1 then b + m - clipHi a b m t S else b + clipLo b m t S) (clipHi a b m t S - clipLo b m t S) t := by unfold clipD; rw [if_neg hc]
          have e3 : (dueL a b m t S).isEmpty = false := by
            have : (dueL a b m t S).length ≠ 0 := by rw [e1, len_ends]; omega
            cases hq : dueL a b m t S with
            | nil => rw [hq] at this; exact absurd rfl this
            | cons _ _ => rfl
          rw [e3, e1, e2]
          generalize (if t = 1 then b + m - clipHi a b m t S else b + clipLo b m t S) = B2
          generalize clipLo b m t S = lo at hc hlo ⊢
          generalize clipHi a b m t S = hi at hc hhi ⊢
          simp only [rx_]
          unfold b_law_20
          rw [wpSs_cons]
          simp only [rx_]
          refine hen _ _ _ _ _ _ _ (by omega) (by omega) ?_
          refine hli 3 (by decide) _ _ _ _ _ (like_l (by rw [len_ends]; omega) like_ends) ?_
          simp only [rx_, decide_true]
          exact done _ _
      · rintro ρ' M' ⟨o12, o13, o14, rfl, rfl⟩
        unfold b_law_22
        rw [wpSs_cons]
        simp only [rx_]
        refine hcu p a b m t L d _ _ _ r1 hd a0 b0 (by omega) (by omega) fun d hd => ?_
        simp only [rx_]
        exact hn _ _ ⟨d, _, _, _, _, _, _, _, _, _, _, _, _, _, hd, rfl, mset_same⟩
  · rintro ρ' M' ⟨d, o2, o3, o4, o5, o6, o7, o8, o9, o10, o11, o12, o13, o14, hd, rfl, hM⟩
    unfold b_law_24
    rw [wpSs_cons]
    simp only [rx_]
    exact hrt _

end K07

namespace K07
open Fm PySem L2 PySem.Spec PyProof.Rows
abbrev hk : PySem.W.Hook := hookF 4 txt
theorem ob_eq (s : PySem.W.SharedT) : ob s = hk.obs s.abs := obsF_eq (HandSHeadRun.getT_eq s)
theorem run (w : World) : HandSHeadRun.RunEq R (PySem.W.view R.prog [17]) hk ob 20000 loose w := fun os => run0 w os
end K07
open PySem PySem.W PySem.Calls PyProof.Rows
theorem PySem.Challenge.cw_farmates_k07_matings_moved_swelled_clipp_holds : PySem.Challenge.rw_farmates_k07_matings_moved_swelled_clipp.Holds := by
  w_on; o_law
  refine HandSHeadRun.head_any (r := OpenLaw.row PySem.Challenge.rw_farmates_k07_matings_moved_swelled_clipp) (q := view (OpenLaw.row PySem.Challenge.rw_farmates_k07_matings_moved_swelled_clipp).prog [17]) (H := K07.hk) (ob := K07.ob) (M := 20000) (loose := K07.loose) (d := HandSHeadRun.topDef (OpenLaw.row PySem.Challenge.rw_farmates_k07_matings_moved_swelled_clipp).prog 17) (kwd := []) K07.ob_eq
    (by kernel_rfl) (fun s => by kernel_rfl) K07.run (by kernel_rfl) (by kernel_rfl) (by kernel_rfl) (by rfl) (by first | assumption | decide +kernel) (by decide +kernel) ⟨rfl, rfl, rfl, rfl, rfl, by decide +kernel⟩ ?hw ?hc
  case hw => w_witness2
  case hc =>
    exact Fm.law_end (l := PySem.Challenge.rw_farmates_k07_matings_moved_swelled_clipp) (T := K07.txt) (n := 40) (g := 76) (lw := K07.d_law) (x := "_law_script") K07.txt_ok K07.txt_once K07.txt_bind rfl rfl rfl rfl rfl (by kernel_rfl) (by kernel_rfl) ⟨rfl, by decide, by decide⟩ K07.law_is (fun w h Y => Y)
#print axioms PySem.Challenge.cw_farmates_k07_matings_moved_swelled_clipp_holds
