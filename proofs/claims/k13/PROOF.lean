import PyProof.Rows.All
import Wide.All
import OpenK.AllK
import Wide.FinOn
import HandS.ForMost
import HandS.ForExc
import HandS.ExcInit
import KE.KExcSuper
import KE.KSuper
import HandS.Head0
import HandS.Head1
import HandS.Head2
import HandS.HeadEnd
import HandS.HeadHook1
import HandS.HeadHook2
import HandS.Defaults
import PySem.Challenge.RW_nestedrules_k13_question_forms
import HandS.Set
import HandS.Strs
import HandS.TupSets
import HandS.Rev
import HandS.RevTup
import HandS.More
import HandS.OwnEq
import KE.KCallOwn
import PyProof.ListNew
import HandS.TupAny
import HandS.Wide
import HandS.IsInst
import HandS.Conv
import HandS.RaiseMore
import HandS.Deep
import HandS.ExcIs
import HandS.HotCalls
import HandS.ExcOwn
import HandS.WordsExc
import KE.KExcIs
import HandS.Style
import HandS.Zip
import HandS.Star
import HandS.Flow
import HandS.TryMany
import HandS.Text
import HandS.Nested
import HandS.ClsMeth
/-! NbH -/
set_option Elab.async false
set_option linter.all false
set_option maxRecDepth 100000
set_option maxHeartbeats 4000000
/-! NbH: what the head's run needs: first in the joined text. -/
namespace Nb
open PySem PySem.Spec L2 He
open PyProof.Rows hiding St
/-- a value as a tree: tuples, frozen lists and frozen instances by content, what may change by address -/
inductive PV where
  | non | bl (b : Bool) | int (i : Int) | str (x : Str)
  | tup (xs : List PV) | lst (xs : List PV) | kl (xs : List PV) | obj (c : Nat) (fs : List (Nat × PV))
  | ref (a : Addr) | raw (v : V) | exc (c : Nat) (fs : List (Nat × PV))
instance : Inhabited PV := ⟨.non⟩

/-- built-in functions and types, called -/
inductive Bf where
  | len | list | tuple | str | int | max | min | sorted | abs | sum | bool
  deriving DecidableEq
def Bf.nm : Bf → Str
  | .len => "len" | .list => "list" | .tuple => "tuple" | .str => "str" | .int => "int" | .max => "max" | .min => "min" | .sorted => "sorted" | .abs => "abs" | .sum => "sum" | .bool => "bool"
def tyL : List String := ["int", "str", "tuple", "list", "bool", "dict", "ValueError"]
/-- a fact of the written part -/
inductive Nf where
  | glo (x : Str) | free (x : Str) | str (x z : Str) | int (x : Str) (i : Int)
  | cls (x : Str) | noat (x f : Str) | meth (x m : Str) | mkr (x : Str)
  | exc (x : Str) | ini (x file : Str)
  | exm (x y : Str) (b : Bool) | kit (x y : Str) (b : Bool) | kty (x : Str) (t : String) (b : Bool) | ktf (t : String) (x : Str)
  | sub (x y : Str)
  | sini (x file : Str) | supr (d c y : Str) | inh (x m y : Str)
  | stat
def oexB (K : PySem.W.Frag) (C : Addr) : Bool := match K.lookup C with
  | some ⟨.type t, _, .cls cd, sl⟩ => (match cd.mro, sl.toList with
    | .ref C' :: bm, [_, _, _, _, some (.builtin n), _] => decide (t = "type") && decide (C' = C) && decide (n = "ValueError.__new__") && cd.hasDict && !cd.hasDel && HandSPX.refsVE bm
    | _, _ => false)
  | _ => false
def fileB (K : PySem.W.Frag) (cda : Addr) (file : Str) : Bool := match K.lookup cda with
  | some ⟨_, _, .fields vs, _⟩ => (match (vs[2]? : Option Value) with
    | some (Value.str f _) => decide (f = file)
    | _ => false)
  | _ => false
def cellB (K : PySem.W.Frag) (cc C : Addr) : Bool := match K.lookup cc with
  | some ⟨_, _, .cell (some (Value.ref D)), _⟩ => decide (D = C)
  | _ => false
def cloB (K : PySem.W.Frag) (C : Addr) (q file : Str) : Value → List (Str × Addr) → Bool
  | .ref cda, [(_, cc)] => PySem.W.codeIn K (.ref cda) q && (fileB K cda file && cellB K cc C)
  | _, _ => false
def iniB (K : PySem.W.Frag) (C : Addr) (file : Str) : Bool := match K.lookup (ma K C "__init__") with
  | some ⟨_, _, .func fd, _⟩ => cloB K C fd.qualname file fd.code fd.closure
  | _ => false
theorem fileB_ok {K : PySem.W.Frag} {cda : Addr} {file : Str} (h : fileB K cda file = true) : ∃ ccl cdd vs ccs tf, K.lookup cda = some ⟨ccl, cdd, .fields vs, ccs⟩ ∧ vs[2]? = some (.str file tf) := by
  unfold fileB at h
  split at h
  · rename_i a b vs d ho
    split at h
    · rename_i f t hf
      have e := of_decide_eq_true h
      subst e
      exact ⟨_, _, vs, _, t, ho, hf⟩
    · cases h
  · cases h
theorem cellB_ok {K : PySem.W.Frag} {cc C : Addr} (h : cellB K cc C = true) : ∃ cl cld csl, K.lookup cc = some ⟨cl, cld, .cell (some (.ref C)), csl⟩ := by
  unfold cellB at h
  split at h
  · rename_i a b D d ho
    have e := of_decide_eq_true h
    subst e
    exact ⟨_, _, _, ho⟩
  · cases h
def Nf.ok (K : PySem.W.Frag) : Nf → Bool
  | .glo x => eqO (PySem.W.nsIn K mainGlobals x) (some (some (.ref (ga K x))))
  | .free x => eqO (PySem.W.nsIn K mainGlobals x) (some none)
  | .str x z => (Fa.str x z).ok K
  | .int x i => (Fa.int x i).ok K
  | .cls x => (Fa.cls x).ok K && (eqO (PySem.W.findIn K (.ref (ga K x)) "__class__") (some (some (.builtin "object.__class__"))) && (eqO (PySem.W.specialIn K (.builtin "object.__class__") "__get__") (some (some (.builtin "getset_descriptor.__get__"))) &&
      (decide (PySem.W.takesIn K (.builtin "object.__class__") = some true) && (decide (PySem.W.mroIn K (ga K x) (.type "object") = some true) && eqO (PySem.W.findIn K (.ref (ga K x)) "__ne__") (some (some (.builtin "object.__ne__")))))))
  | .noat x f => eqO (PySem.W.findIn K (.ref (ga K x)) f) (some none)
  | .meth x m => (Fa.meth x m).ok K
  | .mkr x => (Fa.mkr x).ok K
  | .exc x => oexB K (ga K x) && (PySem.W.keepIn K (.ref (ga K x)) && (decide (PySem.W.subIn K (.ref (ga K x)) (.type "BaseException") = some true) && (decide (PySem.W.typeIn K (.ref (ga K x)) = some (.type "type")) &&
      (eqO (PySem.W.findIn K (.ref (ga K x)) "__setattr__") (some (some (.builtin "object.__setattr__"))) && (eqO (PySem.W.findIn K (.ref (ga K x)) "__getattribute__") (some (some (.builtin "BaseException.__getattribute__"))) && (eqO (PySem.W.findIn K (.ref (ga K x)) "__getattr__") (some none) &&
      (PySem.W.hasDictIn K (ga K x) && (eqO (PySem.W.findIn K (.ref (ga K x)) "__class__") (some (some (.builtin "object.__class__"))) && (eqO (PySem.W.specialIn K (.builtin "object.__class__") "__get__") (some (some (.builtin "getset_descriptor.__get__"))) &&
      (decide (PySem.W.takesIn K (.builtin "object.__class__") = some true) && decide (PySem.W.mroIn K (ga K x) (.type "object") = some true)))))))))))
  | .ini x file => iniB K (ga K x) file && (eqO (PySem.W.findIn K (.ref (ga K x)) "__init__") (some (some (.ref (ma K (ga K x) "__init__")))) && (decide (PySem.W.typeIn K (.ref (ma K (ga K x) "__init__")) = some (.type "function")) &&
      (eqO (PySem.W.ks_superIn K (ga K x) (ga K x) "__init__") (some (some (.builtin "ValueError.__init__"))) && (decide (PySem.W.subIn K (.ref (ga K x)) (.type "ValueError") = some true) && decide (PySem.W.mroIn K (ga K x) (.ref (ga K x)) = some true)))))
  | .exm x y b => decide (PySem.W.exmOne K (.ref (ga K x)) (.ref (ga K y)) = some b)
  | .kit x y b => decide (PySem.W.kitOne K (.ref (ga K x)) (.ref (ga K y)) = some b)
  | .kty x t b => decide (PySem.W.kitOne K (.ref (ga K x)) (.type t) = some b)
  | .ktf t x => decide (PySem.W.kitOne K (.type t) (.ref (ga K x)) = some false)
  | .sub x y => decide (PySem.W.subIn K (.ref (ga K x)) (.ref (ga K y)) = some false)
  | .sini x file => iniB K (ga K x) file && (PySem.W.clsIn K (ga K x)).isSome
  | .supr d c y => eqO (PySem.W.ks_superIn K (ga K d) (ga K c) "__init__") (some (some (.ref (ma K (ga K y) "__init__")))) && (decide (PySem.W.mroIn K (ga K d) (.ref (ga K c)) = some true) &&
      (decide (PySem.W.typeIn K (.ref (ma K (ga K y) "__init__")) = some (.type "function")) && PySem.W.fnIn K (ma K (ga K y) "__init__")))
  | .inh x m y => decide (ma K (ga K x) m = ma K (ga K y) m)
  | .stat => eqO (PySem.W.nsIn K cStatics "thirdparty.any") (some none)
/-- an own error's __init__, as the heap has it -/
abbrev FnX : Type := Option (Arguments × FuncBody × Scope × Addr × List Str × Value × Addr)
def fnX (K : PySem.W.Frag) (x : Str) : FnX := match K.lookup (ma K (ga K x) "__init__") with
  | some ⟨_, _, .func fd, _⟩ => some (fd.params, fd.body, fd.scope, fd.globals, fd.closure.map (·.1), fd.defaults, fd.builtins)
  | _ => none
structure IniD where
  at_ : Str
  st : Stmt
def IniD.val (d : IniD) : FnX := some (defArgs d.st, .stmts (defBody d.st), defScope d.st, mainGlobals, ["__class__"], .none, builtinsNs)
abbrev AlN : Type := Bool × List FnW × List FnX
def obsN (fa : List Nf) (fn : List DefD) (ini : List IniD) (K : PySem.W.Frag) : AlN := ((fa.all fun f => f.ok K) && fn.all fun d => d.ok K, fn.map fun d => fnW K d.at_, ini.map fun d => fnX K d.at_)
def valN (fn : List DefD) (ini : List IniD) : AlN := (true, fn.map DefD.val, ini.map IniD.val)
def SaysN (fa : List Nf) (fn : List DefD) (ini : List IniD) (K : PySem.W.Frag) : Prop := obsN fa fn ini K = valN fn ini
def obsNG (n : Nat) (fa : List Nf) (fn : List DefD) (ini : List IniD) (g : Addr → Option Obj) : AlN := obsN fa fn ini (frG g (cStatics :: asD g n))
def hookN (n : Nat) (fa : List Nf) (fn : List DefD) (ini : List IniD) : PySem.W.Hook where
  α := AlN
  obs := fun s => obsNG n fa fn ini s.heap.get?
  val := fun _ => valN fn ini
  says := fun _ h => ∃ K : PySem.W.Frag, K.In h ∧ SaysN fa fn ini K
  of := fun _ _ e => ⟨_, frG_in, e⟩
  keeps := fun _ _ _ ⟨K, hK, c⟩ k => ⟨K, PySem.W.Frag.In.keeps hK k, c⟩
theorem obsNG_eq {n : Nat} {fa : List Nf} {fn : List DefD} {ini : List IniD} {g : Addr → Option Obj} {s : Shared} (h : ∀ a, g a = s.heap.get? a) : obsNG n fa fn ini g = (hookN n fa fn ini).obs s := by
  have e : g = s.heap.get? := funext h
  rw [e] <;> rfl
def nmOf (L : List Str) (i : Nat) : Str := match L[i]? with
  | some x => x
  | none => ⟨(List.replicate (i + 1) 0).toArray⟩
def nmB (L : List Str) : Bool := decide L.Nodup && L.all fun x => match x.cps.toList with
  | 0 :: _ => false
  | [] => false
  | _ => true
/-- what the program's text is about -/
structure Dt where
  nmL : List Str
  ok : nmB nmL = true
  cls : List (Nat × Bool)
  gls : List (Nat × PV)
  flds : List (Nat × Nat)
  xfls : List (Nat × Nat)
  isa : List ((Nat × Nat) × Bool)
  exm : List ((Nat × Nat) × Bool)
  isb : List ((Nat × String) × Bool)
  xc : List (Nat × Option Nat)
  sib : List (Nat × Nat)
  file : Str
abbrev Dt.nm (D : Dt) : Nat → Str := nmOf D.nmL
def bt6 : List String := ["NoneType", "bool", "int", "str", "tuple", "list"]
def allBf : List Bf := [.len, .list, .tuple, .str, .int, .max, .min, .sorted, .abs, .sum, .bool]
def Dt.glF (D : Dt) : Nat × PV → List Nf
  | (n, .str z) => [.str (D.nm n) z]
  | (n, .int i) => [.int (D.nm n) i]
  | (n, _) => [.free (D.nm n), .glo (D.nm n)]
/-- the facts that the table asks for -/
def Dt.seg (D : Dt) : List (List Nf) := [
  D.cls.flatMap fun p => [.glo (D.nm p.1), if p.2 then .exc (D.nm p.1) else .cls (D.nm p.1)],
  D.gls.flatMap D.glF,
  D.flds.map fun p => .noat (D.nm p.1) (D.nm p.2),
  D.xfls.map fun p => .noat (D.nm p.1) (D.nm p.2),
  D.isa.map fun p => .kit (D.nm p.1.1) (D.nm p.1.2) p.2,
  D.exm.map fun p => .exm (D.nm p.1.1) (D.nm p.1.2) p.2,
  D.isb.map fun p => .kty (D.nm p.1.1) p.1.2 p.2,
  D.cls.flatMap fun p => bt6.map fun t => .ktf t (D.nm p.1),
  D.xc.flatMap fun p => .ini (D.nm p.1) D.file :: (match p.2 with
    | some f => [.noat (D.nm p.1) (D.nm f)]
    | none => []),
  allBf.map fun f => .free f.nm,
  tyL.map fun t => .free (Str.ofString t),
  [.free "range", .free "zip", .free "enumerate", .free "reversed", .free "isinstance", .free "set", .free "super", .stat],
  D.sib.map fun p => .sub (D.nm p.2) (D.nm p.1)]
def Dt.fa (D : Dt) : List Nf := D.seg.flatten
/-- known classes stand in the table -/
def Dt.okB (D : Dt) : Bool := D.flds.all (fun p => D.cls.lookup p.1 == some false) && (D.xfls.all (fun p => D.cls.lookup p.1 == some true) && (D.isa.all (fun p => (D.cls.lookup p.1.1).isSome && (D.cls.lookup p.1.2).isSome) &&
  (D.exm.all (fun p => (D.cls.lookup p.1.1).isSome && (D.cls.lookup p.1.2).isSome) && (D.isb.all (fun p => (D.cls.lookup p.1.1).isSome) && (D.gls.all (fun p => match p.2 with
    | .str _ => true
    | .int _ => true
    | _ => false) && (D.xc.all (fun p => D.cls.lookup p.1 == some true && !(D.nm p.1 == ("__debug__" : Str))) && D.sib.all (fun p => (D.cls.lookup p.1).isSome && (D.cls.lookup p.2).isSome)))))))
def refsN (o : Obj) : List Addr := match o.data with
  | .cls cd => [cd.ns]
  | .dict es _ => es.toList.flatMap fun e => refV e.val
  | .func fd => refV fd.code ++ fd.closure.map (·.2)
  | _ => []
def stepN (g : Addr → Option Obj) (as : List Addr) : List Addr := as.flatMap fun a => match g a with
  | some o => refsN o
  | none => []
def asL3 (g : Addr → Option Obj) (as : List Addr) : List Addr := as ++ stepN g as
def asL2 (g : Addr → Option Obj) (as : List Addr) : List Addr := as ++ asL3 g (stepN g as)
def asL1 (g : Addr → Option Obj) (as : List Addr) : List Addr := cStatics :: mainGlobals :: (as ++ asL2 g (stepN g as))
def asL (g : Addr → Option Obj) (xs : List Str) : List Addr := asL1 g (xs.map fun x => ga (frG g [mainGlobals]) x)
def obsL (xs : List Str) (fa : List Nf) (fn : List DefD) (ini : List IniD) (g : Addr → Option Obj) : AlN := obsN fa fn ini (frG g (asL g xs))
def hookL (xs : List Str) (fa : List Nf) (fn : List DefD) (ini : List IniD) : PySem.W.Hook where
  α := AlN
  obs := fun s => obsL xs fa fn ini s.heap.get?
  val := fun _ => valN fn ini
  says := fun _ h => ∃ K : PySem.W.Frag, K.In h ∧ SaysN fa fn ini K
  of := fun _ _ e => ⟨_, frG_in, e⟩
  keeps := fun _ _ _ ⟨K, hK, c⟩ k => ⟨K, PySem.W.Frag.In.keeps hK k, c⟩
theorem obsL_eq {xs : List Str} {fa : List Nf} {fn : List DefD} {ini : List IniD} {g : Addr → Option Obj} {s : Shared} (h : ∀ a, g a = s.heap.get? a) : obsL xs fa fn ini g = (hookL xs fa fn ini).obs s := by
  have e : g = s.heap.get? := funext h
  rw [e] <;> rfl
end Nb

/-! K13v -/
set_option Elab.async false
set_option linter.all false
set_option maxRecDepth 100000
set_option maxHeartbeats 0

namespace K13
open PySem PySem.Spec L2 Nb
open PyProof.Rows hiding St

abbrev P : Program := PySem.Challenge.pw_nestedrules_k13_question_forms
abbrev top (i : Nat) : Stmt := P.main.body.getD i (.Pass ⟨0, 0, 0, 0⟩)

def nmL : List Str := [("LETTERS" : Str), ("MOST_LETTERS" : Str), ("valid_name" : Str), ("BOUND" : Str), ("valid_cell" : Str), ("NameTaken" : Str), ("BadName" : Str), ("check_names" : Str), ("_law_start" : Str), ("_law_draw" : Str), ("_law_pick" : Str), ("_law_names" : Str), ("_law_pool" : Str), ("_law_same" : Str), ("WrongCell" : Str), ("name" : Str), ("NoPlain" : Str), ("_law_told" : Str), ("text" : Str), ("NestError" : Str), ("Choose" : Str), ("Refuse" : Str), ("Match" : Str), ("Drop" : Str), ("Prune" : Str), ("_law_made" : Str), ("_law_twice" : Str), ("Question" : Str), ("CellQuestion" : Str), ("columns" : Str), ("cells" : Str), ("column" : Str), ("law" : Str)]
abbrev i_LETTERS : Nat := 0
abbrev i_MOST_LETTERS : Nat := 1
abbrev i_valid_name : Nat := 2
abbrev i_BOUND : Nat := 3
abbrev i_valid_cell : Nat := 4
abbrev i_NameTaken : Nat := 5
abbrev i_BadName : Nat := 6
abbrev i_check_names : Nat := 7
abbrev i__law_start : Nat := 8
abbrev i__law_draw : Nat := 9
abbrev i__law_pick : Nat := 10
abbrev i__law_names : Nat := 11
abbrev i__law_pool : Nat := 12
abbrev i__law_same : Nat := 13
abbrev i_WrongCell : Nat := 14
abbrev i_name : Nat := 15
abbrev i_NoPlain : Nat := 16
abbrev i__law_told : Nat := 17
abbrev i_text : Nat := 18
abbrev i_NestError : Nat := 19
abbrev i_Choose : Nat := 20
abbrev i_Refuse : Nat := 21
abbrev i_Match : Nat := 22
abbrev i_Drop : Nat := 23
abbrev i_Prune : Nat := 24
abbrev i__law_made : Nat := 25
abbrev i__law_twice : Nat := 26
abbrev i_Question : Nat := 27
abbrev i_CellQuestion : Nat := 28
abbrev i_columns : Nat := 29
abbrev i_cells : Nat := 30
abbrev i_column : Nat := 31
abbrev i_law : Nat := 32
abbrev st_valid_name : Stmt := top 23
abbrev st_valid_cell : Stmt := top 37
abbrev st_check_names : Stmt := top 73
abbrev st__law_start : Stmt := top 83
abbrev st__law_draw : Stmt := top 84
abbrev st__law_pick : Stmt := top 85
abbrev st__law_names : Stmt := top 86
abbrev st__law_pool : Stmt := top 87
abbrev st__law_same : Stmt := top 88
abbrev st__law_told : Stmt := top 89
abbrev st__law_made : Stmt := top 90
abbrev st__law_twice : Stmt := top 91
abbrev st_law : Stmt := top 92
abbrev st_Question___init__ : Stmt := inClass (top 75) 0
abbrev st_Question___eq__ : Stmt := inClass (top 75) 1
abbrev st_Question___str__ : Stmt := inClass (top 75) 2
abbrev xs_BadName : Stmt := inClass (top 3) 0
abbrev xs_NameTaken : Stmt := inClass (top 4) 0
abbrev xs_NoPlain : Stmt := inClass (top 5) 0
abbrev xs_WrongCell : Stmt := inClass (top 11) 0
abbrev st_CellQuestion___init__ : Stmt := inClass (top 76) 0
abbrev st_Choose___init__ : Stmt := inClass (top 77) 0
abbrev st_Refuse___init__ : Stmt := inClass (top 78) 0
abbrev st_Match___init__ : Stmt := inClass (top 79) 0
abbrev st_Drop___init__ : Stmt := inClass (top 80) 0
abbrev st_Prune___init__ : Stmt := inClass (top 81) 0
def D : Dt where
  nmL := nmL
  ok := by decide +kernel
  cls := [(i_NestError, true), (i_BadName, true), (i_NameTaken, true), (i_NoPlain, true), (i_WrongCell, true), (i_Question, false), (i_CellQuestion, false), (i_Choose, false), (i_Refuse, false), (i_Match, false), (i_Drop, false), (i_Prune, false)]
  gls := [(i_LETTERS, .str "abcdefghijklmnopqrstuvwxyz"), (i_MOST_LETTERS, .int 8), (i_BOUND, .int 1000000000000000000)]
  flds := [(i_Question, i_text), (i_CellQuestion, i_column), (i_CellQuestion, i_cells), (i_CellQuestion, i_text), (i_Choose, i_column), (i_Choose, i_cells), (i_Choose, i_text), (i_Refuse, i_column), (i_Refuse, i_cells), (i_Refuse, i_text), (i_Match, i_columns), (i_Match, i_text), (i_Drop, i_columns), (i_Drop, i_text), (i_Prune, i_name), (i_Prune, i_text)]
  xfls := [(i_BadName, i_name), (i_NameTaken, i_name), (i_NoPlain, i_name), (i_WrongCell, i_name)]
  isa := [((i_NestError, i_BadName), false), ((i_NestError, i_NameTaken), false), ((i_NestError, i_NoPlain), false), ((i_NestError, i_WrongCell), false), ((i_NestError, i_Question), false), ((i_NestError, i_CellQuestion), false), ((i_BadName, i_BadName), true), ((i_BadName, i_NameTaken), false), ((i_BadName, i_NoPlain), false), ((i_BadName, i_WrongCell), false), ((i_BadName, i_Question), false), ((i_BadName, i_CellQuestion), false), ((i_NameTaken, i_BadName), false), ((i_NameTaken, i_NameTaken), true), ((i_NameTaken, i_NoPlain), false), ((i_NameTaken, i_WrongCell), false), ((i_NameTaken, i_Question), false), ((i_NameTaken, i_CellQuestion), false), ((i_NoPlain, i_BadName), false), ((i_NoPlain, i_NameTaken), false), ((i_NoPlain, i_NoPlain), true), ((i_NoPlain, i_WrongCell), false), ((i_NoPlain, i_Question), false), ((i_NoPlain, i_CellQuestion), false), ((i_WrongCell, i_BadName), false), ((i_WrongCell, i_NameTaken), false), ((i_WrongCell, i_NoPlain), false), ((i_WrongCell, i_WrongCell), true), ((i_WrongCell, i_Question), false), ((i_WrongCell, i_CellQuestion), false), ((i_Question, i_BadName), false), ((i_Question, i_NameTaken), false), ((i_Question, i_NoPlain), false), ((i_Question, i_WrongCell), false), ((i_Question, i_Question), true), ((i_Question, i_CellQuestion), false), ((i_CellQuestion, i_BadName), false), ((i_CellQuestion, i_NameTaken), false), ((i_CellQuestion, i_NoPlain), false), ((i_CellQuestion, i_WrongCell), false), ((i_CellQuestion, i_Question), true), ((i_CellQuestion, i_CellQuestion), true), ((i_Choose, i_BadName), false), ((i_Choose, i_NameTaken), false), ((i_Choose, i_NoPlain), false), ((i_Choose, i_WrongCell), false), ((i_Choose, i_Question), true), ((i_Choose, i_CellQuestion), true), ((i_Refuse, i_BadName), false), ((i_Refuse, i_NameTaken), false), ((i_Refuse, i_NoPlain), false), ((i_Refuse, i_WrongCell), false), ((i_Refuse, i_Question), true), ((i_Refuse, i_CellQuestion), true), ((i_Match, i_BadName), false), ((i_Match, i_NameTaken), false), ((i_Match, i_NoPlain), false), ((i_Match, i_WrongCell), false), ((i_Match, i_Question), true), ((i_Match, i_CellQuestion), false), ((i_Drop, i_BadName), false), ((i_Drop, i_NameTaken), false), ((i_Drop, i_NoPlain), false), ((i_Drop, i_WrongCell), false), ((i_Drop, i_Question), true), ((i_Drop, i_CellQuestion), false), ((i_Prune, i_BadName), false), ((i_Prune, i_NameTaken), false), ((i_Prune, i_NoPlain), false), ((i_Prune, i_WrongCell), false), ((i_Prune, i_Question), true), ((i_Prune, i_CellQuestion), false)]
  exm := [((i_NestError, i_NestError), true), ((i_BadName, i_NestError), true), ((i_NameTaken, i_NestError), true), ((i_NoPlain, i_NestError), true), ((i_WrongCell, i_NestError), true)]
  isb := [((i_NestError, "int"), false), ((i_NestError, "str"), false), ((i_NestError, "tuple"), false), ((i_NestError, "list"), false), ((i_NestError, "bool"), false), ((i_BadName, "int"), false), ((i_BadName, "str"), false), ((i_BadName, "tuple"), false), ((i_BadName, "list"), false), ((i_BadName, "bool"), false), ((i_NameTaken, "int"), false), ((i_NameTaken, "str"), false), ((i_NameTaken, "tuple"), false), ((i_NameTaken, "list"), false), ((i_NameTaken, "bool"), false), ((i_NoPlain, "int"), false), ((i_NoPlain, "str"), false), ((i_NoPlain, "tuple"), false), ((i_NoPlain, "list"), false), ((i_NoPlain, "bool"), false), ((i_WrongCell, "int"), false), ((i_WrongCell, "str"), false), ((i_WrongCell, "tuple"), false), ((i_WrongCell, "list"), false), ((i_WrongCell, "bool"), false), ((i_Question, "int"), false), ((i_Question, "str"), false), ((i_Question, "tuple"), false), ((i_Question, "list"), false), ((i_Question, "bool"), false), ((i_CellQuestion, "int"), false), ((i_CellQuestion, "str"), false), ((i_CellQuestion, "tuple"), false), ((i_CellQuestion, "list"), false), ((i_CellQuestion, "bool"), false), ((i_Choose, "int"), false), ((i_Choose, "str"), false), ((i_Choose, "tuple"), false), ((i_Choose, "list"), false), ((i_Choose, "bool"), false), ((i_Refuse, "int"), false), ((i_Refuse, "str"), false), ((i_Refuse, "tuple"), false), ((i_Refuse, "list"), false), ((i_Refuse, "bool"), false), ((i_Match, "int"), false), ((i_Match, "str"), false), ((i_Match, "tuple"), false), ((i_Match, "list"), false), ((i_Match, "bool"), false), ((i_Drop, "int"), false), ((i_Drop, "str"), false), ((i_Drop, "tuple"), false), ((i_Drop, "list"), false), ((i_Drop, "bool"), false), ((i_Prune, "int"), false), ((i_Prune, "str"), false), ((i_Prune, "tuple"), false), ((i_Prune, "list"), false), ((i_Prune, "bool"), false)]
  xc := [(i_BadName, some i_name), (i_NameTaken, some i_name), (i_NoPlain, some i_name), (i_WrongCell, some i_name)]
  sib := [(i_Choose, i_Refuse), (i_Choose, i_Match), (i_Choose, i_Drop), (i_Choose, i_Prune), (i_Refuse, i_Choose), (i_Refuse, i_Match), (i_Refuse, i_Drop), (i_Refuse, i_Prune), (i_Match, i_Choose), (i_Match, i_Refuse), (i_Match, i_Drop), (i_Match, i_Prune), (i_Drop, i_Choose), (i_Drop, i_Refuse), (i_Drop, i_Match), (i_Drop, i_Prune), (i_Prune, i_Choose), (i_Prune, i_Refuse), (i_Prune, i_Match), (i_Prune, i_Drop)]
  file := P.main.file
theorem D_ok : D.okB = true := by decide +kernel
def fns : List He.DefD := [⟨("valid_name", none), "valid_name", "valid_name", defArgs st_valid_name, defBody st_valid_name, defScope st_valid_name, [], []⟩, ⟨("valid_cell", none), "valid_cell", "valid_cell", defArgs st_valid_cell, defBody st_valid_cell, defScope st_valid_cell, [], []⟩, ⟨("check_names", none), "check_names", "check_names", defArgs st_check_names, defBody st_check_names, defScope st_check_names, [], []⟩, ⟨("_law_start", none), "_law_start", "_law_start", defArgs st__law_start, defBody st__law_start, defScope st__law_start, [], []⟩, ⟨("_law_draw", none), "_law_draw", "_law_draw", defArgs st__law_draw, defBody st__law_draw, defScope st__law_draw, [], []⟩, ⟨("_law_pick", none), "_law_pick", "_law_pick", defArgs st__law_pick, defBody st__law_pick, defScope st__law_pick, [], []⟩, ⟨("_law_names", none), "_law_names", "_law_names", defArgs st__law_names, defBody st__law_names, defScope st__law_names, [], []⟩, ⟨("_law_pool", none), "_law_pool", "_law_pool", defArgs st__law_pool, defBody st__law_pool, defScope st__law_pool, [], []⟩, ⟨("_law_same", none), "_law_same", "_law_same", defArgs st__law_same, defBody st__law_same, defScope st__law_same, [], []⟩, ⟨("_law_told", none), "_law_told", "_law_told", defArgs st__law_told, defBody st__law_told, defScope st__law_told, [], []⟩, ⟨("_law_made", none), "_law_made", "_law_made", defArgs st__law_made, defBody st__law_made, defScope st__law_made, [], []⟩, ⟨("_law_twice", none), "_law_twice", "_law_twice", defArgs st__law_twice, defBody st__law_twice, defScope st__law_twice, [], []⟩, ⟨("law", none), "law", "law", defArgs st_law, defBody st_law, defScope st_law, [], []⟩, ⟨("Question", some "__init__"), "__init__", "Question.__init__", defArgs st_Question___init__, defBody st_Question___init__, defScope st_Question___init__, [], []⟩, ⟨("Question", some "__eq__"), "__eq__", "Question.__eq__", defArgs st_Question___eq__, defBody st_Question___eq__, defScope st_Question___eq__, [], []⟩, ⟨("Question", some "__str__"), "__str__", "Question.__str__", defArgs st_Question___str__, defBody st_Question___str__, defScope st_Question___str__, [], []⟩]
def inis : List IniD := [⟨"BadName", xs_BadName⟩, ⟨"NameTaken", xs_NameTaken⟩, ⟨"NoPlain", xs_NoPlain⟩, ⟨"WrongCell", xs_WrongCell⟩, ⟨"CellQuestion", st_CellQuestion___init__⟩, ⟨"Choose", st_Choose___init__⟩, ⟨"Refuse", st_Refuse___init__⟩, ⟨"Match", st_Match___init__⟩, ⟨"Drop", st_Drop___init__⟩, ⟨"Prune", st_Prune___init__⟩]
def facts : List Nf := D.fa ++ [.glo "valid_name", .glo "valid_cell", .glo "check_names", .glo "_law_start", .glo "_law_draw", .glo "_law_pick", .glo "_law_names", .glo "_law_pool", .glo "_law_same", .glo "_law_told", .glo "_law_made", .glo "_law_twice", .glo "law", .meth "Question" "__eq__", .meth "Question" "__str__", .mkr "Choose", .mkr "Refuse", .mkr "Match", .mkr "Drop", .mkr "Prune", .sini "CellQuestion" P.main.file, .sini "Choose" P.main.file, .sini "Refuse" P.main.file, .sini "Match" P.main.file, .sini "Drop" P.main.file, .sini "Prune" P.main.file, .supr "Choose" "CellQuestion" "Question", .supr "Refuse" "CellQuestion" "Question", .supr "Choose" "Choose" "CellQuestion", .supr "Refuse" "Refuse" "CellQuestion", .supr "Match" "Match" "Question", .supr "Drop" "Drop" "Question", .supr "Prune" "Prune" "Question", .meth "Choose" "__eq__", .inh "Choose" "__eq__" "Question", .meth "Choose" "__str__", .inh "Choose" "__str__" "Question", .meth "Refuse" "__eq__", .inh "Refuse" "__eq__" "Question", .meth "Refuse" "__str__", .inh "Refuse" "__str__" "Question", .meth "Match" "__eq__", .inh "Match" "__eq__" "Question", .meth "Match" "__str__", .inh "Match" "__str__" "Question", .meth "Drop" "__eq__", .inh "Drop" "__eq__" "Question", .meth "Drop" "__str__", .inh "Drop" "__str__" "Question", .meth "Prune" "__eq__", .inh "Prune" "__eq__" "Question", .meth "Prune" "__str__", .inh "Prune" "__str__" "Question"]
end K13

/-! K13h -/

set_option Elab.async false
set_option linter.all false
set_option maxRecDepth 100000
set_option maxHeartbeats 0
namespace K13
open PySem PySem.Spec L2 Nb
open PyProof.Rows hiding St
open He
abbrev R : PySem.W.OpenRow := PySem.W.OpenLaw.row PySem.Challenge.rw_nestedrules_k13_question_forms
def told : List Str := [("valid_name" : Str), ("valid_cell" : Str), ("NameTaken" : Str), ("BadName" : Str), ("check_names" : Str), ("_law_start" : Str), ("_law_draw" : Str), ("_law_pick" : Str), ("_law_names" : Str), ("_law_pool" : Str), ("_law_same" : Str), ("WrongCell" : Str), ("NoPlain" : Str), ("_law_told" : Str), ("NestError" : Str), ("Choose" : Str), ("Refuse" : Str), ("Match" : Str), ("Drop" : Str), ("Prune" : Str), ("_law_made" : Str), ("_law_twice" : Str), ("Question" : Str), ("CellQuestion" : Str), ("law" : Str)]
abbrev hk : PySem.W.Hook := hookL told facts fns inis
def ob (s : PySem.W.SharedT) : AlN := obsL told facts fns inis (HandSHeadRun.getT s)
theorem ob_eq (s : PySem.W.SharedT) : ob s = hk.obs s.abs := obsL_eq (HandSHeadRun.getT_eq s)
def lawAt : Nat := P.main.body.length - 1
def others0 : List Str := [("_wall" : Str), ("NestError" : Str), ("BadName" : Str), ("NameTaken" : Str), ("NoPlain" : Str), ("TooDeep" : Str), ("UnknownColumn" : Str), ("NotATable" : Str), ("NotPlain" : Str), ("SplitLevels" : Str), ("WrongCell" : Str), ("TooWide" : Str), ("WrongRow" : Str), ("WrongKind" : Str), ("NoRow" : Str), ("NotSettled" : Str), ("BadText" : Str), ("LETTERS" : Str), ("MOST_LETTERS" : Str), ("MOST_LEVELS" : Str), ("MOST_COLUMNS" : Str), ("valid_name" : Str), ("level_columns" : Str), ("level_text" : Str), ("level_names" : Str), ("level_depth" : Str), ("plain_below" : Str), ("columns_of" : Str), ("inner_level" : Str), ("column_path" : Str), ("level_at" : Str), ("common_path" : Str), ("with_level" : Str), ("BOUND" : Str), ("valid_cell" : Str), ("canonical" : Str), ("checked_row" : Str), ("checked_rows" : Str), ("count_rows" : Str), ("DIGITS" : Str)]
def others1 : List Str := [("MOST_DIGITS" : Str), ("Reader" : Str), ("take_columns" : Str), ("take_row" : Str), ("take_rows" : Str), ("read_columns" : Str), ("read_rows" : Str), ("home_of" : Str), ("is_table" : Str), ("checked_level" : Str), ("table_level" : Str), ("Kind" : Str), ("rows_at" : Str), ("tables_at" : Str), ("plain_rows" : Str), ("clash_of" : Str), ("row_at" : Str), ("join_rows" : Str), ("meet_rows" : Str), ("less_rows" : Str), ("need_settled" : Str), ("right_operand" : Str), ("Table" : Str), ("check_names" : Str), ("check_plain" : Str), ("Question" : Str), ("CellQuestion" : Str), ("Choose" : Str), ("Refuse" : Str), ("Match" : Str), ("Drop" : Str), ("Prune" : Str), ("_law_start" : Str), ("_law_draw" : Str), ("_law_pick" : Str), ("_law_names" : Str), ("_law_pool" : Str), ("_law_same" : Str), ("_law_told" : Str), ("_law_made" : Str)]
def others2 : List Str := [("_law_twice" : Str)]
def others : List Str := others0 ++ others1 ++ others2
theorem run (w : World) : HandSHeadRun.RunEq R (PySem.W.view R.prog [lawAt]) hk ob 60000 others w := by
  intro os
  kernel_rfl
end K13

/-! NbA -/
set_option Elab.async false
set_option linter.all false
set_option maxRecDepth 100000
set_option maxHeartbeats 2000000
/-! NbA: sorted(set(xs)), the items texts or whole numbers: one proof over the kind of the keys. -/
namespace NbA
open PySem PySem.Spec PyProof.Rows L2
/-- a kind of keys that are told by their values -/
structure SK (P : Program) (w : World) (κ : Type) [DecidableEq κ] where
  knd : PySem.KeyKind P w κ
  ky : Value → κ
  ok : ∀ k v, knd.is k v = true → ky v = k
  sc : ∀ k v, knd.is k v = true → v.scannable = true
def skI (P : Program) (w : World) : SK P w Int where
  knd := intKind P w
  ky := fun v => match v with | .int k _ => k | _ => 0
  ok := fun k v h => by
    obtain ⟨t, rfl⟩ := Value.isInt_shape (show Value.isInt k v = true from h)
    rfl
  sc := fun k v h => by
    obtain ⟨t, rfl⟩ := Value.isInt_shape (show Value.isInt k v = true from h)
    rfl
def skS (P : Program) (w : World) : SK P w Str where
  knd := PySem.strKind P w
  ky := fun v => match v with | .str k _ => k | _ => Str.empty
  ok := fun k v h => by
    obtain ⟨t, rfl⟩ := Value.isStrOf_shape (show Value.isStrOf k v = true from h)
    rfl
  sc := fun k v h => by
    obtain ⟨t, rfl⟩ := Value.isStrOf_shape (show Value.isStrOf k v = true from h)
    rfl
section
variable {P : Program} {w : World} {κ : Type} [DecidableEq κ] (T : SK P w κ)
def Good (e : Int × Value) : Prop := ∃ k, T.knd.is k e.2 = true ∧ e.1 = T.knd.hash k
def kyE (e : Int × Value) : κ := T.ky e.2
def SetG (h : Heap) (a : Addr) (S : κ → Bool) (n : Nat) : Prop :=
  ∃ o es ep t, h.get? a = some o ∧ o.ExactSet ∧ o.data = .set es ep t ∧ (∀ e ∈ es.toList, Good T e) ∧ (es.toList.map (kyE T)).Nodup ∧ (∀ k, S k = true ↔ k ∈ es.toList.map (kyE T)) ∧
    es.size < scanBound ∧ t.fits es.size = true ∧ es.size = n ∧ Ris t.place.toList ∧ (w.params.followText "set-order" = true ∨ t.led = true)
end
section
variable {P : Program} {w : World} {κ : Type} [DecidableEq κ] {T : SK P w κ} {h h' : Heap} {a : Addr} {S : κ → Bool} {n : Nat}
theorem SetG.at (R : SetG T h a S n) (k : ∀ o, h.get? a = some o → h'.get? a = some o) : SetG T h' a S n := by
  obtain ⟨o, es, ep, t, ho, r⟩ := R
  exact ⟨o, es, ep, t, k o ho, r⟩
theorem SetG.congr {S' : κ → Bool} (R : SetG T h a S n) (e : ∀ k, S' k = S k) : SetG T h a S' n := by
  have q : S' = S := funext e
  rw [q]; exact R
theorem elems {l : List (Int × Value)} (g : ∀ e ∈ l, Good T e) : ElemsOf T.knd l := fun e he => by
  obtain ⟨k, h1, h2⟩ := g e he
  exact ⟨⟨k, h1, h2⟩, T.sc _ _ h1⟩
theorem good_is {e : Int × Value} (g : Good T e) (k : κ) : T.knd.is k e.2 = true ↔ kyE T e = k := by
  obtain ⟨k0, h1, _⟩ := g
  have e0 : kyE T e = k0 := T.ok _ _ h1
  rw [e0]
  constructor
  · intro h2
    exact T.knd.inj _ _ _ h1 h2
  · rintro rfl
    exact h1
theorem good_mem {l : List (Int × Value)} (g : ∀ e ∈ l, Good T e) (k : κ) : k ∈ l.map (kyE T) ↔ ∃ e ∈ l, T.knd.is k e.2 = true := by
  rw [List.mem_map]
  constructor
  · rintro ⟨e, he, q⟩
    exact ⟨e, he, (good_is (g e he) k).2 q⟩
  · rintro ⟨e, he, q⟩
    exact ⟨e, he, (good_is (g e he) k).1 q⟩
end
section
variable {P : Program} {w : World} {κ : Type} [DecidableEq κ] {T : SK P w κ} {A : Around} {E : Value → Shared → Prop} {s : Shared} {a : Addr} {S : κ → Bool} {n : Nat}
theorem add_tail {g : Bool → Sem Unit} (hg : ∀ (b : Bool) (s₁ : Shared) (Q' : Unit → Shared → Prop), Q' () s₁ → wpAny (model P w) A (g b) Q' E s₁)
    {o : Obj} {es : Array (Int × Value)} {ep : Nat} {t : SetTable} (ho : s.heap.get? a = some o) (hex : o.ExactSet) (hd : o.data = .set es ep t)
    {es1 : Array (Int × Value)} {t2 : SetTable} {S' : κ → Bool} (g1 : ∀ e ∈ es1.toList, Good T e) (nd1 : (es1.toList.map (kyE T)).Nodup) (m1 : ∀ k, S' k = true ↔ k ∈ es1.toList.map (kyE T))
    (hb1 : es1.size < scanBound) (hf2 : t2.fits es1.size = true) (hr : Ris t2.place.toList) (hl : w.params.followText "set-order" = true ∨ t2.led = true) {wasDummy : Bool} {R : Option Bool → Shared → Prop}
    (hR : ∀ h', Heap.SameBut a s.heap h' → SetG T h' a S' es1.size → R (some true) { s with heap := h' }) :
    wpAny (model P w) A (do
        storeSet a es1 t2
        if (!wasDummy && t2.tooFull) = true then do
            g (relayAll t2 es1 (SetTable.grown es1.size)).2.2
            storeSet a (relayAll t2 es1 (SetTable.grown es1.size)).1 (relayAll t2 es1 (SetTable.grown es1.size)).2.1
            pure (some true)
          else pure (some true)) R E s := by
  refine wpAny_bind (wpAny_storeSet_of ho hd ?_ (fits_of_scanBound hb1))
  have ho1 := L2.store_at (es' := es1) (t' := t2) ho hd
  have sb1 := Heap.SameBut.update s.heap a (Obj.putSet es1 t2)
  split
  · have pm := relayAll_perm t2 es1 (SetTable.grown es1.size)
    have hf3 := relayAll_fits t2 es1 (SetTable.grown es1.size)
    have hr3 := relayAll_ris t2 es1 (SetTable.grown es1.size)
    have hl3 := relayAll_led t2 es1 (SetTable.grown es1.size)
    generalize relayAll t2 es1 (SetTable.grown es1.size) = Z at pm hf3 hr3 hl3 ⊢
    obtain ⟨es2, t3, gave⟩ := Z
    dsimp only at pm hf3 hr3 hl3 ⊢
    have hsz : es2.size = es1.size := by rw [← Array.length_toList, pm.length_eq, Array.length_toList]
    have hb2 : es2.size < scanBound := by rw [hsz]; exact hb1
    refine wpAny_bind (hg _ _ _ ?_)
    refine wpAny_bind (wpAny_storeSet_of ho1 rfl ?_ (fits_of_scanBound hb2))
    have ho2 := L2.store_at (es' := es2) (t' := t3) ho1 rfl
    refine wpAny_pure (hR _ (sb1.trans (Heap.SameBut.update _ a _)) ?_)
    exact ⟨_, es2, _, t3, ho2, hex, rfl, fun e he => g1 e (pm.mem_iff.mp he), (pm.map (kyE T)).nodup_iff.mpr nd1, fun k => (m1 k).trans (pm.map (kyE T)).mem_iff.symm, hb2, hf3, hsz, hr3,
      hl.imp id fun z => by rw [hl3]; exact z⟩
  · exact wpAny_pure (hR _ sb1 ⟨_, es1, _, t2, ho1, hex, rfl, g1, nd1, m1, hb1, hf2, rfl, hr, hl⟩)
theorem add_hashed {k : κ} {x : Value} {Q : Bool → Shared → Prop} (hkey : T.knd.is k x = true) (R : SetG T s.heap a S n) (room : n + 1 < scanBound)
    (hQ : ∀ h' b, Heap.SameBut a s.heap h' → SetG T h' a (fun j => S j || decide (j = k)) (if S k = true then n else n + 1) → Q b { s with heap := h' }) :
    wpAny (model P w) A (setAddHashed a x (T.knd.hash k)) Q E s := by
  obtain ⟨o, es, ep, t, ho, hex, hd, g, nd, hm, hb, hf, hn, hr, hl⟩ := R
  have hsc : x.scannable = true := T.sc _ _ hkey
  have hel : ElemsOf T.knd es.toList := elems g
  unfold setAddHashed setAddHashedIn
  refine wpAny_holding (wpAny_bind (wpAny_setState_of ho hd hf ?_))
  dsimp only
  rw [byScan_of hsc hb hel]
  simp only [↓reduceIte]
  unfold setAddByScan
  refine wpAny_bind ?_
  refine wpAny_bind (wpAny_rule ?_)
  refine wpAny_bind (wpAny_setScan_of hkey ho hd hf hel ?_)
  cases hfi : List.findIdx? (fun e => T.knd.is k e.2) es.toList with
  | some j =>
    dsimp only
    obtain ⟨hj, pj, _⟩ := List.findIdx?_eq_some_iff_getElem.mp hfi
    have hSk : S k = true := (hm k).2 ((good_mem g k).2 ⟨es.toList[j], List.getElem_mem hj, pj⟩)
    refine wpAny_pure (wpAny_pure ?_)
    exact hQ s.heap _ (Heap.SameBut.refl a s.heap) ⟨o, es, ep, t, ho, hex, hd, g, nd, fun i => by
      rw [Bool.or_eq_true, decide_eq_true_eq, ← hm i]
      exact ⟨fun z => z.elim id (fun e => e ▸ hSk), .inl⟩, hb, hf, by rw [if_pos hSk]; exact hn, hr, hl⟩
  | none =>
    dsimp only
    have hnk : k ∉ es.toList.map (kyE T) := fun z => by
      obtain ⟨e, he, q⟩ := (good_mem g k).1 z
      have c := List.findIdx?_eq_none_iff.mp hfi e he
      rw [q] at c
      cases c
    have hSk : S k = false := by
      cases q : S k with
      | false => rfl
      | true => exact absurd ((hm k).1 q) hnk
    have hgw : ∀ (b : Bool) {s₁ : Shared} {Q' : Unit → Shared → Prop}, Q' () s₁ → wpAny (model P w) A (match b with | true => rule "set.scan.the-table-gave-way" | false => pure ()) Q' E s₁ :=
      fun b s₁ Q' q => by cases b <;> first | exact wpAny_pure q | exact wpAny_rule q
    have pm := layNew_perm t es (T.knd.hash k) x
    have hf1 := layNew_fits t es (T.knd.hash k) x
    have hr1 := layNew_ris t es (T.knd.hash k) x hr
    have hl1 := layNew_led t es (T.knd.hash k) x
    generalize layNew t es (T.knd.hash k) x = Z at pm hf1 hr1 hl1 ⊢
    obtain ⟨es1, t1, wasDummy, gave⟩ := Z
    dsimp only at pm hf1 hr1 hl1 ⊢
    rw [Array.toList_push] at pm
    have pc : es1.toList.Perm ((T.knd.hash k, x) :: es.toList) := pm.trans (List.perm_append_singleton _ _)
    have kx : kyE T (T.knd.hash k, x) = k := T.ok _ _ hkey
    have pk : (es1.toList.map (kyE T)).Perm (k :: es.toList.map (kyE T)) := by
      have q := pc.map (kyE T)
      rw [List.map_cons, kx] at q
      exact q
    have g1 : ∀ e ∈ es1.toList, Good T e := fun e he => by
      rcases List.mem_cons.mp (pc.mem_iff.mp he) with z | z
      · rw [z]; exact ⟨k, hkey, rfl⟩
      · exact g e z
    have nd1 : (es1.toList.map (kyE T)).Nodup := pk.nodup_iff.mpr (List.nodup_cons.mpr ⟨hnk, nd⟩)
    have m1 : ∀ i, (S i || decide (i = k)) = true ↔ i ∈ es1.toList.map (kyE T) := fun i => by
      rw [Bool.or_eq_true, decide_eq_true_eq, hm i, pk.mem_iff, List.mem_cons]
      exact Or.comm
    have hsz : es1.size = n + 1 := by rw [← Array.length_toList, pc.length_eq, List.length_cons, Array.length_toList, hn]
    have hb1 : es1.size < scanBound := by rw [hsz]; exact room
    have hled : w.params.followText "set-order" = true ∨ t1.led = true := hl.imp id fun z => by rw [hl1]; exact z
    have fin : ∀ h', Heap.SameBut a s.heap h' → SetG T h' a (fun j => S j || decide (j = k)) es1.size → Q true { s with heap := h' } := fun h' sb r => by
      have q := hQ h' true sb
      rw [hSk] at q
      rw [hsz] at r
      exact q r
    refine wpAny_bind (hgw _ ?_)
    split
    · refine wpAny_bind ?_
      rw [hashByValue_scannable 8 hsc]
      refine wpAny_pure ?_
      refine add_tail ?_ ho hex hd g1 nd1 m1 hb1 ?_ ?_ ?_ ?_
      · intro b s₁ Q' q; cases b <;> first | exact wpAny_pure q | exact wpAny_rule q
      · first | (split <;> first | exact hf1 | exact SetTable.fits_plain_off hf1) | exact hf1
      · first | (split <;> exact hr1) | exact hr1
      · first | (split <;> exact hled) | exact hled
      · intro h' sb r; dsimp only; exact wpAny_pure (fin h' sb r)
    · refine wpAny_bind (wpAny_pure ?_)
      simp only [↓reduceIte]
      refine add_tail ?_ ho hex hd g1 nd1 m1 hb1 hf1 hr1 hled ?_
      · intro b s₁ Q' q; cases b <;> first | exact wpAny_pure q | exact wpAny_rule q
      · intro h' sb r; dsimp only; exact wpAny_pure (fin h' sb r)
theorem fresh {h : Heap} {a : Addr} (ho : h.get? a = some { cls := .type "set", dict := none, data := .set #[] 0 (.fresh 0 0 (!w.params.followText "set-order")) }) : SetG T h a (fun _ => false) 0 :=
  ⟨_, #[], 0, _, ho, ⟨rfl, rfl, rfl⟩, rfl, (fun e he => by simp at he), (by simp), (fun k => by simp), (by decide), (by rfl), rfl, List.Pairwise.nil, by
    show _ ∨ (!w.params.followText "set-order") = true
    cases w.params.followText "set-order"
    · exact .inr rfl
    · exact .inl rfl⟩
/-- set.update's loop -/
theorem upd_loop {I : Addr} {fp wr : List Addr} {G : Array GenState → Array GenState → Prop} {n : Nat} {Pv : Nat → Value → Prop} {St : Nat → Shared → Prop} {R : Result → Shared → Prop}
    (W : WalksS P w A.in1 I fp wr G n Pv St) (B : Addr) (hBf : B ∉ fp) (ks : List κ) (hn : n = ks.length) (hfew : ks.length + 1 < scanBound) (hval : ∀ (i : Nat) (v : Value), Pv i v → ∃ k : κ, ks[i]? = some k ∧ T.knd.is k v = true) :
    ∀ (k i : Nat) (s : Shared), n - i = k → i ≤ n → St i s → (∃ m, m ≤ i ∧ SetG T s.heap B (fun j => decide (j ∈ ks.take i)) m) →
      (∀ s' m, Moved (B :: wr) G s s' → m ≤ n → SetG T s'.heap B (fun j => decide (j ∈ ks)) m → R (.ok (.ret .none)) s') →
      codeAny (model P w) A (.builtin "set.update.loop" ⟨[.ref B, .ref I], []⟩) R s := by
  have hBw : B ∉ wr := fun h => hBf (W.sub _ h)
  have hsub : ∀ b ∈ wr, b ∈ B :: wr := fun b hb => List.mem_cons_of_mem _ hb
  intro k
  induction k with
  | zero =>
    intro i s hk' hi hst ⟨m, hm0, hS⟩ hR
    have hin : i = n := by omega
    subst hin
    refine codeAny_builtin F.entry_set_update_loop ?_
    rw [Around.under_plainId F.plain_set_update_loop _]
    show wpAny _ A.in1 (pyNext (.ref I) >>= _) _ _ s
    refine wpAny_bind (W.done s _ _ hst fun s' hm => ?_)
    show wpAny _ A.in1 (ret Value.none) _ _ s'
    refine wpAny_pure (hR s' m (hm.mono hsub) hm0 ((hS.at fun o e => hm.heap B o hBw e).congr fun j => ?_))
    rw [hn, List.take_length]
  | succ k ih =>
    intro i s hk' hi hst ⟨m, hm0, hS⟩ hR
    have hlt : i < n := by omega
    refine codeAny_builtin F.entry_set_update_loop ?_
    rw [Around.under_plainId F.plain_set_update_loop _]
    show wpAny _ A.in1 (pyNext (.ref I) >>= _) _ _ s
    refine wpAny_bind (W.item i s _ _ hlt hst fun v s' hP hst' hm => ?_)
    obtain ⟨x, hp, hx⟩ := hval i v hP
    have hS' : SetG T s'.heap B _ m := hS.at fun o e => hm.heap B o hBw e
    show wpAny _ A.in1 (holding [v] (setAdd B v) >>= _) _ _ s'
    refine wpAny_bind (wpAny_holding ?_)
    unfold setAdd
    refine wpAny_holding ?_
    refine wpAny_bind (T.knd.pyHash hx ?_)
    refine add_hashed (s := { s' with toks := s'.toks + 1 }) hx hS' (by omega) fun h' b hsb hS2 => ?_
    refine wpAny_pure ⟨plainId_quiet F.plain_set_update_loop _, ih (i + 1) _ (by omega) hlt (W.frame _ s' _ _ hst' (Nat.le_add_right _ _) fun b hb o e => ?_) ⟨_, ?_, hS2.congr fun j => ?_⟩ fun s'' m2 hm'' hm2 hS'' => ?_⟩
    · rw [hsb.2 b (fun h : b = B => hBf (by rw [← h]; exact hb))]; exact e
    · split <;> omega
    · rw [L2.take_next hp, ← Bool.decide_or]
      refine decide_eq_decide.mpr ?_
      simp
    · refine hR s'' m2 (Moved.trans W.gtrans ((hm.mono hsub).then_heap (Nat.le_add_right _ _) fun b o hb e => ?_) hm'') hm2 hS''
      rw [hsb.2 b (fun h : b = B => hb (by rw [h]; exact List.mem_cons_self))]; exact e
end
end NbA
namespace NbA
open PySem PySem.Spec PyProof.Rows L2
section
variable {P : Program} {w : World} {κ : Type} [DecidableEq κ] {T : SK P w κ} {A : Around} {E : Value → Shared → Prop} {s : Shared}
/-- the new set's payload -/
abbrev frO (w : World) : Obj := { cls := .type "set", dict := none, data := .set #[] 0 (.fresh 0 0 (!w.params.followText "set-order")) }
set_option maxHeartbeats 6400000 in
/-- set(xs), xs a list or a tuple (tup) -/
theorem call_set (tup : Bool) {l : Addr} {items : Array Value} (ks : List κ) {Q : Value → Shared → Prop} (hh : A.handled = none) (hl : if tup = true then s.heap.IsTuple l items else s.heap.IsList l items) (hsz : items.size = ks.length) (hfew : ks.length + 1 < scanBound)
    (hval : ∀ (i : Nat) (v : Value), items[i]? = some v → ∃ k : κ, ks[i]? = some k ∧ T.knd.is k v = true)
    (h : ∀ (h' : Heap) (tk m : Nat), SetG T h' s.heap.objs.size (fun j => decide (j ∈ ks)) m → m ≤ ks.length → (∀ b o, s.heap.get? b = some o → h'.get? b = some o) → Q (.ref s.heap.objs.size) { s with heap := h', toks := tk }) :
    wpAny (model P w) A (call (.type "set") [.ref l]) Q E s := by
  obtain ⟨c, tl, hmro⟩ := PySem.F.called_set.mro
  have hmade := PySem.F.called_set.made
  have hsub := PySem.F.called_set.sub
  refine wpAny_call (codeAny_of_tree ?_)
  show wpAny _ _ (callAny (.type "set") _) _ _ _
  refine wpAny_pure ⟨Code.quiet_builtin _ (by decide +kernel), codeAny_builtin PySem.F.entry_type_call ?_⟩
  rw [Around.under_plain (weight_type_call_type "set" [.ref l] []) rfl]
  have h1 := PySem.F.called_set.notType
  have h2 := PySem.F.called_set.canCreate
  have hct := PySem.F.typeCall_set_1 (.ref l)
  repeat (any_goals (first | assumption | wp_step))
  refine codeAny_mono (L2.code_set_led1 (.ref l) (E := E) (Q₁ := fun obj s₁ => obj = .ref s.heap.objs.size ∧ s₁ = { s with heap := s.heap.push (frO w) }) ⟨rfl, rfl⟩) fun r s₁ hr => ?_
  cases r with
  | error e => exact hr
  | ok fl =>
    cases fl with
    | ret obj =>
      obtain ⟨rfl, rfl⟩ := hr
      have hS : (s.heap.push (frO w)).get? s.heap.objs.size = some (frO w) := Heap.get?_push_size _ rfl
      have hT : Shared.TypeIs { s with heap := s.heap.push (frO w) } (.ref s.heap.objs.size) "set" := ⟨_, hS, rfl⟩
      have hli := PySem.F.called_set.init.lookup
      have hbi := PySem.F.called_set.init.bind (.ref s.heap.objs.size)
      repeat (any_goals (first | assumption | wp_step))
      refine codeAny_mono (codeAny_call_builtin (R := wants (fun r s₂ => r = .none ∧ ∃ h' tk m, s₂ = { s with heap := h', toks := tk } ∧ SetG T h' s.heap.objs.size (fun j => decide (j ∈ ks)) m ∧ m ≤ ks.length ∧
          (∀ b o, s.heap.get? b = some o → h'.get? b = some o)) E) PySem.F.called_set.init.plain PySem.F.entry_set_init (check_set_init_1 hT ?_)) fun r₂ s₂ hr₂ => ?_
      · have fin : ∀ {s' : Shared} {m : Nat} {it : Obj}, Moved (s.heap.objs.size :: [(s.heap.push (frO w)).objs.size]) (fun a b => b = a) { s with heap := (s.heap.push (frO w)).push it } s' → m ≤ items.size → SetG T s'.heap s.heap.objs.size (fun j => decide (j ∈ ks)) m →
            s'.gens = s.gens ∧ s'.drawn = s.drawn ∧ s'.os = s.os ∧ ∀ b o, s.heap.get? b = some o → s'.heap.get? b = some o := fun {s' m it} hm _ _ => by
          refine ⟨hm.gens, hm.drawn, hm.os, fun b o e => ?_⟩
          have hb := Heap.lt_size e
          have hb1 : b ≠ s.heap.objs.size := Nat.ne_of_lt hb
          have hb2 : b ≠ (s.heap.push (frO w)).objs.size := by
            rw [Heap.size_push]; exact Nat.ne_of_lt (Nat.lt_succ_of_lt hb)
          exact hm.heap b o (by simp only [List.mem_cons, List.not_mem_nil, or_false, not_or]; exact ⟨hb1, hb2⟩) (Heap.get?_push_of_some _ (Heap.get?_push_of_some _ e))
        cases tup with
        | false =>
          have hl : s.heap.IsList l items := hl
          obtain ⟨ol, hol, hcl, nl, hdl⟩ := hl
          obtain ⟨ocls, odict, odata, oslots⟩ := ol
          simp only at hcl hdl
          subst hcl; subst hdl
          have hol' : (s.heap.push (frO w)).get? l = some { cls := .type "list", dict := odict, data := .seq items nl, slots := oslots } := Heap.get?_push_of_some _ hol
          have hsls := PySem.F.sub_list_set
          have hslf := PySem.F.sub_list_frozenset
          have hne : (Value.type "list" == Value.type "dict") = false := by decide
          have hl1 : (s.heap.push (frO w)).IsList l items := ⟨_, hol', rfl, nl, rfl⟩
          unfold Builtin.«set.__init__» noKeywords Builtin.Frozenset.updateFrom
          generalize hPI : pyIter = PI
          wp_walk
          subst hPI
          refine wpAny_pyIter_list hl1 ?_
          refine wpAny_bind (wpAny_runValue ?_)
          have hlS : l < s.heap.objs.size := Heap.lt_size hol
          have hh3 : A.in1.in1.in1.handled = none := by simp [hh]
          have hneI : l ≠ (s.heap.push (frO w)).objs.size := by
            rw [Heap.size_push]; exact Nat.ne_of_lt (Nat.lt_succ_of_lt hlS)
          have hSf : s.heap.objs.size ∉ [(s.heap.push (frO w)).objs.size, l] := by
            rw [Heap.size_push]; simp only [List.mem_cons, List.mem_singleton, List.not_mem_nil, or_false, not_or]
            exact ⟨Nat.ne_of_lt (Nat.lt_succ_self _), Nat.ne_of_gt hlS⟩
          refine upd_loop (T := T) ((Walks.list hh3 _ l hneI items).toS) s.heap.objs.size hSf ks hsz hfew hval (items.size - 0) 0 _ (by omega) (Nat.zero_le _)
            ⟨⟨_, Heap.get?_push_size _ rfl, rfl, rfl⟩, (hl1.push _)⟩ ?hS0 ?hR
          case hS0 => exact ⟨0, Nat.le_refl _, (fresh (T := T) (Heap.get?_push_of_some _ hS)).congr fun j => by simp⟩
          case hR =>
            intro s' m hm hm2 hS'
            obtain ⟨eg, ed, eo, hk⟩ := fin hm hm2 hS'
            obtain ⟨h', g2, d', tk', os'⟩ := s'
            dsimp only at eg ed eo hk hS'
            subst eg; subst ed; subst eo
            show wpAny _ _ _ _ _ _
            refine wpAny_pure ?_
            show wpAny _ _ (ret Value.none) _ _ _
            exact wpAny_pure ⟨rfl, h', tk', m, rfl, hS', by rw [← hsz]; exact hm2, hk⟩
        | true =>
          have hl : s.heap.IsTuple l items := hl
          obtain ⟨ol, hol, hcl, nl, hdl⟩ := hl
          obtain ⟨ocls, odict, odata, oslots⟩ := ol
          simp only at hcl hdl
          subst hcl; subst hdl
          have hol' : (s.heap.push (frO w)).get? l = some { cls := .type "tuple", dict := odict, data := .seq items nl, slots := oslots } := Heap.get?_push_of_some _ hol
          have hsls := PySem.F.sub_tuple_set
          have hslf := PySem.F.sub_tuple_frozenset
          have hne : (Value.type "tuple" == Value.type "dict") = false := by decide
          have hl1 : (s.heap.push (frO w)).IsTuple l items := ⟨_, hol', rfl, nl, rfl⟩
          unfold Builtin.«set.__init__» noKeywords Builtin.Frozenset.updateFrom
          generalize hPI : pyIter = PI
          wp_walk
          subst hPI
          refine wpAny_pyIter_tuple hl1 ?_
          refine wpAny_bind (wpAny_runValue ?_)
          have hlS : l < s.heap.objs.size := Heap.lt_size hol
          have hh3 : A.in1.in1.in1.handled = none := by simp [hh]
          have hneI : l ≠ (s.heap.push (frO w)).objs.size := by
            rw [Heap.size_push]; exact Nat.ne_of_lt (Nat.lt_succ_of_lt hlS)
          have hSf : s.heap.objs.size ∉ [(s.heap.push (frO w)).objs.size, l] := by
            rw [Heap.size_push]; simp only [List.mem_cons, List.mem_singleton, List.not_mem_nil, or_false, not_or]
            exact ⟨Nat.ne_of_lt (Nat.lt_succ_self _), Nat.ne_of_gt hlS⟩
          refine upd_loop (T := T) ((Walks.tuple hh3 _ l hneI items).toS) s.heap.objs.size hSf ks hsz hfew hval (items.size - 0) 0 _ (by omega) (Nat.zero_le _)
            ⟨⟨_, Heap.get?_push_size _ rfl, rfl, rfl⟩, (hl1.push _)⟩ ?hS0 ?hR
          case hS0 => exact ⟨0, Nat.le_refl _, (fresh (T := T) (Heap.get?_push_of_some _ hS)).congr fun j => by simp⟩
          case hR =>
            intro s' m hm hm2 hS'
            obtain ⟨eg, ed, eo, hk⟩ := fin hm hm2 hS'
            obtain ⟨h', g2, d', tk', os'⟩ := s'
            dsimp only at eg ed eo hk hS'
            subst eg; subst ed; subst eo
            show wpAny _ _ _ _ _ _
            refine wpAny_pure ?_
            show wpAny _ _ (ret Value.none) _ _ _
            exact wpAny_pure ⟨rfl, h', tk', m, rfl, hS', by rw [← hsz]; exact hm2, hk⟩
      · cases r₂ with
        | error e => exact hr₂
        | ok fl₂ =>
          cases fl₂ with
          | ret r =>
            obtain ⟨rfl, h', tk, m, rfl, hS', hm', hk'⟩ := hr₂
            repeat (any_goals (first | assumption | wp_step))
            exact h _ _ _ hS' hm' hk'
          | _ => exact hr₂.elim
    | _ => exact hr.elim

/-! ### sorted -/
theorem strs_are : ∀ (l : List Value), (∀ v ∈ l, ∃ k tk, v = Value.str k tk) → StrsAre l (l.map strOf) := strsAre_map
/-- the order of texts -/
def leS (a b : Str) : Prop := ltCps b.cps.toList a.cps.toList = false
theorem sortedS_pw : ∀ (l : List Str), sortedS l = true → l.Pairwise leS
  | [], _ => .nil
  | [x], _ => List.pairwise_singleton _ _
  | x :: y :: r, h => by
    have h' : (!ltCps y.cps.toList x.cps.toList && risingS y r) = true := h
    obtain ⟨h1, h2⟩ := Bool.and_eq_true_iff.mp h'
    have ih := sortedS_pw (y :: r) h2
    have xy : leS x y := by simpa [leS] using h1
    refine List.pairwise_cons.mpr ⟨fun z hz => ?_, ih⟩
    rcases List.mem_cons.mp hz with e | hz
    · rw [e]; exact xy
    · have yz : leS y z := (List.pairwise_cons.mp ih).1 z hz
      unfold leS at xy yz ⊢
      rw [ltCps_eq] at xy yz ⊢
      have a : ¬ y.cps.toList < x.cps.toList := of_decide_eq_false xy
      have b : ¬ z.cps.toList < y.cps.toList := of_decide_eq_false yz
      exact decide_eq_false fun c => a (Std.lt_of_le_of_lt (List.not_lt.mp b) c)
theorem sorted_setS {a : Addr} {S : Str → Bool} {n : Nat} {Q : Value → Shared → Prop} (R : SetG (skS P w) s.heap a S n) (hh : A.handled = none) (h64 : n < 64)
    (hQ : ∀ s' p (out : Array Value) (c : Nat) (ns : List Str), (∀ b o, s.heap.get? b = some o → s'.heap.get? b = some o) → s'.gens = s.gens → s'.os = s.os → s.heap.objs.size ≤ p →
      s'.heap.get? p = some (seqObj "list" out c) → StrsAre out.toList ns → ns.Pairwise leS → ns.Nodup → (∀ k, k ∈ ns ↔ S k = true) → ns.length = n → Q (.ref p) s') :
    wpAny (model P w) A (call (.builtin "sorted") [.ref a]) Q E s := by
  obtain ⟨o, es, ep, t, ho, hex, hd, g, nd, hm, hb, hf, hn, hr, hl⟩ := R
  refine Calls.call_function_entry kind_sorted plain_sorted entry_sorted (args_sorted1 _) ?_
  unfold Builtin.«sorted»
  refine wpAny_bind (m := checkCount "sorted" 1 1 _) (wpAny_pure ?_)
  refine wpAny_bind (collect_set (A := A.in1) hh ⟨o, ho, hex.1, hd⟩ hf hb hr hl fun s1 vs k1 hz g1 o1 pm => ?_)
  have hvl : vs.length = n := by rw [pm.length_eq, List.length_map, Array.length_toList]; exact hn
  have hI : StrsAre vs (vs.map strOf) := strs_are vs fun v hv => by
    obtain ⟨e, he, q⟩ := List.mem_map.mp (pm.mem_iff.mp hv)
    obtain ⟨k, h1, _⟩ := g e he
    obtain ⟨tk, h2⟩ := Value.isStrOf_shape (show Value.isStrOf k e.2 = true from h1)
    exact ⟨k, tk, by rw [← q]; exact h2⟩
  have eky : (skS P w).ky ∘ (fun e : Int × Value => e.2) = kyE (skS P w) := rfl
  have pk : (vs.map strOf).Perm (es.toList.map (kyE (skS P w))) := by
    have q := pm.map strOf
    rw [List.map_map] at q
    have e : es.toList.map (strOf ∘ fun e => e.2) = es.toList.map (kyE (skS P w)) := List.map_congr_left fun e he => by
      obtain ⟨k, h1, _⟩ := g e he
      obtain ⟨tk, h2⟩ := Value.isStrOf_shape (show Value.isStrOf k e.2 = true from h1)
      show strOf e.2 = (skS P w).ky e.2
      rw [h2]
      rfl
    rw [e] at q
    exact q
  refine wpAny_bind (wpAny_newList ?_ (by rw [hvl, sizeLine_eq]; omega))
  have hoL : (s1.heap.push (seqObj "list" vs.toArray 0)).get? s1.heap.objs.size = some (seqObj "list" vs.toArray 0) := Heap.get?_push_size _ rfl
  refine wpAny_bind (wpAny_holding (wpAny_call_entry slot_list_sort ⟨_, hoL, rfl⟩ entry_list_sort (list_sort_treeK strKind_oneLt hoL hI.keysOf (fun v₁ v₂ rest e => keyKind_strs (by rw [← e]; exact hI)) (by rw [hvl]; exact h64) fun st' hp hs => ⟨_, rfl, ?_⟩) (args_list_sort _)))
  obtain ⟨ss', a1, a2, a3⟩ := sorted_out_str hI hp hs
  generalize (arrOf st').map (·.2) = out at a1 ⊢
  obtain ⟨c, hc⟩ := sortedHeap_at (vs := vs) (out := out) hoL
  have pn : ss'.Perm (es.toList.map (kyE (skS P w))) := a2.trans pk
  refine wpAny_pure ⟨_, rfl, hQ _ s1.heap.objs.size out c ss' (fun b u e => ?_) g1 o1 hz hc a1 (sortedS_pw _ a3) (pn.nodup_iff.mpr nd) (fun k => by rw [pn.mem_iff, ← hm k]) ?_⟩
  · have q := k1 b u e
    have hlt := Heap.lt_size q
    show (sortedHeap (s1.heap.push (seqObj "list" vs.toArray 0)) s1.heap.objs.size vs out).get? b = some u
    rw [sortedHeap_old (Nat.ne_of_lt hlt) (by rw [size_push']; exact Nat.lt_succ_of_lt hlt)]
    exact Heap.get?_push_of_some _ q
  · rw [pn.length_eq, List.length_map, Array.length_toList]; exact hn
theorem sorted_setI {a : Addr} {S : Int → Bool} {n : Nat} {Q : Value → Shared → Prop} (R : SetG (skI P w) s.heap a S n) (hh : A.handled = none) (h64 : n < 64)
    (hQ : ∀ s' p (out : Array Value) (c : Nat) (ns : List Int), (∀ b o, s.heap.get? b = some o → s'.heap.get? b = some o) → s'.gens = s.gens → s'.os = s.os → s.heap.objs.size ≤ p →
      s'.heap.get? p = some (seqObj "list" out c) → IntsAre out.toList ns → ns.Pairwise (· < ·) → (∀ k, k ∈ ns ↔ S k = true) → ns.length = n → Q (.ref p) s') :
    wpAny (model P w) A (call (.builtin "sorted") [.ref a]) Q E s := by
  obtain ⟨o, es, ep, t, ho, hex, hd, g, nd, hm, hb, hf, hn, hr, hl⟩ := R
  have ek : es.toList.map (kyE (skI P w)) = es.toList.map keyOf := List.map_congr_left fun e he => by
    obtain ⟨k, h1, _⟩ := g e he
    obtain ⟨tk, h2⟩ := Value.isInt_shape (show Value.isInt k e.2 = true from h1)
    show (skI P w).ky e.2 = keyOf e
    unfold keyOf
    rw [h2]
    rfl
  refine L2.sorted_set (P := P) (w := w) (S := S) (n := n) ⟨o, es, ep, t, ho, hex, hd, fun e he => ?_, by rw [← ek]; exact nd, fun k => by rw [← ek]; exact hm k, hb, hf, hn, hr, hl⟩ hh h64 hQ
  obtain ⟨k, h1, h2⟩ := g e he
  obtain ⟨tk, h3⟩ := Value.isInt_shape (show Value.isInt k e.2 = true from h1)
  exact ⟨k, tk, h3, h2⟩
end
end NbA

/-! NbB -/
set_option Elab.async false
set_option linter.all false
set_option maxRecDepth 100000
set_option maxHeartbeats 4000000
/-! NbB: list(reversed(xs)), != by an own __eq__, at the library's level. -/
namespace NbA
open PySem PySem.Spec PyProof.Rows L2
section
variable {prog : Program} {w : World} {A : Around} {E : Value → Shared → Prop} {s : Shared}
theorem call_list_rev {it l : Addr} {items : Array Value} {Q : Value → Shared → Prop} (hh : A.handled = none) (hit : s.heap.IsRevIter it l ((items.size : Int) - 1)) (hl : s.heap.IsList l items) (hne : l ≠ it) (hn : items.size ≤ sizeLine)
    (hQ : ∀ (h' : Heap) (tk c : Nat) (acc : Array Value), (∀ b o, b ≠ it → s.heap.get? b = some o → h'.get? b = some o) → h'.get? s.heap.objs.size = some { cls := .type "list", dict := none, data := .seq acc c, slots := #[] } → ItemsOf (fun i v => items[items.size - 1 - i]? = some v) acc items.size → Q (.ref s.heap.objs.size) { s with heap := h', toks := tk }) :
    wpAny (model prog w) A (call (.type "list") [.ref it]) Q E s := by
  refine callType_codes (Q₁ := fun obj s₁ => obj = .ref s.heap.objs.size ∧ s₁ = { s with heap := s.heap.push { cls := .type "list", data := .seq #[] } }) F.called_list (F.typeCall_list_1 _) F.entry_list_init
    (code_list_new _ ⟨rfl, rfl⟩) fun obj s₁ h₁ => ?_
  obtain ⟨rfl, rfl⟩ := h₁
  have hS : (s.heap.push { cls := .type "list", data := .seq #[] }).get? s.heap.objs.size = some { cls := .type "list", data := .seq #[] } := Heap.get?_push_size _ rfl
  refine ⟨⟨_, hS, rfl⟩, F.args_list_init_2 _ _, ?_⟩
  have W := (Walks.listRev (prog := prog) (w := w) (A := A.in1.in1) (by simp [hh]) it l hne items).toS
  obtain ⟨oi, hoi, _⟩ := id hit
  obtain ⟨ol, hol, _⟩ := id hl
  have hSi : s.heap.objs.size ≠ it := Nat.ne_of_gt (Heap.lt_size hoi)
  have hSl : s.heap.objs.size ≠ l := Nat.ne_of_gt (Heap.lt_size hol)
  have hSf : s.heap.objs.size ∉ [it, l] := by simp only [List.mem_cons, List.not_mem_nil, or_false, not_or]; exact ⟨hSi, hSl⟩
  show wpAny _ A.in1.in1 (do let old ← Builtin.List.listItems (.ref s.heap.objs.size); Builtin.List.listUpdate (.ref s.heap.objs.size) (fun _ => #[]); letGo old.toList.reverse; Builtin.List.listExtendWith (.ref s.heap.objs.size) (.ref it) .none) _ _ _
  refine wpAny_bind ?_
  unfold Builtin.List.listItems
  refine wpAny_bind (wpAny_seqItems hS rfl (wpAny_pure ?_))
  show wpAny _ A.in1.in1 (updateSeq s.heap.objs.size (fun _ => #[]) >>= fun _ => letGo (#[] : Array Value).toList.reverse >>= fun _ => Builtin.List.listExtendWith (.ref s.heap.objs.size) (.ref it) .none) _ _ _
  refine wpAny_bind (wpAny_updateSeq hS rfl ?_)
  have hS₂ := Heap.get?_update_self (Obj.mapSeq (fun _ => (#[] : Array Value))) hS rfl
  refine wpAny_bind (wpAny_letGo ?_)
  generalize hh2 : (s.heap.push { cls := .type "list", data := .seq #[] }).update s.heap.objs.size (Obj.mapSeq fun _ => (#[] : Array Value)) = h2 at hS₂ ⊢
  have k2 : ∀ b o, s.heap.get? b = some o → h2.get? b = some o := fun b o e => by
    rw [← hh2]
    exact (Heap.get?_update_other _ _ (Ne.symm (Nat.ne_of_lt (Heap.lt_size e)))).trans (Heap.get?_push_of_some _ e)
  have hit1 : h2.IsRevIter it l ((items.size : Int) - 1) := hit.at fun o e => k2 _ _ e
  have hl1 : h2.IsList l items := by
    obtain ⟨o, ho, r⟩ := hl
    exact ⟨o, k2 _ _ ho, r⟩
  have hT : ({ s with heap := h2 } : Shared).TypeIs (.ref it) "list_reverseiterator" := Heap.IsRevIter.typeIs (s := { s with heap := h2 }) hit1
  have h1 : Builtin.List.listSameRef (.ref s.heap.objs.size) (.ref it) = false := by simp [Builtin.List.listSameRef, hSi]
  unfold Builtin.List.listExtendWith
  refine wpAny_bind (wpAny_typeOf hT ?_)
  rw [if_neg (by rw [h1]; decide)]
  refine wpAny_bind (wpAny_pyIter_revIter (s := { s with heap := h2 }) hit1 ?_)
  refine wpAny_bind (wpAny_holding ?_)
  unfold Builtin.List.listLengthHint
  refine wpAny_bind (wpAny_specialOf hT RT.nolen_lri ?_)
  show wpAny _ A.in1.in1 (specialOf (Value.ref it) (Str.ofString "__length_hint__") >>= _) _ _ _
  refine wpAny_bind (wpAny_specialOf hT RT.hint_lri ?_)
  generalize hid : ("list_reverseiterator.__length_hint__" : String) = id0
  wp_delta
  rw [show splitId id0 = some ("list_reverseiterator", "__length_hint__") from by subst hid; decide +kernel]
  subst hid
  refine wpAny_bind (wpAny_isInstance (b := true) hT (by rw [isSubtype_type]; kernel_rfl) ?_)
  refine wpAny_pure ?_
  rw [if_neg (by decide)]
  have e0 : ((items.size : Nat) : Int) - 1 - ((0 : Nat) : Int) = (items.size : Int) - 1 := by omega
  refine wpAny_pure ⟨plainId_quiet F.plain_extend_loop _, codeAny_extend_loopS W hn _ hSf _ items.size 0 _ _ _ rfl (Nat.zero_le _) ⟨Nat.zero_le _, by rw [e0]; exact hit1, hl1⟩ hS₂ (ItemsOf.nil _) fun s' acc' c' hm hS' hacc => ?_⟩
  refine ⟨rfl, ?_⟩
  rw [Moved.eq_with hm]
  refine hQ s'.heap s'.toks c' acc' (fun b o hb e => hm.heap b o (fun hmem => ?_) (k2 _ _ e)) hS' hacc
  rcases List.mem_cons.mp hmem with e' | hmem
  · exact absurd (Heap.lt_size e) (by rw [e']; exact Nat.lt_irrefl _)
  · exact hb (List.mem_singleton.mp hmem)
theorem items_rev {items acc : Array Value} (h : ItemsOf (fun i v => items[items.size - 1 - i]? = some v) acc items.size) : acc.toList = items.toList.reverse := by
  apply List.ext_getElem
  · rw [Array.length_toList, List.length_reverse, Array.length_toList]; exact h.1
  · intro i h1 h2
    have hi : i < acc.size := by rw [Array.length_toList] at h1; exact h1
    have hz : acc.size = items.size := h.1
    have q : items[items.size - 1 - i]? = some acc[i] := h.2 i _ (Array.getElem?_eq_getElem hi)
    have hj : items.size - 1 - i < items.size := by omega
    rw [Array.getElem?_eq_getElem hj] at q
    rw [Array.getElem_toList, List.getElem_reverse, Array.getElem_toList]
    have e := Option.some.inj q
    rw [← e]
    congr 1
end
/-! != by the class's own __eq__ -/
section
variable {prog : Program} {w : World} {A : Around} {E : Value → Shared → Prop} {s : Shared} {K : PySem.W.Frag} {x y C C2 f : Addr} {ox oy : Obj} {od od2 : Option Obj}
theorem ifBound_objNe {M : Model} {args : List Value} {Q : Option Value → Shared → Prop} (X : K.In s.heap) (I : PySem.W.InstAt s.heap x ox C od) (hs : PySem.W.findIn K (.ref C) "__ne__" = some (some (.builtin "object.__ne__")))
    (h : wpAny M A (call (.builtin "object.__ne__") (.ref x :: args)) (fun v => Q (some v)) E s) : wpAny M A (callSpecialIfBound? (.ref x) "__ne__" args) Q E s := by
  simp only [callSpecialIfBound?, bindSpecialIfBound?]
  refine wpAny_holding (wpAny_bind (wpAny_bind (wpAny_bind (I.type.here ((PySem.W.looks_findIn X hs).here ?_)))))
  refine wpAny_bind (wpAny_askSetting (wpAny_ite ?_))
  have fin : wpAny M A (call (.builtin "object.__ne__") ([.ref x] ++ args) >>= fun v => pure (some v)) Q E s := wpAny_bind (wpAny_mono h (fun v s' h' => wpAny_pure h') fun _ _ h' => h')
  split
  · exact wpAny_bind (wpAny_of_eq (F.cmp_object.ne.bind _) (wpAny_pure (by exact fin)))
  · exact wpAny_tryCatch (wpAny_bind (wpAny_of_eq (F.cmp_object.ne.bind _) (wpAny_pure (by exact fin))))
theorem entry_ne (hu : A.units < cLine) (X : K.In s.heap) (I : PySem.W.InstAt s.heap x ox C od) (he : PySem.W.findIn K (.ref C) "__eq__" = some (some (.ref f))) (hf : PySem.W.isFn K (.ref f) = true) {Q : Fin → Shared → Prop}
    (hcall : wpAny (model prog w) A (call (.ref f) [.ref x, .ref y]) (fun v s' => ∃ b, v = .bool b ∧ Q (.done (.ret (.bool (!b)))) s') E s) : wpAny (model prog w) A (Builtin.«object.__ne__» ⟨[.ref x, .ref y], []⟩) Q E s := by
  unfold Builtin.«object.__ne__»
  repeat (first
    | with_reducible refine wpAny_cRoomFor hu ?_
    | (refine wpAny_bind (m := callSpecialIfBound? (.ref x) (Str.ofString "__eq__") [.ref y])
        (PySem.W.ifBound_K X I he hf (wpAny_mono hcall (fun r s' hr => by
          obtain ⟨b, rfl, hq⟩ := hr
          repeat (first | exact hq | exact wpAny_pure hq | exact wpAny_truthy_bool hq | (refine wpAny_bind (m := truthy (.bool _)) (wpAny_truthy_bool ?_)) | wp_step)) fun _ _ e => e)))
    | wp_step)
theorem call_objNe (hu : A.in1.units < cLine) (X : K.In s.heap) (I : PySem.W.InstAt s.heap x ox C od) (hm : PySem.W.mroIn K C (.type "object") = some true) (he : PySem.W.findIn K (.ref C) "__eq__" = some (some (.ref f))) (hf : PySem.W.isFn K (.ref f) = true) {Q : Value → Shared → Prop}
    (hcall : wpAny (model prog w) A.in1 (call (.ref f) [.ref x, .ref y]) (fun v s' => ∃ b, v = .bool b ∧ Q (.bool (!b)) s') E s) : wpAny (model prog w) A (call (.builtin "object.__ne__") [.ref x, .ref y]) Q E s :=
  wpAny_call (codeAny_call_builtin F.cmp_object.ne.plain F.cmpEntry_ne (PySem.W.check_slot F.cmpKind_ne F.cmpSplit_ne (I.type.andThen (PySem.W.looks_mroIn X hm)) (F.cmpArgs_ne _ _) (entry_ne hu X I he hf (wpAny_mono hcall (fun v s' hv => by
    obtain ⟨b, rfl, hq⟩ := hv
    exact ⟨b, rfl, hq⟩) fun _ _ e => e))))
theorem rc_neK (hu : A.units < cLine) (hu1 : A.in1.units < cLine) (X : K.In s.heap) (I : PySem.W.InstAt s.heap x ox C od) (I2 : PySem.W.InstAt s.heap y oy C2 od2) (nf : PySem.W.notFirst K C (.ref C2) = true) (hm : PySem.W.mroIn K C (.type "object") = some true) (hs : PySem.W.findIn K (.ref C) "__ne__" = some (some (.builtin "object.__ne__")))
    (he : PySem.W.findIn K (.ref C) "__eq__" = some (some (.ref f))) (hf : PySem.W.isFn K (.ref f) = true) {Q : Value → Shared → Prop}
    (hcall : wpAny (model prog w) A.in1 (call (.ref f) [.ref x, .ref y]) (fun v s' => ∃ b, v = .bool b ∧ Q (.bool (!b)) s') E s) : wpAny (model prog w) A (richCompare .NotEq (.ref x) (.ref y)) Q E s := by
  have one : wpAny (model prog w) A (tryCompare (.ref x) "__ne__" (.ref y)) (fun r s' => ∃ b, r = some (Value.bool b) ∧ Q (.bool b) s') E s := by
    unfold tryCompare
    refine wpAny_bind (ifBound_objNe X I hs (call_objNe hu1 X I hm he hf (wpAny_mono hcall (fun v s' hv => ?_) fun _ _ e => e)))
    obtain ⟨b, rfl, hq⟩ := hv
    exact ⟨b, rfl, wpAny_pure ⟨!b, rfl, hq⟩⟩
  unfold richCompare
  simp only [oneThing_ref]
  refine wpAny_holding (wpAny_bind (wpAny_cRoomFor hu ?_))
  rw [cmpInfo_NotEq]
  dsimp only
  refine wpAny_bind (I.type.here (wpAny_bind (I2.type.here ?_)))
  split
  · rename_i q
    have e : PySem.W.subIn K (.ref C2) (.ref C) = some false := by
      rcases Bool.or_eq_true_iff.mp nf with e | e
      · rw [beq_iff_eq.mp e] at q; simp at q
      · exact beq_iff_eq.mp e
    refine wpAny_bind ((PySem.W.looks_subIn X e).here ?_)
    simp only [Bool.false_eq_true, if_false]
    refine wpAny_bind (wpAny_mono one (fun r s' z => ?_) fun _ _ e => e)
    obtain ⟨b, rfl, hq⟩ := z
    exact wpAny_pure hq
  · refine wpAny_bind (wpAny_pure ?_)
    simp only [Bool.false_eq_true, if_false]
    refine wpAny_bind (wpAny_mono one (fun r s' z => ?_) fun _ _ e => e)
    obtain ⟨b, rfl, hq⟩ := z
    exact wpAny_pure hq
end
/-! sorted(xs), a tuple of texts -/
section
variable {prog : Program} {w : World} {A : Around} {E : Value → Shared → Prop} {s : Shared}
theorem sorted_tupS {l : Addr} {vs : List Value} {ss : List Str} {Q : Value → Shared → Prop} (hl : s.heap.IsTuple l vs.toArray) (hS : StrsAre vs ss) (h64 : vs.length < 64)
    (hQ : ∀ (h1 h' : Heap) (p : Addr) (out : Array Value) (c : Nat) (ns : List Str), (∀ b o, s.heap.get? b = some o → h1.get? b = some o) → (∀ b o, h1.get? b = some o → h'.get? b = some o) → h1.objs.size ≤ p → h'.get? p = some (seqObj "list" out c) → StrsAre out.toList ns → ns.Perm ss → sortedS ns = true → Q (.ref p) { s with heap := h' }) :
    wpAny (model prog w) A (call (.builtin "sorted") [.ref l]) Q E s := by
  refine Calls.call_function_entry kind_sorted plain_sorted entry_sorted (args_sorted1 _) ?_
  unfold Builtin.«sorted»
  refine wpAny_bind (m := checkCount "sorted" 1 1 _) (wpAny_pure ?_)
  obtain ⟨o, ho, hc, n, hd⟩ := hl
  have hvl : vs.length ≤ sizeLine := by rw [sizeLine_eq]; omega
  refine wpAny_bind (wpAny_collect_seq l (.inr rfl) ho hc hd (fun h1 k1 => ?_) (by rw [List.size_toArray]; exact hvl))
  rw [show vs.toArray.toList = vs from by simp]
  refine wpAny_bind (wpAny_newList ?_ hvl)
  have hoL : (h1.push (seqObj "list" vs.toArray 0)).get? h1.objs.size = some (seqObj "list" vs.toArray 0) := Heap.get?_push_size _ rfl
  refine wpAny_bind (wpAny_holding (wpAny_call_entry slot_list_sort ⟨_, hoL, rfl⟩ entry_list_sort (list_sort_treeK strKind_oneLt hoL hS.keysOf (fun v₁ v₂ rest e => keyKind_strs (by rw [← e]; exact hS)) h64 fun st' hp hs => ⟨_, rfl, ?_⟩) (args_list_sort _)))
  obtain ⟨ss', a1, a2, a3⟩ := sorted_out_str hS hp hs
  generalize (arrOf st').map (·.2) = out at a1 ⊢
  obtain ⟨c, hc⟩ := sortedHeap_at (vs := vs) (out := out) hoL
  refine wpAny_pure ⟨_, rfl, hQ h1 _ h1.objs.size out c ss' k1 (fun b u e => ?_) (Nat.le_refl _) hc a1 a2 a3⟩
  have hlt := Heap.lt_size e
  show (sortedHeap (h1.push (seqObj "list" vs.toArray 0)) h1.objs.size vs out).get? b = some u
  rw [sortedHeap_old (Nat.ne_of_lt hlt) (by rw [size_push']; exact Nat.lt_succ_of_lt hlt)]
  exact Heap.get?_push_of_some _ e
end
def rSortedTS (K : PySem.W.Frag) : List V → Hp → VK → Prop := fun vs H Q => ∃ (a : Addr) (xs : List Str), vs = [V.ref a] ∧ SqT K H a (xs.map V.str) ∧ xs.length < 64 ∧
  ∀ (ys : List Str) (p : Addr), ys.Perm xs → sortedS ys = true → H p = none → Q (.ref p) (upd H p (.lst (ys.map V.str)))
theorem cr_sortedTS {X : Cx} : CallR X (.builtin "sorted") (rSortedTS X.K) := by
  intro pins s σ H vs us Q I r h
  obtain ⟨a, xs, rfl, hs, h64, q⟩ := h
  obtain ⟨its, rv, hl, hz⟩ := I.tuple hs
  rw [Vals.ref1 r]
  have hlen0 := rv.length
  rw [List.length_map] at hlen0
  refine sorted_tupS hl rv.strs (by rw [← hlen0]; exact h64) fun h1 h' p out c ys k1 k2 hp he' e1 e2 e3 => ?_
  have hlen : (ys.map V.str).length ≤ sizeLine := by rw [List.length_map, e2.length_eq]; exact small64 h64
  have I1 := I.kept (t' := s.toks) k1
  exact ⟨.ref p, upd H p (.lst (ys.map V.str)), I1.laid (t' := s.toks) k2 hp ⟨hlen, out.toList, c, vals_of_strs e1, he'⟩, rfl, q ys _ e2 e3 (I1.hok.fresh hp)⟩
end NbA

/-! Nb1 -/
set_option Elab.async false
set_option linter.all false
set_option maxRecDepth 100000
/-! Nb1: values as trees over the layer's abstract heap; what it means that a tree stands in a heap; wishes lifted. -/
namespace Nb
open PySem PySem.Spec L2
open PyProof.Rows hiding St

/-- what may change -/
inductive MO where
  | lst (xs : List PV) | ins (c : Nat) (fs : List (Nat × PV)) | dct (kvs : List (PV × PV))

abbrev Sl := List (Option PV)
abbrev MHp := Addr → Option MO
abbrev BV := PV → MHp → Prop
abbrev BX := Nat → List (Nat × PV) → MHp → Prop
abbrev BE := Sl → MHp → BV → BX → Prop
abbrev BA := Sl → MHp → (List PV → MHp → Prop) → BX → Prop
abbrev BT := Sl → MHp → (Bool → MHp → Prop) → BX → Prop
structure BD where
  nx : Sl → MHp → Prop
  rt : BV
  bk : Sl → MHp → Prop
  ct : Sl → MHp → Prop
  ex : Nat → List (Nat × PV) → Sl → MHp → Prop
abbrev BS := BD → Sl → MHp → Prop
/-- a promise: arguments, what may change, the wish of a value, of an exception -/
abbrev BP := List PV → MHp → BV → BX → Prop

def ms (M : MHp) (a : Addr) (o : MO) : MHp := fun b => if b = a then some o else M b
def md (M : MHp) (a : Addr) : MHp := fun b => if b = a then none else M b
theorem ms_same {M : MHp} {a : Addr} {o : MO} : ms M a o a = some o := by unfold ms; rw [if_pos rfl]
theorem ms_ne {M : MHp} {a b : Addr} {o : MO} (h : b ≠ a) : ms M a o b = M b := by unfold ms; rw [if_neg h]
theorem md_same {M : MHp} {a : Addr} : md M a a = none := by unfold md; rw [if_pos rfl]
theorem md_ne {M : MHp} {a b : Addr} (h : b ≠ a) : md M a b = M b := by unfold md; rw [if_neg h]
theorem ms_ms {M : MHp} {a : Addr} {o u : MO} : ms (ms M a o) a u = ms M a u := by
  funext b; unfold ms; split <;> rfl
theorem md_ms {M : MHp} {a : Addr} {o : MO} (h : M a = none) : md (ms M a o) a = M := by
  funext b; by_cases e : b = a
  · rw [e, md_same, h]
  · rw [md_ne e, ms_ne e]
theorem ms_id {M : MHp} {a : Addr} {o : MO} (h : M a = some o) : ms M a o = M := by
  funext b; by_cases e : b = a
  · rw [e, ms_same, h]
  · rw [ms_ne e]
theorem ms_swap {M : MHp} {a b : Addr} {o u : MO} (h : a ≠ b) : ms (ms M a o) b u = ms (ms M b u) a o := by
  funext c; by_cases e : c = a
  · subst e; rw [ms_ne h, ms_same, ms_same]
  · rw [ms_ne e]; unfold ms; by_cases e2 : c = b
    · rw [if_pos e2, if_pos e2]
    · rw [if_neg e2, if_neg e2, if_neg e]

structure GI where
  K : PySem.W.Frag
  nm : Nat → Str
  inj : ∀ a b, nm a = nm b → a = b
  cl : Nat → Option Addr
  /-- the error at hand: its place, its class, its dict -/
  er : Option (Addr × Addr × Option Addr)

/-- an error object: made and not raised, or the one at hand -/
def ExcAt (G : GI) (F : Hp) (a : Addr) (c : Nat) (gs : List (Str × V)) : Prop :=
  ∃ C, G.cl c = some C ∧ ((∃ d, F a = some (exo a C (some d)) ∧ F d = some (exd d gs)) ∨ (F a = some (exo a C none) ∧ gs = []) ∨ (∃ d, G.er = some (a, C, some d) ∧ F d = some (.xd gs)) ∨ (G.er = some (a, C, none) ∧ gs = []))

mutual
/-- the tree stands at the value, over what does not change (F) -/
inductive RepV (G : GI) (F : Hp) : PV → V → Prop
  | non : RepV G F .non .non
  | bl (b : Bool) : RepV G F (.bl b) (.bl b)
  | int (i : Int) : RepV G F (.int i) (.int i)
  | str (x : Str) : RepV G F (.str x) (.str x)
  | tup {a : Addr} {xs : List PV} {vs : List V} : SqT G.K F a vs → RepVs G F xs vs → RepV G F (.tup xs) (.ref a)
  | lst {a : Addr} {xs : List PV} {vs : List V} : F a = some (.lst vs) → RepVs G F xs vs → RepV G F (.lst xs) (.ref a)
  | kl {a : Addr} {xs : List PV} {vs : List V} : SqL G.K F a vs → RepVs G F xs vs → RepV G F (.kl xs) (.ref a)
  | obj {a C dx : Addr} {c : Nat} {fs : List (Nat × PV)} {gs : List (Str × V)} : G.cl c = some C → F a = some (.ins C dx gs) → RepFs G F fs gs → RepV G F (.obj c fs) (.ref a)
  | ref (a : Addr) : RepV G F (.ref a) (.ref a)
  | raw (v : V) : RepV G F (.raw v) v
  | exc {a : Addr} {c : Nat} {fs : List (Nat × PV)} {gs : List (Str × V)} : ExcAt G F a c gs → RepFs G F fs gs → RepV G F (.exc c fs) (.ref a)
inductive RepVs (G : GI) (F : Hp) : List PV → List V → Prop
  | nil : RepVs G F [] []
  | cons {x : PV} {v : V} {xs : List PV} {vs : List V} : RepV G F x v → RepVs G F xs vs → RepVs G F (x :: xs) (v :: vs)
inductive RepFs (G : GI) (F : Hp) : List (Nat × PV) → List (Str × V) → Prop
  | nil : RepFs G F [] []
  | cons {n : Nat} {x : PV} {v : V} {fs : List (Nat × PV)} {gs : List (Str × V)} : RepV G F x v → RepFs G F fs gs → RepFs G F ((n, x) :: fs) ((G.nm n, v) :: gs)
end

section
variable {G : GI} {F F1 H H1 : Hp}
theorem sqT_mono {K : PySem.W.Frag} {a : Addr} {vs : List V} (s : Same F F1) (h : SqT K F a vs) : SqT K F1 a vs := by
  rcases h with h | h
  · rcases h with h | ⟨o, h⟩
    · exact .inl (.inl (s _ _ h))
    · exact .inl (.inr ⟨o, s _ _ h⟩)
  · exact .inr h
theorem sqL_mono {K : PySem.W.Frag} {a : Addr} {vs : List V} (s : Same F F1) (h : SqL K F a vs) : SqL K F1 a vs := s.seq h
theorem ExcAt.mono {a : Addr} {c : Nat} {gs : List (Str × V)} (s : Same F F1) (h : ExcAt G F a c gs) : ExcAt G F1 a c gs := by
  obtain ⟨C, hC, h⟩ := h
  refine ⟨C, hC, ?_⟩
  rcases h with ⟨d, h1, h2⟩ | ⟨h1, h2⟩ | ⟨d, h1, h2⟩ | h
  · exact .inl ⟨d, s _ _ h1, s _ _ h2⟩
  · exact .inr (.inl ⟨s _ _ h1, h2⟩)
  · exact .inr (.inr (.inl ⟨d, h1, s _ _ h2⟩))
  · exact .inr (.inr (.inr h))
mutual
theorem RepV.mono {x : PV} {v : V} (s : Same F F1) : RepV G F x v → RepV G F1 x v
  | .non => .non
  | .bl b => .bl b
  | .int i => .int i
  | .str x => .str x
  | .tup h r => .tup (sqT_mono s h) (RepVs.mono s r)
  | .lst h r => .lst (s _ _ h) (RepVs.mono s r)
  | .kl h r => .kl (sqL_mono s h) (RepVs.mono s r)
  | .obj c h r => .obj c (s _ _ h) (RepFs.mono s r)
  | .ref a => .ref a
  | .raw v => .raw v
  | .exc h r => .exc (ExcAt.mono s h) (RepFs.mono s r)
theorem RepVs.mono {xs : List PV} {vs : List V} (s : Same F F1) : RepVs G F xs vs → RepVs G F1 xs vs
  | .nil => .nil
  | .cons r t => .cons (RepV.mono s r) (RepVs.mono s t)
theorem RepFs.mono {fs : List (Nat × PV)} {gs : List (Str × V)} (s : Same F F1) : RepFs G F fs gs → RepFs G F1 fs gs
  | .nil => .nil
  | .cons r t => .cons (RepV.mono s r) (RepFs.mono s t)
end
theorem RepVs.length : ∀ {xs : List PV} {vs : List V}, RepVs G F xs vs → xs.length = vs.length
  | _, _, .nil => rfl
  | _, _, .cons _ t => congrArg (· + 1) (RepVs.length t)
theorem RepVs.append : ∀ {xs ys : List PV} {vs ws : List V}, RepVs G F xs vs → RepVs G F ys ws → RepVs G F (xs ++ ys) (vs ++ ws)
  | _, _, _, _, .nil, s => s
  | _, _, _, _, .cons r t, s => .cons r (RepVs.append t s)
theorem RepVs.get : ∀ {xs : List PV} {vs : List V} {i : Nat} {x : PV}, RepVs G F xs vs → xs[i]? = some x → ∃ v, vs[i]? = some v ∧ RepV G F x v
  | _, _, _, _, .nil, e => by simp at e
  | _, _, 0, _, .cons r _, e => by simp at e; subst e; exact ⟨_, rfl, r⟩
  | _, _, i + 1, _, .cons _ t, e => by
    obtain ⟨v, h1, h2⟩ := RepVs.get (i := i) t (by simpa using e)
    exact ⟨v, by simpa using h1, h2⟩
theorem RepVs.getV : ∀ {xs : List PV} {vs : List V} {i : Nat} {v : V}, RepVs G F xs vs → vs[i]? = some v → ∃ x, xs[i]? = some x ∧ RepV G F x v
  | _, _, _, _, .nil, e => by simp at e
  | _, _, 0, _, .cons r _, e => by simp at e; subst e; exact ⟨_, rfl, r⟩
  | _, _, i + 1, _, .cons _ t, e => by
    obtain ⟨v, h1, h2⟩ := RepVs.getV (i := i) t (by simpa using e)
    exact ⟨v, by simpa using h1, h2⟩
theorem RepVs.take : ∀ {xs : List PV} {vs : List V} (n : Nat), RepVs G F xs vs → RepVs G F (xs.take n) (vs.take n)
  | _, _, 0, _ => .nil
  | _, _, _ + 1, .nil => .nil
  | _, _, n + 1, .cons r t => .cons r (RepVs.take n t)
theorem RepVs.drop : ∀ {xs : List PV} {vs : List V} (n : Nat), RepVs G F xs vs → RepVs G F (xs.drop n) (vs.drop n)
  | _, _, 0, r => r
  | _, _, _ + 1, .nil => .nil
  | _, _, n + 1, .cons _ t => RepVs.drop n t
theorem RepVs.set {y : PV} {w : V} (r : RepV G F y w) : ∀ {xs : List PV} {vs : List V} (i : Nat), RepVs G F xs vs → RepVs G F (xs.set i y) (vs.set i w)
  | _, _, _, .nil => .nil
  | _, _, 0, .cons _ t => .cons r t
  | _, _, i + 1, .cons q t => .cons q (RepVs.set r i t)
theorem RepVs.erase : ∀ {xs : List PV} {vs : List V} (i : Nat), RepVs G F xs vs → RepVs G F (xs.eraseIdx i) (vs.eraseIdx i)
  | _, _, _, .nil => .nil
  | _, _, 0, .cons _ t => t
  | _, _, i + 1, .cons q t => .cons q (RepVs.erase i t)
theorem RepVs.reverse : ∀ {xs : List PV} {vs : List V}, RepVs G F xs vs → RepVs G F xs.reverse vs.reverse
  | _, _, .nil => .nil
  | _, _, .cons r t => by
    rw [List.reverse_cons, List.reverse_cons]
    exact (RepVs.reverse t).append (.cons r .nil)
theorem RepVs.rep {xs : List PV} {vs : List V} (r : RepVs G F xs vs) : ∀ k : Nat, RepVs G F (List.replicate k xs).flatten (List.replicate k vs).flatten
  | 0 => .nil
  | k + 1 => by
    rw [List.replicate_succ, List.replicate_succ, List.flatten_cons, List.flatten_cons]
    exact r.append (RepVs.rep r k)
theorem RepFs.lookup : ∀ {fs : List (Nat × PV)} {gs : List (Str × V)} {n : Nat} {x : PV}, RepFs G F fs gs → fs.lookup n = some x → ∃ v, gs.lookup (G.nm n) = some v ∧ RepV G F x v
  | _, _, _, _, .nil, e => by simp at e
  | (m, y) :: fs, _, n, x, .cons r t, e => by
    rw [List.lookup_cons] at e
    by_cases h : n = m
    · subst h
      simp at e
      subst e
      exact ⟨_, by simp [List.lookup_cons], r⟩
    · have hb : (n == m) = false := by simpa using h
      rw [hb] at e
      obtain ⟨v, h1, h2⟩ := RepFs.lookup t e
      have hs : (G.nm n == G.nm m) = false := by
        simp only [beq_eq_false_iff_ne]
        exact fun z => h (G.inj _ _ z)
      exact ⟨v, by rw [List.lookup_cons, hs]; exact h1, h2⟩
theorem RepFs.lookup_none : ∀ {fs : List (Nat × PV)} {gs : List (Str × V)} {n : Nat}, RepFs G F fs gs → fs.lookup n = none → gs.lookup (G.nm n) = none
  | _, _, _, .nil, _ => rfl
  | (m, y) :: fs, _, n, .cons r t, e => by
    rw [List.lookup_cons] at e
    by_cases h : n = m
    · subst h
      simp at e
    · have hb : (n == m) = false := by simpa using h
      rw [hb] at e
      have hs : (G.nm n == G.nm m) = false := by
        simp only [beq_eq_false_iff_ne]
        exact fun z => h (G.inj _ _ z)
      rw [List.lookup_cons, hs]
      exact RepFs.lookup_none t e
/-- a field is stored: in its place, or at the end -/
def putN (f : Nat) (x : PV) : List (Nat × PV) → List (Nat × PV)
  | [] => [(f, x)]
  | (g, y) :: r => if g = f then (g, x) :: r else (g, y) :: putN f x r
theorem RepFs.put {f : Nat} {x : PV} {v : V} (r : RepV G F x v) : ∀ {fs : List (Nat × PV)} {gs : List (Str × V)}, RepFs G F fs gs → RepFs G F (putN f x fs) (putF (G.nm f) v gs)
  | _, _, .nil => .cons r .nil
  | (m, y) :: fs, _, .cons q t => by
    unfold putN putF
    by_cases h : m = f
    · subst h
      rw [if_pos rfl, if_pos rfl]
      exact .cons r t
    · rw [if_neg h, if_neg fun z => h (G.inj _ _ z)]
      exact .cons q (RepFs.put r t)
theorem RepFs.length : ∀ {fs : List (Nat × PV)} {gs : List (Str × V)}, RepFs G F fs gs → fs.length = gs.length
  | _, _, .nil => rfl
  | _, _, .cons _ t => congrArg (· + 1) (RepFs.length t)
end

/-- a changeable thing stands at its address -/
def MOk (G : GI) (F H : Hp) (a : Addr) : MO → Prop
  | .lst xs => ∃ vs, H a = some (.lst vs) ∧ RepVs G F xs vs
  | .ins c fs => ∃ C dx gs, G.cl c = some C ∧ H a = some (.ins C dx gs) ∧ RepFs G F fs gs
  | .dct _ => False

/-- what is known stands in the heap -/
structure At (G : GI) (F : Hp) (M : MHp) (H : Hp) : Prop where
  sub : Same F H
  dis : ∀ a o, F a = some o → M a = none
  mo : ∀ a m, M a = some m → MOk G F H a m
/-- a list, an instance -/
def LI : HO → Prop
  | .lst _ => True
  | .ins _ _ _ => True
  | _ => False
/-- how it went on: nothing that was known to stand is gone, nothing of others was touched -/
structure Ev (F : Hp) (M : MHp) (H F1 : Hp) (M1 : MHp) (H1 : Hp) : Prop where
  sub : Same F F1
  kp : ∀ a o, H a = some o → M a = none → H1 a = some o
  gr : ∀ a o, H a = some o → M a = none → M1 a = none
  fr : ∀ a o, H a = some o → LI o → M a = none → F a = none → F1 a = none

section
variable {G : GI} {F F1 F2 H H1 H2 : Hp} {M M1 M2 : MHp}
theorem Ev.refl : Ev F M H F M H := ⟨Same.refl F, fun _ _ h _ => h, fun _ _ _ h => h, fun _ _ _ _ _ h => h⟩
theorem Ev.trans (a : Ev F M H F1 M1 H1) (b : Ev F1 M1 H1 F2 M2 H2) : Ev F M H F2 M2 H2 :=
  ⟨a.sub.trans b.sub, fun x o h n => b.kp x o (a.kp x o h n) (a.gr x o h n), fun x o h n => b.gr x o (a.kp x o h n) (a.gr x o h n), fun x o h l n f => b.fr x o (a.kp x _ h n) l (a.gr x _ h n) (a.fr x o h l n f)⟩
theorem MOk.mono {a : Addr} {m : MO} (s : Same F F1) (h : MOk G F H a m) (e : H1 a = H a) : MOk G F1 H1 a m := by
  cases m with
  | lst xs => obtain ⟨vs, h1, r⟩ := h; exact ⟨vs, e.trans h1, r.mono s⟩
  | ins c fs => obtain ⟨C, dx, gs, c1, h1, r⟩ := h; exact ⟨C, dx, gs, c1, e.trans h1, r.mono s⟩
  | dct _ => exact h.elim
theorem MOk.some {a : Addr} {m : MO} (h : MOk G F H a m) : ∃ o, H a = some o := by
  cases m with
  | lst xs => obtain ⟨vs, h1, r⟩ := h; exact ⟨_, h1⟩
  | ins c fs => obtain ⟨C, dx, gs, c1, h1, r⟩ := h; exact ⟨_, h1⟩
  | dct _ => exact h.elim
theorem At.none_of (A : At G F M H) {p : Addr} (h : H p = none) : M p = none := by
  cases e : M p with
  | none => rfl
  | some m =>
    obtain ⟨o, q⟩ := (A.mo p m e).some
    rw [h] at q
    cases q
theorem At.fnone_of (A : At G F M H) {p : Addr} (h : H p = none) : F p = none := by
  cases e : F p with
  | none => rfl
  | some o => rw [A.sub p o e] at h; cases h
/-- a new object that the layer laid, not told -/
theorem At.new (A : At G F M H) {p : Addr} {o : HO} (h : H p = none) : At G F M (upd H p o) ∧ Ev F M H F M (upd H p o) := by
  refine ⟨⟨fun a u e => ?_, A.dis, fun a m e => ?_⟩, ⟨Same.refl F, fun a u e _ => ?_, fun _ _ _ n => n, fun _ _ _ _ _ n => n⟩⟩
  · rw [upd_ne (ne_of_none (A.sub a u e) h)]; exact A.sub a u e
  · obtain ⟨u, q⟩ := (A.mo a m e).some
    exact (A.mo a m e).mono (Same.refl F) (upd_ne (ne_of_none q h))
  · rw [upd_ne (ne_of_none e h)]; exact e
theorem same_upd {p : Addr} {o : HO} (h : F p = none) : Same F (upd F p o) := fun a u e => by
  rw [upd_ne (ne_of_none e h)]; exact e
/-- .. told as one that stays as it is -/
theorem At.newF (A : At G F M H) {p : Addr} {o : HO} (h : H p = none) : At G (upd F p o) M (upd H p o) ∧ Ev F M H (upd F p o) M (upd H p o) := by
  have hf := A.fnone_of h
  have hm := A.none_of h
  obtain ⟨A1, E1⟩ := A.new (o := o) h
  refine ⟨⟨fun a u e => ?_, fun a u e => ?_, fun a m e => (A1.mo a m e).mono (same_upd hf) rfl⟩, ⟨same_upd hf, E1.kp, E1.gr, fun a xs e _ _ n => by rw [upd_ne (ne_of_none e h)]; exact n⟩⟩
  · by_cases q : a = p
    · subst q; rw [upd_same] at e ⊢; exact e
    · rw [upd_ne q] at e ⊢; exact A.sub a u e
  · by_cases q : a = p
    · subst q; exact hm
    · rw [upd_ne q] at e; exact A.dis a u e
/-- .. told as one that may change -/
theorem At.newM (A : At G F M H) {p : Addr} {o : HO} {m : MO} (h : H p = none) (ok : MOk G F (upd H p o) p m) : At G F (ms M p m) (upd H p o) ∧ Ev F M H F (ms M p m) (upd H p o) := by
  have hf := A.fnone_of h
  obtain ⟨A1, E1⟩ := A.new (o := o) h
  refine ⟨⟨A1.sub, fun a u e => ?_, fun a m' e => ?_⟩, ⟨Same.refl F, E1.kp, fun a u e n => ?_, fun _ _ _ _ _ n => n⟩⟩
  · rw [ms_ne (ne_of_none e hf)]; exact A.dis a u e
  · by_cases q : a = p
    · subst q; rw [ms_same] at e; cases e; exact ok
    · rw [ms_ne q] at e; exact A1.mo a m' e
  · rw [ms_ne (ne_of_none e h)]; exact n
/-- a thing that may change is changed -/
theorem At.put (A : At G F M H) {p : Addr} {o : HO} {m m' : MO} (h : M p = some m) (ok : MOk G F (upd H p o) p m') : At G F (ms M p m') (upd H p o) ∧ Ev F M H F (ms M p m') (upd H p o) := by
  have np : ∀ a, M a = none → a ≠ p := fun a n z => by rw [z, h] at n; cases n
  refine ⟨⟨fun a u e => ?_, fun a u e => ?_, fun a m2 e => ?_⟩, ⟨Same.refl F, fun a u e n => ?_, fun a u e n => ?_, fun _ _ _ _ _ n => n⟩⟩
  · rw [upd_ne (np a (A.dis a u e))]; exact A.sub a u e
  · rw [ms_ne (np a (A.dis a u e))]; exact A.dis a u e
  · by_cases q : a = p
    · subst q; rw [ms_same] at e; cases e; exact ok
    · rw [ms_ne q] at e; exact (A.mo a m2 e).mono (Same.refl F) (upd_ne q)
  · rw [upd_ne (np a n)]; exact e
  · rw [ms_ne (np a n)]; exact n
/-- forgetting what may change -/
theorem At.less (A : At G F M H) (l : ∀ a m, M1 a = some m → M a = some m) : At G F M1 H ∧ Ev F M H F M1 H := by
  have ln : ∀ a, M a = none → M1 a = none := fun a n => by
    cases e : M1 a with
    | none => rfl
    | some m => rw [l a m e] at n; cases n
  exact ⟨⟨A.sub, fun a o e => ln a (A.dis a o e), fun a m e => A.mo a m (l a m e)⟩, ⟨Same.refl F, fun _ _ h _ => h, fun a _ _ n => ln a n, fun _ _ _ _ _ n => n⟩⟩
/-- a list, an instance that changes no more -/
theorem At.freeze (A : At G F M H) {p : Addr} {m : MO} {o : HO} (h : M p = some m) (ho : H p = some o) : At G (upd F p o) (md M p) H ∧ Ev F M H (upd F p o) (md M p) H := by
  have hf : F p = none := by
    cases e : F p with
    | none => rfl
    | some u => rw [A.dis p u e] at h; cases h
  refine ⟨⟨fun a u e => ?_, fun a u e => ?_, fun a m2 e => ?_⟩, ⟨same_upd hf, fun _ _ h _ => h, fun a u e n => ?_, fun a xs e _ n f => by rw [upd_ne (fun z => by rw [z, h] at n; cases n)]; exact f⟩⟩
  · by_cases q : a = p
    · subst q; rw [upd_same] at e; rw [ho]; exact e
    · rw [upd_ne q] at e; exact A.sub a u e
  · by_cases q : a = p
    · subst q; exact md_same
    · rw [upd_ne q] at e; rw [md_ne q]; exact A.dis a u e
  · by_cases q : a = p
    · subst q; rw [md_same] at e; cases e
    · rw [md_ne q] at e; exact (A.mo a m2 e).mono (same_upd hf) rfl
  · by_cases q : a = p
    · subst q; exact md_same
    · rw [md_ne q]; exact n
end

/-- the slots -/
structure RelS (G : GI) (F : Hp) (τ : Sl) (σ : St) : Prop where
  len : τ.length = σ.length
  at_ : ∀ (i : Nat) (x : PV), τ[i]? = some (some x) → ∃ v, σ[i]? = some (some v) ∧ RepV G F x v
/-- an exception's class and fields -/
def XR (G : GI) (F : Hp) (M : MHp) (H : Hp) (c : Nat) (fs : List (Nat × PV)) (cls : Value) (d : Option Addr) : Prop :=
  ∃ C, G.cl c = some C ∧ cls = .ref C ∧ ((fs = [] ∧ d = none) ∨ ∃ (dd : Addr) (gs : List (Str × V)), d = some dd ∧ H dd = some (.xd gs) ∧ M dd = none ∧ RepFs G F fs gs)

section
variable {G : GI} {F F1 F2 H H1 H2 : Hp} {M M1 M2 : MHp} {τ : Sl} {σ : St}
theorem RelS.mono (r : RelS G F τ σ) (s : Same F F1) : RelS G F1 τ σ := ⟨r.len, fun i x e => let ⟨v, h1, h2⟩ := r.at_ i x e; ⟨v, h1, h2.mono s⟩⟩
theorem RelS.set (r : RelS G F τ σ) {x : PV} {v : V} (i : Nat) (q : RepV G F x v) : RelS G F (τ.set i (some x)) (σ.set i (some v)) := by
  refine ⟨by rw [List.length_set, List.length_set, r.len], fun j y e => ?_⟩
  by_cases h : j = i
  · subst h
    have hl : j < τ.length := by
      have := (List.getElem?_eq_some_iff.mp e).1
      rwa [List.length_set] at this
    rw [List.getElem?_set_self hl] at e
    cases e
    exact ⟨v, List.getElem?_set_self (by rw [← r.len]; exact hl), q⟩
  · rw [List.getElem?_set_ne (Ne.symm h)] at e
    obtain ⟨w, h1, h2⟩ := r.at_ j y e
    exact ⟨w, by rw [List.getElem?_set_ne (Ne.symm h)]; exact h1, h2⟩
theorem RelS.unset (r : RelS G F τ σ) (i : Nat) : RelS G F (τ.set i none) (σ.set i none) := by
  refine ⟨by rw [List.length_set, List.length_set, r.len], fun j y e => ?_⟩
  by_cases h : j = i
  · subst h
    by_cases hl : j < τ.length
    · rw [List.getElem?_set_self hl] at e; cases e
    · rw [List.getElem?_eq_none (by rw [List.length_set]; omega)] at e; cases e
  · rw [List.getElem?_set_ne (Ne.symm h)] at e
    obtain ⟨w, h1, h2⟩ := r.at_ j y e
    exact ⟨w, by rw [List.getElem?_set_ne (Ne.symm h)]; exact h1, h2⟩

/-- what is wished of an exception, at the slots σ -/
def ExW (G : GI) (W : WX) (F : Hp) (M : MHp) (H : Hp) (σ : St) (E : BX) : Prop :=
  ∀ c fs F1 M1 H1 cls d, Ev F M H F1 M1 H1 → At G F1 M1 H1 → XR G F1 M1 H1 c fs cls d → E c fs M1 → W cls d σ H1
theorem ExW.on {W : WX} {E : BX} (x : ExW G W F M H σ E) (e : Ev F M H F1 M1 H1) : ExW G W F1 M1 H1 σ E :=
  fun c fs F2 M2 H2 cls d e2 a r q => x c fs F2 M2 H2 cls d (e.trans e2) a r q
/-- an expression's wish, lifted -/
def liftE (G : GI) (W : WX) (b : BE) : TE := fun σ H Qh => ∃ F τ M Q E, At G F M H ∧ RelS G F τ σ ∧
  (∀ x F1 M1 H1 v, Ev F M H F1 M1 H1 → At G F1 M1 H1 → RepV G F1 x v → Q x M1 → Qh v H1) ∧ ExW G W F M H σ E ∧ b τ M Q E
def liftT (G : GI) (W : WX) (b : BT) : TT := fun σ H Qh => ∃ F τ M Q E, At G F M H ∧ RelS G F τ σ ∧
  (∀ k F1 M1 H1, Ev F M H F1 M1 H1 → At G F1 M1 H1 → Q k M1 → Qh k H1) ∧ ExW G W F M H σ E ∧ b τ M Q E
def liftA (G : GI) (W : WX) (b : BA) : TA := fun σ H Qh => ∃ F τ M Q E, At G F M H ∧ RelS G F τ σ ∧
  (∀ xs F1 M1 H1 vs, Ev F M H F1 M1 H1 → At G F1 M1 H1 → RepVs G F1 xs vs → Q xs M1 → Qh vs H1) ∧ ExW G W F M H σ E ∧ b τ M Q E
def liftS (G : GI) (W : WX) (b : BS) : TS := fun D σ H => ∃ F τ M B, At G F M H ∧ RelS G F τ σ ∧
  (∀ τ1 F1 M1 H1 σ1, Ev F M H F1 M1 H1 → At G F1 M1 H1 → RelS G F1 τ1 σ1 → B.nx τ1 M1 → D.nx σ1 H1) ∧
  (∀ x F1 M1 H1 v, Ev F M H F1 M1 H1 → At G F1 M1 H1 → RepV G F1 x v → B.rt x M1 → D.rt v H1) ∧
  (∀ τ1 F1 M1 H1 σ1, Ev F M H F1 M1 H1 → At G F1 M1 H1 → RelS G F1 τ1 σ1 → B.bk τ1 M1 → D.bk σ1 H1) ∧
  (∀ τ1 F1 M1 H1 σ1, Ev F M H F1 M1 H1 → At G F1 M1 H1 → RelS G F1 τ1 σ1 → B.ct τ1 M1 → D.ct σ1 H1) ∧
  (∀ c fs τ1 F1 M1 H1 σ1 cls d, Ev F M H F1 M1 H1 → At G F1 M1 H1 → RelS G F1 τ1 σ1 → XR G F1 M1 H1 c fs cls d → B.ex c fs τ1 M1 → W cls d σ1 H1) ∧ b B τ M
/-- a promise, lifted -/
def liftP (G : GI) (S : BP) : Sp := fun vs H Qh Eh => ∃ F xs M Q E, At G F M H ∧ RepVs G F xs vs ∧
  (∀ x F1 M1 H1 v, Ev F M H F1 M1 H1 → At G F1 M1 H1 → RepV G F1 x v → Q x M1 → Qh v H1) ∧
  (∀ c fs F1 M1 H1 cls d, Ev F M H F1 M1 H1 → At G F1 M1 H1 → XR G F1 M1 H1 c fs cls d → E c fs M1 → Eh cls d H1) ∧ S xs M Q E

theorem PE.imp {X : Cx} {e : Expr} {t t' : TE} (h : PE X e t) (i : ∀ σ H Q, t' σ H Q → t σ H Q) : PE X e t' := ⟨fun pins s σ H Q I q => h.run pins s σ H Q I (i σ H Q q)⟩
theorem PT.imp {X : Cx} {e : Expr} {t t' : TT} (h : PT X e t) (i : ∀ σ H Q, t' σ H Q → t σ H Q) : PT X e t' := ⟨fun pins s σ H Q I q => h.run pins s σ H Q I (i σ H Q q)⟩
theorem PS.imp {X : Cx} {e : Stmt} {t t' : TS} (h : PS X e t) (i : ∀ D σ H, t' D σ H → t D σ H) : PS X e t' := ⟨fun pins s σ H D I q => h.run pins s σ H D I (i D σ H q)⟩
theorem PSs.imp {X : Cx} {e : List Stmt} {t t' : TS} (h : PSs X e t) (i : ∀ D σ H, t' D σ H → t D σ H) : PSs X e t' := ⟨fun pins s σ H D I q => h.run pins s σ H D I (i D σ H q)⟩
theorem PA.imp {X : Cx} {es : List Expr} {t t' : TA} (h : PA X es t) (i : ∀ σ H Q, t' σ H Q → t σ H Q) : PA X es t' := ⟨fun pos pins s σ H Q I q => h.run pos pins s σ H Q I (i σ H Q q)⟩

/-- the first part of a wish, then the rest -/
theorem thenE {W : WX} {b : BE} {E : BX} {R : BV} {Kn : V → Hp → Prop} (A : At G F M H) (S : RelS G F τ σ) (X : ExW G W F M H σ E) (h : b τ M R E)
    (k : ∀ x F1 M1 H1 v, Ev F M H F1 M1 H1 → At G F1 M1 H1 → RelS G F1 τ σ → ExW G W F1 M1 H1 σ E → RepV G F1 x v → R x M1 → Kn v H1) : liftE G W b σ H Kn :=
  ⟨F, τ, M, R, E, A, S, fun x F1 M1 H1 v e a r q => k x F1 M1 H1 v e a (S.mono e.sub) (X.on e) r q, X, h⟩
theorem thenT {W : WX} {b : BT} {E : BX} {R : Bool → MHp → Prop} {Kn : Bool → Hp → Prop} (A : At G F M H) (S : RelS G F τ σ) (X : ExW G W F M H σ E) (h : b τ M R E)
    (k : ∀ x F1 M1 H1, Ev F M H F1 M1 H1 → At G F1 M1 H1 → RelS G F1 τ σ → ExW G W F1 M1 H1 σ E → R x M1 → Kn x H1) : liftT G W b σ H Kn :=
  ⟨F, τ, M, R, E, A, S, fun x F1 M1 H1 e a q => k x F1 M1 H1 e a (S.mono e.sub) (X.on e) q, X, h⟩
theorem thenA {W : WX} {b : BA} {E : BX} {R : List PV → MHp → Prop} {Kn : List V → Hp → Prop} (A : At G F M H) (S : RelS G F τ σ) (X : ExW G W F M H σ E) (h : b τ M R E)
    (k : ∀ x F1 M1 H1 v, Ev F M H F1 M1 H1 → At G F1 M1 H1 → RelS G F1 τ σ → ExW G W F1 M1 H1 σ E → RepVs G F1 x v → R x M1 → Kn v H1) : liftA G W b σ H Kn :=
  ⟨F, τ, M, R, E, A, S, fun x F1 M1 H1 v e a r q => k x F1 M1 H1 v e a (S.mono e.sub) (X.on e) r q, X, h⟩
end
end Nb

/-! Nb2 -/
set_option Elab.async false
set_option linter.all false
set_option maxRecDepth 100000
/-! Nb2: a syntax without places, when it agrees with the text, and what it means over trees. -/
namespace Nb
open PySem PySem.Spec L2
open PyProof.Rows hiding St

inductive Ck where
  | non | bl (b : Bool) | int (i : Int) | str (x : Str)
/-- methods of built-in types -/
inductive Bm where
  | append | insert | pop | clear | extend | join | index | get | remove | reverse | items | keys | values | sort
  deriving DecidableEq
/-- what isinstance asks for -/
inductive Cc where
  | ty (t : String) | own (c : Nat)

mutual
inductive Ex where
  | k (c : Ck)
  | v (i : Nat)
  | g (n : Nat)
  | bin (op : Operator) (a b : Ex)
  | un (op : UnaryOp) (a : Ex)
  | cmp (op : CmpOp) (a b : Ex)
  | chn (o1 o2 : CmpOp) (a b c : Ex)
  | and (es : Exs) | or (es : Exs) | not (a : Ex)
  | ife (t a b : Ex)
  | tup (es : Exs) | lst (es : Exs)
  | sub (a i : Ex)
  | sl (a : Ex) (lo hi : Exo)
  | rev (a : Ex)
  | att (a : Ex) (f : Nat)
  | call (n : Nat) (es : Exs)
  | new (c : Nat) (es : Exs)
  | exn (c : Nat) (es : Exs)
  | met (o : Ex) (m : Nat) (es : Exs)
  | bi (f : Bf) (es : Exs)
  | bm (o : Ex) (m : Bm) (es : Exs)
  | lc (own : List Nat) (e : Ex) (tg : List Nat) (it : It) (ifs : Exo)
  | isi (a : Ex) (cs : List Cc)
  | sset (a : Ex)
  | oeq (ne : Bool) (a b : Ex) | ostr (a : Ex) | lrv (a : Ex)
  | dct (ks vs : Exs)
  | m (e : Ex)
  | fz (e : Ex)
inductive Exs where
  | nil | cons (e : Ex) (r : Exs) | star (e : Ex) (r : Exs)
inductive Exo where
  | no | yes (e : Ex)
inductive It where
  | val (e : Ex) | rng (a : Exo) (b : Ex) | zip (a b : Ex) | enu (a : Ex) | items (a : Ex) | rvd (a : Ex)
end

mutual
inductive Sm where
  | exp (e : Ex)
  | asg (i : Nat) (e : Ex)
  | asgT (is : List Nat) (e : Ex)
  | asgA (o : Ex) (f : Nat) (e : Ex)
  | asgS (o i e : Ex)
  | aug (i : Nat) (op : Operator) (e : Ex)
  | augA (i f : Nat) (op : Operator) (e : Ex)
  | ret (e : Ex) | retN
  | ifs (t : Ex) (a b : Sms)
  | fore (tg : List Nat) (it : It) (b : Sms)
  | whl (t : Ex) (b : Sms)
  | brk | cnt | pass
  | rais (c : Nat) (es : Exs)
  | tri (b : Sms) (hs : Hds)
  | nvr
inductive Sms where
  | nil | cons (s : Sm) (r : Sms)
/-- except clauses: the class (none: Exception), the name's slot, what is returned -/
inductive Hds where
  | nil | cons (c : Option Nat) (i : Option Nat) (s : Sms) (r : Hds)
end

/-! ### when the syntax agrees with the text -/
def Ck.is : Ck → Const → Bool
  | .non, .none => true
  | .bl b, .bool c => b == c
  | .int i, .int j => i == j
  | .str x, .str y => decide (x = y)
  | _, _ => false
def Ck.pv : Ck → PV
  | .non => .non | .bl b => .bl b | .int i => .int i | .str x => .str x
def Bm.nm : Bm → Str
  | .append => "append" | .insert => "insert" | .pop => "pop" | .clear => "clear" | .extend => "extend" | .join => "join" | .index => "index" | .get => "get" | .remove => "remove" | .reverse => "reverse"
  | .items => "items" | .keys => "keys" | .values => "values" | .sort => "sort"
def kindIs (sc : Scope) (x : Str) (k : NameKind) : Bool := decide (sc.names.lookup x = some k)
def visB (sc : Scope) (x : Str) : Bool := (kindIs sc x .local || kindIs sc x .cell || kindIs sc x .free) && !(x == ("__debug__" : Str)) && !(x == ("__classdict__" : Str))
def locB (sc : Scope) (x : Str) : Bool := kindIs sc x .local
def glB (sc : Scope) (x : Str) : Bool := kindIs sc x .globalImplicit && !(x == ("__debug__" : Str))
/-- the scope of a comprehension within a scope -/
def rlS (sc comp : Scope) : Scope := { comp with names := comp.names.map fun (n, k) => if (k == .free && sc.kind == .function && sc.names.lookup n == some .cell) then (n, .cell) else (n, k) }
def ixB (N : List Str) (i : Nat) (x : Str) : Bool := decide (N[i]? = some x)
def nbB : Expr → Bool
  | .Call _ [] [] _ => false
  | _ => true
/-- the target of a for: a name, or a tuple of names -/

def setB (cc : Bool) (sc : Scope) (x : Str) : Bool := kindIs sc x .local || (cc && kindIs sc x .cell)
def agTs (cc : Bool) (N : List Str) (sc : Scope) : List Nat → List Expr → Bool
  | [], [] => true
  | i :: is, .Name x _ :: es => ixB N i x && setB cc sc x && agTs cc N sc is es
  | _, _ => false
def agT (cc : Bool) (N : List Str) (sc : Scope) : List Nat → Expr → Bool
  | [i], .Name x _ => ixB N i x && setB cc sc x
  | is, .Tuple es _ _ => agTs cc N sc is es && !(is.length == 1)
  | _, _ => false
def agC (nm : Nat → Str) (sc : Scope) : Cc → Expr → Bool
  | .ty t, .Name x _ => decide (x = Str.ofString t) && tyL.contains t && glB sc x
  | .own c, .Name x _ => decide (nm c = x) && glB sc x
  | _, _ => false
def agCs (nm : Nat → Str) (sc : Scope) : List Cc → List Expr → Bool
  | [], [] => true
  | c :: cs, e :: es => agC nm sc c e && agCs nm sc cs es
  | _, _ => false
/-! the heads of the text -/
def dConst : Expr → Option Const | .Constant d _ _ => some d | _ => none
def dName : Expr → Option Str | .Name x _ => some x | _ => none
def dBin : Expr → Option (Expr × Operator × Expr) | .BinOp x o y _ => some (x, o, y) | _ => none
def dUn : Expr → Option (UnaryOp × Expr) | .UnaryOp o x _ => some (o, x) | _ => none
def dCmp1 : Expr → Option (Expr × CmpOp × Expr) | .Compare x [o] [y] _ => some (x, o, y) | _ => none
def dCmp2 : Expr → Option (Expr × CmpOp × Expr × CmpOp × Expr) | .Compare x [o, p] [y, z] _ => some (x, o, y, p, z) | _ => none
def dBool : Expr → Option (BoolOp × List Expr) | .BoolOp o xs _ => some (o, xs) | _ => none
def dIf : Expr → Option (Expr × Expr × Expr) | .IfExp t x y _ => some (t, x, y) | _ => none
def dTup : Expr → Option (List Expr) | .Tuple xs _ _ => some xs | _ => none
def dLst : Expr → Option (List Expr) | .List xs _ => some xs | _ => none
def dSub : Expr → Option (Expr × Expr) | .Subscript x y _ => some (x, y) | _ => none
def dSl : Expr → Option (Expr × Option Expr × Option Expr) | .Subscript x (.Slice l h none _) _ => some (x, l, h) | _ => none
def dRev : Expr → Option Expr | .Subscript x (.Slice none none (some (.UnaryOp .USub (.Constant (.int 1) _ _) _)) _) _ => some x | _ => none
def dAtt : Expr → Option (Expr × Str) | .Attribute x y _ => some (x, y) | _ => none
def dCN : Expr → Option (Str × List Expr) | .Call (.Name x _) xs [] _ => some (x, xs) | _ => none
def dCM : Expr → Option (Expr × Str × Pos × List Expr × Pos) | .Call (.Attribute x y ap) xs [] pos => some (x, y, ap, xs, pos) | _ => none
def dLC : Expr → Option (Expr × Expr × Expr × List Expr × Scope) | .ListComp x [⟨t, i, cs, 0⟩] comp _ => some (x, t, i, cs, comp) | _ => none
def dD0 : Expr → Bool | .Dict [] [] _ => true | _ => false
/-- no star among the arguments -/
def Exs.plain : Exs → Bool
  | .nil => true | .cons _ r => r.plain | .star _ _ => false
/-- an allowed head: no star, no slice, no display of a set .. -/
def okHd : Expr → Bool
  | .BoolOp .. => true | .BinOp .. => true | .UnaryOp .. => true | .IfExp .. => true | .Dict .. => true | .ListComp .. => true | .Compare .. => true | .Call .. => true | .Constant .. => true | .Attribute .. => true
  | .Subscript .. => true | .Name .. => true | .List .. => true | .Tuple .. => true
  | _ => false
def ownP (N : List Str) (own : List Nat) : List (Str × Nat) := own.filterMap fun j => N[j]?.map fun y => (y, j)
/-- what is walked in pairs wants a tuple of names -/
def It.okT : It → Expr → Bool
  | .zip _ _, t => (dTup t).isSome
  | .enu _, t => (dTup t).isSome
  | .items _, t => (dTup t).isSome
  | _, _ => true
mutual
def agE (nm : Nat → Str) (N : List Str) (sc : Scope) : Ex → Expr → Bool
  | .k c => fun pe => match dConst pe with | some d => c.is d | none => false
  | .v i => fun pe => match dName pe with | some x => ixB N i x && visB sc x | none => false
  | .g n => fun pe => match dName pe with | some x => decide (nm n = x) && glB sc x | none => false
  | .bin op a b => fun pe => match dBin pe with | some (x, o, y) => decide (op = o) && agE nm N sc a x && agE nm N sc b y | none => false
  | .un op a => fun pe => match dUn pe with | some (o, x) => decide (op = o) && !decide (o = .Not) && agE nm N sc a x | none => false
  | .not a => fun pe => match dUn pe with | some (o, x) => decide (o = .Not) && agE nm N sc a x | none => false
  | .cmp op a b => fun pe => match dCmp1 pe with | some (x, o, y) => decide (op = o) && agE nm N sc a x && agE nm N sc b y | none => false
  | .chn o1 o2 a b c => fun pe => match dCmp2 pe with | some (x, p1, y, p2, z) => decide (o1 = p1) && decide (o2 = p2) && agE nm N sc a x && agE nm N sc b y && agE nm N sc c z | none => false
  | .and es => fun pe => match dBool pe with | some (o, xs) => decide (o = .And) && decide (2 ≤ xs.length) && agEs nm N sc es xs | none => false
  | .or es => fun pe => match dBool pe with | some (o, xs) => decide (o = .Or) && decide (2 ≤ xs.length) && agEs nm N sc es xs | none => false
  | .ife t a b => fun pe => match dIf pe with | some (u, x, y) => agE nm N sc t u && agE nm N sc a x && agE nm N sc b y | none => false
  | .tup es => fun pe => match dTup pe with | some xs => agEs nm N sc es xs | none => false
  | .lst es => fun pe => match dLst pe with | some xs => agEs nm N sc es xs | none => false
  | .sub a i => fun pe => match dSub pe with | some (x, y) => agE nm N sc a x && agE nm N sc i y | none => false
  | .sl a lo hi => fun pe => match dSl pe with | some (x, l, h) => agE nm N sc a x && agO nm N sc lo l && agO nm N sc hi h | none => false
  | .rev a => fun pe => match dRev pe with | some x => agE nm N sc a x | none => false
  | .att a f => fun pe => match dAtt pe with | some (x, y) => agE nm N sc a x && decide (nm f = y) && nbB x | none => false
  | .call n es => fun pe => match dCN pe with | some (x, xs) => decide (nm n = x) && glB sc x && es.plain && agEs nm N sc es xs | none => false
  | .new n es => fun pe => match dCN pe with | some (x, xs) => decide (nm n = x) && glB sc x && es.plain && agEs nm N sc es xs | none => false
  | .exn n es => fun pe => match dCN pe with | some (x, xs) => decide (nm n = x) && glB sc x && es.plain && agEs nm N sc es xs | none => false
  | .met o f es => fun pe => match dCM pe with | some (x, y, ap, xs, pos) => agE nm N sc o x && decide (nm f = y) && nbB x && (ap.endLine == pos.line) && decide (xs.length < 30) && es.plain && agEs nm N sc es xs | none => false
  | .bi f es => fun pe => match dCN pe with | some (x, xs) => decide (f.nm = x) && glB sc x && es.plain && agEs nm N sc es xs | none => false
  | .bm o f es => fun pe => match dCM pe with | some (x, y, ap, xs, pos) => agE nm N sc o x && decide (f.nm = y) && nbB x && (ap.endLine == pos.line) && decide (xs.length < 30) && es.plain && agEs nm N sc es xs | none => false
  | .lc own e tg it ifs => fun pe => match dLC pe with
    | some (x, t, i, cs, comp) => blkC N sc comp (ownP N own) && decide ((ownP N own).map (·.2) = own) && agI nm N sc it i && it.okT t && agT false N (rlS sc comp) tg t && tg.all (own.contains ·) && agF nm N (rlS sc comp) ifs cs && agE nm N (rlS sc comp) e x
    | none => false
  | .isi a cs => fun pe => match dCN pe with
    | some (f, [x, y]) => decide (f = ("isinstance" : Str)) && glB sc f && agE nm N sc a x && (match cs, dTup y with
      | [c], none => agC nm sc c y
      | cs, some ys => decide (cs.length ≤ 100) && agCs nm sc cs ys
      | _, _ => false)
    | _ => false
  | .sset a => fun pe => match dCN pe with
    | some (f, [y]) => decide (f = ("sorted" : Str)) && glB sc f && (match dCN y with
      | some (f2, [x]) => decide (f2 = ("set" : Str)) && glB sc f2 && agE nm N sc a x
      | _ => false)
    | _ => false
  | .oeq ne a b => fun pe => match dCmp1 pe with | some (x, o, y) => decide (o = if ne then CmpOp.NotEq else .Eq) && agE nm N sc a x && agE nm N sc b y | none => false
  | .ostr a => fun pe => match dCN pe with
    | some (f, [x]) => decide (f = ("str" : Str)) && glB sc f && agE nm N sc a x
    | _ => false
  | .lrv a => fun pe => match dCN pe with
    | some (f, [y]) => decide (f = ("list" : Str)) && glB sc f && (match dCN y with
      | some (f2, [x]) => decide (f2 = ("reversed" : Str)) && glB sc f2 && agE nm N sc a x
      | _ => false)
    | _ => false
  | .dct .nil .nil => fun pe => dD0 pe
  | .dct _ _ => fun _ => false
  | .m e => fun pe => agE nm N sc e pe
  | .fz e => fun pe => agE nm N sc e pe
def agEs (nm : Nat → Str) (N : List Str) (sc : Scope) : Exs → List Expr → Bool
  | .nil => fun xs => xs.isEmpty
  | .cons e r => fun xs => match xs with | x :: xs => agE nm N sc e x && agEs nm N sc r xs | [] => false
  | .star e r => fun xs => match xs with
    | x :: xs => (match x with | .Starred y _ => agE nm N sc e y && agEs nm N sc r xs | _ => false)
    | [] => false
def agO (nm : Nat → Str) (N : List Str) (sc : Scope) : Exo → Option Expr → Bool
  | .no => fun o => o.isNone
  | .yes e => fun o => match o with | some x => agE nm N sc e x | none => false
def agF (nm : Nat → Str) (N : List Str) (sc : Scope) : Exo → List Expr → Bool
  | .no => fun xs => xs.isEmpty
  | .yes e => fun xs => match xs with | [x] => agE nm N sc e x | _ => false
def agI (nm : Nat → Str) (N : List Str) (sc : Scope) : It → Expr → Bool
  | .val e => fun pe => agE nm N sc e pe
  | .rng .no b => fun pe => match dCN pe with | some (x, [y]) => decide (x = ("range" : Str)) && glB sc x && agE nm N sc b y | _ => false
  | .rng (.yes a) b => fun pe => match dCN pe with | some (x, [y, z]) => decide (x = ("range" : Str)) && glB sc x && agE nm N sc a y && agE nm N sc b z | _ => false
  | .zip a b => fun pe => match dCN pe with | some (x, [y, z]) => decide (x = ("zip" : Str)) && glB sc x && agE nm N sc a y && agE nm N sc b z | _ => false
  | .enu a => fun pe => match dCN pe with | some (x, [y]) => decide (x = ("enumerate" : Str)) && glB sc x && agE nm N sc a y | _ => false
  | .rvd a => fun pe => match dCN pe with | some (x, [y]) => decide (x = ("reversed" : Str)) && glB sc x && agE nm N sc a y | _ => false
  | .items a => fun pe => match dCM pe with | some (x, y, ap, [], pos) => decide (y = ("items" : Str)) && agE nm N sc a x && nbB x && (ap.endLine == pos.line) | _ => false
end
/-- the statement's value is no comprehension -/
def noLC : Expr → Bool
  | .ListComp .. => false | .SetComp .. => false | .DictComp .. => false
  | _ => true
/-- a comprehension given to a name on its line: the stores are swapped -/
def lcTop : Ex → Bool
  | .lc .. => true
  | .m e => lcTop e
  | _ => false
def swB (sc : Scope) (x : Str) (pl : Nat) : Expr → Bool
  | .ListComp _ _ comp pos => decide (sc.kind = .function) && kindIs sc x .local && (pl == pos.line) && !(comp.names.any fun (n, k) => n == x && (k == .local || k == .cell))
  | _ => false
/-- a comprehension given to a name: the stores are not swapped -/
def nsB (sc : Scope) (x : Str) (pl : Nat) : Expr → Bool
  | .ListComp _ _ comp pos => !((sc.names.lookup x == some .local) && (pl == pos.line) && !(comp.names.any fun (n, k) => n == x && (k == .local || k == .cell)))
  | _ => false
/-- an except clause's class; its name -/
def agHc (nm : Nat → Str) (sc : Scope) (x : Str) : Option Nat → Bool
  | some c => decide (nm c = x) && glB sc x
  | none => false
def agHn (N : List Str) (sc : Scope) : Option Nat → Option Str → Bool
  | some i, some n => ixB N i n && locB sc n
  | none, none => true
  | _, _ => false
mutual
def agS (nm : Nat → Str) (N : List Str) (sc : Scope) : Sm → Stmt → Bool
  | .exp e => fun st => match st with | .Expr x _ => noLC x && agE nm N sc e x | _ => false
  | .asg i e => fun st => match st with
    | .Assign [.Name x p] y _ => ixB N i x && setB true sc x && agE nm N sc e y && (noLC y || ((swB sc x p.line y && lcTop e) || nsB sc x p.line y))
    | _ => false
  | .asgT is e => fun st => match st with
    | .Assign [.Tuple ts _ _] y _ => agTs true N sc is ts && decide (is.length ≠ 1) && noLC y && (dTup y).isNone && agE nm N sc e y
    | _ => false
  | .asgA o f e => fun st => match st with
    | .Assign [.Attribute x y _] z _ => agE nm N sc o x && decide (nm f = y) && nbB x && noLC z && agE nm N sc e z
    | _ => false
  | .asgS o i e => fun st => match st with
    | .Assign [.Subscript x y _] z _ => agE nm N sc o x && agE nm N sc i y && noLC z && agE nm N sc e z
    | _ => false
  | .aug i op e => fun st => match st with | .AugAssign (.Name x _) o y _ => decide (op = o) && ixB N i x && setB true sc x && agE nm N sc e y | _ => false
  | .augA i f op e => fun st => match st with | .AugAssign (.Attribute (.Name x _) y _) o z _ => decide (op = o) && ixB N i x && visB sc x && decide (nm f = y) && agE nm N sc e z | _ => false
  | .ret e => fun st => match st with | .Return (some x) _ => agE nm N sc e x | _ => false
  | .retN => fun st => match st with | .Return none _ => true | _ => false
  | .ifs t a b => fun st => match st with | .If x y z _ => agE nm N sc t x && agSs nm N sc a y && agSs nm N sc b z | _ => false
  | .fore tg it b => fun st => match st with | .For t i y [] _ => agT true N sc tg t && it.okT t && agI nm N sc it i && agSs nm N sc b y | _ => false
  | .whl t b => fun st => match st with | .While x y [] _ => agE nm N sc t x && agSs nm N sc b y | _ => false
  | .brk => fun st => match st with | .Break _ => true | _ => false
  | .cnt => fun st => match st with | .Continue _ => true | _ => false
  | .pass => fun st => match st with | .Pass _ => true | _ => false
  | .rais c es => fun st => match st with | .Raise (some x) none _ => (match dCN x with | some (y, xs) => decide (nm c = y) && glB sc y && es.plain && agEs nm N sc es xs | none => false) | _ => false
  | .tri b hs => fun st => match st with | .Try x y [] [] _ => !y.isEmpty && agSs nm N sc b x && agHs nm N sc hs y | _ => false
  | .nvr => fun _ => true
def agSs (nm : Nat → Str) (N : List Str) (sc : Scope) : Sms → List Stmt → Bool
  | .nil => fun xs => xs.isEmpty
  | .cons e r => fun xs => match xs with | x :: xs => agS nm N sc e x && agSs nm N sc r xs | [] => false
def agHs (nm : Nat → Str) (N : List Str) (sc : Scope) : Hds → List ExceptHandler → Bool
  | .nil => fun xs => xs.isEmpty
  | .cons c i s r => fun xs => match xs with
    | .ExceptHandler (some (.Name x _)) n b _ :: xs => agHc nm sc x c && agHn N sc i n && !b.isEmpty && agSs nm N sc s b && agHs nm N sc r xs
    | _ => false
end
end Nb

/-! Nb3 -/
set_option Elab.async false
set_option linter.all false
set_option maxRecDepth 100000
/-! Nb3: what the syntax means over trees: wishes, by recursion on the syntax. -/
namespace Nb
open PySem PySem.Spec L2
open PyProof.Rows hiding St

/-! ### trees: equality, data -/
mutual
def pvEq : PV → PV → Bool
  | .non, .non => true
  | .bl a, .bl b => a == b
  | .int a, .int b => decide (a = b)
  | .str a, .str b => decide (a = b)
  | .tup xs, .tup ys => pvEqs xs ys
  | .lst xs, .lst ys => pvEqs xs ys
  | .obj c fs, .obj d gs => decide (c = d) && pvEqf fs gs
  | .ref a, .ref b => decide (a = b)
  | .raw a, .raw b => decide (a = b)
  | _, _ => false
def pvEqs : List PV → List PV → Bool
  | [], [] => true
  | x :: xs, y :: ys => pvEq x y && pvEqs xs ys
  | _, _ => false
def pvEqf : List (Nat × PV) → List (Nat × PV) → Bool
  | [], [] => true
  | (n, x) :: xs, (m, y) :: ys => decide (n = m) && (pvEq x y && pvEqf xs ys)
  | _, _ => false
end
mutual
/-- data without truth values, instances, addresses -/
def cln : PV → Bool
  | .non => true | .int _ => true | .str x => PyData.strOk x | .tup xs => clns xs | .lst xs => clns xs
  | _ => false
def clns : List PV → Bool
  | [] => true
  | x :: xs => cln x && clns xs
end
mutual
def dpt : PV → Nat
  | .tup xs => dpts xs + 1 | .lst xs => dpts xs + 1
  | _ => 0
def dpts : List PV → Nat
  | [] => 0
  | x :: xs => Nat.max (dpt x) (dpts xs)
end

def lstOf (M : MHp) : PV → Option (List PV)
  | .lst xs => some xs
  | .ref a => match M a with
    | some (.lst xs) => some xs
    | _ => none
  | _ => none
def seqOf (M : MHp) : PV → Option (List PV)
  | .tup xs => some xs
  | .kl xs => some xs
  | x => lstOf M x
/-- a list, read as a frozen tree (one level of what may change is looked through) -/
def frzd (M : MHp) (x : PV) : PV := match lstOf M x with
  | some xs => .lst xs
  | none => x
mutual
/-- no error in it -/
def noX : PV → Bool
  | .tup xs => noXs xs | .lst xs => noXs xs | .kl xs => noXs xs | .obj _ fs => noXf fs | .exc _ _ => false
  | _ => true
def noXs : List PV → Bool
  | [] => true
  | x :: xs => noX x && noXs xs
def noXf : List (Nat × PV) → Bool
  | [] => true
  | (_, x) :: xs => noX x && noXf xs
end
/-- a new list: told to change, or not -/
def newL (mu : Bool) (xs : List PV) (M : MHp) (Q : BV) : Prop := match mu with
  | true => ∀ a, M a = none → Q (.ref a) (ms M a (.lst xs))
  | false => Q (.lst xs) M
def truB (M : MHp) : PV → Option Bool
  | .non => some false
  | .bl b => some b
  | .int i => some (i != 0)
  | .str x => some (x.length != 0)
  | .tup xs => some (!xs.isEmpty)
  | x => (lstOf M x).map fun xs => !xs.isEmpty

/-! ### the environment: what is promised of defs, methods, classes -/
structure Gm where
  cold : Bool
  fn : Nat → Option BP
  hfn : Nat → Option BP
  xfl : Nat → Nat → Bool
  fld : Nat → Nat → Bool
  ini : Nat → Option BP
  mt : Nat → Nat → Option BP
  gl : Nat → Option PV
  /-- an exception class? -/
  kd : Nat → Bool
  isa : Nat → Nat → Option Bool
  /-- does an except clause of the class take the error? -/
  exm : Nat → Nat → Option Bool
  isb : Nat → String → Option Bool
  /-- own == , own str -/
  eqm : Nat → Option BP
  /-- the second is no subclass of the first -/
  sib : Nat → Nat → Bool
  stm : Nat → Option BP
  xc : Nat → Option (Option Nat)

section
variable (Γ : Gm)
def binR (mu : Bool) (op : Operator) (x y : PV) (M : MHp) (Q : BV) : Prop :=
  match op, x, y with
  | .Add, .int i, .int j => Q (.int (i + j)) M
  | .Add, .str a, .str b => a.length + b.length ≤ sizeLine ∧ Q (.str (a ++ b)) M
  | .Add, .tup a, .tup b => a.length + b.length ≤ sizeLine ∧ Q (.tup (a ++ b)) M
  | .Add, x, y => ∃ a b, lstOf M x = some a ∧ lstOf M y = some b ∧ a.length + b.length ≤ sizeLine ∧ newL mu (a ++ b) M Q
  | .Sub, .int i, .int j => Q (.int (i - j)) M
  | .Mult, .int i, .int j => (CMul i j ∨ CMulW i j) ∧ Q (.int (i * j)) M
  | .Mult, .str a, .int k => 0 ≤ k ∧ k ≤ 1000 ∧ a.length ≤ 1000 ∧ Q (.str ⟨(List.replicate k.toNat a.cps.toList).flatten.toArray⟩) M
  | .Mult, x, .int k => ∃ a, lstOf M x = some a ∧ -(2 ^ 63) ≤ k ∧ k < 2 ^ 63 ∧ a.length * k.toNat ≤ sizeLine ∧ newL mu (List.replicate k.toNat a).flatten M Q
  | .FloorDiv, .int i, .int j => CDivW i j ∧ Q (.int (i / j)) M
  | .Mod, .int i, .int j => 0 < j ∧ Q (.int (i % j)) M
  | .Pow, .int i, .int j => CPow i j ∧ Q (.int (i ^ j.toNat)) M
  | _, _, _ => False
def unR (op : UnaryOp) (x : PV) (M : MHp) (Q : BV) : Prop :=
  match op, x with
  | .USub, .int i => Q (.int (-i)) M
  | _, _ => False
def eqB (M : MHp) (x y : PV) (R : Bool → Prop) : Prop :=
  match x, y with
  | .bl a, .bl b => R (a == b)
  | .int a, .int b => R (decide (a = b))
  | .str a, .str b => R (decide (a = b))
  | .non, .non => R true
  | x, y => cln (frzd M x) = true ∧ cln (frzd M y) = true ∧ dpt (frzd M x) ≤ 60 ∧ dpt (frzd M y) ≤ 60 ∧ R (pvEq (frzd M x) (frzd M y))
def flB : PV → Bool
  | .non => true | .int _ => true | .str _ => true
  | _ => false
def inB (M : MHp) (x y : PV) (R : Bool → Prop) : Prop :=
  match x, y with
  | .str a, .str b => R (!(Builtin.Str.occurrences b a 0 b.length 1).isEmpty)
  | x, y => ∃ ys, seqOf M y = some ys ∧ ((flB x = true ∧ ys.all flB = true) ∨ (lstOf M y = some ys ∧ cln x = true ∧ clns ys = true ∧ dpt x ≤ 60 ∧ dpts ys ≤ 60)) ∧ R (ys.any fun z => pvEq z x)
def ordB (op : CmpOp) (i j : Int) : Bool := match op with
  | .Lt => decide (i < j) | .LtE => decide (i ≤ j) | .Gt => decide (j < i) | _ => decide (j ≤ i)
def cmpR (op : CmpOp) (x y : PV) (M : MHp) (Q : BV) : Prop :=
  match op with
  | .Eq => eqB M x y fun b => Q (.bl b) M
  | .NotEq => eqB M x y fun b => Q (.bl (!b)) M
  | .In => inB M x y fun b => Q (.bl b) M
  | .NotIn => inB M x y fun b => Q (.bl (!b)) M
  | .Is => y = .non ∧ (∀ w, x ≠ .raw w) ∧ Q (.bl (pvEq x .non)) M
  | .IsNot => y = .non ∧ (∀ w, x ≠ .raw w) ∧ Q (.bl (!pvEq x .non)) M
  | op => match x, y with
    | .int i, .int j => Q (.bl (ordB op i j)) M
    | _, _ => False
def ixR (x y : PV) (M : MHp) (Q : BV) : Prop :=
  match x, y with
  | .str z, .int i => z.length ≤ sizeLine ∧ ∃ c, atI z.cps.toList i = some c ∧ Q (.str ⟨#[c]⟩) M
  | x, .int i => ∃ xs v, seqOf M x = some xs ∧ atI xs i = some v ∧ Q v M
  | _, _ => False
def cutP (xs : List PV) (lo hi : Option Int) : List PV := (xs.drop (HT.sIx xs.length 0 lo)).take (HT.sIx xs.length xs.length hi - HT.sIx xs.length 0 lo)
def slR (mu : Bool) (x : PV) (lo hi : Option Int) (M : MHp) (Q : BV) : Prop :=
  match x with
  | .str z => z.length ≤ sizeLine ∧ Q (.str (L2.cutS z lo hi)) M
  | .tup xs => Q (.tup (cutP xs lo hi)) M
  | x => ∃ xs, lstOf M x = some xs ∧ newL mu (cutP xs lo hi) M Q
/-- a field of an instance -/
def insOf (M : MHp) : PV → Option (Nat × List (Nat × PV))
  | .obj c fs => some (c, fs)
  | .ref a => match M a with
    | some (.ins c fs) => some (c, fs)
    | _ => none
  | _ => none
def attR (x : PV) (f : Nat) (M : MHp) (Q : BV) : Prop :=
  match x with
  | .exc c fs => ∃ v, Γ.xfl c f = true ∧ fs.lookup f = some v ∧ Q v M
  | x => ∃ c fs v, insOf M x = some (c, fs) ∧ Γ.fld c f = true ∧ fs.lookup f = some v ∧ Q v M
def ofK (Γ : Gm) (e : Bool) (c : Nat) : Option (String ⊕ Nat) := if Γ.kd c = e then some (.inr c) else none
def tyOf (Γ : Gm) (M : MHp) : PV → Option (String ⊕ Nat)
  | .non => some (.inl "NoneType") | .bl _ => some (.inl "bool") | .int _ => some (.inl "int") | .str _ => some (.inl "str")
  | .tup _ => some (.inl "tuple") | .lst _ => some (.inl "list") | .obj c _ => ofK Γ false c | .exc c _ => ofK Γ true c
  | .ref a => match M a with
    | some (.lst _) => some (.inl "list")
    | some (.ins c _) => ofK Γ false c
    | _ => none
  | _ => none
def tyB (a b : String) : Option Bool := if a = b then some true else if a = "bool" ∧ b = "int" then some true
  else if b = "int" ∨ b = "str" ∨ b = "tuple" ∨ b = "list" ∨ b = "bool" ∨ b = "dict" then some false else none
def isi1 (t : String ⊕ Nat) : Cc → Option Bool
  | .ty b => match t with
    | .inl a => tyB a b
    | .inr c => Γ.isb c b
  | .own d => match t with
    | .inl _ => (Γ.isa d d).map fun _ => false
    | .inr c => Γ.isa c d
def isiR (t : String ⊕ Nat) : List Cc → Option Bool
  | [] => some false
  | c :: cs => match isi1 Γ t c with
    | some true => some true
    | some false => isiR t cs
    | none => none
/-- the classes asked for are known -/
def knC : Cc → Bool
  | .ty _ => true
  | .own d => (Γ.isa d d).isSome
def lenB (x : PV) (M : MHp) (n : Nat) : Prop :=
  match x with
  | .str z => z.length ≤ sizeLine ∧ n = z.length
  | x => ∃ ys, seqOf M x = some ys ∧ n = ys.length
/-- a list as it is read -/
def lsOf (M : MHp) : PV → Option (List PV)
  | .kl xs => some xs
  | x => lstOf M x
def srtR (mu : Bool) (x : PV) (M : MHp) (Q : BV) : Prop :=
  (∃ ys : List Str, seqOf M x = some (ys.map PV.str) ∧ ys.length < 64 ∧ ∀ zs : List Str, zs.Perm ys → zs.Pairwise NbA.leS → newL mu (zs.map PV.str) M Q) ∨
  ∃ ys : List Int, lsOf M x = some (ys.map PV.int) ∧ ys.length < 64 ∧ ∀ zs : List Int, zs.Perm ys → zs.Pairwise (· ≤ ·) → newL mu (zs.map PV.int) M Q
def ssetR (mu : Bool) (x : PV) (M : MHp) (Q : BV) : Prop :=
  (∃ ys : List Str, seqOf M x = some (ys.map PV.str) ∧ ys.length < 64 ∧ ∀ zs : List Str, zs.Pairwise NbA.leS → zs.Nodup → (∀ k, k ∈ zs ↔ k ∈ ys) → newL mu (zs.map PV.str) M Q) ∨
  ∃ ys : List Int, seqOf M x = some (ys.map PV.int) ∧ ys.length < 64 ∧ ∀ zs : List Int, zs.Pairwise (· < ·) → (∀ k, k ∈ zs ↔ k ∈ ys) → newL mu (zs.map PV.int) M Q
def oeqR (ne : Bool) (x y : PV) (M : MHp) (Q : BV) : Prop := ∃ c d fs gs S, insOf M x = some (c, fs) ∧ insOf M y = some (d, gs) ∧ Γ.kd c = false ∧ (c = d ∨ Γ.sib c d = true) ∧ Γ.eqm c = some S ∧ S [x, y] M (fun z M1 => ∃ b, z = .bl b ∧ Q (.bl (b != ne)) M1) fun _ _ _ => False
def ostR (x : PV) (M : MHp) (Q : BV) : Prop := ∃ c fs S, insOf M x = some (c, fs) ∧ Γ.stm c = some S ∧ S [x] M (fun z M1 => ∃ y, z = .str y ∧ Q (.str y) M1) fun _ _ _ => False
def biR (mu : Bool) (f : Bf) (xs : List PV) (M : MHp) (Q : BV) : Prop :=
  match f with
  | .len => ∃ x n, xs = [x] ∧ lenB x M n ∧ Q (.int (n : Nat)) M
  | .list => ∃ x ys, xs = [x] ∧ seqOf M x = some ys ∧ newL mu ys M Q
  | .tuple => ∃ x ys, xs = [x] ∧ seqOf M x = some ys ∧ Q (.tup ys) M
  | .str => (∃ i, xs = [.int i] ∧ i.natAbs.log2 < 1920 ∧ Q (.str (toString i)) M) ∨ ∃ z, xs = [.str z] ∧ Q (.str z) M
  | .int => (∃ i, xs = [.int i] ∧ Q (.int i) M) ∨ ∃ z n, xs = [.str z] ∧ PySem.intText? z = some n ∧ z.length ≤ 640 ∧ Q (.int n) M
  | .max => Γ.cold = true ∧ ∃ i j, xs = [.int i, .int j] ∧ Q (.int (if j > i then j else i)) M
  | .min => Γ.cold = true ∧ ∃ i j, xs = [.int i, .int j] ∧ Q (.int (if j < i then j else i)) M
  | .abs => ∃ i, xs = [.int i] ∧ Q (.int (if i < 0 then -i else i)) M
  | .sorted => ∃ x, xs = [x] ∧ srtR mu x M Q
  | _ => False
def bmT (f : Bm) (x : PV) (M : MHp) : Prop :=
  match f with
  | .join => ∃ z, x = .str z
  | .append => ∃ ys, lstOf M x = some ys
  | .pop => ∃ ys, lstOf M x = some ys
  | .clear => ∃ ys, lstOf M x = some ys
  | .insert => ∃ ys, lstOf M x = some ys
  | _ => False
def bmR (o : PV) (f : Bm) (xs : List PV) (M : MHp) (Q : BV) : Prop :=
  match f with
  | .append => ∃ a ys y, xs = [y] ∧ o = .ref a ∧ M a = some (.lst ys) ∧ ys.length < sizeLine ∧ Q .non (ms M a (.lst (ys ++ [y])))
  | .pop => ∃ a ys y, xs = [] ∧ o = .ref a ∧ M a = some (.lst ys) ∧ ys[ys.length - 1]? = some y ∧ Q y (ms M a (.lst ys.dropLast))
  | .clear => ∃ a ys, xs = [] ∧ o = .ref a ∧ M a = some (.lst ys) ∧ Q .non (ms M a (.lst []))
  | .insert => ∃ a ys i y, xs = [.int i, y] ∧ o = .ref a ∧ M a = some (.lst ys) ∧ ys.length < sizeLine ∧ 0 ≤ i ∧ i < 2 ^ 63 ∧ Q .non (ms M a (.lst (ys.take i.toNat ++ [y] ++ ys.drop i.toNat)))
  | .join => ∃ z x ys, xs = [x] ∧ o = .str z ∧ seqOf M x = some (ys.map PV.str) ∧ (ys.map (·.length)).sum + ys.length * z.length ≤ 16777216 ∧ Q (.str (Txt.join z ys)) M
  | _ => False

/-! ### loops -/
/-- the target's names take the item's parts -/
def asgT (Γ : Gm) (tg : List Nat) (y : PV) (τ : Sl) (k : Sl → Prop) : Prop :=
  match tg with
  | [i] => k (τ.set i (some y))
  | is => Γ.cold = true ∧ ∃ ys, y = .tup ys ∧ ys.length = is.length ∧ k ((is.zip ys).foldl (fun τ p => τ.set p.1 (some p.2)) τ)
def forW (g : MHp → Prop) (tg : List Nat) (body : BS) (D : BD) : List PV → Sl → MHp → Prop
  | [], τ, M => g M ∧ D.nx τ M
  | y :: ys, τ, M => g M ∧ asgT Γ tg y τ fun τ1 => body { D with nx := fun τ2 M2 => forW g tg body D ys τ2 M2, ct := fun τ2 M2 => forW g tg body D ys τ2 M2, bk := D.nx } τ1 M
def whlW (t : BT) (body : BS) (D : BD) : Nat → Sl → MHp → Prop
  | 0, _, _ => False
  | n + 1, τ, M => t τ M (fun b M1 => (b = true → body { D with nx := fun τ2 M2 => whlW t body D n τ2 M2, ct := fun τ2 M2 => whlW t body D n τ2 M2, bk := D.nx } τ M1) ∧ (b = false → D.nx τ M1)) fun c fs M1 => D.ex c fs τ M1
/-- a comprehension's turns: the made list so far -/
def lcW (g : MHp → Prop) (tg : List Nat) (t : BT) (e : BE) (τ : Sl) (Q : List PV → MHp → Prop) : List PV → List PV → MHp → Prop
  | [], acc, M => g M ∧ Q acc M
  | y :: ys, acc, M => g M ∧ asgT Γ tg y τ fun τ1 => t τ1 M (fun b M1 => (b = true → e τ1 M1 (fun z M2 => acc.length < sizeLine ∧ lcW g tg t e τ Q ys (acc ++ [z]) M2) fun _ _ _ => False) ∧ (b = false → lcW g tg t e τ Q ys acc M1)) fun _ _ _ => False
/-- what is walked: the items, and what must hold at each turn -/
abbrev BI := Sl → MHp → (List PV → (MHp → Prop) → MHp → Prop) → BX → Prop
def itemsR (x : PV) (M : MHp) (R : List PV → (MHp → Prop) → MHp → Prop) : Prop :=
  match x with
  | .tup xs => R xs (fun _ => True) M
  | .lst xs => R xs (fun _ => True) M
  | .kl xs => R xs (fun _ => True) M
  | .str z => R (z.cps.toList.map fun c => .str ⟨#[c]⟩) (fun _ => True) M
  | .ref a => ∃ xs, M a = some (.lst xs) ∧ R xs (fun M1 => M1 a = some (.lst xs)) M
  | _ => False
def rngL (lo hi : Int) : List PV := (List.range (hi - lo).toNat).map fun (i : Nat) => PV.int (lo + i)
def rngR (x y : PV) (M : MHp) (R : List PV → (MHp → Prop) → MHp → Prop) : Prop :=
  match x, y with
  | .int i, .int j => (-(2 ^ 62) ≤ i ∧ i < 2 ^ 62 ∧ -(2 ^ 62) ≤ j ∧ j < 2 ^ 62) ∧ R (rngL i j) (fun _ => True) M
  | _, _ => False
def frL : PV → Option (List PV)
  | .lst xs => some xs
  | .kl xs => some xs
  | _ => none
def zipR (x y : PV) (M : MHp) (R : List PV → (MHp → Prop) → MHp → Prop) : Prop :=
  match x, y with
  | .tup xs, .tup ys => R ((xs.zip ys).map fun p => .tup [p.1, p.2]) (fun _ => True) M
  | x, y => ∃ xs ys, frL x = some xs ∧ frL y = some ys ∧ R ((xs.zip ys).map fun p => .tup [p.1, p.2]) (fun _ => True) M
def enuR (x : PV) (M : MHp) (R : List PV → (MHp → Prop) → MHp → Prop) : Prop :=
  ∃ xs, frL x = some xs ∧ R (xs.zipIdx.map fun p => .tup [.int (p.2 : Nat), p.1]) (fun _ => True) M
def rvdR (x : PV) (M : MHp) (R : List PV → (MHp → Prop) → MHp → Prop) : Prop :=
  match x with
  | .tup xs => R xs.reverse (fun _ => True) M
  | x => ∃ xs, frL x = some xs ∧ R xs.reverse (fun _ => True) M
def truT (b : BE) : BT := fun τ M Q E => b τ M (fun x M1 => ∃ k, truB M1 x = some k ∧ (match x with | .str z => z.length ≤ sizeLine | _ => True) ∧ Q k M1) E
def blT (b : BE) : BT := fun τ M Q E => b τ M (fun x M1 => ∃ k, x = .bl k ∧ Q k M1) E
def freezeR (x : PV) (M : MHp) (Q : BV) : Prop :=
  match x with
  | .ref a => (∃ xs, M a = some (.lst xs) ∧ Q (.lst xs) (md M a)) ∨ ∃ c fs, M a = some (.ins c fs) ∧ Q (.obj c fs) (md M a)
  | x => Q x M
def mkR (S : BP) (mu : Bool) (c : Nat) (xs : List PV) (M : MHp) (Q : BV) (E : BX) : Prop :=
  ∀ a, M a = none → S (.ref a :: xs) (ms M a (.ins c [])) (fun z M1 => z = .non ∧ ∃ fs, M1 a = some (.ins c fs) ∧ match mu with
    | true => Q (.ref a) M1
    | false => Q (.obj c fs) (md M1 a)) fun cc fs M1 => E cc fs (md M1 a)

mutual
/-- an expression: as a value, as a test -/
def wX (mu : Bool) : Ex → BE × BT
  | .k c => let b : BE := fun _ M Q _ => Q c.pv M; ⟨b, truT b⟩
  | .v i => let b : BE := fun τ M Q _ => ∃ x, τ[i]? = some (some x) ∧ Q x M; ⟨b, truT b⟩
  | .g n => let b : BE := fun _ M Q _ => ∃ x, Γ.gl n = some x ∧ Q x M; ⟨b, truT b⟩
  | .bin op a c => let b : BE := fun τ M Q E => (wX false a).1 τ M (fun x M1 => (wX false c).1 τ M1 (fun y M2 => binR mu op x y M2 Q) E) E; ⟨b, truT b⟩
  | .un op a => let b : BE := fun τ M Q E => (wX false a).1 τ M (fun x M1 => unR op x M1 Q) E; ⟨b, truT b⟩
  | .cmp op a c => let b : BE := fun τ M Q E => (wX false a).1 τ M (fun x M1 => (wX false c).1 τ M1 (fun y M2 => cmpR op x y M2 Q) E) E; ⟨b, blT b⟩
  | .chn o1 o2 a b c => let b : BE := fun τ M Q E => (wX false a).1 τ M (fun x M1 => (wX false b).1 τ M1 (fun y M2 => cmpR o1 x y M2 fun z M3 => ∃ k, z = .bl k ∧
      (k = true → (wX false c).1 τ M3 (fun w M4 => cmpR o2 y w M4 Q) E) ∧ (k = false → Q (.bl false) M3)) E) E; ⟨b, blT b⟩
  | .and es => ⟨wAndV es, wAnd es⟩
  | .or es => ⟨wOrV es, wOr es⟩
  | .not a => ⟨fun τ M Q E => truT (wX false a).1 τ M (fun k M1 => Q (.bl (!k)) M1) E, fun τ M Q E => (wX false a).2 τ M (fun k M1 => Q (!k) M1) E⟩
  | .ife t a c => ⟨fun τ M Q E => (wX false t).2 τ M (fun k M1 => (k = true → (wX false a).1 τ M1 Q E) ∧ (k = false → (wX false c).1 τ M1 Q E)) E, fun _ _ _ _ => False⟩
  | .tup es => let b : BE := fun τ M Q E => wXs es τ M (fun xs M1 => xs.length ≤ sizeLine ∧ Q (.tup xs) M1) E; ⟨b, truT b⟩
  | .lst es => let b : BE := fun τ M Q E => wXs es τ M (fun xs M1 => xs.length ≤ sizeLine ∧ newL mu xs M1 Q) E; ⟨b, truT b⟩
  | .sub a i => let b : BE := fun τ M Q E => (wX false a).1 τ M (fun x M1 => (wX false i).1 τ M1 (fun y M2 => ixR x y M2 Q) E) E; ⟨b, truT b⟩
  | .sl a lo hi => let b : BE := fun τ M Q E => (wX false a).1 τ M (fun x M1 => wO lo τ M1 (fun l M2 => wO hi τ M2 (fun h M3 => slR mu x l h M3 Q) E) E) E; ⟨b, truT b⟩
  | .rev a => let b : BE := fun τ M Q E => (wX false a).1 τ M (fun x M1 => ∃ xs, lstOf M1 x = some xs ∧ xs.length ≤ sizeLine ∧ newL mu xs.reverse M1 Q) E; ⟨b, truT b⟩
  | .att a f => let b : BE := fun τ M Q E => (wX false a).1 τ M (fun x M1 => attR Γ x f M1 Q) E; ⟨b, truT b⟩
  | .call n es => let b : BE := fun τ M Q E => ∃ S, Γ.fn n = some S ∧ wXs es τ M (fun xs M1 => S xs M1 Q E) E; ⟨b, truT b⟩
  | .new c es => let b : BE := fun τ M Q E => ∃ S, Γ.ini c = some S ∧ wXs es τ M (fun xs M1 => mkR S mu c xs M1 Q E) E; ⟨b, truT b⟩
  | .exn c es => let b : BE := fun τ M Q E => ∃ f, Γ.xc c = some (some f) ∧ wXs es τ M (fun xs M1 => ∃ x, xs = [x] ∧ Q (.exc c [(f, x)]) M1) E; ⟨b, truT b⟩
  | .met o m es => let b : BE := fun τ M Q E => (wX false o).1 τ M (fun x M1 => ∃ c fs S, insOf M1 x = some (c, fs) ∧ fs.lookup m = none ∧ Γ.mt c m = some S ∧ wXs es τ M1 (fun xs M2 => S (x :: xs) M2 Q E) E) E; ⟨b, truT b⟩
  | .bi f es => let b : BE := fun τ M Q E => wXs es τ M (fun xs M1 => biR Γ mu f xs M1 Q) E; ⟨b, truT b⟩
  | .bm o f es => let b : BE := fun τ M Q E => (wX false o).1 τ M (fun x M1 => bmT f x M1 ∧ wXs es τ M1 (fun xs M2 => bmR x f xs M2 Q) E) E; ⟨b, truT b⟩
  | .lc own e tg it ifs => let b : BE := fun τ M Q E => Γ.cold = true ∧ wI it τ M (fun items g M1 => lcW Γ g tg (wF ifs) (wX false e).1 (own.foldr (fun i τ => τ.set i none) τ) (fun xs M2 => newL mu xs M2 Q) items [] M1) E; ⟨b, truT b⟩
  | .isi a cs => let b : BE := fun τ M Q E => (wX false a).1 τ M (fun x M1 => ∃ t k, tyOf Γ M1 x = some t ∧ cs.all (knC Γ) = true ∧ isiR Γ t cs = some k ∧ Q (.bl k) M1) E; ⟨b, blT b⟩
  | .sset a => let b : BE := fun τ M Q E => Γ.cold = true ∧ (wX false a).1 τ M (fun x M1 => ssetR mu x M1 Q) E; ⟨b, truT b⟩
  | .oeq ne a c => let b : BE := fun τ M Q E => (wX false a).1 τ M (fun x M1 => (wX false c).1 τ M1 (fun y M2 => oeqR Γ ne x y M2 Q) E) E; ⟨b, blT b⟩
  | .ostr a => let b : BE := fun τ M Q E => (wX false a).1 τ M (fun x M1 => ostR Γ x M1 Q) E; ⟨b, truT b⟩
  | .lrv a => let b : BE := fun τ M Q E => Γ.cold = true ∧ (wX false a).1 τ M (fun x M1 => ∃ xs, lsOf M1 x = some xs ∧ newL mu xs.reverse M1 Q) E; ⟨b, truT b⟩
  | .dct _ _ => ⟨fun _ _ _ _ => False, fun _ _ _ _ => False⟩
  | .m e => wX true e
  | .fz e => ⟨fun τ M Q E => (wX true e).1 τ M (fun x M1 => freezeR x M1 Q) E, fun _ _ _ _ => False⟩
def wAnd : Exs → BT
  | .nil => fun _ M Q _ => Q true M
  | .cons e r => fun τ M Q E => (wX false e).2 τ M (fun k M1 => (k = true → wAnd r τ M1 Q E) ∧ (k = false → Q false M1)) E
  | .star _ _ => fun _ _ _ _ => False
def wOr : Exs → BT
  | .nil => fun _ M Q _ => Q false M
  | .cons e r => fun τ M Q E => (wX false e).2 τ M (fun k M1 => (k = true → Q true M1) ∧ (k = false → wOr r τ M1 Q E)) E
  | .star _ _ => fun _ _ _ _ => False
/-- as a value: all but the last are truth values -/
def wAndV : Exs → BE
  | .nil => fun _ _ _ _ => False
  | .cons e .nil => (wX false e).1
  | .cons e r => fun τ M Q E => (wX false e).1 τ M (fun x M1 => ∃ k, x = .bl k ∧ (k = true → wAndV r τ M1 Q E) ∧ (k = false → Q (.bl false) M1)) E
  | .star _ _ => fun _ _ _ _ => False
def wOrV : Exs → BE
  | .nil => fun _ _ _ _ => False
  | .cons e .nil => (wX false e).1
  | .cons e r => fun τ M Q E => (wX false e).1 τ M (fun x M1 => ∃ k, x = .bl k ∧ (k = true → Q (.bl true) M1) ∧ (k = false → wOrV r τ M1 Q E)) E
  | .star _ _ => fun _ _ _ _ => False
def wXs : Exs → BA
  | .nil => fun _ M Q _ => Q [] M
  | .cons e r => fun τ M Q E => (wX false e).1 τ M (fun x M1 => wXs r τ M1 (fun xs M2 => Q (x :: xs) M2) E) E
  | .star e r => fun τ M Q E => (wX false e).1 τ M (fun x M1 => ∃ ys, seqOf M1 x = some ys ∧ wXs r τ M1 (fun xs M2 => Q (ys ++ xs) M2) E) E
def wO : Exo → Sl → MHp → (Option Int → MHp → Prop) → BX → Prop
  | .no => fun _ M Q _ => Q none M
  | .yes e => fun τ M Q E => (wX false e).1 τ M (fun x M1 => ∃ i, x = .int i ∧ Q (some i) M1) E
def wF : Exo → BT
  | .no => fun _ M Q _ => Q true M
  | .yes e => (wX false e).2
def wI : It → BI
  | .val e => fun τ M R E => (wX false e).1 τ M (fun x M1 => itemsR x M1 R) E
  | .rng .no c => fun τ M R E => (wX false c).1 τ M (fun y M1 => rngR (.int 0) y M1 R) E
  | .rng (.yes a) c => fun τ M R E => (wX false a).1 τ M (fun x M1 => (wX false c).1 τ M1 (fun y M2 => rngR x y M2 R) E) E
  | .zip a c => fun τ M R E => (wX false a).1 τ M (fun x M1 => (wX false c).1 τ M1 (fun y M2 => zipR x y M2 R) E) E
  | .enu a => fun τ M R E => (wX false a).1 τ M (fun x M1 => enuR x M1 R) E
  | .items _ => fun _ _ _ _ => False
  | .rvd a => fun τ M R E => (wX false a).1 τ M (fun x M1 => rvdR x M1 R) E
end
abbrev wE (e : Ex) : BE := (wX Γ false e).1
abbrev wT (e : Ex) : BT := (wX Γ false e).2
end
/-! ### statements -/
/-- where an error is at hand -/
def Gm.hot (Γ : Gm) : Gm := { Γ with cold := false, fn := Γ.hfn, ini := fun _ => none, mt := fun _ _ => none, xc := fun _ => none, eqm := fun _ => none, stm := fun _ => none }
def isaE (Γ : Gm) (c : Nat) : Option Nat → Option Bool
  | none => some true
  | some d => Γ.exm c d
/-- the classes of the clauses are known -/
def knO (Γ : Gm) : Option Nat → Bool
  | some d => (Γ.exm d d).isSome
  | none => false
def knH (Γ : Gm) : Hds → Bool
  | .nil => true
  | .cons c _ _ r => knO Γ c && knH Γ r
def setO (τ : Sl) (i : Option Nat) (x : PV) : Sl := match i with
  | some i => τ.set i (some x)
  | none => τ
/-- the ends of an except suite -/
def suiteD (D : BD) (τ : Sl) (M : MHp) : BD where
  nx := fun _ _ => False
  rt := fun x _ => noX x = true ∧ D.rt x M
  bk := fun _ _ => False
  ct := fun _ _ => False
  ex := fun _ _ _ _ => False
mutual
def wS : Gm → Sm → BD → Sl → MHp → Prop
  | Γ, .exp e, D, τ, M => wE Γ e τ M (fun _ M1 => D.nx τ M1) fun c fs M1 => D.ex c fs τ M1
  | Γ, .asg i e, D, τ, M => wE Γ e τ M (fun x M1 => D.nx (τ.set i (some x)) M1) fun c fs M1 => D.ex c fs τ M1
  | Γ, .asgT is e, D, τ, M => wE Γ e τ M (fun x M1 => asgT Γ is x τ fun τ1 => D.nx τ1 M1) fun c fs M1 => D.ex c fs τ M1
  | Γ, .asgA o f e, D, τ, M => wE Γ e τ M (fun y M1 => wE Γ o τ M1 (fun x M2 => ∃ a c gs, x = .ref a ∧ M2 a = some (.ins c gs) ∧ Γ.fld c f = true ∧ gs.length < 900 ∧ D.nx τ (ms M2 a (.ins c (putN f y gs)))) fun c fs M1 => D.ex c fs τ M1) fun c fs M1 => D.ex c fs τ M1
  | Γ, .asgS o i e, D, τ, M => wE Γ e τ M (fun y M1 => wE Γ o τ M1 (fun x M2 => wE Γ i τ M2 (fun z M3 => ∃ a xs k j, x = .ref a ∧ M3 a = some (.lst xs) ∧ z = .int k ∧ ixN xs.length k = some j ∧ D.nx τ (ms M3 a (.lst (xs.set j y))))
      fun c fs M1 => D.ex c fs τ M1) fun c fs M1 => D.ex c fs τ M1) fun c fs M1 => D.ex c fs τ M1
  | Γ, .aug i op e, D, τ, M => ∃ x, τ[i]? = some (some x) ∧ wE Γ e τ M (fun y M1 => ∃ a b, op = .Add ∧ x = .int a ∧ y = .int b ∧ D.nx (τ.set i (some (.int (a + b)))) M1) fun c fs M1 => D.ex c fs τ M1
  | Γ, .augA i f op e, D, τ, M => ∃ a c gs v, τ[i]? = some (some (.ref a)) ∧ M a = some (.ins c gs) ∧ Γ.fld c f = true ∧ gs.lookup f = some (.int v) ∧ wE Γ e τ M (fun y M1 => ∃ n, op = .Add ∧ y = .int n ∧ M1 a = some (.ins c gs) ∧ gs.length < 900 ∧ D.nx τ (ms M1 a (.ins c (putN f (.int (v + n)) gs)))) fun c fs M1 => D.ex c fs τ M1
  | Γ, .ret e, D, τ, M => wE Γ e τ M (fun x M1 => D.rt x M1) fun c fs M1 => D.ex c fs τ M1
  | _, .retN, D, _, M => D.rt .non M
  | Γ, .ifs t a b, D, τ, M => wT Γ t τ M (fun k M1 => (k = true → wSs Γ a D τ M1) ∧ (k = false → wSs Γ b D τ M1)) fun c fs M1 => D.ex c fs τ M1
  | Γ, .fore tg it b, D, τ, M => Γ.cold = true ∧ wI Γ it τ M (fun items g M1 => forW Γ g tg (wSs Γ b) D items τ M1) fun c fs M1 => D.ex c fs τ M1
  | Γ, .whl t b, D, τ, M => ∃ n, whlW (wT Γ t) (wSs Γ b) D n τ M
  | _, .brk, D, τ, M => D.bk τ M
  | _, .cnt, D, τ, M => D.ct τ M
  | _, .pass, D, τ, M => D.nx τ M
  | Γ, .rais c es, D, τ, M => Γ.cold = true ∧ ∃ fo, Γ.xc c = some fo ∧ wXs Γ es τ M (fun xs M1 => match fo with
    | some f => ∃ x, xs = [x] ∧ D.ex c [(f, x)] τ M1
    | none => xs = [] ∧ D.ex c [] τ M1) fun c fs M1 => D.ex c fs τ M1
  | Γ, .tri b hs, D, τ, M => Γ.cold = true ∧ knH Γ hs = true ∧ wSs Γ b { D with ex := fun c fs τ1 M1 => wHs Γ hs D c fs τ1 M1 } τ M
  | _, .nvr, _, _, _ => False
def wSs : Gm → Sms → BD → Sl → MHp → Prop
  | _, .nil, D, τ, M => D.nx τ M
  | Γ, .cons s r, D, τ, M => wS Γ s { D with nx := fun τ1 M1 => wSs Γ r D τ1 M1 } τ M
/-- the first clause that takes the error -/
def wHs : Gm → Hds → BD → Nat → List (Nat × PV) → Sl → MHp → Prop
  | _, .nil, D, c, fs, τ, M => D.ex c fs τ M
  | Γ, .cons d i s r, D, c, fs, τ, M => ∃ k, isaE Γ c d = some k ∧ (k = true → wSs Γ.hot s (suiteD D τ M) (setO τ i (.exc c fs)) fun _ => none) ∧ (k = false → wHs Γ r D c fs τ M)
end
end Nb

/-! Nb4 -/
set_option Elab.async false
set_option linter.all false
set_option maxRecDepth 100000
set_option maxHeartbeats 1000000
/-! Nb4: the operators over trees are the layer's operators over values. -/
namespace Nb
open PySem PySem.Spec L2
open PyProof.Rows hiding St

section
variable {G : GI} {F F1 H H1 : Hp} {M M1 : MHp}
/-- the lists -/
theorem lstOf_ok {x : PV} {v : V} {xs : List PV} (A : At G F M H) (r : RepV G F x v) (h : lstOf M x = some xs) : ∃ a vs, v = .ref a ∧ H a = some (.lst vs) ∧ RepVs G F xs vs := by
  cases r with
  | lst e t =>
    cases h
    exact ⟨_, _, rfl, A.sub _ _ e, t⟩
  | ref a =>
    change (match M a with
      | some (.lst xs) => some xs
      | _ => none) = some xs at h
    cases e : M a with
    | none => rw [e] at h; cases h
    | some m =>
      rw [e] at h
      cases m with
      | lst ys =>
        cases h
        obtain ⟨vs, h1, t⟩ := A.mo a _ e
        exact ⟨a, vs, rfl, h1, t⟩
      | ins c fs => cases h
      | dct kvs => cases h
  | _ => cases h
theorem lsOf_ok {x : PV} {v : V} {xs : List PV} (A : At G F M H) (r : RepV G F x v) (h : lsOf M x = some xs) : ∃ a vs, v = .ref a ∧ SqL G.K H a vs ∧ RepVs G F xs vs := by
  have ls : lstOf M x = some xs → ∃ a vs, v = .ref a ∧ SqL G.K H a vs ∧ RepVs G F xs vs := fun h => by
    obtain ⟨a, vs, e, h1, t⟩ := lstOf_ok A r h
    exact ⟨a, vs, e, SqL.of h1, t⟩
  cases r with
  | kl e t =>
    cases h
    exact ⟨_, _, rfl, sqL_mono A.sub e, t⟩
  | _ => exact ls h
theorem seqOf_ok {x : PV} {v : V} {xs : List PV} (A : At G F M H) (r : RepV G F x v) (h : seqOf M x = some xs) : ∃ a vs, v = .ref a ∧ (SqL G.K H a vs ∨ SqT G.K H a vs) ∧ RepVs G F xs vs := by
  cases r with
  | tup e t =>
    cases h
    exact ⟨_, _, rfl, .inr (sqT_mono A.sub e), t⟩
  | kl e t =>
    cases h
    exact ⟨_, _, rfl, .inl (sqL_mono A.sub e), t⟩
  | lst e t =>
    cases h
    exact ⟨_, _, rfl, .inl (SqL.of (A.sub _ _ e)), t⟩
  | ref a =>
    obtain ⟨b, vs, h1, h2, t⟩ := lstOf_ok A (.ref a) (show lstOf M (.ref a) = some xs from h)
    exact ⟨b, vs, h1, .inl (SqL.of h2), t⟩
  | _ => cases h
/-- a wish carried on -/
def Up (G : GI) (F : Hp) (M : MHp) (H : Hp) (Q : BV) (Qh : VK) : Prop := ∀ x F1 M1 H1 v, Ev F M H F1 M1 H1 → At G F1 M1 H1 → RepV G F1 x v → Q x M1 → Qh v H1
theorem Up.here {Q : BV} {Qh : VK} {x : PV} {v : V} (u : Up G F M H Q Qh) (A : At G F M H) (r : RepV G F x v) (q : Q x M) : Qh v H := u x F M H v Ev.refl A r q
theorem Up.on {Q : BV} {Qh : VK} (u : Up G F M H Q Qh) (e : Ev F M H F1 M1 H1) : Up G F1 M1 H1 Q Qh := fun x F2 M2 H2 v e2 a r q => u x F2 M2 H2 v (e.trans e2) a r q
theorem newL_ok {mu : Bool} {xs : List PV} {vs : List V} {Q : BV} {Qh : VK} (A : At G F M H) (r : RepVs G F xs vs) (u : Up G F M H Q Qh) (q : newL mu xs M Q) (p : Addr) (hp : H p = none) : Qh (.ref p) (upd H p (.lst vs)) := by
  cases mu with
  | true =>
    obtain ⟨A1, E1⟩ := A.newM (o := .lst vs) (m := .lst xs) hp ⟨vs, upd_same, r⟩
    exact u (.ref p) F _ _ _ E1 A1 (.ref p) (q p (A.none_of hp))
  | false =>
    obtain ⟨A1, E1⟩ := A.newF (o := .lst vs) hp
    exact u (.lst xs) _ M _ _ E1 A1 (.lst upd_same (r.mono E1.sub)) q
theorem newT_ok {xs : List PV} {vs : List V} {Q : BV} {Qh : VK} (A : At G F M H) (r : RepVs G F xs vs) (u : Up G F M H Q Qh) (q : Q (.tup xs) M) (p : Addr) (hp : H p = none) : Qh (.ref p) (upd H p (.tup vs)) := by
  obtain ⟨A1, E1⟩ := A.newF (o := .tup vs) hp
  exact u (.tup xs) _ M _ _ E1 A1 (.tup (SqT.of upd_same) (r.mono E1.sub)) q
/-- an operation over trees, read over values -/
def liftR (G : GI) (r : PV → PV → MHp → BV → Prop) : R2 := fun x y H Qh => ∃ F M px py Q, At G F M H ∧ RepV G F px x ∧ RepV G F py y ∧ Up G F M H Q Qh ∧ r px py M Q
end

section
variable {G : GI} {X : Cx}
theorem ob_add {mu : Bool} (hK : G.K = X.K) : OpR X (binaryOp .Add) (liftR G (binR mu .Add)) := by
  intro pins s σ H x y v u Qh I rx ry h
  obtain ⟨F, M, px, py, Q, A, qx, qy, up, h⟩ := h
  have lists : (∃ a b, lstOf M px = some a ∧ lstOf M py = some b ∧ a.length + b.length ≤ sizeLine ∧ newL mu (a ++ b) M Q) → wpAny (model X.prog X.w) X.A (binaryOp .Add v u) (EP X pins σ Qh) X.xe s := by
    rintro ⟨a, b, ha, hb, hz, q⟩
    obtain ⟨p, vs, rfl, hp, tp⟩ := lstOf_ok A qx ha
    obtain ⟨p2, ws, rfl, hp2, tp2⟩ := lstOf_ok A qy hb
    refine op_cat pins s σ H _ _ v u Qh I rx ry ⟨p, p2, vs, ws, rfl, rfl, hp, hp2, by rw [← tp.length, ← tp2.length]; exact hz, fun z hz' => newL_ok A (tp.append tp2) up q z hz'⟩
  cases qx with
  | int i => cases qy with
    | int j => exact op_add pins s σ H _ _ v u Qh I rx ry ⟨i, j, rfl, rfl, up.here A (.int _) h⟩
    | _ => obtain ⟨a, b, h1, _⟩ := h; cases h1
  | str i => cases qy with
    | str j => exact op_add_str pins s σ H _ _ v u Qh I rx ry ⟨i, j, rfl, rfl, h.1, up.here A (.str _) h.2⟩
    | _ => obtain ⟨a, b, h1, _⟩ := h; cases h1
  | tup e t => cases qy with
    | tup e2 t2 =>
      have ex := sqT_mono A.sub e
      have ey := sqT_mono A.sub e2
      rw [hK] at ex ey
      refine op_catA pins s σ H _ _ v u Qh I rx ry ⟨_, _, _, _, rfl, rfl, ex, ey, by rw [← t.length, ← t2.length]; exact h.1, fun z => ?_, fun _ z => ?_, fun _ _ p hp => newT_ok A (t.append t2) up h.2 p hp⟩
      · subst z
        cases t
        exact up.here A (.tup e2 t2) h.2
      · subst z
        cases t2
        refine up.here A (.tup e t) ?_
        have := h.2
        rw [List.append_nil] at this
        exact this
    | _ => obtain ⟨a, b, h1, _⟩ := h; cases h1
  | lst e t => exact lists h
  | ref a => exact lists h
  | non => obtain ⟨a, b, h1, _⟩ := h; cases h1
  | bl b => obtain ⟨a, b, h1, _⟩ := h; cases h1
  | kl e t => obtain ⟨a, b, h1, _⟩ := h; cases h1
  | obj c e t => obtain ⟨a, b, h1, _⟩ := h; cases h1
  | raw v => obtain ⟨a, b, h1, _⟩ := h; cases h1
  | exc e t => obtain ⟨a, b, h1, _⟩ := h; cases h1
theorem tup_len0 (xs : List V) : xs.length = 0 → xs = [] := fun h => List.length_eq_zero_iff.mp h
theorem foldl_flat (l : Array Nat) : ∀ (k : Nat) (acc : Array Nat), List.foldl (fun a b => a ++ b) acc (List.replicate k l) = acc ++ (List.replicate k l.toList).flatten.toArray
  | 0, acc => by simp
  | k + 1, acc => by
    rw [List.replicate_succ, List.foldl_cons, foldl_flat l k, List.replicate_succ, List.flatten_cons]
    apply Array.ext'
    simp
theorem ob_mult {mu : Bool} (hK : G.K = X.K) : OpR X (binaryOp .Mult) (liftR G (binR mu .Mult)) := by
  intro pins s σ H x y v u Qh I rx ry h
  obtain ⟨F, M, px, py, Q, A, qx, qy, up, h⟩ := h
  have lists : ∀ k : Int, RepV G F (.int k) y → (∃ a, lstOf M px = some a ∧ -(2 ^ 63) ≤ k ∧ k < 2 ^ 63 ∧ a.length * k.toNat ≤ sizeLine ∧ newL mu (List.replicate k.toNat a).flatten M Q) → wpAny (model X.prog X.w) X.A (binaryOp .Mult v u) (EP X pins σ Qh) X.xe s := by
    rintro k ⟨⟩ ⟨a, ha, h1, h2, hz, q⟩
    obtain ⟨p, vs, rfl, hp, tp⟩ := lstOf_ok A qx ha
    exact op_rep pins s σ H _ _ v u Qh I rx ry ⟨p, k, vs, rfl, rfl, hp, h1, h2, by rw [← tp.length]; exact hz, fun z hz' => newL_ok A (tp.rep _) up q z hz'⟩
  cases qx with
  | int i => cases qy with
    | int j =>
      rcases h.1 with c | c
      · exact op_mul pins s σ H _ _ v u Qh I rx ry ⟨i, j, rfl, rfl, c, up.here A (.int _) h.2⟩
      · exact op_mulW pins s σ H _ _ v u Qh I rx ry ⟨i, j, rfl, rfl, c, up.here A (.int _) h.2⟩
    | _ => exact h.elim
  | str i => cases qy with
    | int k =>
      obtain ⟨h0, h1, hz, q⟩ := h
      obtain ⟨t, rfl⟩ := rx
      obtain ⟨t', rfl⟩ := ry
      obtain ⟨n, rfl⟩ : ∃ n : Nat, k = n := ⟨k.toNat, by omega⟩
      rw [Int.toNat_natCast] at q
      have hsz : i.cps.size ≤ 1000 := hz
      have hs : (sizeLine : Nat) = 16777216 := sizeLine_eq
      have hn : n ≤ 1000 := by omega
      have hmul : i.cps.size * n ≤ 1000 * 1000 := Nat.mul_le_mul hsz hn
      have fin : ∀ tk t0, EP X pins σ Qh (.str ⟨(List.replicate n i.cps.toList).flatten.toArray⟩ t0) { s with toks := tk } := fun tk t0 => ⟨.str _, H, I.tok _, ⟨_, rfl⟩, up.here A (.str _) q⟩
      refine P.mul_str (by rw [decide_eq_false (by omega), decide_eq_false (by omega)]; rfl) (fun z1 _ z => ?_) (fun _ _ => ?_) ?_
      · have h2 : (2 ^ 63 - 1 : Int) / 1000 ≤ (2 ^ 63 - 1) / (n : Int) := by
          refine Int.le_ediv_of_mul_le (by omega) ?_
          have : (2 ^ 63 - 1 : Int) / 1000 * n ≤ (2 ^ 63 - 1 : Int) / 1000 * 1000 := Int.mul_le_mul_of_nonneg_left (by omega) (by decide)
          omega
        have h3 : (i.length : Int) ≤ 1000 := by
          have : i.length = i.cps.size := rfl
          omega
        omega
      · have hl : i.length * n ≤ 1000000 := hmul
        show decide (i.length * (n : Int).toNat > sizeLine) = false
        rw [Int.toNat_natCast]
        exact decide_eq_false (by omega)
      · by_cases c1 : (n : Int) < 1
        · rw [if_pos c1]
          have : n = 0 := by omega
          subst this
          exact ⟨by decide, fin _ _⟩
        · rw [if_neg c1]
          by_cases c2 : ((n : Int) == 1 || i.length == 0) = true
          · rw [if_pos c2]
            have e : (⟨(List.replicate n i.cps.toList).flatten.toArray⟩ : Str) = i := by
              obtain ⟨c⟩ := i
              rw [Bool.or_eq_true] at c2
              rcases c2 with c2 | c2
              · have : n = 1 := by
                  have := beq_iff_eq.mp c2
                  omega
                subst this
                simp
              · have : c.size = 0 := beq_iff_eq.mp c2
                have : c = #[] := Array.eq_empty_of_size_eq_zero this
                subst this
                simp
            have f := fin s.toks t
            rw [e] at f
            exact f
          · rw [if_neg c2, foldl_flat, Int.toNat_natCast]
            have e : (#[] ++ (List.replicate n i.cps.toList).flatten.toArray : Array Nat) = (List.replicate n i.cps.toList).flatten.toArray := by simp
            rw [e]
            refine ⟨?_, fin _ _⟩
            show ((List.replicate n i.cps.toList).flatten.toArray).size ≤ sizeLine
            have : ((List.replicate n i.cps.toList).flatten.toArray).size = n * i.cps.size := by simp
            rw [this, Nat.mul_comm]
            omega
    | _ => exact h.elim
  | lst e t => cases qy with
    | int k => exact lists k (.int k) h
    | _ => exact h.elim
  | ref a => cases qy with
    | int k => exact lists k (.int k) h
    | _ => exact h.elim
  | non => cases qy <;> first | exact h.elim | (obtain ⟨a, h1, _⟩ := h; cases h1)
  | bl b => cases qy <;> first | exact h.elim | (obtain ⟨a, h1, _⟩ := h; cases h1)
  | tup e t => cases qy <;> first | exact h.elim | (obtain ⟨a, h1, _⟩ := h; cases h1)
  | kl e t => cases qy <;> first | exact h.elim | (obtain ⟨a, h1, _⟩ := h; cases h1)
  | obj c e t => cases qy <;> first | exact h.elim | (obtain ⟨a, h1, _⟩ := h; cases h1)
  | raw v => cases qy <;> first | exact h.elim | (obtain ⟨a, h1, _⟩ := h; cases h1)
  | exc e t => cases qy <;> first | exact h.elim | (obtain ⟨a, h1, _⟩ := h; cases h1)

/-! ### data -/
mutual
def toD : PV → PyData
  | .int i => .int i | .str x => .str x | .tup xs => .tuple (toDs xs) | .lst xs => .list (toDs xs)
  | _ => .none
def toDs : List PV → List PyData
  | [] => []
  | x :: xs => toD x :: toDs xs
end
mutual
theorem toD_lay : ∀ x : PV, cln x = true → (toD x).canLay0 = true
  | .non, _ => rfl
  | .int _, _ => rfl
  | .str x, h => h
  | .tup xs, h => toDs_lay xs h
  | .lst xs, h => toDs_lay xs h
  | .bl _, h => by cases h
  | .kl _, h => by cases h
  | .obj _ _, h => by cases h
  | .ref _, h => by cases h
  | .raw _, h => by cases h
theorem toDs_lay : ∀ xs : List PV, clns xs = true → PyData.canLayAll0 (toDs xs) = true
  | [], _ => rfl
  | x :: xs, h => by
    have h' : (cln x && clns xs) = true := h
    rw [Bool.and_eq_true] at h'
    show ((toD x).canLay0 && PyData.canLayAll0 (toDs xs)) = true
    rw [toD_lay x h'.1, toDs_lay xs h'.2]
    rfl
end
mutual
theorem toD_depth : ∀ x : PV, cln x = true → (toD x).depth = dpt x
  | .non, _ => rfl
  | .int _, _ => rfl
  | .str x, h => rfl
  | .tup xs, h => congrArg (· + 1) (toDs_depth xs h)
  | .lst xs, h => congrArg (· + 1) (toDs_depth xs h)
  | .bl _, h => by cases h
  | .kl _, h => by cases h
  | .obj _ _, h => by cases h
  | .ref _, h => by cases h
  | .raw _, h => by cases h
theorem toDs_depth : ∀ xs : List PV, clns xs = true → PyData.depthAll (toDs xs) = dpts xs
  | [], _ => rfl
  | x :: xs, h => by
    have h' : (cln x && clns xs) = true := h
    rw [Bool.and_eq_true] at h'
    show Nat.max (toD x).depth (PyData.depthAll (toDs xs)) = Nat.max (dpt x) (dpts xs)
    rw [toD_depth x h'.1, toDs_depth xs h'.2]
end
theorem toD_shaped {x : PV} (h : cln x = true) (d : dpt x ≤ 64) : SeqAt.shaped (toD x) = true := by
  unfold SeqAt.shaped
  rw [toD_lay x h, toD_depth x h, Bool.true_and]
  exact decide_eq_true (by omega)
theorem beq_dec {α : Type} [DecidableEq α] (a b : α) : (a == b) = decide (a = b) := by
  by_cases h : a = b
  · rw [decide_eq_true h]; exact beq_iff_eq.mpr h
  · rw [decide_eq_false h]; exact beq_eq_false_iff_ne.mpr h
mutual
theorem toD_eqv : ∀ x y : PV, cln x = true → cln y = true → PyData.eqv (toD x) (toD y) = pvEq x y
  | .non, .non, _, _ => rfl
  | .non, .int _, _, _ => rfl
  | .non, .str _, _, _ => rfl
  | .non, .tup _, _, _ => rfl
  | .non, .lst _, _, _ => rfl
  | .int _, .non, _, _ => rfl
  | .int a, .int b, _, _ => beq_dec a b
  | .int _, .str _, _, _ => rfl
  | .int _, .tup _, _, _ => rfl
  | .int _, .lst _, _, _ => rfl
  | .str _, .non, _, _ => rfl
  | .str _, .int _, _, _ => rfl
  | .str a, .str b, _, _ => beq_dec a b
  | .str _, .tup _, _, _ => rfl
  | .str _, .lst _, _, _ => rfl
  | .tup _, .non, _, _ => rfl
  | .tup _, .int _, _, _ => rfl
  | .tup _, .str _, _, _ => rfl
  | .tup xs, .tup ys, h, h' => toDs_eqv xs ys h h'
  | .tup _, .lst _, _, _ => rfl
  | .lst _, .non, _, _ => rfl
  | .lst _, .int _, _, _ => rfl
  | .lst _, .str _, _, _ => rfl
  | .lst _, .tup _, _, _ => rfl
  | .lst xs, .lst ys, h, h' => toDs_eqv xs ys h h'
  | .bl _, _, h, _ => by cases h
  | .kl _, _, h, _ => by cases h
  | .obj _ _, _, h, _ => by cases h
  | .ref _, _, h, _ => by cases h
  | .raw _, _, h, _ => by cases h
  | _, .bl _, _, h => by cases h
  | _, .kl _, _, h => by cases h
  | _, .obj _ _, _, h => by cases h
  | _, .ref _, _, h => by cases h
  | _, .raw _, _, h => by cases h
theorem toDs_eqv : ∀ xs ys : List PV, clns xs = true → clns ys = true → PyData.eqvAll (toDs xs) (toDs ys) = pvEqs xs ys
  | [], [], _, _ => rfl
  | [], _ :: _, _, _ => rfl
  | _ :: _, [], _, _ => rfl
  | x :: xs, y :: ys, h, h' => by
    have h1 : (cln x && clns xs) = true := h
    have h2 : (cln y && clns ys) = true := h'
    rw [Bool.and_eq_true] at h1 h2
    show (PyData.eqv (toD x) (toD y) && PyData.eqvAll (toDs xs) (toDs ys)) = (pvEq x y && pvEqs xs ys)
    rw [toD_eqv x y h1.1 h2.1, toDs_eqv xs ys h1.2 h2.2]
end
mutual
theorem rep_dp {F H : Hp} (hK : G.K = X.K) (s : Same F H) : ∀ {x : PV} {v : V}, RepV G F x v → cln x = true → Dp X.K H v (toD x)
  | _, _, .non, _ => .non
  | _, _, .int i, _ => .int i
  | _, _, .str x, _ => .str x
  | _, _, .tup e t, h => .tup (hK ▸ sqT_mono s e) (rep_dps hK s t h)
  | _, _, .lst e t, h => .lst (SqL.of (s _ _ e)) (rep_dps hK s t h)
  | _, _, .bl _, h => by cases h
  | _, _, .kl _ _, h => by cases h
  | _, _, .obj _ _ _, h => by cases h
  | _, _, .ref _, h => by cases h
  | _, _, .raw _, h => by cases h
theorem rep_dps {F H : Hp} (hK : G.K = X.K) (s : Same F H) : ∀ {xs : List PV} {vs : List V}, RepVs G F xs vs → clns xs = true → DpAll X.K H vs (toDs xs)
  | _, _, .nil, _ => .nil
  | x :: xs, _, .cons r t, h => by
    have h' : (cln x && clns xs) = true := h
    rw [Bool.and_eq_true] at h'
    exact .cons (rep_dp hK s r h'.1) (rep_dps hK s t h'.2)
end
theorem frzd_dp {F H : Hp} {M : MHp} (hK : G.K = X.K) (A : At G F M H) {x : PV} {v : V} (r : RepV G F x v) (h : cln (frzd M x) = true) : Dp X.K H v (toD (frzd M x)) := by
  unfold frzd at h ⊢
  cases e : lstOf M x with
  | none => rw [e] at h; exact rep_dp hK A.sub r h
  | some xs =>
    rw [e] at h
    obtain ⟨a, vs, rfl, h1, t⟩ := lstOf_ok A r e
    exact .lst (SqL.of h1) (rep_dps hK A.sub t h)
theorem eq_data (hu : X.A.units + 64 < cLine) {pins : List (Addr × Obj)} {s : Shared} {σ : L2.St} {F H : Hp} {M : MHp} {x y : PV} {v u : V} {vv uu : Value} {Qh : VK} (hK : G.K = X.K) (I : Inv X pins σ H s) (A : At G F M H) (qx : RepV G F x v) (qy : RepV G F y u) (rx : RelV v vv) (ry : RelV u uu)
    {R : Bool → Prop} (hR : ∀ b, R b → Qh (.bl b) H) (h : cln (frzd M x) = true ∧ cln (frzd M y) = true ∧ dpt (frzd M x) ≤ 60 ∧ dpt (frzd M y) ≤ 60 ∧ R (pvEq (frzd M x) (frzd M y))) : wpAny (model X.prog X.w) X.A (compareOp .Eq vv uu) (EP X pins σ Qh) X.xe s := by
  obtain ⟨c1, c2, d1, d2, q⟩ := h
  refine op_eqD hu pins s σ H _ _ _ _ Qh I rx ry ⟨_, _, frzd_dp hK A qx c1, frzd_dp hK A qy c2, toD_shaped c1 (Nat.le_trans d1 (by decide)), toD_shaped c2 (Nat.le_trans d2 (by decide)), ?_⟩
  rw [toD_eqv _ _ c1 c2]
  exact hR _ q
theorem ne_data (hu : X.A.units + 64 < cLine) {pins : List (Addr × Obj)} {s : Shared} {σ : L2.St} {F H : Hp} {M : MHp} {x y : PV} {v u : V} {vv uu : Value} {Qh : VK} (hK : G.K = X.K) (I : Inv X pins σ H s) (A : At G F M H) (qx : RepV G F x v) (qy : RepV G F y u) (rx : RelV v vv) (ry : RelV u uu)
    {R : Bool → Prop} (hR : ∀ b, R b → Qh (.bl (!b)) H) (h : cln (frzd M x) = true ∧ cln (frzd M y) = true ∧ dpt (frzd M x) ≤ 60 ∧ dpt (frzd M y) ≤ 60 ∧ R (pvEq (frzd M x) (frzd M y))) : wpAny (model X.prog X.w) X.A (compareOp .NotEq vv uu) (EP X pins σ Qh) X.xe s := by
  obtain ⟨c1, c2, d1, d2, q⟩ := h
  refine op_neD hu pins s σ H _ _ _ _ Qh I rx ry ⟨_, _, frzd_dp hK A qx c1, frzd_dp hK A qy c2, toD_shaped c1 (Nat.le_trans d1 (by decide)), toD_shaped c2 (Nat.le_trans d2 (by decide)), ?_⟩
  rw [toD_eqv _ _ c1 c2]
  exact hR _ q
end
end Nb

/-! Nb5 -/
set_option Elab.async false
set_option linter.all false
set_option maxRecDepth 100000
set_option maxHeartbeats 1000000
/-! Nb5: operators (2): numbers, comparisons, places, slices, fields, built-ins by name. -/
namespace Nb
open PySem PySem.Spec L2
open PyProof.Rows hiding St
section
variable {G : GI} {X : Cx}
theorem ob_bin {mu : Bool} (op : Operator) (hK : G.K = X.K) : OpR X (binaryOp op) (liftR G (binR mu op)) := by
  by_cases h1 : op = .Add
  · subst h1; exact ob_add hK
  by_cases h2 : op = .Mult
  · subst h2; exact ob_mult hK
  intro pins s σ H x y v u Qh I rx ry h
  obtain ⟨F, M, px, py, Q, A, qx, qy, up, h⟩ := h
  cases op with
  | Sub => cases qx with
    | int i => cases qy with
      | int j => exact op_sub pins s σ H _ _ v u Qh I rx ry ⟨i, j, rfl, rfl, up.here A (.int _) h⟩
      | _ => exact h.elim
    | _ => exact h.elim
  | FloorDiv => cases qx with
    | int i => cases qy with
      | int j => exact op_fdivW pins s σ H _ _ v u Qh I rx ry ⟨i, j, rfl, rfl, h.1, up.here A (.int _) h.2⟩
      | _ => exact h.elim
    | _ => exact h.elim
  | Mod => cases qx with
    | int i => cases qy with
      | int j => exact op_mod pins s σ H _ _ v u Qh I rx ry ⟨i, j, rfl, rfl, h.1, up.here A (.int _) h.2⟩
      | _ => exact h.elim
    | _ => exact h.elim
  | Pow => cases qx with
    | int i => cases qy with
      | int j => exact op_pow pins s σ H _ _ v u Qh I rx ry ⟨i, j, rfl, rfl, h.1, up.here A (.int _) h.2⟩
      | _ => exact h.elim
    | _ => exact h.elim
  | Add => exact absurd rfl h1
  | Mult => exact absurd rfl h2
  | _ => exact h.elim
theorem ob_un (op : UnaryOp) {pins : List (Addr × Obj)} {s : Shared} {σ : L2.St} {F H : Hp} {M : MHp} {x : PV} {v : V} {vv : Value} {Q : BV} {Qh : VK} (I : Inv X pins σ H s) (A : At G F M H) (qx : RepV G F x v) (rx : RelV v vv) (up : Up G F M H Q Qh)
    (h : unR op x M Q) : wpAny (model X.prog X.w) X.A (unaryOp op vv) (EP X pins σ Qh) X.xe s := by
  cases op with
  | USub => cases qx with
    | int i => exact un_neg pins s σ H _ _ Qh I rx ⟨i, rfl, up.here A (.int _) h⟩
    | _ => exact h.elim
  | _ => exact h.elim
theorem eqB_scal {G : GI} {F : Hp} {x y : PV} {v u : V} (qx : RepV G F x v) (qy : RepV G F y u) : flB x = true → flB y = true → scal v u = true := by
  intro f1 f2
  cases qx <;> first | (cases f1; done) | skip
  all_goals (cases qy <;> first | (cases f2; done) | rfl)
theorem eqB_at (hu : X.A.units + 64 < cLine) {pins : List (Addr × Obj)} {s : Shared} {σ : L2.St} {F H : Hp} {M : MHp} {x y : PV} {v u : V} {vv uu : Value} {Qh : VK} (hK : G.K = X.K) (I : Inv X pins σ H s) (A : At G F M H) (qx : RepV G F x v) (qy : RepV G F y u) (rx : RelV v vv) (ry : RelV u uu)
    {R : Bool → Prop} (hR : ∀ b, R b → Qh (.bl b) H) (h : eqB M x y R) : wpAny (model X.prog X.w) X.A (compareOp .Eq vv uu) (EP X pins σ Qh) X.xe s := by
  cases qx with
  | bl a => cases qy with
    | bl b => exact op_eq pins s σ H _ _ _ _ Qh I rx ry ⟨rfl, by rw [dec_bl]; exact hR _ h⟩
    | _ => exact eq_data hu hK I A (.bl a) (by first | exact RepV.non | exact RepV.int _ | exact RepV.str _ | (exact RepV.tup (by assumption) (by assumption)) | (exact RepV.lst (by assumption) (by assumption)) | (exact RepV.kl (by assumption) (by assumption)) | (exact RepV.obj (by assumption) (by assumption) (by assumption)) | exact RepV.ref _ | exact RepV.raw _ | (exact RepV.exc (by assumption) (by assumption))) rx ry hR h
  | int a => cases qy with
    | int b => exact op_eq pins s σ H _ _ _ _ Qh I rx ry ⟨rfl, by rw [dec_int, beq_dec]; exact hR _ h⟩
    | _ => exact eq_data hu hK I A (.int a) (by first | exact RepV.non | exact RepV.bl _ | exact RepV.str _ | (exact RepV.tup (by assumption) (by assumption)) | (exact RepV.lst (by assumption) (by assumption)) | (exact RepV.kl (by assumption) (by assumption)) | (exact RepV.obj (by assumption) (by assumption) (by assumption)) | exact RepV.ref _ | exact RepV.raw _ | (exact RepV.exc (by assumption) (by assumption))) rx ry hR h
  | str a => cases qy with
    | str b => exact op_eq pins s σ H _ _ _ _ Qh I rx ry ⟨rfl, by rw [dec_str, beq_dec]; exact hR _ h⟩
    | _ => exact eq_data hu hK I A (.str a) (by first | exact RepV.non | exact RepV.int _ | exact RepV.bl _ | (exact RepV.tup (by assumption) (by assumption)) | (exact RepV.lst (by assumption) (by assumption)) | (exact RepV.kl (by assumption) (by assumption)) | (exact RepV.obj (by assumption) (by assumption) (by assumption)) | exact RepV.ref _ | exact RepV.raw _ | (exact RepV.exc (by assumption) (by assumption))) rx ry hR h
  | non => cases qy with
    | non => exact op_eq pins s σ H _ _ _ _ Qh I rx ry ⟨rfl, by rw [decide_eq_true rfl]; exact hR _ h⟩
    | _ => exact eq_data hu hK I A .non (by first | exact RepV.bl _ | exact RepV.int _ | exact RepV.str _ | (exact RepV.tup (by assumption) (by assumption)) | (exact RepV.lst (by assumption) (by assumption)) | (exact RepV.kl (by assumption) (by assumption)) | (exact RepV.obj (by assumption) (by assumption) (by assumption)) | exact RepV.ref _ | exact RepV.raw _ | (exact RepV.exc (by assumption) (by assumption))) rx ry hR h
  | tup e t => exact eq_data hu hK I A (.tup e t) qy rx ry hR h
  | lst e t => exact eq_data hu hK I A (.lst e t) qy rx ry hR h
  | kl e t => exact eq_data hu hK I A (.kl e t) qy rx ry hR h
  | obj c e t => exact eq_data hu hK I A (.obj c e t) qy rx ry hR h
  | ref a => exact eq_data hu hK I A (.ref a) qy rx ry hR h
  | raw a => exact eq_data hu hK I A (.raw _) qy rx ry hR h
  | exc e t => exact eq_data hu hK I A (.exc e t) qy rx ry hR h
theorem neB_at (hu : X.A.units + 64 < cLine) {pins : List (Addr × Obj)} {s : Shared} {σ : L2.St} {F H : Hp} {M : MHp} {x y : PV} {v u : V} {vv uu : Value} {Qh : VK} (hK : G.K = X.K) (I : Inv X pins σ H s) (A : At G F M H) (qx : RepV G F x v) (qy : RepV G F y u) (rx : RelV v vv) (ry : RelV u uu)
    {R : Bool → Prop} (hR : ∀ b, R b → Qh (.bl (!b)) H) (h : eqB M x y R) : wpAny (model X.prog X.w) X.A (compareOp .NotEq vv uu) (EP X pins σ Qh) X.xe s := by
  cases qx with
  | bl a => cases qy with
    | bl b => exact op_ne pins s σ H _ _ _ _ Qh I rx ry ⟨rfl, by rw [dec_bl]; exact hR _ h⟩
    | _ => exact ne_data hu hK I A (.bl a) (by first | exact RepV.non | exact RepV.int _ | exact RepV.str _ | (exact RepV.tup (by assumption) (by assumption)) | (exact RepV.lst (by assumption) (by assumption)) | (exact RepV.kl (by assumption) (by assumption)) | (exact RepV.obj (by assumption) (by assumption) (by assumption)) | exact RepV.ref _ | exact RepV.raw _ | (exact RepV.exc (by assumption) (by assumption))) rx ry hR h
  | int a => cases qy with
    | int b => exact op_ne pins s σ H _ _ _ _ Qh I rx ry ⟨rfl, by rw [dec_int, beq_dec]; exact hR _ h⟩
    | _ => exact ne_data hu hK I A (.int a) (by first | exact RepV.non | exact RepV.bl _ | exact RepV.str _ | (exact RepV.tup (by assumption) (by assumption)) | (exact RepV.lst (by assumption) (by assumption)) | (exact RepV.kl (by assumption) (by assumption)) | (exact RepV.obj (by assumption) (by assumption) (by assumption)) | exact RepV.ref _ | exact RepV.raw _ | (exact RepV.exc (by assumption) (by assumption))) rx ry hR h
  | str a => cases qy with
    | str b => exact op_ne pins s σ H _ _ _ _ Qh I rx ry ⟨rfl, by rw [dec_str, beq_dec]; exact hR _ h⟩
    | _ => exact ne_data hu hK I A (.str a) (by first | exact RepV.non | exact RepV.int _ | exact RepV.bl _ | (exact RepV.tup (by assumption) (by assumption)) | (exact RepV.lst (by assumption) (by assumption)) | (exact RepV.kl (by assumption) (by assumption)) | (exact RepV.obj (by assumption) (by assumption) (by assumption)) | exact RepV.ref _ | exact RepV.raw _ | (exact RepV.exc (by assumption) (by assumption))) rx ry hR h
  | non => cases qy with
    | non => exact op_ne pins s σ H _ _ _ _ Qh I rx ry ⟨rfl, by rw [decide_eq_true rfl]; exact hR _ h⟩
    | _ => exact ne_data hu hK I A .non (by first | exact RepV.bl _ | exact RepV.int _ | exact RepV.str _ | (exact RepV.tup (by assumption) (by assumption)) | (exact RepV.lst (by assumption) (by assumption)) | (exact RepV.kl (by assumption) (by assumption)) | (exact RepV.obj (by assumption) (by assumption) (by assumption)) | exact RepV.ref _ | exact RepV.raw _ | (exact RepV.exc (by assumption) (by assumption))) rx ry hR h
  | tup e t => exact ne_data hu hK I A (.tup e t) qy rx ry hR h
  | lst e t => exact ne_data hu hK I A (.lst e t) qy rx ry hR h
  | kl e t => exact ne_data hu hK I A (.kl e t) qy rx ry hR h
  | obj c e t => exact ne_data hu hK I A (.obj c e t) qy rx ry hR h
  | ref a => exact ne_data hu hK I A (.ref a) qy rx ry hR h
  | raw a => exact ne_data hu hK I A (.raw _) qy rx ry hR h
  | exc e t => exact ne_data hu hK I A (.exc e t) qy rx ry hR h

/-! ### in -/
theorem fl_flat {F : Hp} : ∀ {x : PV} {v : V}, RepV G F x v → flB x = true → flatV v = true
  | _, _, .non, _ => rfl
  | _, _, .int _, _ => rfl
  | _, _, .str _, _ => rfl
  | _, _, .bl _, h => by cases h
  | _, _, .tup _ _, h => by cases h
  | _, _, .lst _ _, h => by cases h
  | _, _, .kl _ _, h => by cases h
  | _, _, .obj _ _ _, h => by cases h
  | _, _, .ref _, h => by cases h
  | _, _, .raw _, h => by cases h
theorem fls_flat {F : Hp} : ∀ {xs : List PV} {vs : List V}, RepVs G F xs vs → xs.all flB = true → vs.all flatV = true
  | _, _, .nil, _ => rfl
  | x :: xs, v :: vs, .cons r t, h => by
    rw [List.all_cons, Bool.and_eq_true] at h ⊢
    exact ⟨fl_flat r h.1, fls_flat t h.2⟩
theorem fl_eqV {F : Hp} {x y : PV} {v u : V} (r : RepV G F x v) (q : RepV G F y u) (f : flB x = true) (g : flB y = true) : eqV v u = pvEq x y := by
  cases r <;> first | (cases f; done) | skip
  all_goals (cases q <;> first | (cases g; done) | rfl | exact beq_dec _ _)
theorem fls_in {F : Hp} {x : PV} {v : V} (r : RepV G F x v) (f : flB x = true) : ∀ {ys : List PV} {us : List V}, RepVs G F ys us → ys.all flB = true → inV v us = ys.any fun z => pvEq z x
  | _, _, .nil, _ => rfl
  | y :: ys, u :: us, .cons q t, h => by
    rw [List.all_cons, Bool.and_eq_true] at h
    show (eqV u v || inV v us) = (pvEq y x || ys.any fun z => pvEq z x)
    rw [fl_eqV q r h.1 f, fls_in r f t h.2]
theorem any_eqv {x : PV} (h : cln x = true) : ∀ ys : List PV, clns ys = true → (toDs ys).any (fun z => PyData.eqv z (toD x)) = ys.any fun z => pvEq z x
  | [], _ => rfl
  | y :: ys, c => by
    have c' : (cln y && clns ys) = true := c
    rw [Bool.and_eq_true] at c'
    show (PyData.eqv (toD y) (toD x) || (toDs ys).any fun z => PyData.eqv z (toD x)) = _
    rw [toD_eqv y x c'.1 h, any_eqv h ys c'.2]
    rfl
theorem dps_lst {ys : List PV} (h : clns ys = true) (d : dpts ys ≤ 60) : SeqAt.shaped (.list (toDs ys)) = true := toD_shaped (x := .lst ys) h (Nat.le_trans (Nat.succ_le_succ d) (by decide))
theorem inB_at (hu : X.A.units + 65 < cLine) {pins : List (Addr × Obj)} {s : Shared} {σ : L2.St} {F H : Hp} {M : MHp} {x y : PV} {v u : V} {vv uu : Value} {Qh : VK} (hK : G.K = X.K) (I : Inv X pins σ H s) (A : At G F M H) (qx : RepV G F x v) (qy : RepV G F y u) (rx : RelV v vv) (ry : RelV u uu)
    {R : Bool → Prop} (hR : ∀ b, R b → Qh (.bl b) H) (h : inB M x y R) : wpAny (model X.prog X.w) X.A (compareOp .In vv uu) (EP X pins σ Qh) X.xe s := by
  have data : (∃ ys, seqOf M y = some ys ∧ ((flB x = true ∧ ys.all flB = true) ∨ (lstOf M y = some ys ∧ cln x = true ∧ clns ys = true ∧ dpt x ≤ 60 ∧ dpts ys ≤ 60)) ∧ R (ys.any fun z => pvEq z x)) → wpAny (model X.prog X.w) X.A (compareOp .In vv uu) (EP X pins σ Qh) X.xe s := by
    rintro ⟨ys, hy, hc, q⟩
    rcases hc with ⟨f1, f2⟩ | ⟨hl, c1, c2, d1, d2⟩
    · obtain ⟨a, us, rfl, hs, t⟩ := seqOf_ok A qy hy
      rw [hK] at hs
      refine op_in_seq pins s σ H _ _ _ _ Qh I rx ry ⟨a, us, rfl, hs, fl_flat qx f1, fls_flat t f2, ?_⟩
      show Qh (.bl (inV v us)) H
      rw [fls_in qx f1 t f2]
      exact hR _ q
    · obtain ⟨a, us, rfl, hs, t⟩ := lstOf_ok A qy hl
      refine op_inD hu pins s σ H _ _ _ _ Qh I rx ry ⟨_, _, rep_dp hK A.sub qx c1, .lst (SqL.of hs) (rep_dps hK A.sub t c2), toD_shaped c1 (Nat.le_trans d1 (by decide)), dps_lst c2 d2, ?_⟩
      rw [any_eqv c1 ys c2]
      exact hR _ q
  cases qx with
  | str a => cases qy with
    | str b => exact op_in_str pins s σ H _ _ _ _ Qh I rx ry ⟨a, b, rfl, rfl, hR _ h⟩
    | _ => exact data h
  | _ => exact data h
theorem notInB_at (hu : X.A.units + 65 < cLine) {pins : List (Addr × Obj)} {s : Shared} {σ : L2.St} {F H : Hp} {M : MHp} {x y : PV} {v u : V} {vv uu : Value} {Qh : VK} (hK : G.K = X.K) (I : Inv X pins σ H s) (A : At G F M H) (qx : RepV G F x v) (qy : RepV G F y u) (rx : RelV v vv) (ry : RelV u uu)
    {R : Bool → Prop} (hR : ∀ b, R b → Qh (.bl (!b)) H) (h : inB M x y R) : wpAny (model X.prog X.w) X.A (compareOp .NotIn vv uu) (EP X pins σ Qh) X.xe s := by
  have data : (∃ ys, seqOf M y = some ys ∧ ((flB x = true ∧ ys.all flB = true) ∨ (lstOf M y = some ys ∧ cln x = true ∧ clns ys = true ∧ dpt x ≤ 60 ∧ dpts ys ≤ 60)) ∧ R (ys.any fun z => pvEq z x)) → wpAny (model X.prog X.w) X.A (compareOp .NotIn vv uu) (EP X pins σ Qh) X.xe s := by
    rintro ⟨ys, hy, hc, q⟩
    rcases hc with ⟨f1, f2⟩ | ⟨hl, c1, c2, d1, d2⟩
    · obtain ⟨a, us, rfl, hs, t⟩ := seqOf_ok A qy hy
      rw [hK] at hs
      refine op_notIn_seq pins s σ H _ _ _ _ Qh I rx ry ⟨a, us, rfl, hs, fl_flat qx f1, fls_flat t f2, ?_⟩
      show Qh (.bl (!inV v us)) H
      rw [fls_in qx f1 t f2]
      exact hR _ q
    · obtain ⟨a, us, rfl, hs, t⟩ := lstOf_ok A qy hl
      refine op_notInD hu pins s σ H _ _ _ _ Qh I rx ry ⟨_, _, rep_dp hK A.sub qx c1, .lst (SqL.of hs) (rep_dps hK A.sub t c2), toD_shaped c1 (Nat.le_trans d1 (by decide)), dps_lst c2 d2, ?_⟩
      rw [any_eqv c1 ys c2]
      exact hR _ q
  cases qx with
  | str a => cases qy with
    | str b => exact op_notin_str pins s σ H _ _ _ _ Qh I rx ry ⟨a, b, rfl, rfl, hR _ h⟩
    | _ => exact data h
  | _ => exact data h
theorem non_iff {F : Hp} : ∀ {x : PV} {v : V}, RepV G F x v → (∀ w, x ≠ .raw w) → decide (v = .non) = pvEq x .non
  | _, _, .non, _ => rfl
  | _, _, .bl _, _ => rfl
  | _, _, .int _, _ => rfl
  | _, _, .str _, _ => rfl
  | _, _, .tup _ _, _ => rfl
  | _, _, .lst _ _, _ => rfl
  | _, _, .kl _ _, _ => rfl
  | _, _, .obj _ _ _, _ => rfl
  | _, _, .exc (c := c) (fs := fs) e _, _ => by
    show decide (V.ref _ = V.non) = pvEq (.exc c fs) .non
    rfl
  | _, _, .ref _, _ => rfl
  | _, _, .raw w, h => absurd rfl (h w)
/-- a comparison of trees -/
theorem ob_cmp (op : CmpOp) (hu : X.A.units + 65 < cLine) (hK : G.K = X.K) : OpR X (compareOp op) (liftR G (cmpR op)) := by
  have hu64 : X.A.units + 64 < cLine := by omega
  intro pins s σ H x y v u Qh I rx ry h
  obtain ⟨F, M, px, py, Q, A, qx, qy, up, h⟩ := h
  have toB : ∀ b, Q (.bl b) M → Qh (.bl b) H := fun b q => up.here A (.bl b) q
  cases op with
  | Eq => exact eqB_at hu64 hK I A qx qy rx ry (R := fun b => Q (.bl b) M) toB h
  | NotEq => exact neB_at hu64 hK I A qx qy rx ry (R := fun b => Q (.bl (!b)) M) (fun b q => toB _ q) h
  | In => exact inB_at hu hK I A qx qy rx ry (R := fun b => Q (.bl b) M) toB h
  | NotIn => exact notInB_at hu hK I A qx qy rx ry (R := fun b => Q (.bl (!b)) M) (fun b q => toB _ q) h
  | Is =>
    obtain ⟨rfl, h1, q⟩ := h
    cases qy
    refine op_isN pins s σ H _ _ v u Qh I rx ry ⟨rfl, ?_⟩
    rw [non_iff qx h1]
    exact toB _ q
  | IsNot =>
    obtain ⟨rfl, h1, q⟩ := h
    cases qy
    refine op_notN pins s σ H _ _ v u Qh I rx ry ⟨rfl, ?_⟩
    rw [non_iff qx h1]
    exact toB _ q
  | Lt => cases qx with
    | int i => cases qy with
      | int j => exact op_lt pins s σ H _ _ v u Qh I rx ry ⟨i, j, rfl, rfl, toB _ h⟩
      | _ => exact h.elim
    | _ => exact h.elim
  | LtE => cases qx with
    | int i => cases qy with
      | int j => exact op_le pins s σ H _ _ v u Qh I rx ry ⟨i, j, rfl, rfl, toB _ h⟩
      | _ => exact h.elim
    | _ => exact h.elim
  | Gt => cases qx with
    | int i => cases qy with
      | int j => exact op_gt pins s σ H _ _ v u Qh I rx ry ⟨i, j, rfl, rfl, toB _ h⟩
      | _ => exact h.elim
    | _ => exact h.elim
  | GtE => cases qx with
    | int i => cases qy with
      | int j => exact op_ge pins s σ H _ _ v u Qh I rx ry ⟨i, j, rfl, rfl, toB _ h⟩
      | _ => exact h.elim
    | _ => exact h.elim

/-! ### places, slices -/
theorem at_rep {F : Hp} {xs : List PV} {vs : List V} {i : Int} {x : PV} (t : RepVs G F xs vs) (h : atI xs i = some x) : ∃ v, atI vs i = some v ∧ RepV G F x v := by
  unfold atI at h ⊢
  rw [← t.length]
  cases e : ixN xs.length i with
  | none => rw [e] at h; cases h
  | some j =>
    rw [e] at h
    exact t.get h
theorem ob_ix (hK : G.K = X.K) : IxR X (liftR G ixR) := by
  intro value slice pins s σ H x y v u Qh I rx ry h hs
  obtain ⟨F, M, px, py, Q, A, qx, qy, up, h⟩ := h
  have seqs : ∀ i : Int, RepV G F (.int i) y → (∃ xs v, seqOf M px = some xs ∧ atI xs i = some v ∧ Q v M) → wpAny (model X.prog X.w) X.A (subscriptTail value slice v u) (EP X pins σ Qh) X.xe s := by
    rintro i ⟨⟩ ⟨xs, z, hx, hi, q⟩
    obtain ⟨a, vs, rfl, hsq, t⟩ := seqOf_ok A qx hx
    obtain ⟨w, hw, rw'⟩ := at_rep t hi
    rw [hK] at hsq
    rcases hsq with hsq | hsq
    · exact ix_list value slice pins s σ H _ _ v u Qh I rx ry ⟨a, vs, i, w, rfl, rfl, hsq, hw, up.here A rw' q⟩ hs
    · exact ix_tup value slice pins s σ H _ _ v u Qh I rx ry ⟨a, vs, i, w, rfl, rfl, hsq, hw, up.here A rw' q⟩ hs
  cases qx with
  | str z => cases qy with
    | int i =>
      obtain ⟨hz, c, hc, q⟩ := h
      exact ix_str value slice pins s σ H _ _ v u Qh I rx ry ⟨z, i, c, rfl, rfl, hz, hc, up.here A (.str _) q⟩ hs
    | _ => exact h.elim
  | _ => cases qy with
    | int i => exact seqs i (.int i) h
    | _ => exact h.elim
theorem cutV_rep {F : Hp} {xs : List PV} {vs : List V} (t : RepVs G F xs vs) (lo hi : Option Int) : RepVs G F (cutP xs lo hi) (cutV vs lo hi) := by
  unfold cutP cutV
  rw [← t.length]
  exact (t.drop _).take _
theorem ob_sl {mu : Bool} (hK : G.K = X.K) : SlR X (fun x lo hi H Qh => ∃ F M px Q, At G F M H ∧ RepV G F px x ∧ Up G F M H Q Qh ∧ slR mu px lo hi M Q) := by
  intro pins s σ H x v vl vu lo hi sl Qh I rx hs pl pu h
  obtain ⟨F, M, px, Q, A, qx, up, h⟩ := h
  have lists : (∃ xs, lstOf M px = some xs ∧ newL mu (cutP xs lo hi) M Q) → ∃ T id, typeLookup (.type T) "__getitem__" = pure (some (.builtin id)) ∧ s.TypeIs v T ∧ wpAny (model X.prog X.w) X.A (getItem v (.ref sl)) (EP X pins σ Qh) X.xe s := by
    rintro ⟨xs, hx, q⟩
    obtain ⟨a, vs, rfl, hh, t⟩ := lstOf_ok A qx hx
    exact sl_list pins s σ H _ v vl vu lo hi sl Qh I rx hs pl pu ⟨a, vs, rfl, SqL.of hh, fun p hp => newL_ok A (cutV_rep t lo hi) up q p hp⟩
  cases qx with
  | str z => exact sl_str pins s σ H _ v vl vu lo hi sl Qh I rx hs pl pu ⟨z, rfl, h.1, up.here A (.str _) h.2⟩
  | tup e t =>
    have e1 := sqT_mono A.sub e
    rw [hK] at e1
    refine sl_tupA pins s σ H _ v vl vu lo hi sl Qh I rx hs pl pu ⟨_, _, rfl, e1, fun z => ?_, fun _ p hp => newT_ok A (cutV_rep t lo hi) up h p hp⟩
    refine up.here A (.tup e t) ?_
    rw [← t.length] at z
    have h' : Q (.tup (cutP _ lo hi)) M := h
    unfold cutP at h'
    rw [z.1, z.2, List.drop_zero, Nat.sub_zero, List.take_length] at h'
    exact h'
  | _ => exact lists h
end
end Nb

/-! Nb6 -/
set_option Elab.async false
set_option linter.all false
set_option maxRecDepth 100000
set_option maxHeartbeats 1000000
/-! Nb6: built-in functions and methods by value, isinstance, truth. -/
namespace Nb
open PySem PySem.Spec L2
open PyProof.Rows hiding St
def liftC (G : GI) (r : List PV → MHp → BV → Prop) : List V → Hp → VK → Prop := fun vs H Qh => ∃ F M xs Q, At G F M H ∧ RepVs G F xs vs ∧ Up G F M H Q Qh ∧ r xs M Q
def Bf.val : Bf → Value
  | .len => .builtin "len" | .list => .type "list" | .tuple => .type "tuple" | .str => .type "str" | .int => .type "int" | .max => .builtin "max" | .min => .builtin "min" | .sorted => .builtin "sorted" | .abs => .builtin "abs" | .sum => .builtin "sum" | .bool => .type "bool"
theorem Bf.boot : ∀ f : Bf, bootBuiltins f.nm = some f.val
  | .len => by decide +kernel
  | .list => by decide +kernel
  | .tuple => by decide +kernel
  | .str => by decide +kernel
  | .int => by decide +kernel
  | .max => by decide +kernel
  | .min => by decide +kernel
  | .sorted => by decide +kernel
  | .abs => by decide +kernel
  | .sum => by decide +kernel
  | .bool => by decide +kernel
theorem Bf.named : ∀ f : Bf, f.nm ≠ ("__name__" : Str) := fun f => by cases f <;> decide +kernel
section
variable {G : GI} {X : Cx}
theorem rep1 {F : Hp} {x : PV} {vs : List V} (t : RepVs G F [x] vs) : ∃ v, vs = [v] ∧ RepV G F x v := by
  cases t with
  | cons r t => cases t; exact ⟨_, rfl, r⟩
theorem rep2 {F : Hp} {x y : PV} {vs : List V} (t : RepVs G F [x, y] vs) : ∃ v u, vs = [v, u] ∧ RepV G F x v ∧ RepV G F y u := by
  cases t with
  | cons r t => cases t with
    | cons q t => cases t; exact ⟨_, _, rfl, r, q⟩
theorem rep0 {F : Hp} {vs : List V} (t : RepVs G F [] vs) : vs = [] := by cases t; rfl
theorem tup_not_list {pins : List (Addr × Obj)} {σ : L2.St} {H : Hp} {s : Shared} {a b : Addr} {xs ys : List V} (I : Inv X pins σ H s) (h1 : SqL X.K H a xs) (h2 : SqT X.K H b ys) : a ≠ b := by
  intro e
  subst e
  obtain ⟨_, _, pl, _⟩ := I.list h1
  obtain ⟨_, _, pt, _⟩ := I.tuple h2
  obtain ⟨o, ho, hc, _⟩ := pl.isList
  obtain ⟨o2, ho2, hc2, _⟩ := pt
  rw [ho] at ho2
  cases ho2
  rw [hc] at hc2
  exact absurd hc2 (by decide)
theorem strs_of {F : Hp} : ∀ {ys : List Str} {vs : List V}, RepVs G F (ys.map PV.str) vs → vs = ys.map V.str
  | [], _, t => by cases t; rfl
  | y :: ys, _, t => by
    cases t with
    | cons r t =>
      cases r
      rw [strs_of t]
      rfl
theorem ints_of {F : Hp} : ∀ {ys : List Int} {vs : List V}, RepVs G F (ys.map PV.int) vs → vs = ys.map V.int
  | [], _, t => by cases t; rfl
  | y :: ys, _, t => by
    cases t with
    | cons r t =>
      cases r
      rw [ints_of t]
      rfl
theorem reps_str {F : Hp} : ∀ ys : List Str, RepVs G F (ys.map PV.str) (ys.map V.str)
  | [] => .nil
  | y :: ys => .cons (.str y) (reps_str ys)
theorem reps_int {F : Hp} : ∀ ys : List Int, RepVs G F (ys.map PV.int) (ys.map V.int)
  | [] => .nil
  | y :: ys => .cons (.int y) (reps_int ys)
theorem ob_bi {Γ : Gm} {mu : Bool} (f : Bf) (hc : Γ.cold = true → X.calm = true) (hK : G.K = X.K) : CallR X f.val (liftC G (biR Γ mu f)) := by
  intro pins s σ H vs us Qh I rv h
  obtain ⟨F, M, xs, Q, A, t, up, h⟩ := h
  cases f with
  | len =>
    obtain ⟨x, n, rfl, hn, q⟩ := h
    obtain ⟨v, rfl, r⟩ := rep1 t
    have seqs : (∃ ys, seqOf M x = some ys ∧ n = ys.length) → wpAny (model X.prog X.w) X.A (call (Bf.val .len) us) (EP X pins σ Qh) X.xe s := by
      rintro ⟨ys, hy, rfl⟩
      obtain ⟨a, ws, rfl, hs, t2⟩ := seqOf_ok A r hy
      rw [hK] at hs
      refine call_len_seq pins s σ H _ us Qh I rv ⟨a, ws, rfl, hs, ?_⟩
      rw [← t2.length]
      exact up.here A (.int _) q
    cases r with
    | str z =>
      obtain ⟨h1, rfl⟩ := hn
      exact call_len_str pins s σ H _ us Qh I rv ⟨z, rfl, h1, up.here A (.int _) q⟩
    | _ => exact seqs hn
  | list =>
    obtain ⟨x, ys, rfl, hy, q⟩ := h
    obtain ⟨v, rfl, r⟩ := rep1 t
    obtain ⟨a, ws, rfl, hs, t2⟩ := seqOf_ok A r hy
    rw [hK] at hs
    exact call_list_of pins s σ H _ us Qh I rv ⟨a, ws, rfl, hs, fun p hp => newL_ok A t2 up q p hp⟩
  | tuple =>
    obtain ⟨x, ys, rfl, hy, q⟩ := h
    obtain ⟨v, rfl, r⟩ := rep1 t
    obtain ⟨a, ws, rfl, hs, t2⟩ := seqOf_ok A r hy
    have hs0 := hs
    rw [hK] at hs
    rcases hs with hs | hs
    · exact call_tuple_of pins s σ H _ us Qh I rv ⟨a, ws, rfl, .inl ⟨hs, fun p hp => newT_ok A t2 up q p hp⟩⟩
    · refine call_tuple_of pins s σ H _ us Qh I rv ⟨a, ws, rfl, .inr ⟨hs, ?_⟩⟩
      cases r with
      | tup e t3 => cases hy; exact up.here A (.tup e t3) q
      | kl e t3 =>
        cases hy
        have e1 := sqL_mono A.sub e
        rw [hK] at e1
        exact absurd rfl (tup_not_list I e1 hs)
      | lst e t3 =>
        cases hy
        exact absurd rfl (tup_not_list I (SqL.of (A.sub _ _ e)) hs)
      | ref b =>
        obtain ⟨c, ws2, e1, e2, _⟩ := lstOf_ok A (.ref a) (show lstOf M (.ref a) = some ys from hy)
        cases e1
        exact absurd rfl (tup_not_list I (SqL.of e2) hs)
      | raw v => cases hy
      | exc e t3 => cases hy
      | obj c e t3 => cases hy
  | str =>
    rcases h with ⟨i, rfl, h1, q⟩ | ⟨z, rfl, q⟩
    · obtain ⟨v, rfl, r⟩ := rep1 t
      cases r
      exact call_str_int pins s σ H _ us Qh I rv ⟨i, rfl, h1, up.here A (.str _) q⟩
    · obtain ⟨v, rfl, r⟩ := rep1 t
      cases r
      exact SkE.call_str_str pins s σ H _ us Qh I rv ⟨z, rfl, up.here A (.str _) q⟩
  | int =>
    rcases h with ⟨i, rfl, q⟩ | ⟨z, n, rfl, h1, h2, q⟩
    · obtain ⟨v, rfl, r⟩ := rep1 t
      cases r
      exact call_int1 pins s σ H _ us Qh I rv (.inl ⟨i, rfl, up.here A (.int _) q⟩)
    · obtain ⟨v, rfl, r⟩ := rep1 t
      cases r
      exact call_int_str pins s σ H _ us Qh I rv ⟨z, n, rfl, h1, h2, up.here A (.int _) q⟩
  | max =>
    obtain ⟨hcd, i, j, rfl, q⟩ := h
    obtain ⟨v, u, rfl, r1, r2⟩ := rep2 t
    cases r1; cases r2
    exact call_max2 (hc hcd) pins s σ H _ us Qh I rv ⟨i, j, rfl, up.here A (.int _) q⟩
  | min =>
    obtain ⟨hcd, i, j, rfl, q⟩ := h
    obtain ⟨v, u, rfl, r1, r2⟩ := rep2 t
    cases r1; cases r2
    exact call_min2 (hc hcd) pins s σ H _ us Qh I rv ⟨i, j, rfl, up.here A (.int _) q⟩
  | abs =>
    obtain ⟨i, rfl, q⟩ := h
    obtain ⟨v, rfl, r⟩ := rep1 t
    cases r
    exact call_abs pins s σ H _ us Qh I rv ⟨i, rfl, up.here A (.int _) q⟩
  | sorted =>
    obtain ⟨x, rfl, h⟩ := h
    obtain ⟨v, rfl, r⟩ := rep1 t
    rcases h with ⟨ys, hy, h64, q⟩ | ⟨ys, hy, h64, q⟩
    · obtain ⟨a, ws, rfl, hs, t2⟩ := seqOf_ok A r hy
      rw [hK] at hs
      cases strs_of t2
      rcases hs with hs | hs
      rotate_left
      · exact NbA.cr_sortedTS pins s σ H _ us Qh I rv ⟨a, ys, rfl, hs, h64, fun zs p pm st hp => newL_ok A (reps_str zs) up (q zs pm (NbA.sortedS_pw _ st)) p hp⟩
      refine cr_sortedS pins s σ H _ us Qh I rv ⟨a, ys, rfl, hs, h64, fun zs p pm st hp => newL_ok A (reps_str zs) up (q zs pm (NbA.sortedS_pw _ st)) p hp⟩
    · obtain ⟨a, ws, rfl, hs, t2⟩ := lsOf_ok A r hy
      rw [hK] at hs
      cases ints_of t2
      refine cr_sorted pins s σ H _ us Qh I rv ⟨a, ys, rfl, hs, h64, fun zs p pm st hp => newL_ok A (reps_int zs) up (q zs pm st) p hp⟩
  | sum => exact h.elim
  | bool => exact h.elim

/-! ### truth -/
theorem tru_at (hK : G.K = X.K) {F H : Hp} {M : MHp} {x : PV} {v : V} {k : Bool} (A : At G F M H) (r : RepV G F x v) (h : truB M x = some k) (hl : ∀ z, x = .str z → z.length ≤ sizeLine) : TruV X.K v H k := by
  cases r with
  | non => cases h; rfl
  | bl b => cases h; rfl
  | int i => cases h; rfl
  | str z =>
    cases h
    refine ⟨hl z rfl, ?_⟩
    by_cases e : z.length = 0
    · rw [e]; rfl
    · have h1 : (z.length != 0) = true := by simpa using e
      have h2 : ((z.length : Int) != 0) = true := by simpa using e
      rw [h1, h2]
  | tup e t =>
    cases h
    have e1 := sqT_mono A.sub e
    rw [hK] at e1
    refine .inr (.inl ⟨_, e1, ?_⟩)
    cases t <;> rfl
  | lst e t =>
    cases h
    refine .inl ⟨_, SqL.of (A.sub _ _ e), ?_⟩
    cases t <;> rfl
  | ref a =>
    have h' : (lstOf M (.ref a)).map (fun xs => !xs.isEmpty) = some k := h
    cases e : lstOf M (.ref a) with
    | none => rw [e] at h'; cases h'
    | some xs =>
      rw [e] at h'
      cases h'
      obtain ⟨b, vs, e1, e2, t⟩ := lstOf_ok A (.ref a) e
      cases e1
      refine .inl ⟨vs, SqL.of e2, ?_⟩
      cases t <;> rfl
  | kl e t => cases h
  | obj c e t => cases h
  | raw v => cases h
  | exc e t => cases h

/-! ### methods of built-in types -/
def Bm.id : Bm → String
  | .append => "list.append" | .pop => "list.pop" | .clear => "list.clear" | .insert => "list.insert" | .join => "str.join" | _ => ""
theorem ob_bm (f : Bm) (hK : G.K = X.K) : MtR X f.id (fun x vs H Qh => ∃ F M px xs Q, At G F M H ∧ RepV G F px x ∧ RepVs G F xs vs ∧ Up G F M H Q Qh ∧ bmR px f xs M Q) := by
  intro pins s σ H x vs v us Qh I rx rv h
  obtain ⟨F, M, px, xs, Q, A, qx, t, up, h⟩ := h
  have put : ∀ {a : Addr} {ys zs : List PV} {ws : List V} {y : PV} {w : V}, M a = some (.lst ys) → RepVs G F zs ws → RepV G F y w → Q y (ms M a (.lst zs)) → Qh w (upd H a (.lst ws)) := fun {a ys zs ws y w} ha tz ry q => by
    obtain ⟨A1, E1⟩ := A.put (o := .lst ws) (m' := .lst zs) ha ⟨ws, upd_same, tz⟩
    exact up y F _ _ _ E1 A1 ry q
  cases f with
  | append =>
    obtain ⟨a, ys, y, rfl, rfl, ha, hz, q⟩ := h
    cases qx
    obtain ⟨w, rfl, r⟩ := rep1 t
    obtain ⟨ws, hw, tw⟩ := A.mo a _ ha
    exact mt_append pins s σ H _ _ v us Qh I rx rv ⟨a, ws, w, rfl, rfl, hw, by rw [← tw.length]; exact hz, put ha (tw.append (.cons r .nil)) .non q⟩
  | pop =>
    obtain ⟨a, ys, y, rfl, rfl, ha, hy, q⟩ := h
    cases qx
    cases rep0 t
    obtain ⟨ws, hw, tw⟩ := A.mo a _ ha
    obtain ⟨w, e, r⟩ := tw.get hy
    have td : RepVs G F ys.dropLast ws.dropLast := by
      rw [List.dropLast_eq_take, List.dropLast_eq_take, ← tw.length]
      exact tw.take _
    exact mt_pop pins s σ H _ _ v us Qh I rx rv ⟨a, ws, w, rfl, rfl, hw, by rw [← tw.length]; exact e, put ha td r q⟩
  | clear =>
    obtain ⟨a, ys, rfl, rfl, ha, q⟩ := h
    cases qx
    cases rep0 t
    obtain ⟨ws, hw, tw⟩ := A.mo a _ ha
    exact mt_clear pins s σ H _ _ v us Qh I rx rv ⟨a, ws, rfl, rfl, hw, put ha .nil .non q⟩
  | insert =>
    obtain ⟨a, ys, i, y, rfl, rfl, ha, hz, h0, h1, q⟩ := h
    cases qx
    obtain ⟨w1, w, rfl, r1, r⟩ := rep2 t
    cases r1
    obtain ⟨ws, hw, tw⟩ := A.mo a _ ha
    exact mt_insert pins s σ H _ _ v us Qh I rx rv ⟨a, ws, i, w, rfl, rfl, hw, by rw [← tw.length]; exact hz, h0, h1, put ha (((tw.take _).append (.cons r .nil)).append (tw.drop _)) .non q⟩
  | join =>
    obtain ⟨z, x, ys, rfl, rfl, hy, hz, q⟩ := h
    cases qx
    obtain ⟨w, rfl, r⟩ := rep1 t
    obtain ⟨a, ws, rfl, hs, tw⟩ := seqOf_ok A r hy
    rw [hK] at hs
    cases strs_of tw
    exact mt_join pins s σ H _ _ v us Qh I rx rv ⟨z, a, ys, rfl, rfl, hs, hz, up.here A (.str _) q⟩
  | _ => exact h.elim
theorem bmT_ty (f : Bm) (hK : G.K = X.K) {F H : Hp} {M : MHp} {x : PV} {v : V} (A : At G F M H) (r : RepV G F x v) (h : bmT f x M) : (f = .join ∧ tyV X.K "str" v H) ∨ (f ≠ .join ∧ tyV X.K "list" v H) := by
  by_cases hf : f = .join
  · subst hf
    obtain ⟨z, rfl⟩ := h
    cases r
    exact .inl ⟨rfl, rfl⟩
  · have h' : ∃ ys, lstOf M x = some ys := by
      cases f <;> first | exact absurd rfl hf | exact h | exact (show False from h).elim
    obtain ⟨ys, hy⟩ := h'
    obtain ⟨a, vs, rfl, e, t⟩ := lstOf_ok A r hy
    exact .inr ⟨hf, .inl ⟨rfl, vs, SqL.of e⟩⟩
end
end Nb

/-! Nb7 -/
set_option Elab.async false
set_option linter.all false
set_option maxRecDepth 100000
set_option maxHeartbeats 1000000
/-! Nb7: what the text's forms ask by their letters. -/
namespace Nb
open PySem PySem.Spec L2
open PyProof.Rows hiding St

theorem dConst_ok {pe : Expr} {d : Const} (h : dConst pe = some d) : ∃ j p, pe = .Constant d j p := by
  cases pe <;> first | (cases h; exact ⟨_, _, rfl⟩) | cases h
theorem dName_ok {pe : Expr} {x : Str} (h : dName pe = some x) : ∃ p, pe = .Name x p := by
  cases pe <;> first | (cases h; exact ⟨_, rfl⟩) | cases h
theorem dBin_ok {pe : Expr} {t} (h : dBin pe = some t) : ∃ p, pe = .BinOp t.1 t.2.1 t.2.2 p := by
  cases pe <;> first | (cases h; exact ⟨_, rfl⟩) | cases h
theorem dUn_ok {pe : Expr} {t} (h : dUn pe = some t) : ∃ p, pe = .UnaryOp t.1 t.2 p := by
  cases pe <;> first | (cases h; exact ⟨_, rfl⟩) | cases h
theorem dCmp1_ok {pe : Expr} {t} (h : dCmp1 pe = some t) : ∃ p, pe = .Compare t.1 [t.2.1] [t.2.2] p := by
  cases pe <;> try (cases h; done)
  rename_i x os ys p
  rcases os with _ | ⟨o, _ | ⟨o2, os⟩⟩ <;> rcases ys with _ | ⟨y, _ | ⟨y2, ys⟩⟩ <;> first | (cases h; exact ⟨_, rfl⟩) | cases h
theorem dCmp2_ok {pe : Expr} {t} (h : dCmp2 pe = some t) : ∃ p, pe = .Compare t.1 [t.2.1, t.2.2.2.1] [t.2.2.1, t.2.2.2.2] p := by
  cases pe <;> try (cases h; done)
  rename_i x os ys p
  rcases os with _ | ⟨o, _ | ⟨o2, _ | ⟨o3, os⟩⟩⟩ <;> rcases ys with _ | ⟨y, _ | ⟨y2, _ | ⟨y3, ys⟩⟩⟩ <;> first | (cases h; exact ⟨_, rfl⟩) | cases h
theorem dBool_ok {pe : Expr} {t} (h : dBool pe = some t) : ∃ p, pe = .BoolOp t.1 t.2 p := by
  cases pe <;> first | (cases h; exact ⟨_, rfl⟩) | cases h
theorem dIf_ok {pe : Expr} {t} (h : dIf pe = some t) : ∃ p, pe = .IfExp t.1 t.2.1 t.2.2 p := by
  cases pe <;> first | (cases h; exact ⟨_, rfl⟩) | cases h
theorem dTup_ok {pe : Expr} {t} (h : dTup pe = some t) : ∃ k p, pe = .Tuple t k p := by
  cases pe <;> first | (cases h; exact ⟨_, _, rfl⟩) | cases h
theorem dLst_ok {pe : Expr} {t} (h : dLst pe = some t) : ∃ p, pe = .List t p := by
  cases pe <;> first | (cases h; exact ⟨_, rfl⟩) | cases h
theorem dSub_ok {pe : Expr} {t} (h : dSub pe = some t) : ∃ p, pe = .Subscript t.1 t.2 p := by
  cases pe <;> first | (cases h; exact ⟨_, rfl⟩) | cases h
theorem dSl_ok {pe : Expr} {t} (h : dSl pe = some t) : ∃ p p2, pe = .Subscript t.1 (.Slice t.2.1 t.2.2 none p2) p := by
  unfold dSl at h
  split at h
  · cases h; exact ⟨_, _, rfl⟩
  · cases h
theorem dRev_ok {pe : Expr} {t} (h : dRev pe = some t) : ∃ k p1 p2 p3 p, pe = .Subscript t (.Slice none none (some (.UnaryOp .USub (.Constant (.int 1) k p1) p2)) p3) p := by
  unfold dRev at h
  split at h
  · cases h; exact ⟨_, _, _, _, _, rfl⟩
  · cases h
theorem dAtt_ok {pe : Expr} {t} (h : dAtt pe = some t) : ∃ p, pe = .Attribute t.1 t.2 p := by
  cases pe <;> first | (cases h; exact ⟨_, rfl⟩) | cases h
theorem dCN_ok {pe : Expr} {t} (h : dCN pe = some t) : ∃ p pos, pe = .Call (.Name t.1 p) t.2 [] pos := by
  unfold dCN at h
  split at h
  · cases h; exact ⟨_, _, rfl⟩
  · cases h
theorem dCM_ok {pe : Expr} {t} (h : dCM pe = some t) : pe = .Call (.Attribute t.1 t.2.1 t.2.2.1) t.2.2.2.1 [] t.2.2.2.2 := by
  unfold dCM at h
  split at h
  · cases h; rfl
  · cases h
theorem dLC_ok {pe : Expr} {t} (h : dLC pe = some t) : ∃ p, pe = .ListComp t.1 [⟨t.2.1, t.2.2.1, t.2.2.2.1, 0⟩] t.2.2.2.2 p := by
  unfold dLC at h
  split at h
  · cases h; exact ⟨_, rfl⟩
  · cases h
theorem dD0_ok {pe : Expr} (h : dD0 pe = true) : ∃ p, pe = .Dict [] [] p := by
  unfold dD0 at h
  split at h
  · exact ⟨_, rfl⟩
  · cases h

variable {nm : Nat → Str} {N : List Str} {sc : Scope}
/-- what agrees has an allowed head -/
theorem agE_hd : ∀ (e : Ex) {pe : Expr}, agE nm N sc e pe = true → okHd pe = true := by
  intro e
  induction e using Ex.rec (motive_2 := fun _ => True) (motive_3 := fun _ => True) (motive_4 := fun _ => True) with
  | m e ih => exact fun h => ih h
  | fz e ih => exact fun h => ih h
  | nil | cons | star | no | yes | val | rng | zip | enu | items | rvd => trivial
  | dct ks vs => 
    intro pe h
    cases ks <;> cases vs <;> first | (cases h; done) | skip
    obtain ⟨p, rfl⟩ := dD0_ok h
    rfl
  | _ =>
    intro pe h
    cases pe <;> first | rfl | (cases h; done)
/-! ### arguments -/
theorem star_plain {x : Expr} (env : PySem.Env) (h : okHd x = true) (xs : List Expr) : starEach (x :: xs) env = (false, eval x env) :: starEach xs env := by
  cases x <;> first | rfl | cases h
theorem agEs_plain : ∀ (es : Exs) {xs : List Expr} (env : PySem.Env) (pos : Pos), es.plain = true → agEs nm N sc es xs = true → (backTo pos (starEach xs env)).any (·.1) = false
  | .nil, xs, env, pos, _, h => by
    have : xs = [] := List.isEmpty_iff.mp h
    subst this
    rfl
  | .cons e r, xs, env, pos, hp, h => by
    cases xs with
    | nil => cases h
    | cons x xs =>
      have h' : (agE nm N sc e x && agEs nm N sc r xs) = true := h
      rw [Bool.and_eq_true] at h'
      rw [star_plain env (agE_hd e h'.1)]
      show (false || (backTo pos (starEach xs env)).any (·.1)) = false
      rw [agEs_plain r env pos hp h'.2]
      rfl
  | .star e r, _, _, _, hp, _ => by cases hp
theorem base_nb {o : Expr} {a : Str} {env : PySem.Env} {w : Sem Value} (h : nbB o = true) : attributeBase o a env w = w := by
  unfold attributeBase
  split
  · cases h
  · rfl
theorem all_noStar : ∀ {l : List (Bool × Sem Value)}, l.any (·.1) = false → l.all (fun x => !x.1) = true
  | [], _ => rfl
  | x :: l, h => by
    rw [List.any_cons, Bool.or_eq_false_iff] at h
    rw [List.all_cons, h.1, all_noStar h.2]
    rfl
/-- o.m(..), on one line -/
theorem meth_eq {o : Expr} {m : Str} {ap pos : Pos} {xs : List Expr} {env : PySem.Env} (hb : nbB o = true) (hl : ap.endLine = pos.line) (hn : xs.length < 30) (hp : (backTo pos (starEach xs env)).any (·.1) = false) :
    eval (.Call (.Attribute o m ap) xs [] pos) env = (do
      let ov ← eval o env
      standAt ap.atName
      let (f, first) ← holding [ov] (getMethod ov m (do return (← importBound o env).getD true))
      callWith pos f first (backTo pos (starEach xs env)) (backToKw pos (keywordEach [] env))) := by
  have few : methodCallForm (xs.length + ([] : List Keyword).length) (backTo pos (starEach xs env)) (backToKw pos (keywordEach [] env)) = true := by
    unfold methodCallForm
    rw [all_noStar hp]
    show (true && true && decide (xs.length + 0 + 0 < 30)) = true
    rw [decide_eq_true (by omega)]
    rfl
  show (do
    let ov ← attributeBase o m env (eval o env)
    standAt ap.atName
    methodCall o m ap pos env ov (xs.length + ([] : List Keyword).length) (backTo pos (starEach xs env)) (backToKw pos (keywordEach [] env))) = _
  rw [base_nb hb]
  unfold methodCall
  rw [few]
  have hpos : methodCallPos true o env ap pos = pure pos := by
    unfold methodCallPos
    rw [if_pos (by rw [hl]; simp)]
  rw [hpos]
  rfl
theorem ix_plain {i : Expr} (h : okHd i = true) : PlainIx i := fun o v => by
  cases i <;> first | rfl | cases h
theorem in_plain {i : Expr} (op : CmpOp) (h : okHd i = true) : behindInMarks op i = false := by
  cases i <;> first | rfl | cases h
theorem last_plain {o p : CmpOp} {y z : Expr} (h : okHd z = true) : lastMarks [o, p] [y, z] = false := by
  show behindInMarks p z = false
  exact in_plain p h
theorem fold_plain {i : Expr} {env : PySem.Env} (h : okHd i = true) (x : Value) : foldedSetIterable i env x = pure x := by
  cases i <;> first | rfl | cases h
theorem swaps_no {e : Expr} {t : Option Expr} {l : Nat} {env : PySem.Env} (h : noLC e = true) : swapsWith e t l env = pure false := by
  cases e <;> first | rfl | cases h
end Nb

/-! Nb8 -/
set_option Elab.async false
set_option linter.all false
set_option maxRecDepth 100000
set_option maxHeartbeats 1000000
/-! Nb8: what the program's top must have left; where a body runs; calls over trees. -/
namespace Nb
open PySem PySem.Spec L2 L2H
open PyProof.Rows hiding St

/-- the promise of a def that runs while p's exception is handled -/
structure FnE (P : Program) (w : World) (K : PySem.W.Frag) (mg : Str → Option Value) (base : Heap) (CX : CXT) (k : Nat) (f : Addr) (fd : FuncData) (ps : List Str) (p : Addr × Obj) (sp : Sp) : Prop where
  len : ∀ vs H Q E, sp vs H Q E → vs.length = ps.length
  run : ∀ (A : Around) (outer : List Env) (s : Shared) (H : Hp) (args : Args) (us : List Value) (vs : List V) (Q : VK) (E : XK), RoomH k A → PinOk outer H s p → Env0 P w K mg base A outer s H → BindsTo s fd args (ps.zip us) → Vals vs us → sp vs H Q E →
    codeAny (model P w) A (.call (.ref f) args) (CR CX outer P w H s Q E) s

def GI.at (G : GI) (e : Addr × Addr × Option Addr) : GI := { G with er := some e }
/-- what an object's class must say for isinstance -/
structure ObC (K : PySem.W.Frag) (C : Addr) : Prop where
  cl : Cls K C
  ha : PySem.W.findIn K (.ref C) "__class__" = some (some (.builtin "object.__class__"))
  hn : PySem.W.specialIn K (.builtin "object.__class__") "__get__" = some (some (.builtin "getset_descriptor.__get__"))
  ht : PySem.W.takesIn K (.builtin "object.__class__") = some true
  hm : PySem.W.mroIn K C (.type "object") = some true
  hne : PySem.W.findIn K (.ref C) "__ne__" = some (some (.builtin "object.__ne__"))

/-- what the arguments must be, what is raised; what is held -/
def rdR (G : GI) (C : Addr) : Option Nat → List V → Hp → XK → Prop
  | some f, vs, H1, Q => ∃ v, vs = [v] ∧ ∀ d, H1 d = none → Q (.ref C) (some d) (upd H1 d (.xd [(G.nm f, v)]))
  | none, vs, H1, Q => vs = [] ∧ Q (.ref C) none H1
def rdV (G : GI) (C : Addr) : Option Nat → List V → Hp → VK → Prop
  | some f, vs, H1, Q => ∃ v, vs = [v] ∧ ∀ a d, H1 a = none → H1 d = none → a ≠ d → Q (.ref a) (upd (upd H1 d (exd d [(G.nm f, v)])) a (exo a C (some d)))
  | none, _, _, _ => False
/-- what making an exception asks and gives: raised, and as a value -/
structure RaisesC (P : Program) (w : World) (K : PySem.W.Frag) (mg : Str → Option Value) (base : Heap) (G : GI) (k : Nat) (c : Nat) (fo : Option Nat) : Prop where
  pmk : ∃ C, G.cl c = some C ∧ ∀ (X : Cx), X.prog = P → X.w = w → X.K = K → X.mg = mg → X.base = base → RoomH k X.A → Gl X (G.nm c) → ∀ (xs : List Expr) (t : TA) (p pos : Pos), PA X xs t →
    (∀ e r, xs = e :: r → starEach (e :: r) X.env = (false, eval e X.env) :: starEach r X.env) → (∀ ps, (backTo ps (starEach xs X.env)).any (·.1) = false) → (xs = [] → ∀ σ H Q, t σ H Q → Q [] H) →
    PMk X (.Call (.Name (G.nm c) p) xs [] pos) (fun σ H Q => t σ H fun vs H1 => rdR G C fo vs H1 Q)
  val : ∃ C, G.cl c = some C ∧ ∀ (X : Cx), X.prog = P → X.w = w → X.K = K → X.mg = mg → X.base = base → RoomH k X.A → Gl X (G.nm c) → ∀ (xs : List Expr) (t : TA) (p pos : Pos), PA X xs t →
    (∀ e r, xs = e :: r → starEach (e :: r) X.env = (false, eval e X.env) :: starEach r X.env) → (∀ ps, (backTo ps (starEach xs X.env)).any (·.1) = false) → (xs = [] → ∀ σ H Q, t σ H Q → Q [] H) →
    PE X (.Call (.Name (G.nm c) p) xs [] pos) (fun σ H Q => t σ H fun vs H1 => rdV G C fo vs H1 Q)

structure GmOk (P : Program) (w : World) (K : PySem.W.Frag) (mg : Str → Option Value) (base : Heap) (G : GI) (Γ : Gm) (k : Nat) : Prop where
  gk : G.K = K
  fn : Γ.cold = true → ∀ n S, Γ.fn n = some S → ∃ j f, j ≤ k ∧ mg (G.nm n) = some (.ref f) ∧ PySem.W.keepIn K (.ref f) = true ∧ FnR P w K mg base (L2.CX P w) j f (liftP G S)
  hfn : ∀ n S, Γ.hfn n = some S → ∃ j f fd ps, j ≤ k ∧ mg (G.nm n) = some (.ref f) ∧ PySem.W.keepIn K (.ref f) = true ∧ Binds K fd ps [] ∧
    ∀ (p : Addr × Obj) C d, Zc (.ref C) d p.2 → (∃ vs, p.2.data = .fields vs) → FnE P w K mg base (L2.CX P w) j f fd ps p (liftP (G.at (p.1, C, d)) S)
  ini : ∀ c S, Γ.ini c = some S → Γ.cold = true ∧ ∃ j C f, j + 1 ≤ k ∧ G.cl c = some C ∧ mg (G.nm c) = some (.ref C) ∧ Mk K C f ∧ FnR P w K mg base (L2.CX P w) j f (liftP G S)
  mt : ∀ c m S, Γ.mt c m = some S → Γ.cold = true ∧ ∃ j C f, j ≤ k ∧ G.cl c = some C ∧ Cls K C ∧ Meth K C (G.nm m) f ∧ FnR P w K mg base (L2.CX P w) j f (liftP G S)
  gl : ∀ n x, Γ.gl n = some x → ∃ u v, mg (G.nm n) = some u ∧ RelV v u ∧ ∀ (e : Option (Addr × Addr × Option Addr)) F, RepV { G with er := e } F x v
  fld : ∀ c f, Γ.fld c f = true → ∃ C, G.cl c = some C ∧ Cls K C ∧ NoAttr K C (G.nm f)
  xfl : ∀ c f, Γ.xfl c f = true → ∃ C, G.cl c = some C ∧ ExcC K C ∧ PySem.W.findIn K (.ref C) (G.nm f) = some none
  bf : ∀ f : Bf, mg f.nm = none
  bn : mg "range" = none ∧ mg "zip" = none ∧ mg "enumerate" = none ∧ mg "reversed" = none ∧ mg "isinstance" = none ∧ mg "set" = none
  own : ∀ d D, G.cl d = some D → mg (G.nm d) = some (.ref D)
  cls : ∀ c C, G.cl c = some C → (Γ.kd c = true → ExcC K C) ∧ (Γ.kd c = false → ObC K C)
  isa : ∀ c d b, Γ.isa c d = some b → ∃ C D, G.cl c = some C ∧ G.cl d = some D ∧ PySem.W.kitOne K (.ref C) (.ref D) = some b
  exm : ∀ c d b, Γ.exm c d = some b → ∃ C D, G.cl c = some C ∧ G.cl d = some D ∧ PySem.W.exmOne K (.ref C) (.ref D) = some b
  isb : ∀ c t b, Γ.isb c t = some b → ∃ C, G.cl c = some C ∧ PySem.W.kitOne K (.ref C) (.type t) = some b
  isf : ∀ (t : String) d D, t ∈ ["NoneType", "bool", "int", "str", "tuple", "list"] → G.cl d = some D → PySem.W.kitOne K (.type t) (.ref D) = some false
  bty : ∀ t : String, t ∈ tyL → mg (Str.ofString t) = none
  xc : ∀ c fo, Γ.xc c = some fo → RaisesC P w K mg base G k c fo
  eqm : ∀ c S, Γ.eqm c = some S → Γ.cold = true ∧ ∃ j C f, j + 2 ≤ k ∧ G.cl c = some C ∧ Cls K C ∧ Meth K C "__eq__" f ∧ FnR P w K mg base (L2.CX P w) j f (liftP G S)
  sib : ∀ c d, Γ.sib c d = true → ∃ C D, G.cl c = some C ∧ G.cl d = some D ∧ PySem.W.subIn K (.ref D) (.ref C) = some false
  stm : ∀ c S, Γ.stm c = some S → Γ.cold = true ∧ ∃ j C f, j + 2 ≤ k ∧ G.cl c = some C ∧ Cls K C ∧ Meth K C "__str__" f ∧ FnR P w K mg base (L2.CX P w) j f (liftP G S)

/-- a def's promise, by the values given -/
theorem fnR_of {P : Program} {w : World} {K : PySem.W.Frag} {mg : Str → Option Value} {base : Heap} {CX : CXT} {k : Nat} {f : Addr} {fd : FuncData} {ps : List Str} {sp : Sp} (F : FnOk P w K mg base CX k f fd ps sp) (b : Binds K fd ps []) : FnR P w K mg base CX k f sp := by
  intro A outer s H us vs Q E hr e0 r hs
  have hl : us.length = ps.length := by rw [← r.length]; exact F.len _ _ _ _ hs
  have q := b s us (e0.mod.kin.keeps fun b o e => (e0.bs b o e).1) (by rw [List.append_nil]; exact hl)
  rw [List.append_nil] at q
  exact F.run A outer s H ⟨us, []⟩ us vs Q E hr e0 q r hs
theorem run_R {X : Cx} {CX : CXT} {k : Nat} {f : Addr} {sp : Sp} {E : XK} {pins : List (Addr × Obj)} {σ : L2.St} {H : Hp} {s : Shared} {Q : VK} {us : List Value} {vs : List V} (F : FnR X.prog X.w X.K X.mg X.base CX k f sp) (hr : Room k X.A) (hx : PassesAt CX X σ E) (I : Inv X pins σ H s) (r : Vals vs us) (h : sp vs H Q E) :
    wpAny (model X.prog X.w) X.A (call (.ref f) us) (EP X pins σ Q) X.xe s := by
  refine wpAny_call (codeAny_mono (F X.A X.stack s H us vs Q E hr I.env0 r h) fun r s' hq => ?_)
  cases r with
  | error e => exact hx pins H s e s' I hq
  | ok fl =>
    cases fl with
    | ret u => exact I.after hq
    | next => exact False.elim hq
    | brk => exact False.elim hq
    | cont => exact False.elim hq

structure Cok (X : Cx) (G : GI) (Γ : Gm) (k : Nat) (W : WX) : Prop where
  gm : GmOk X.prog X.w X.K X.mg X.base G Γ k
  room : RoomH k X.A
  nd : X.N.Nodup
  cold : Γ.cold = true → X.calm = true ∧ X.A.handled = none ∧ G.er = none
  hot : Γ.cold = false → Γ.fn = Γ.hfn ∧ ∃ (p : Addr × Obj) (C : Addr) (d : Option Addr), p ∈ X.pn ∧ G.er = some (p.1, C, d) ∧ Zc (.ref C) d p.2 ∧ ∃ vs, p.2.data = .fields vs
  tk : Takes X W
  ps : PassesOwn (model X.prog X.w) X.A X.env X.xe

section
variable {G : GI} {Γ : Gm} {X : Cx} {k : Nat} {W : WX}
theorem Cok.rm (c : Cok X G Γ k W) (h : Γ.cold = true) : Room k X.A := ⟨(c.cold h).2.1, c.room.dp, c.room.un⟩
/-- a promise's use -/
theorem callP {S : BP} {F H : Hp} {M : MHp} {xs : List PV} {vs : List V} {σ : L2.St} {Q : BV} {E : BX} {Qh : VK} (A : At G F M H) (t : RepVs G F xs vs) (up : Up G F M H Q Qh) (xw : ExW G W F M H σ E) (h : S xs M Q E) : liftP G S vs H Qh (WE W σ) :=
  ⟨F, xs, M, Q, E, A, t, up, fun c fs F1 M1 H1 cls d e a r q => xw c fs F1 M1 H1 cls d e a r q, h⟩
/-- plain arguments of a call, in the text -/
structure ArgsOk (X : Cx) (xs : List Expr) : Prop where
  st : ∀ e r, xs = e :: r → starEach (e :: r) X.env = (false, eval e X.env) :: starEach r X.env
  pl : ∀ pos, (backTo pos (starEach xs X.env)).any (·.1) = false
theorem ArgsOk.of {X : Cx} {nm : Nat → Str} {sc : Scope} {es : Exs} {xs : List Expr} (hp : es.plain = true) (h : agEs nm X.N sc es xs = true) : ArgsOk X xs := by
  refine ⟨fun e r e1 => ?_, fun pos => agEs_plain es X.env pos hp h⟩
  subst e1
  cases es with
  | nil => cases h
  | cons a es =>
    have h' : (agE nm X.N sc a e && agEs nm X.N sc es r) = true := h
    rw [Bool.and_eq_true] at h'
    exact star_plain X.env (agE_hd a h'.1) r
  | star a es => cases hp
theorem ArgsOk.tail {X : Cx} {e : Expr} {xs : List Expr} (h : ArgsOk X (e :: xs)) (pos : Pos) : (backTo pos (starEach xs X.env)).any (·.1) = false := by
  have q := h.pl pos
  rw [h.st e xs rfl] at q
  exact q
/-- no arguments written: none known -/
def NilOk (xs : List Expr) (b : BA) : Prop := xs = [] → ∀ τ M Q E, b τ M Q E → Q [] M
theorem NilOk.of {nm : Nat → Str} {N : List Str} {sc : Scope} {es : Exs} {xs : List Expr} (hp : es.plain = true) (h : agEs nm N sc es xs = true) : NilOk xs (wXs Γ es) := by
  intro e
  subst e
  cases es with
  | nil => exact fun τ M Q E q => q
  | cons a es => cases h
  | star a es => cases hp
/-- the arguments are told, then the callee is called -/
theorem with_fn {pins : List (Addr × Obj)} {σ : L2.St} {F H : Hp} {M : MHp} {τ : Sl} {s : Shared} {g : Value} {first : List Value} {pos : Pos} {xs : List Expr} {b : BA} {R : List PV → MHp → Prop} {E : BX} {Qv : Value → Shared → Prop}
    (I : Inv X pins σ H s) (ok : ArgsOk X xs) (nl : NilOk xs b) (ha : PA X xs (liftA G W b)) (A : At G F M H) (rs : RelS G F τ σ) (xw : ExW G W F M H σ E) (h : b τ M R E)
    (hk : PySem.W.keepIn X.K g = true)
    (go : ∀ us s1 ys vs F1 M1 H1, Inv X pins σ H1 s1 → Vals vs us → Ev F M H F1 M1 H1 → At G F1 M1 H1 → RepVs G F1 ys vs → R ys M1 → wpAny (model X.prog X.w) X.A (call g (first ++ us)) Qv X.xe s1) :
    wpAny (model X.prog X.w) X.A (callWith pos g first (backTo pos (starEach xs X.env)) (backToKw pos (keywordEach [] X.env))) Qv X.xe s := by
  cases xs with
  | nil => exact PySem.W.callWith_K0 I.kIn hk (go [] s [] [] F M H I .nil .refl A .nil (nl rfl _ _ _ _ h))
  | cons e r =>
    have args := ha.run pos pins s σ H _ I (thenA A rs xw h (Kn := fun vs H1 => ∃ F1 M1 ys, Ev F M H F1 M1 H1 ∧ At G F1 M1 H1 ∧ RepVs G F1 ys vs ∧ R ys M1) fun ys F1 M1 H1 vs e a _ _ r q => ⟨F1, M1, ys, e, a, r, q⟩)
    exact PySem.W.callWith_K (h₀ := X.base) I.ok.mod.kin hk (thn args fun us s1 ⟨vs, H1, I1, r1, F1, M1, ys, e1, a1, t1, q⟩ => ⟨I1.kIn, go us s1 ys vs F1 M1 H1 I1 r1 e1 a1 t1 q⟩) (ok.st e r rfl) (ok.tail pos)
theorem run_fnE {CX : CXT} {f : Addr} {fd : FuncData} {ps : List Str} {p : Addr × Obj} {sp : Sp} {E : XK} {pins : List (Addr × Obj)} {σ : L2.St} {H : Hp} {s : Shared} {Q : VK} {us : List Value} {vs : List V} (Fn : FnE X.prog X.w X.K X.mg X.base CX k f fd ps p sp) (hr : RoomH k X.A) (hp : p ∈ X.pn)
    (hb : Binds X.K fd ps []) (hx : PassesAt CX X σ E) (I : Inv X pins σ H s) (r : Vals vs us) (h : sp vs H Q E) (hst : p.1 ∉ frs X.stack) : wpAny (model X.prog X.w) X.A (call (.ref f) us) (EP X pins σ Q) X.xe s := by
  have hl : us.length = ps.length := by rw [← r.length]; exact Fn.len _ _ _ _ h
  obtain ⟨h1, h2, h3, h4, h5⟩ := I.pin p (List.mem_append_left _ hp)
  have hbT : BindsTo s fd ⟨us, []⟩ (ps.zip us) := by
    have q := hb s us I.kIn (by rw [List.append_nil]; exact hl)
    rw [List.append_nil] at q
    exact q
  refine wpAny_call (codeAny_mono (Fn.run X.A X.stack s H ⟨us, []⟩ us vs Q E hr ⟨h1, h2, hst, h5⟩ I.env0 hbT r h) fun r s' hq => ?_)
  cases r with
  | error e => exact hx pins H s e s' I hq
  | ok fl =>
    cases fl with
    | ret u => exact I.after hq
    | next => exact False.elim hq
    | brk => exact False.elim hq
    | cont => exact False.elim hq
end
end Nb

/-! Nb9 -/
set_option Elab.async false
set_option linter.all false
set_option maxRecDepth 100000
set_option maxHeartbeats 1000000
/-! Nb9: calls, methods, new instances, fields, isinstance, over trees. -/
namespace Nb
open PySem PySem.Spec L2 L2H
open PyProof.Rows hiding St
section
variable {G : GI} {Γ : Gm} {X : Cx} {k : Nat} {W : WX}

/-- a def's call, cold or hot -/
theorem run_call (c : Cok X G Γ k W) {n : Nat} {S : BP} (hS : Γ.fn n = some S) : ∃ f, X.mg (G.nm n) = some (.ref f) ∧ PySem.W.keepIn X.K (.ref f) = true ∧
    ∀ {pins : List (Addr × Obj)} {s : Shared} {σ : L2.St} {F H : Hp} {M : MHp} {us : List Value} {vs : List V} {ys : List PV} {Q : BV} {E : BX} {Qh : VK}, Inv X pins σ H s → Vals vs us → At G F M H → RepVs G F ys vs → Up G F M H Q Qh → ExW G W F M H σ E →
      S ys M Q E → wpAny (model X.prog X.w) X.A (call (.ref f) us) (EP X pins σ Qh) X.xe s := by
  cases hc : Γ.cold with
  | true =>
    obtain ⟨j, f, hj, hm, hk, hF⟩ := c.gm.fn hc n S hS
    refine ⟨f, hm, hk, fun {pins s σ F H M us vs ys Q E Qh} I r A t up xw h => ?_⟩
    exact run_R (E := WE W σ) hF ((c.rm hc).mono hj) (passAt c.tk _) I r (callP A t up xw h)
  | false =>
    obtain ⟨e1, p, C, d, hp, er, hz, hv⟩ := c.hot hc
    rw [e1] at hS
    obtain ⟨j, f, fd, ps, hj, hm, hk, hb, hF⟩ := c.gm.hfn n S hS
    refine ⟨f, hm, hk, fun {pins s σ F H M us vs ys Q E Qh} I r A t up xw h => ?_⟩
    have hF' := hF p C d hz hv
    have eG : G.at (p.1, C, d) = G := by
      cases G
      cases er
      rfl
    rw [eG] at hF'
    exact run_fnE hF' (c.room.mono hj) hp hb (E := WE W σ) (passAt c.tk σ) I r (callP A t up xw h) (fun hm => (List.mem_cons.mp (I.stkSub p.1 hm)).elim (I.pin p (List.mem_append_left _ hp)).2.2.1 (I.pin p (List.mem_append_left _ hp)).2.2.2.1)
theorem pe_fn (c : Cok X G Γ k W) {n : Nat} {x : Str} {p pos : Pos} {xs : List Expr} {b : BA} (hx : G.nm n = x) (hg : Gl X x) (hdb : (x == ("__debug__" : Str)) = false) (ha : PA X xs (liftA G W b)) (ok : ArgsOk X xs) (nl : NilOk xs b) :
    PE X (.Call (.Name x p) xs [] pos) (liftE G W fun τ M Q E => ∃ S, Γ.fn n = some S ∧ b τ M (fun ys M1 => S ys M1 Q E) E) := by
  refine ⟨fun pins s σ H Qh I h => ?_⟩
  obtain ⟨F, τ, M, Q, E, A, rs, up, xw, S, hS, h⟩ := h
  have up' : Up G F M H Q Qh := up
  obtain ⟨f, hm, hk, go⟩ := run_call c hS
  rw [hx] at hm
  refine wpAny_Call_Name_kw (ld_glob I hg hm ?_ hdb)
  refine with_fn (first := []) I ok nl ha A rs xw h hk fun us s1 ys vs F1 M1 H1 I1 r e1 A1 t1 q => ?_
  exact go I1 r A1 t1 (up'.on e1) (xw.on e1) q
/-- an instance's class and fields -/
theorem insOf_ok {F H : Hp} {M : MHp} {x : PV} {v : V} {c : Nat} {fs : List (Nat × PV)} (A : At G F M H) (r : RepV G F x v) (h : insOf M x = some (c, fs)) : ∃ a C dx gs, v = .ref a ∧ G.cl c = some C ∧ H a = some (.ins C dx gs) ∧ RepFs G F fs gs := by
  cases r with
  | obj hc ha r =>
    cases h
    exact ⟨_, _, _, _, rfl, hc, A.sub _ _ ha, r⟩
  | ref a =>
    have h' : (match M a with | some (.ins c fs) => some (c, fs) | _ => none) = some (c, fs) := h
    cases e : M a with
    | none => rw [e] at h'; cases h'
    | some m =>
      rw [e] at h'
      cases m with
      | ins c2 fs2 =>
        cases h'
        obtain ⟨C, dx, gs, c1, h1, r1⟩ := A.mo a _ e
        exact ⟨a, C, dx, gs, rfl, c1, h1, r1⟩
      | lst xs => cases h'
      | dct xs => cases h'
  | _ => cases h
theorem pe_met (c : Cok X G Γ k W) {o : Expr} {m : Nat} {y : Str} {ap pos : Pos} {xs : List Expr} {bo : BE} {b : BA} (ho : PE X o (liftE G W bo)) (hy : G.nm m = y) (hb : nbB o = true) (hl : ap.endLine = pos.line) (hn : xs.length < 30) (ha : PA X xs (liftA G W b)) (ok : ArgsOk X xs) (nl : NilOk xs b) :
    PE X (.Call (.Attribute o y ap) xs [] pos) (liftE G W fun τ M Q E => bo τ M (fun x M1 => ∃ c fs S, insOf M1 x = some (c, fs) ∧ fs.lookup m = none ∧ Γ.mt c m = some S ∧ b τ M1 (fun ys M2 => S (x :: ys) M2 Q E) E) E) := by
  refine ⟨fun pins s σ H Qh I h => ?_⟩
  obtain ⟨F, τ, M, Q, E, A, rs, up, xw, h⟩ := h
  have up' : Up G F M H Q Qh := up
  refine PySem.W.methodCall_KW (pl := do return (← importBound o X.env).getD true) (thn (ho.run pins s σ H _ I (thenE A rs xw h (Kn := fun v H1 => ∃ F1 M1 x, Ev F M H F1 M1 H1 ∧ At G F1 M1 H1 ∧ RepV G F1 x v ∧ ∃ c fs S, insOf M1 x = some (c, fs) ∧ fs.lookup m = none ∧ Γ.mt c m = some S ∧ b τ M1 (fun ys M2 => S (x :: ys) M2 Q E) E) fun x F1 M1 H1 v e a _ _ r q => ⟨F1, M1, x, e, a, r, q⟩)) fun u s1 ⟨v, H1, I1, rv, F1, M1, x, e1, A1, r1, cc, fs, S, hi, hl2, hS, q⟩ => ?_) (meth_eq hb hl hn (ok.pl pos))
  obtain ⟨a, C, dx, gs, rfl, hC, hH, rf⟩ := insOf_ok A1 r1 hi
  obtain rfl : u = Value.ref a := rv
  obtain ⟨hcd, j, C', f, hj, hC', hcl, hmt, hF⟩ := c.gm.mt cc m S hS
  rw [hC] at hC'
  cases hC'
  rw [hy] at hmt
  refine getmeth_ok I1 hH hcl hmt (by rw [← hy]; exact rf.lookup_none hl2) ?_
  refine with_fn (first := [.ref a]) I1 ok nl ha A1 (rs.mono e1.sub) (xw.on e1) q hmt.kp fun us s2 ys vs F2 M2 H2 I2 r e2 A2 t2 q2 => ?_
  exact run_R (E := WE W σ) (us := .ref a :: us) (vs := .ref a :: vs) hF ((c.rm hcd).mono hj) (passAt c.tk σ) I2 (.cons rfl r) (callP A2 (.cons (r1.mono e2.sub) t2) ((up'.on e1).on e2) ((xw.on e1).on e2) q2)

/-! ### new instances -/
theorem run_mk {CX : CXT} {C f : Addr} {sp : Sp} {E : XK} {j : Nat} {pins : List (Addr × Obj)} {σ : L2.St} {H : Hp} {s : Shared} {Q : VK} {us : List Value} {vs : List V} (mk : Mk X.K C f) (Fn : FnR X.prog X.w X.K X.mg X.base CX j f sp) (hr : Room (j + 1) X.A)
    (hx : PassesAt CX X σ E) (I : Inv X pins σ H s) (r : Vals vs us) (h : ∀ x dx, H x = none → H dx = none → dx ≠ x → sp (.ref x :: vs) (upd (upd H dx (.own x)) x (.ins C dx [])) (fun v H2 => v = .non ∧ Q (.ref x) H2) E) :
    wpAny (model X.prog X.w) X.A (call (.ref C) us) (EP X pins σ Q) X.xe s := by
  obtain ⟨x, ex⟩ : ∃ x, x = s.heap.objs.size + 1 := ⟨_, rfl⟩
  have h1 : H (s.heap.objs.size + 1) = none := I.hok.fresh (Nat.le_succ _)
  have h2 : H s.heap.objs.size = none := I.hok.fresh (Nat.le_refl _)
  have want := h _ _ h1 h2 (Nat.ne_of_lt (Nat.lt_succ_self _))
  have I2 := Inv.made (C := C) I
  have rr : Vals (V.ref (s.heap.objs.size + 1) :: vs) (Value.ref (s.heap.objs.size + 1) :: us) := .cons rfl r
  refine wpAny_call (make_map (f := f) I.kIn mk.makes mk.init (beq_iff_eq.mp mk.fn) (codeAny_mono (Fn _ X.stack _ _ (Value.ref (s.heap.objs.size + 1) :: us) _ _ E (hr.make C us []) (I2.env0.make C us []) rr want) fun q s' hq => ?_))
  cases q with
  | error e => exact hx pins _ _ e s' I2 hq
  | ok fl =>
    cases fl with
    | ret u =>
      obtain ⟨v, H', I3, rv, ev, q3⟩ := I2.after hq
      subst ev
      exact ⟨rv, ⟨V.ref (s.heap.objs.size + 1), H', I3, rfl, q3⟩⟩
    | next => exact False.elim hq
    | brk => exact False.elim hq
    | cont => exact False.elim hq
theorem exw_drop {F H : Hp} {M : MHp} {σ : L2.St} {E : BX} (a : Addr) (x : ExW G W F M H σ E) : ExW G W F M H σ (fun c fs M1 => E c fs (md M1 a)) := fun c fs F1 M1 H1 cls d e at_ r q => by
  obtain ⟨a2, e2⟩ := at_.less (M1 := md M1 a) (fun b m h => by
    unfold md at h
    split at h
    · cases h
    · exact h)
  refine x c fs F1 (md M1 a) H1 cls d (e.trans e2) a2 ?_ q
  obtain ⟨C, hC, hc, h⟩ := r
  refine ⟨C, hC, hc, h.imp id ?_⟩
  rintro ⟨dd, gs, h1, h2, h3, h4⟩
  refine ⟨dd, gs, h1, h2, ?_, h4⟩
  unfold md
  split
  · rfl
  · exact h3
theorem pe_new (c : Cok X G Γ k W) {mu : Bool} {n : Nat} {x : Str} {p pos : Pos} {xs : List Expr} {b : BA} (hx : G.nm n = x) (hg : Gl X x) (hdb : (x == ("__debug__" : Str)) = false) (ha : PA X xs (liftA G W b)) (ok : ArgsOk X xs) (nl : NilOk xs b) :
    PE X (.Call (.Name x p) xs [] pos) (liftE G W fun τ M Q E => ∃ S, Γ.ini n = some S ∧ b τ M (fun ys M1 => mkR S mu n ys M1 Q E) E) := by
  refine ⟨fun pins s σ H Qh I h => ?_⟩
  obtain ⟨F, τ, M, Q, E, A, rs, up, xw, S, hS, h⟩ := h
  have up' : Up G F M H Q Qh := up
  obtain ⟨hcd, j, C, f, hj, hC, hm, mk, hF⟩ := c.gm.ini n S hS
  rw [hx] at hm
  refine wpAny_Call_Name_kw (ld_glob I hg hm ?_ hdb)
  refine with_fn (first := []) I ok nl ha A rs xw h mk.kp fun us s1 ys vs F1 M1 H1 I1 r e1 A1 t1 q => ?_
  refine run_mk (E := WE W σ) mk hF ((c.rm hcd).mono hj) (passAt c.tk σ) I1 r fun a dx na nd ne => ?_
  obtain ⟨A2, E2⟩ := A1.new (o := .own a) nd
  have na2 : upd H1 dx (.own a) a = none := by rw [upd_ne (Ne.symm ne)]; exact na
  obtain ⟨A3, E3⟩ := A2.newM (o := .ins C dx []) (m := .ins n []) na2 ⟨C, dx, [], hC, upd_same, .nil⟩
  have E13 := E2.trans E3
  refine callP A3 (.cons (.ref a) (t1.mono E13.sub)) ?_ (exw_drop a ((xw.on e1).on E13)) (q a (A1.none_of na))
  intro z F4 M4 H4 v e4 A4 rz hz
  obtain ⟨rfl, fs, hM4, hq⟩ := hz
  cases rz
  refine ⟨rfl, ?_⟩
  have ev := (e1.trans E13).trans e4
  cases mu with
  | true => exact up (.ref a) F4 M4 H4 _ ev A4 (.ref a) hq
  | false =>
    obtain ⟨C2, dx2, gs, hC2, hH, rf⟩ := A4.mo a _ hM4
    obtain ⟨A5, E5⟩ := A4.freeze hM4 hH
    exact up (.obj n fs) _ _ _ _ (ev.trans E5) A5 (.obj hC2 upd_same (rf.mono E5.sub)) hq
theorem pe_exn (c : Cok X G Γ k W) {n : Nat} {x : Str} {p pos : Pos} {xs : List Expr} {b : BA} (hx : G.nm n = x) (hg : Gl X x) (ha : PA X xs (liftA G W b)) (ok : ArgsOk X xs) (nl : NilOk xs b) :
    PE X (.Call (.Name x p) xs [] pos) (liftE G W fun τ M Q E => ∃ f, Γ.xc n = some (some f) ∧ b τ M (fun ys M1 => ∃ x, ys = [x] ∧ Q (.exc n [(f, x)]) M1) E) := by
  refine ⟨fun pins s σ H Qh I h => ?_⟩
  obtain ⟨F, τ, M, Q, E, A, rs, up, xw, f, hf, h⟩ := h
  subst hx
  obtain ⟨C, hC, hr⟩ := (c.gm.xc n (some f) hf).val
  refine (hr X rfl rfl rfl rfl rfl c.room hg xs _ p pos ha ok.st ok.pl ?_).run pins s σ H _ I ?_
  · intro e σ' H' Q' q
    obtain ⟨F2, τ2, M2, Q2, E2, A2, rs2, up2, xw2, h2⟩ := q
    exact up2 [] F2 M2 H' [] .refl A2 .nil (nl e _ _ _ _ h2)
  refine thenA A rs xw h fun ys F1 M1 H1 vs e1 A1 _ _ r q => ?_
  obtain ⟨x, rfl, q⟩ := q
  obtain ⟨v, rfl, r1⟩ := rep1 r
  refine ⟨v, rfl, fun a d na nd ne => ?_⟩
  obtain ⟨A2, E2⟩ := A1.newF (o := exd d [(G.nm f, v)]) nd
  have na2 : upd H1 d (exd d [(G.nm f, v)]) a = none := by rw [upd_ne ne]; exact na
  obtain ⟨A3, E3⟩ := A2.newF (o := exo a C (some d)) na2
  refine up _ _ _ _ _ ((e1.trans E2).trans E3) A3 (.exc ⟨C, hC, .inl ⟨d, upd_same, ?_⟩⟩ (.cons (r1.mono (E2.trans E3).sub) .nil)) q
  rw [upd_ne (Ne.symm ne)]
  exact upd_same

/-! ### fields -/
theorem exc_heap (c : Cok X G Γ k W) {pins : List (Addr × Obj)} {σ : L2.St} {F H : Hp} {M : MHp} {s : Shared} {a : Addr} {cc : Nat} {gs : List (Str × V)} (I : Inv X pins σ H s) (A : At G F M H) (h : ExcAt G F a cc gs) :
    ∃ C, G.cl cc = some C ∧ ∃ (oe : Obj) (od : Option Obj), PySem.W.InstAt s.heap a oe C od ∧ ((gs = [] ∧ od = none) ∨ ∃ o dd, od = some o ∧ s.heap.get? dd = some o ∧ ∃ mA, s.heap.Ns1 dd mA ∧ ∀ f, RelO (gs.lookup f) (mA f)) := by
  obtain ⟨C, hC, h⟩ := h
  refine ⟨C, hC, ?_⟩
  have err : ∀ d, G.er = some (a, C, d) → ∃ oe, s.heap.get? a = some oe ∧ Zc (.ref C) d oe ∧ ∃ vs, oe.data = .fields vs := by
    intro d he
    cases hcd : Γ.cold with
    | true => rw [(c.cold hcd).2.2] at he; cases he
    | false =>
      obtain ⟨_, p, C2, d2, hp, er, hz, hv⟩ := c.hot hcd
      rw [er] at he
      cases he
      exact ⟨p.2, (I.pin p (List.mem_append_left _ hp)).1, hz, hv⟩
  rcases h with ⟨d, h1, h2⟩ | ⟨h1, h2⟩ | ⟨d, h1, h2⟩ | ⟨h1, h2⟩
  · obtain ⟨t1, ho⟩ := exo_at I.hok (A.sub _ _ h1)
    obtain ⟨mA, hns, rel⟩ := exd_at I.hok (A.sub _ _ h2)
    obtain ⟨od, hod, hl⟩ := lookIn_ns hns
    exact ⟨_, some od, ⟨ho, rfl, rfl, hod⟩, .inr ⟨od, d, rfl, hod, mA, hns, rel⟩⟩
  · obtain ⟨t1, ho⟩ := exo_at I.hok (A.sub _ _ h1)
    exact ⟨_, none, ⟨ho, rfl, rfl, trivial⟩, .inl ⟨h2, rfl⟩⟩
  · obtain ⟨oe, ho, hz, vs, hv⟩ := err _ h1
    obtain ⟨mA, hns, rel⟩ := (show ObjOk X.prog X.w H s.heap d (.xd gs) from I.hok d _ (A.sub _ _ h2))
    obtain ⟨od, hod, hl⟩ := lookIn_ns hns
    exact ⟨oe, some od, ⟨ho, hz.1, by unfold PySem.W.notCls; rw [hv] <;> rfl, by rw [hz.2]; exact hod⟩, .inr ⟨od, d, rfl, hod, mA, hns, rel⟩⟩
  · obtain ⟨oe, ho, hz, vs, hv⟩ := err _ h1
    exact ⟨oe, none, ⟨ho, hz.1, by unfold PySem.W.notCls; rw [hv] <;> rfl, by rw [hz.2]; trivial⟩, .inl ⟨h2, rfl⟩⟩
theorem pe_att (c : Cok X G Γ k W) {o : Expr} {f : Nat} {y : Str} {pos : Pos} {bo : BE} (ho : PE X o (liftE G W bo)) (hy : G.nm f = y) (hb : nbB o = true) :
    PE X (.Attribute o y pos) (liftE G W fun τ M Q E => bo τ M (fun x M1 => attR Γ x f M1 Q) E) := by
  refine ⟨fun pins s σ H Qh I h => ?_⟩
  obtain ⟨F, τ, M, Q, E, A, rs, up, xw, h⟩ := h
  have up' : Up G F M H Q Qh := up
  refine attr_of (base_nb hb) (thn (ho.run pins s σ H _ I (thenE A rs xw h (Kn := fun v H1 => ∃ F1 M1 x, Ev F M H F1 M1 H1 ∧ At G F1 M1 H1 ∧ RepV G F1 x v ∧ attR Γ x f M1 Q) fun x F1 M1 H1 v e a _ _ r q => ⟨F1, M1, x, e, a, r, q⟩)) fun u s1 ⟨v, H1, I1, rv, F1, M1, x, e1, A1, r1, q⟩ => ?_)
  have plain : (∃ c fs v, insOf M1 x = some (c, fs) ∧ Γ.fld c f = true ∧ fs.lookup f = some v ∧ Q v M1) → wpAny (model X.prog X.w) X.A (getAttr u y true) (EP X pins σ Qh) X.xe s1 := by
    rintro ⟨cc, fs, z, hi, hf, hl, q⟩
    obtain ⟨a, C, dx, gs, rfl, hC, hH, rf⟩ := insOf_ok A1 r1 hi
    obtain rfl : u = Value.ref a := rv
    obtain ⟨C2, hC2, hcl, hno⟩ := c.gm.fld cc f hf
    rw [hC] at hC2
    cases hC2
    rw [hy] at hno
    obtain ⟨vz, hz, rz⟩ := rf.lookup hl
    rw [hy] at hz
    exact getattr_ok I1 hH hcl hno hz fun u2 s2 I2 ru => ⟨vz, H1, I2, ru, (up'.on e1).here A1 rz q⟩
  cases r1 with
  | @exc a cc fs gs he rf =>
    obtain ⟨z, hf, hl, q⟩ := q
    obtain rfl : u = Value.ref a := rv
    obtain ⟨C, hC, oe, od, J, hd⟩ := exc_heap c I1 A1 he
    obtain ⟨C2, hC2, T, hno⟩ := c.gm.xfl cc f hf
    rw [hC] at hC2
    cases hC2
    rw [hy] at hno
    obtain ⟨vz, hz, rz⟩ := rf.lookup hl
    rw [hy] at hz
    rcases hd with ⟨h1, _⟩ | ⟨ob, dd, rfl, hob, mA, hns, rel⟩
    · rw [h1] at hz
      cases hz
    · obtain ⟨ob2, hob2, hlk⟩ := lookIn_ns hns
      rw [hob] at hob2
      cases hob2
      obtain ⟨w, hw, rw'⟩ := RelO.some_of (v := vz) (o := mA y) (by rw [← hz]; exact rel y)
      exact HandSPX.exc_get I1.kIn J T.hg T.hk T.hs (PySem.W.findObj_own T.hd hno rfl (by rw [hlk, hw])) (handed_of rw') ⟨vz, H1, I1.tok _, rw', (up'.on e1).here A1 rz q⟩
  | _ => exact plain q

/-! ### isinstance -/
/-- the type object of a told type -/
def TyObj (G : GI) (T : Value) : String ⊕ Nat → Prop
  | .inl n => T = .type n ∧ n ∈ ["NoneType", "bool", "int", "str", "tuple", "list"]
  | .inr d => ∃ C, G.cl d = some C ∧ T = .ref C
theorem kit_at (c : Cok X G Γ k W) {pins : List (Addr × Obj)} {σ : L2.St} {F H : Hp} {M : MHp} {s : Shared} {x : PV} {v : V} {u : Value} {t : String ⊕ Nat} (I : Inv X pins σ H s) (A : At G F M H) (r : RepV G F x v) (rv : RelV v u) (ht : tyOf Γ M x = some t) :
    ∃ (T : Value) (P : Heap → Prop), PySem.W.KitX X.K u T P ∧ P s.heap ∧ u ≠ .builtin "__main__.__loader__#opaque" ∧ TyObj G T t := by
  have base : ∀ {n : String}, t = .inl n → n ∈ ["NoneType", "bool", "int", "str", "tuple", "list"] → TyX X.K H v (.type n) → ∃ (T : Value) (P : Heap → Prop), PySem.W.KitX X.K u T P ∧ P s.heap ∧ u ≠ .builtin "__main__.__loader__#opaque" ∧ TyObj G T t := by
    rintro n rfl hn ty
    obtain ⟨P, Z, p, ne⟩ := kit_of I rv ty
    exact ⟨_, P, Z, p, ne, rfl, hn⟩
  have gK := c.gm.gk
  have obj : ∀ {a C dx : Addr} {cc : Nat} {gs : List (Str × V)}, G.cl cc = some C → H a = some (.ins C dx gs) → v = .ref a → ofK Γ false cc = some t → ∃ (T : Value) (P : Heap → Prop), PySem.W.KitX X.K u T P ∧ P s.heap ∧ u ≠ .builtin "__main__.__loader__#opaque" ∧ TyObj G T t := by
    intro a C dx cc gs hC hH ev ho
    subst ev
    unfold ofK at ho
    split at ho
    · rename_i hk
      cases ho
      have ob := (c.gm.cls cc C hC).2 hk
      obtain ⟨P, Z, p, ne⟩ := kit_of I rv (.base (.ins hH ob.cl ob.ha ob.hn ob.ht ob.hm))
      exact ⟨_, P, Z, p, ne, C, hC, rfl⟩
    · cases ho
  cases r with
  | non => cases ht; exact base rfl (by decide) (.base .non)
  | bl b => cases ht; exact base rfl (by decide) (.base (.bl b))
  | int i => cases ht; exact base rfl (by decide) (.base (.int i))
  | str z => cases ht; exact base rfl (by decide) (.base (.str z))
  | tup e t =>
    cases ht
    have e1 := sqT_mono A.sub e
    rw [gK] at e1
    refine base rfl (by decide) ?_
    rcases e1 with (e1 | ⟨o, e1⟩) | ⟨o, its, n, e1, e2, _⟩
    · exact .base (.tup e1)
    · exact .fTuple e1
    · exact .kTuple e1 e2
  | lst e t => cases ht; exact base rfl (by decide) (.base (.lst (A.sub _ _ e)))
  | obj hC e t => exact obj hC (A.sub _ _ e) rfl ht
  | ref a =>
    have ht' : (match M a with | some (.lst _) => some (Sum.inl "list") | some (.ins c _) => ofK Γ false c | _ => none) = some t := ht
    cases e : M a with
    | none => rw [e] at ht'; cases ht'
    | some m =>
      rw [e] at ht'
      cases m with
      | lst xs =>
        cases ht'
        obtain ⟨vs, h1, _⟩ := A.mo a _ e
        exact base rfl (by decide) (.base (.lst h1))
      | ins c2 fs2 =>
        obtain ⟨C, dx, gs, c1, h1, r1⟩ := A.mo a _ e
        exact obj c1 h1 rfl ht'
      | dct xs => cases ht'
  | @exc a cc fs gs he rf =>
    obtain rfl : u = Value.ref a := rv
    have ht' : ofK Γ true cc = some t := ht
    unfold ofK at ht'
    split at ht'
    · rename_i hk
      cases ht'
      obtain ⟨C, hC, oe, od, J, _⟩ := exc_heap c I A he
      have T := (c.gm.cls cc C hC).1 hk
      exact ⟨_, _, PySem.W.kitx_exc (ox := oe) (od := od) (by obtain ⟨cd, hc, _⟩ := PySem.W.any_some T.hd; rw [hc]; rfl) T.hg T.hk T.hs T.ha T.hn T.ht T.hm, J, (fun z => by cases z), C, hC, rfl⟩
    · cases ht'
  | kl e t => cases ht
  | raw v => cases ht
/-- the classes asked for -/
inductive CcV (G : GI) : Cc → V → Value → Prop where
  | ty (t : String) : CcV G (.ty t) (.ty t) (.type t)
  | own {d : Nat} {D : Addr} (h : G.cl d = some D) : CcV G (.own d) (.ref D) (.ref D)
theorem tyB_ok {a b : String} {r : Bool} {K : PySem.W.Frag} (h : tyB a b = some r) (ha : a ∈ ["NoneType", "bool", "int", "str", "tuple", "list"]) : PySem.W.kitOne K (.type a) (.type b) = some r := by
  refine kit_ty ?_
  unfold tyB at h
  split at h
  · rename_i e
    subst e
    cases h
    unfold kitB
    rw [if_pos (by simp)]
  · split at h
    · rename_i e
      obtain ⟨rfl, rfl⟩ := e
      cases h
      decide +kernel
    · split at h
      · rename_i e0 e1 e
        cases h
        simp only [List.mem_cons, List.not_mem_nil, or_false] at ha
        rcases ha with rfl | rfl | rfl | rfl | rfl | rfl <;> rcases e with rfl | rfl | rfl | rfl | rfl | rfl <;> first | exact absurd rfl e0 | exact absurd ⟨rfl, rfl⟩ e1 | decide +kernel
      · cases h
theorem isi1_ok (c : Cok X G Γ k W) {t : String ⊕ Nat} {T : Value} {cc : Cc} {v : V} {u : Value} {r : Bool} (hT : TyObj G T t) (hc : CcV G cc v u) (h : isi1 Γ t cc = some r) :
    PySem.W.kitOne X.K T u = some r := by
  cases t with
  | inl a =>
    obtain ⟨rfl, ha⟩ := hT
    cases hc with
    | ty b => exact tyB_ok h ha
    | own hd =>
      obtain ⟨_, _, e⟩ := Option.map_eq_some_iff.mp h
      subst e
      exact c.gm.isf _ _ _ ha hd
  | inr e =>
    obtain ⟨C, hC, rfl⟩ := hT
    cases hc with
    | ty b =>
      obtain ⟨C2, hC2, q⟩ := c.gm.isb _ _ _ h
      rw [hC] at hC2
      cases hC2
      exact q
    | own hd =>
      obtain ⟨C2, D2, hC2, hD2, q⟩ := c.gm.isa _ _ _ h
      rw [hC] at hC2
      cases hC2
      rw [hd] at hD2
      cases hD2
      exact q

/-! ### own == and str -/
/-- a def's call, somewhere below the running body; it raises nothing -/
theorem run_at {A : Around} {sp : Sp} {f : Addr} {j : Nat} {pins : List (Addr × Obj)} {σ : L2.St} {H : Hp} {s : Shared} {Q : VK} {us : List Value} {vs : List V} (Fn : FnR X.prog X.w X.K X.mg X.base (L2.CX X.prog X.w) j f sp) (hr : Room j A) (fr : A.frames = X.A.frames)
    (I : Inv X pins σ H s) (r : Vals vs us) (h : sp vs H Q fun _ _ _ => False) : wpAny (model X.prog X.w) A (call (.ref f) us) (EP X pins σ Q) X.xe s := by
  have e0 : Env0 X.prog X.w X.K X.mg X.base A X.stack s H := by
    have e := I.env0
    exact ⟨by rw [fr]; exact e.frames, e.mod, e.bs, e.bsz, e.funs, e.frf, e.hok, e.bare⟩
  refine wpAny_call (codeAny_mono (Fn A X.stack s H us vs Q _ hr e0 r h) fun r s' hq => ?_)
  cases r with
  | error e =>
    obtain ⟨_, _, _, _, _, _, _, _, _, _, _, _, q⟩ := hq
    exact q.elim
  | ok fl =>
    cases fl with
    | ret u => exact I.after hq
    | next => exact False.elim hq
    | brk => exact False.elim hq
    | cont => exact False.elim hq
theorem up_bl {F H : Hp} {M : MHp} {Q : BV} {Qh : VK} {ne : Bool} (up : Up G F M H Q Qh) : Up G F M H (fun z M1 => ∃ b, z = .bl b ∧ Q (.bl (b != ne)) M1) (fun v H1 => ∃ b, v = .bl b ∧ Qh (.bl (b != ne)) H1) := by
  intro x F1 M1 H1 v e a r q
  obtain ⟨b, rfl, q⟩ := q
  cases r
  exact ⟨b, rfl, up _ F1 M1 H1 _ e a (.bl _) q⟩
theorem ob_oeq (c : Cok X G Γ k W) (ne : Bool) : OpR X (compareOp (if ne then .NotEq else .Eq)) (liftR G (oeqR Γ ne)) := by
  intro pins s σ H x y u v Qh I rx ry ⟨F, M, px, py, Q, A, r1, r2, up, cc, dd, fs, gs, S, h1, h2, hkd, hsb, hS, q⟩
  obtain ⟨a, C, dx, g1, rfl, hC, hH, rf⟩ := insOf_ok A r1 h1
  obtain ⟨b, C2, dy, g2, rfl, hC2, hH2, rf2⟩ := insOf_ok A r2 h2
  obtain rfl : u = Value.ref a := rx
  obtain rfl : v = Value.ref b := ry
  have nf : PySem.W.notFirst X.K C (.ref C2) = true := by
    rcases hsb with e | e
    · subst e
      rw [hC] at hC2
      cases hC2
      simp [PySem.W.notFirst]
    · obtain ⟨C4, D4, q1, q2, q3⟩ := c.gm.sib cc dd e
      rw [hC] at q1
      cases q1
      rw [hC2] at q2
      cases q2
      unfold PySem.W.notFirst
      rw [q3]
      simp
  obtain ⟨hcd, j, C3, f, hj, hC3, hcl, hmt, hF⟩ := c.gm.eqm cc S hS
  rw [hC] at hC3
  cases hC3
  have ob := (c.gm.cls cc C hC).2 hkd
  have hr : Room (j + 2) X.A := (c.rm hcd).mono hj
  obtain ⟨mA, J, _⟩ := ins_get I.hok hH
  obtain ⟨mB, J', _⟩ := ins_get I.hok hH2
  obtain ⟨od, J, _⟩ := J.look
  obtain ⟨od', J', _⟩ := J'.look
  obtain ⟨m, hFr⟩ := I.fr
  have hu0 : X.A.units < cLine := by have := hr.un; omega
  have hu1 : X.A.in1.units < cLine := by have := hr.un; show X.A.units + 1 < _; omega
  have go : ∀ (A' : Around), Room j A' → A'.frames = X.A.frames → wpAny (model X.prog X.w) A' (call (.ref f) [.ref a, .ref b]) (EP X pins σ fun v H1 => ∃ b, v = .bl b ∧ Qh (.bl (b != ne)) H1) X.xe s := fun A' hr' fr' =>
    run_at (vs := [V.ref a, V.ref b]) hF hr' fr' I (.cons rfl (.cons rfl .nil)) ⟨F, _, M, _, _, A, .cons r1 (.cons r2 .nil), up_bl up, fun _ _ _ _ _ _ _ _ _ _ q => q.elim, q⟩
  cases ne with
  | false =>
    show wpAny _ X.A (richCompare .Eq _ _) _ _ _
    refine PySem.W.cmp_K (op := .Eq) (tb := .ref C2) hu0 hFr I.ok.mod.kin J J'.type nf hmt.at_ hmt.fn (wpAny_mono (go X.A (hr.mono (by omega)) rfl) (fun w s' ⟨z, H1, I1, rz, bb, ez, q⟩ => ?_) fun _ _ e => e)
    subst ez
    obtain rfl : w = Value.bool bb := rz
    refine (show EP X pins σ Qh (.bool bb) s' from ⟨.bl bb, H1, I1, rfl, ?_⟩)
    have e : (bb != false) = bb := by cases bb <;> rfl
    rw [e] at q
    exact q
  | true =>
    show wpAny _ X.A (richCompare .NotEq _ _) _ _ _
    refine NbA.rc_neK hu0 hu1 I.kIn J J' nf ob.hm ob.hne hmt.at_ hmt.fn (wpAny_mono (go X.A.in1 ((hr.mono (by omega : j + 1 ≤ j + 2)).in1) rfl) (fun w s' ⟨z, H1, I1, rz, bb, ez, q⟩ => ?_) fun _ _ e => e)
    subst ez
    obtain rfl : w = Value.bool bb := rz
    refine ⟨bb, rfl, .bl (!bb), H1, I1, rfl, ?_⟩
    have e : (bb != true) = !bb := by cases bb <;> rfl
    rw [e] at q
    exact q
theorem ob_ostr (c : Cok X G Γ k W) : CallR X (.type "str") (liftC G fun xs M Q => ∃ x, xs = [x] ∧ ostR Γ x M Q) := by
  intro pins s σ H vs us Qh I rv ⟨F, M, xs, Q, A, t, up, x, ex, cc, fs, S, h1, hS, q⟩
  subst ex
  obtain ⟨v, rfl, r1⟩ := rep1 t
  obtain ⟨a, C, dx, g1, rfl, hC, hH, rf⟩ := insOf_ok A r1 h1
  rw [Vals.ref1 rv]
  obtain ⟨hcd, j, C3, f, hj, hC3, hcl, hmt, hF⟩ := c.gm.stm cc S hS
  rw [hC] at hC3
  cases hC3
  have hr : Room (j + 2) X.A := (c.rm hcd).mono hj
  obtain ⟨mA, J, _⟩ := ins_get I.hok hH
  obtain ⟨od, J, _⟩ := J.look
  have hu2 : X.A.in1.in1.units < cLine := by have := hr.un; show X.A.units + 1 + 1 < _; omega
  refine PySem.W.kso_call hu2 I.kIn J hmt.at_ hmt.fn (wpAny_mono (run_at (A := X.A.in1.in1) (vs := [V.ref a]) (Q := fun v H1 => ∃ y, v = .str y ∧ Qh (.str y) H1) hF hr.in1.in1 rfl I (.cons rfl .nil) ⟨F, _, M, _, _, A, .cons r1 .nil, ?_, fun _ _ _ _ _ _ _ _ _ _ q => q.elim, q⟩) (fun w s' ⟨z, H1, I1, rz, y, ez, q⟩ => ?_) fun _ _ e => e)
  · intro x F1 M1 H1 v e a r q
    obtain ⟨y, rfl, q⟩ := q
    cases r
    exact ⟨y, rfl, up _ F1 M1 H1 _ e a (.str _) q⟩
  · subst ez
    obtain ⟨tk, rfl⟩ := rz
    exact (show EP X pins σ Qh (.str y tk) s' from ⟨.str y, H1, I1, ⟨tk, rfl⟩, q⟩)
end
end Nb

/-! Nb10 -/
set_option Elab.async false
set_option linter.all false
set_option maxRecDepth 100000
set_option maxHeartbeats 1000000
/-! Nb10: each form of an expression: its rule over trees. -/
namespace Nb
open PySem PySem.Spec L2 L2H
open PyProof.Rows hiding St

theorem and2 {a b : Bool} (h : (a && b) = true) : a = true ∧ b = true := by rwa [Bool.and_eq_true] at h
theorem gl_ok {X : Cx} {x : Str} (h : glB X.env.scope x = true) : Gl X x ∧ (x == ("__debug__" : Str)) = false := by
  obtain ⟨h1, h2⟩ := and2 h
  exact ⟨of_decide_eq_true (p := X.env.scope.names.lookup x = some .globalImplicit) h1, by simpa using h2⟩
theorem vis_ok {sc : Scope} {x : Str} (h : visB sc x = true) : Vis sc x ∧ (x == ("__debug__" : Str)) = false ∧ (x == ("__classdict__" : Str)) = false := by
  obtain ⟨h, h3⟩ := and2 h
  obtain ⟨h1, h2⟩ := and2 h
  refine ⟨?_, by simpa using h2, by simpa using h3⟩
  rw [Bool.or_eq_true, Bool.or_eq_true] at h1
  rcases h1 with (h1 | h1) | h1
  · exact .inl (of_decide_eq_true h1)
  · exact .inr (.inl (of_decide_eq_true h1))
  · exact .inr (.inr (of_decide_eq_true h1))

/-- a test by its value -/
def notCmp : Expr → Bool
  | .Compare .. => false | .BoolOp .. => false | .UnaryOp .. => false | .IfExp .. => false | .NamedExpr .. => false
  | _ => true
section
variable {G : GI} {Γ : Gm} {X : Cx} {k : Nat} {W : WX}
abbrev RE (X : Cx) (G : GI) (W : WX) (pe : Expr) (b : BE × BT) : Prop := PE X pe (liftE G W b.1) ∧ PT X pe (liftT G W b.2)

theorem pt_false {pe : Expr} : PT X pe (liftT G W fun _ _ _ _ => False) := ⟨fun _ _ _ _ _ _ h => by
  obtain ⟨_, _, _, _, _, _, _, _, _, h⟩ := h
  exact h.elim⟩
theorem pe_false {pe : Expr} : PE X pe (liftE G W fun _ _ _ _ => False) := ⟨fun _ _ _ _ _ _ h => by
  obtain ⟨_, _, _, _, _, _, _, _, _, h⟩ := h
  exact h.elim⟩
theorem pt_tru (hK : G.K = X.K) {pe : Expr} {b : BE} (he : PE X pe (liftE G W b)) (hh : ∀ whole, isTrue pe X.env whole = (do let v ← whole; standAt pe.pos; holding [v] (truthy v))) : PT X pe (liftT G W (truT b)) :=
  PT.imp (pt_truth he hh) fun σ H Qh ⟨F, τ, M, Q, E, A, rs, up, xw, h⟩ => thenE A rs xw h fun x F1 M1 H1 v e a _ _ r ⟨k, hk, hl, q⟩ =>
    ⟨k, tru_at hK a r hk (fun z hz => by subst hz; exact hl), up k F1 M1 H1 e a q⟩
theorem pt_bl {pe : Expr} {b : BE} (he : PE X pe (liftE G W b)) (hh : ∀ whole, isTrue pe X.env whole = (do let v ← whole; standAt pe.pos; holding [v] (truthy v))) : PT X pe (liftT G W (blT b)) :=
  PT.imp (pt_val he hh) fun σ H Qh ⟨F, τ, M, Q, E, A, rs, up, xw, h⟩ => thenE A rs xw h fun x F1 M1 H1 v e a _ _ r ⟨k, hk, q⟩ => by
    subst hk
    cases r
    exact ⟨k, rfl, up k F1 M1 H1 e a q⟩
/-- a value whose truth is asked -/
theorem re_tru (hK : G.K = X.K) {pe : Expr} {b : BE} (he : PE X pe (liftE G W b)) (hh : ∀ whole, isTrue pe X.env whole = (do let v ← whole; standAt pe.pos; holding [v] (truthy v))) : RE X G W pe (b, truT b) := ⟨he, pt_tru hK he hh⟩

/-! ### leaves -/
theorem e_k {c : Ck} {d : Const} {j : Nat} {p : Pos} (h : c.is d = true) : PE X (.Constant d j p) (liftE G W fun _ M Q _ => Q c.pv M) := by
  cases c with
  | non => cases d <;> first | (cases h; done) | exact PE.imp (pe_non) fun σ H Qh ⟨F, τ, M, Q, E, A, rs, up, xw, h⟩ => up _ _ _ _ _ .refl A .non h
  | bl b => cases d <;> first | (cases h; done) | skip
            rename_i b2
            have e : b = b2 := by simpa using (show (b == b2) = true from h)
            subst e
            exact PE.imp (pe_bl) fun σ H Qh ⟨F, τ, M, Q, E, A, rs, up, xw, h⟩ => up _ _ _ _ _ .refl A (.bl _) h
  | int i => cases d <;> first | (cases h; done) | skip
             rename_i b2
             have e : i = b2 := by simpa using (show (i == b2) = true from h)
             subst e
             exact PE.imp (pe_int) fun σ H Qh ⟨F, τ, M, Q, E, A, rs, up, xw, h⟩ => up _ _ _ _ _ .refl A (.int _) h
  | str x => cases d <;> first | (cases h; done) | skip
             rename_i b2
             have e : x = b2 := of_decide_eq_true h
             subst e
             exact PE.imp (pe_str) fun σ H Qh ⟨F, τ, M, Q, E, A, rs, up, xw, h⟩ => up _ _ _ _ _ .refl A (.str _) h
theorem e_v {i : Nat} {x : Str} {p : Pos} (h1 : ixB X.N i x = true) (h2 : visB X.env.scope x = true) : PE X (.Name x p) (liftE G W fun τ M Q _ => ∃ x, τ[i]? = some (some x) ∧ Q x M) := by
  obtain ⟨v1, v2, v3⟩ := vis_ok h2
  refine PE.imp (pe_var (of_decide_eq_true h1) v1 v2 v3) fun σ H Qh ⟨F, τ, M, Q, E, A, rs, up, xw, y, hy, h⟩ => ?_
  obtain ⟨v, hv, r⟩ := rs.at_ i y hy
  exact ⟨v, hv, up _ _ _ _ _ .refl A r h⟩
theorem e_g (c : Cok X G Γ k W) {n : Nat} {x : Str} {p : Pos} (h1 : G.nm n = x) (h2 : glB X.env.scope x = true) : PE X (.Name x p) (liftE G W fun _ M Q _ => ∃ x, Γ.gl n = some x ∧ Q x M) := by
  obtain ⟨g1, g2⟩ := gl_ok h2
  refine ⟨fun pins s σ H Qh I ⟨F, τ, M, Q, E, A, rs, up, xw, y, hy, h⟩ => ?_⟩
  obtain ⟨u, v, hm, r, rep⟩ := c.gm.gl n y hy
  rw [h1] at hm
  exact (pe_glob g1 hm r g2).run pins s σ H Qh I (up y F M H v .refl A (rep G.er F) h)

/-! ### operators -/
theorem e_bin (hK : G.K = X.K) {mu : Bool} {op : Operator} {x y : Expr} {p : Pos} {ba bb : BE} (ha : PE X x (liftE G W ba)) (hb : PE X y (liftE G W bb)) :
    PE X (.BinOp x op y p) (liftE G W fun τ M Q E => ba τ M (fun x M1 => bb τ M1 (fun y M2 => binR mu op x y M2 Q) E) E) :=
  PE.imp (pe_op (ob_bin (mu := mu) op hK) ha hb) fun σ H Qh ⟨F, τ, M, Q, E, A, rs, up, xw, h⟩ => thenE A rs xw h fun x F1 M1 H1 v e a s1 x1 r h1 => thenE a s1 x1 h1 fun y F2 M2 H2 u e2 a2 _ _ r2 h2 =>
    ⟨F2, M2, x, y, Q, a2, r.mono e2.sub, r2, (Up.on (show Up G F M H Q Qh from up) e).on e2, h2⟩
theorem e_un {op : UnaryOp} {x : Expr} {p : Pos} {ba : BE} (ha : PE X x (liftE G W ba)) : PE X (.UnaryOp op x p) (liftE G W fun τ M Q E => ba τ M (fun x M1 => unR op x M1 Q) E) := by
  have un : UnR X (unaryOp op) (fun v H Qh => ∃ F M x Q, At G F M H ∧ RepV G F x v ∧ Up G F M H Q Qh ∧ unR op x M Q) := fun pins s σ H v vv Qh I rv ⟨F, M, x, Q, A, r, up, h⟩ => ob_un op I A r rv up h
  exact PE.imp (pe_un un ha) fun σ H Qh ⟨F, τ, M, Q, E, A, rs, up, xw, h⟩ => thenE A rs xw h fun x F1 M1 H1 v e a _ _ r h1 => ⟨F1, M1, x, Q, a, r, Up.on (show Up G F M H Q Qh from up) e, h1⟩
theorem e_not (hK : G.K = X.K) {x : Expr} {p : Pos} {ba : BE} {bt : BT} (ha : RE X G W x (ba, bt)) : RE X G W (.UnaryOp .Not x p) (fun τ M Q E => truT ba τ M (fun k M1 => Q (.bl (!k)) M1) E, fun τ M Q E => bt τ M (fun k M1 => Q (!k) M1) E) := by
  constructor
  · exact PE.imp (pe_notT ha.1) fun σ H Qh ⟨F, τ, M, Q, E, A, rs, up, xw, h⟩ => thenE A rs xw h fun x F1 M1 H1 v e a _ _ r ⟨k, hk, hl, q⟩ =>
      ⟨k, tru_at hK a r hk (fun z hz => by subst hz; exact hl), up _ F1 M1 H1 _ e a (.bl _) q⟩
  · exact PT.imp (pt_not ha.2) fun σ H Qh ⟨F, τ, M, Q, E, A, rs, up, xw, h⟩ => thenT A rs xw h fun k F1 M1 H1 e a _ _ q => up _ F1 M1 H1 e a q
theorem room65 (c : Cok X G Γ k W) : X.A.units + 65 < cLine := by have := c.room.un; omega
theorem e_cmp (c : Cok X G Γ k W) {op : CmpOp} {x y : Expr} {p : Pos} {ba bb : BE} (ha : PE X x (liftE G W ba)) (hb : PE X y (liftE G W bb)) (hm : behindInMarks op y = false) :
    let b : BE := fun τ M Q E => ba τ M (fun x M1 => bb τ M1 (fun y M2 => cmpR op x y M2 Q) E) E
    RE X G W (.Compare x [op] [y] p) (b, blT b) := by
  have step : ∀ {σ H} {Qh : VK} {F τ M Q E}, At G F M H → RelS G F τ σ → Up G F M H Q Qh → ExW G W F M H σ E → ba τ M (fun x M1 => bb τ M1 (fun y M2 => cmpR op x y M2 Q) E) E → tOp (liftR G (cmpR op)) (liftE G W ba) (liftE G W bb) σ H Qh :=
    fun {σ H Qh F τ M Q E} A rs up xw h => thenE A rs xw h fun x F1 M1 H1 v e a s1 x1 r h1 => thenE a s1 x1 h1 fun y F2 M2 H2 u e2 a2 _ _ r2 h2 => ⟨F2, M2, x, y, Q, a2, r.mono e2.sub, r2, (up.on e).on e2, h2⟩
  constructor
  · exact PE.imp (pe_cmpR (ob_cmp op (room65 c) c.gm.gk) ha hb hm) fun σ H Qh ⟨F, τ, M, Q, E, A, rs, up, xw, h⟩ => step A rs up xw h
  · refine PT.imp (pt_cmpR (ob_cmp op (room65 c) c.gm.gk) ha hb hm) fun σ H Qh ⟨F, τ, M, Q, E, A, rs, up, xw, h⟩ => step A rs ?_ xw h
    intro x F1 M1 H1 v e a r ⟨k, hk, q⟩
    subst hk
    cases r
    exact ⟨k, rfl, up k F1 M1 H1 e a q⟩
theorem e_chn (c : Cok X G Γ k W) {o1 o2 : CmpOp} {x y z : Expr} {p : Pos} {ba bb bc : BE} (ha : PE X x (liftE G W ba)) (hb : PE X y (liftE G W bb)) (hc : PE X z (liftE G W bc)) (hm : lastMarks [o1, o2] [y, z] = false) :
    let b : BE := fun τ M Q E => ba τ M (fun x M1 => bb τ M1 (fun y M2 => cmpR o1 x y M2 fun z M3 => ∃ k, z = .bl k ∧ (k = true → bc τ M3 (fun w M4 => cmpR o2 y w M4 Q) E) ∧ (k = false → Q (.bl false) M3)) E) E
    RE X G W (.Compare x [o1, o2] [y, z] p) (b, blT b) := by
  have step : ∀ {σ H} {Qh : VK} {F τ M Q E}, At G F M H → RelS G F τ σ → Up G F M H Q Qh → ExW G W F M H σ E →
      ba τ M (fun x M1 => bb τ M1 (fun y M2 => cmpR o1 x y M2 fun z M3 => ∃ k, z = .bl k ∧ (k = true → bc τ M3 (fun w M4 => cmpR o2 y w M4 Q) E) ∧ (k = false → Q (.bl false) M3)) E) E →
      tChain (liftR G (cmpR o1)) (liftR G (cmpR o2)) (liftE G W ba) (liftE G W bb) (liftE G W bc) σ H Qh := by
    intro σ H Qh F τ M Q E A rs up xw h
    refine thenE A rs xw h fun x F1 M1 H1 v e a s1 x1 r h1 => thenE a s1 x1 h1 fun y F2 M2 H2 u e2 a2 s2 x2 r2 h2 => ⟨F2, M2, x, y, _, a2, r.mono e2.sub, r2, ?_, h2⟩
    intro zz F3 M3 H3 vz e3 a3 r3 ⟨kk, hk, h3, h4⟩
    subst hk
    cases r3
    refine ⟨kk, rfl, ?_⟩
    cases kk with
    | true =>
      rw [if_pos rfl]
      exact thenE a3 (s2.mono e3.sub) (x2.on e3) (h3 rfl) fun w F4 M4 H4 vw e4 a4 _ _ r4 h5 => ⟨F4, M4, y, w, Q, a4, (r2.mono e3.sub).mono e4.sub, r4, (((up.on e).on e2).on e3).on e4, h5⟩
    | false =>
      rw [if_neg (by decide)]
      exact (((up.on e).on e2).on e3).here a3 (.bl false) (h4 rfl)
  constructor
  · exact PE.imp (pe_chain (ob_cmp o1 (room65 c) c.gm.gk) (ob_cmp o2 (room65 c) c.gm.gk) ha hb hc hm) fun σ H Qh ⟨F, τ, M, Q, E, A, rs, up, xw, h⟩ => step A rs up xw h
  · refine PT.imp (pt_chain (ob_cmp o1 (room65 c) c.gm.gk) (ob_cmp o2 (room65 c) c.gm.gk) ha hb hc hm) fun σ H Qh ⟨F, τ, M, Q, E, A, rs, up, xw, h⟩ => step A rs ?_ xw h
    intro x F1 M1 H1 v e a r ⟨k, hk, q⟩
    subst hk
    cases r
    exact ⟨k, rfl, up k F1 M1 H1 e a q⟩
theorem e_ife {t x y : Expr} {p : Pos} {bt : BT} {ba bb : BE} (ht : PT X t (liftT G W bt)) (ha : PE X x (liftE G W ba)) (hb : PE X y (liftE G W bb)) :
    PE X (.IfExp t x y p) (liftE G W fun τ M Q E => bt τ M (fun k M1 => (k = true → ba τ M1 Q E) ∧ (k = false → bb τ M1 Q E)) E) := by
  refine PE.imp (pe_ifExp ht ha hb) fun σ H Qh ⟨F, τ, M, Q, E, A, rs, up, xw, h⟩ => thenT A rs xw h fun kk F1 M1 H1 e a s1 x1 ⟨h1, h2⟩ => ?_
  have up' := Up.on (show Up G F M H Q Qh from up) e
  cases kk with
  | true => exact ⟨F1, τ, M1, Q, E, a, s1, up', x1, h1 rfl⟩
  | false => exact ⟨F1, τ, M1, Q, E, a, s1, up', x1, h2 rfl⟩

/-! ### displays, places, slices -/
theorem a_nil : PA X [] (liftA G W fun _ M Q _ => Q [] M) := PA.imp (pa_nil) fun σ H Qh ⟨F, τ, M, Q, E, A, rs, up, xw, h⟩ => up [] F M H [] .refl A .nil h
theorem a_cons {x : Expr} {xs : List Expr} {ba : BE} {b : BA} (ha : PE X x (liftE G W ba)) (hx : okHd x = true) (hr : PA X xs (liftA G W b)) : PA X (x :: xs) (liftA G W fun τ M Q E => ba τ M (fun x M1 => b τ M1 (fun xs M2 => Q (x :: xs) M2) E) E) :=
  PA.imp (pa_cons ha hr (star_plain X.env hx xs)) fun σ H Qh ⟨F, τ, M, Q, E, A, rs, up, xw, h⟩ => thenE A rs xw h fun x F1 M1 H1 v e a s1 x1 r h1 => thenA a s1 x1 h1 fun xs F2 M2 H2 vs e2 a2 _ _ r2 h2 => up _ F2 M2 H2 _ (e.trans e2) a2 (.cons (r.mono e2.sub) r2) h2
theorem a_star (hK : G.K = X.K) {x : Expr} {xs : List Expr} {p : Pos} {ba : BE} {b : BA} (ha : PE X x (liftE G W ba)) (hr : PA X xs (liftA G W b)) :
    PA X (.Starred x p :: xs) (liftA G W fun τ M Q E => ba τ M (fun x M1 => ∃ ys, seqOf M1 x = some ys ∧ b τ M1 (fun xs M2 => Q (ys ++ xs) M2) E) E) :=
  PA.imp (StX.pa_star ha hr rfl) fun σ H Qh ⟨F, τ, M, Q, E, A, rs, up, xw, h⟩ => thenE A rs xw h fun x F1 M1 H1 v e a s1 x1 r ⟨ys, hy, h1⟩ => by
    obtain ⟨q, ws, ev, hs, t⟩ := seqOf_ok a r hy
    rw [hK] at hs
    refine ⟨q, ws, ev, hs.symm, thenA a s1 x1 h1 fun xs F2 M2 H2 vs e2 a2 _ _ r2 h2 => up _ F2 M2 H2 _ (e.trans e2) a2 ((t.mono e2.sub).append r2) h2⟩
theorem e_tup {xs : List Expr} {x1} {p : Pos} {b : BA} (ha : PA X xs (liftA G W b)) : PE X (.Tuple xs x1 p) (liftE G W fun τ M Q E => b τ M (fun xs M1 => xs.length ≤ sizeLine ∧ Q (.tup xs) M1) E) :=
  PE.imp (pe_tup ha) fun σ H Qh ⟨F, τ, M, Q, E, A, rs, up, xw, h⟩ => thenA A rs xw h fun xs F1 M1 H1 v e a s1 x1 r ⟨hz, q⟩ => ⟨by rw [← r.length]; exact hz, fun p hp => newT_ok a r (Up.on (show Up G F M H Q Qh from up) e) q p hp⟩
theorem e_lst {mu : Bool} {xs : List Expr} {p : Pos} {b : BA} (ha : PA X xs (liftA G W b)) : PE X (.List xs p) (liftE G W fun τ M Q E => b τ M (fun xs M1 => xs.length ≤ sizeLine ∧ newL mu xs M1 Q) E) :=
  PE.imp (pe_lst ha) fun σ H Qh ⟨F, τ, M, Q, E, A, rs, up, xw, h⟩ => thenA A rs xw h fun xs F1 M1 H1 v e a s1 x1 r ⟨hz, q⟩ => ⟨by rw [← r.length]; exact hz, fun p hp => newL_ok a r (Up.on (show Up G F M H Q Qh from up) e) q p hp⟩
theorem e_sub (hK : G.K = X.K) {x y : Expr} {p : Pos} {ba bb : BE} (ha : PE X x (liftE G W ba)) (hb : PE X y (liftE G W bb)) (hy : okHd y = true) :
    PE X (.Subscript x y p) (liftE G W fun τ M Q E => ba τ M (fun x M1 => bb τ M1 (fun y M2 => ixR x y M2 Q) E) E) :=
  PE.imp (pe_ix (ob_ix hK) ha hb (ix_plain hy)) fun σ H Qh ⟨F, τ, M, Q, E, A, rs, up, xw, h⟩ => thenE A rs xw h fun x F1 M1 H1 v e a s1 x1 r h1 => thenE a s1 x1 h1 fun y F2 M2 H2 u e2 a2 _ _ r2 h2 =>
    ⟨F2, M2, x, y, Q, a2, r.mono e2.sub, r2, (Up.on (show Up G F M H Q Qh from up) e).on e2, h2⟩
abbrev BO := Sl → MHp → (Option Int → MHp → Prop) → BX → Prop
def liftO (G : GI) (W : WX) (b : BO) : TO := fun σ H Qh => ∃ F τ M Q E, At G F M H ∧ RelS G F τ σ ∧ (∀ x F1 M1 H1, Ev F M H F1 M1 H1 → At G F1 M1 H1 → Q x M1 → Qh x H1) ∧ ExW G W F M H σ E ∧ b τ M Q E
theorem o_none : PO X none (liftO G W fun _ M Q _ => Q none M) := ⟨fun pins s σ H Qh I ⟨F, τ, M, Q, E, A, rs, up, xw, h⟩ => po_none.run pins s σ H Qh I (up none F M H .refl A h)⟩
theorem o_some {x : Expr} {b : BE} (ha : PE X x (liftE G W b)) : PO X (some x) (liftO G W fun τ M Q E => b τ M (fun x M1 => ∃ i, x = .int i ∧ Q (some i) M1) E) :=
  ⟨fun pins s σ H Qh I ⟨F, τ, M, Q, E, A, rs, up, xw, h⟩ => (po_some ha).run pins s σ H Qh I (thenE A rs xw h fun x F1 M1 H1 v e a _ _ r ⟨i, hi, q⟩ => by
    subst hi
    cases r
    exact ⟨i, rfl, up _ F1 M1 H1 e a q⟩)⟩
theorem e_sl (hK : G.K = X.K) {mu : Bool} {x : Expr} {lo hi : Option Expr} {p p2 : Pos} {ba : BE} {bl bh : BO} (ha : PE X x (liftE G W ba)) (hl : PO X lo (liftO G W bl)) (hh : PO X hi (liftO G W bh)) :
    PE X (.Subscript x (.Slice lo hi none p2) p) (liftE G W fun τ M Q E => ba τ M (fun x M1 => bl τ M1 (fun l M2 => bh τ M2 (fun h M3 => slR mu x l h M3 Q) E) E) E) :=
  PE.imp (pe_slice (ob_sl (mu := mu) hK) ha hl hh) fun σ H Qh ⟨F, τ, M, Q, E, A, rs, up, xw, h⟩ => thenE A rs xw h fun x F1 M1 H1 v e a s1 x1 r h1 =>
    ⟨F1, τ, M1, _, E, a, s1, fun l F2 M2 H2 e2 a2 h2 => ⟨F2, τ, M2, _, E, a2, s1.mono e2.sub, fun hh F3 M3 H3 e3 a3 h3 => ⟨F3, M3, x, Q, a3, (r.mono e2.sub).mono e3.sub, ((Up.on (show Up G F M H Q Qh from up) e).on e2).on e3, h3⟩, x1.on e2, h2⟩, x1, h1⟩
theorem e_rev (hK : G.K = X.K) {mu : Bool} {x : Expr} {j : Nat} {p1 p2 p3 p : Pos} {ba : BE} (ha : PE X x (liftE G W ba)) :
    PE X (.Subscript x (.Slice none none (some (.UnaryOp .USub (.Constant (.int 1) j p1) p2)) p3) p) (liftE G W fun τ M Q E => ba τ M (fun x M1 => ∃ xs, lstOf M1 x = some xs ∧ xs.length ≤ sizeLine ∧ newL mu xs.reverse M1 Q) E) :=
  PE.imp (pe_revL ha) fun σ H Qh ⟨F, τ, M, Q, E, A, rs, up, xw, h⟩ => thenE A rs xw h fun x F1 M1 H1 v e a s1 x1 r ⟨xs, hx, hz, q⟩ => by
    obtain ⟨b, vs, ev, hh, t⟩ := lstOf_ok a r hx
    exact ⟨b, vs, ev, SqL.of hh, fun p hp => newL_ok a t.reverse (Up.on (show Up G F M H Q Qh from up) e) q p hp⟩

/-! ### built-in calls -/
theorem e_bi (c : Cok X G Γ k W) {mu : Bool} {f : Bf} {x : Str} {xs : List Expr} {p pos : Pos} {b : BA} (hx : f.nm = x) (hg : glB X.env.scope x = true) (ha : PA X xs (liftA G W b)) (ok : ArgsOk X xs) (nl : NilOk xs b) :
    PE X (.Call (.Name x p) xs [] pos) (liftE G W fun τ M Q E => b τ M (fun xs M1 => biR Γ mu f xs M1 Q) E) := by
  subst hx
  obtain ⟨g1, g2⟩ := gl_ok hg
  refine ⟨fun pins s σ H Qh I ⟨F, τ, M, Q, E, A, rs, up, xw, h⟩ => ?_⟩
  have up' : Up G F M H Q Qh := up
  cases xs with
  | nil =>
    have q := nl rfl _ _ _ _ h
    cases f <;> first | (obtain ⟨_, _, e, _⟩ := q; cases e; done) | (obtain ⟨_, _, _, e, _⟩ := q; cases e; done) | (obtain ⟨_, e, _⟩ := q; cases e; done) | (rcases q with ⟨_, e, _⟩ | ⟨_, e, _⟩ <;> cases e; done) | (rcases q with ⟨_, e, _⟩ | ⟨_, _, e, _⟩ <;> cases e; done) | exact q.elim
  | cons e r =>
    have st := ok.st e r rfl
    have tl := ok.tail
    have hm := c.gm.bf f
    have args : tCB (liftC G (biR Γ mu f)) (liftA G W b) σ H Qh := thenA A rs xw h fun ys F1 M1 H1 vs e1 a1 _ _ r1 q => ⟨F1, M1, ys, Q, a1, r1, up'.on e1, q⟩
    have ob := ob_bi (Γ := Γ) (mu := mu) f (fun h => (c.cold h).1) c.gm.gk
    cases hv : f.val with
    | builtin id => 
      rw [hv] at ob
      exact (pe_callB ob g1 hm (by rw [Bf.boot, hv]) ha f.named g2 st (tl pos)).run pins s σ H Qh I args
    | type T =>
      rw [hv] at ob
      exact (pe_callTy ob g1 hm (by rw [Bf.boot, hv]) ha f.named g2 st (tl pos)).run pins s σ H Qh I args
    | _ => cases f <;> cases hv
theorem bm_slot : ∀ f : Bm, f.id ≠ "" → (f = .join → Slot "str" f.nm f.id) ∧ (f ≠ .join → Slot "list" f.nm f.id) ∧ typeOf (.builtin f.id) = pure (.type "method_descriptor")
  | .append, _ => ⟨(fun h => nomatch h), fun _ => PySem.F.slot_list_append, PySem.F.type_list_append⟩
  | .pop, _ => ⟨(fun h => nomatch h), fun _ => PySem.F.slot_list_pop, PySem.F.type_list_pop⟩
  | .clear, _ => ⟨(fun h => nomatch h), fun _ => PySem.F.slot_list_clear, PySem.F.type_list_clear⟩
  | .insert, _ => ⟨(fun h => nomatch h), fun _ => PySem.F.slot_list_insert, PySem.F.type_list_insert⟩
  | .join, _ => ⟨fun _ => PySem.F.slot_str_join, fun h => absurd rfl h, PySem.F.type_str_join⟩
  | .extend, h => absurd rfl h | .index, h => absurd rfl h | .get, h => absurd rfl h | .remove, h => absurd rfl h | .reverse, h => absurd rfl h | .items, h => absurd rfl h | .keys, h => absurd rfl h | .values, h => absurd rfl h | .sort, h => absurd rfl h
theorem e_bm (c : Cok X G Γ k W) {o : Expr} {f : Bm} {y : Str} {ap pos : Pos} {xs : List Expr} {bo : BE} {b : BA} (ho : PE X o (liftE G W bo)) (hy : f.nm = y) (hb : nbB o = true) (hl : ap.endLine = pos.line) (hn : xs.length < 30) (ha : PA X xs (liftA G W b)) (ok : ArgsOk X xs) (nl : NilOk xs b) :
    PE X (.Call (.Attribute o y ap) xs [] pos) (liftE G W fun τ M Q E => bo τ M (fun x M1 => bmT f x M1 ∧ b τ M1 (fun xs M2 => bmR x f xs M2 Q) E) E) := by
  subst hy
  have hK := c.gm.gk
  by_cases hid : f.id = ""
  · refine ⟨fun pins s σ H Qh I ⟨F, τ, M, Q, E, A, rs, up, xw, h⟩ => ?_⟩
    refine PySem.W.methodCall_KW (pl := do return (← importBound o X.env).getD true) (thn (ho.run pins s σ H _ I (thenE A rs xw h (Kn := fun _ _ => False) fun x F1 M1 H1 v e a _ _ r q => ?_)) fun u s1 ⟨v, H1, I1, rv, q⟩ => q.elim) (meth_eq hb hl hn (ok.pl pos))
    obtain ⟨q, _⟩ := q
    cases f <;> first | exact q.elim | (revert hid; decide)
  obtain ⟨sj, sl, ty⟩ := bm_slot f hid
  have hline : (ap.endLine == pos.line) = true := by simpa using hl
  have read : ∀ (T : String), ((f = .join ∧ T = "str") ∨ (f ≠ .join ∧ T = "list")) → ∀ {σ H} {Qh : VK} {F τ M Q E}, At G F M H → RelS G F τ σ → Up G F M H Q Qh → ExW G W F M H σ E → bo τ M (fun x M1 => bmT f x M1 ∧ b τ M1 (fun xs M2 => bmR x f xs M2 Q) E) E →
      tBM X.K T (fun x vs H Qh => ∃ F M px xs Q, At G F M H ∧ RepV G F px x ∧ RepVs G F xs vs ∧ Up G F M H Q Qh ∧ bmR px f xs M Q) (liftE G W bo) (liftA G W b) σ H Qh := by
    intro T hT σ H Qh F τ M Q E A rs up xw h
    refine thenE A rs xw h fun x F1 M1 H1 v e a s1 x1 r ⟨h1, h2⟩ => ⟨?_, thenA a s1 x1 h2 fun xs F2 M2 H2 vs e2 a2 _ _ r2 h3 => ⟨F2, M2, x, xs, Q, a2, r.mono e2.sub, r2, (up.on e).on e2, h3⟩⟩
    rcases bmT_ty f hK a r h1 with ⟨j1, j2⟩ | ⟨j1, j2⟩
    · rcases hT with ⟨_, rfl⟩ | ⟨j3, _⟩
      · exact j2
      · exact absurd j1 j3
    · rcases hT with ⟨j3, _⟩ | ⟨_, rfl⟩
      · exact absurd j3 j1
      · exact j2
  have main : ∀ (T : String), ((f = .join ∧ T = "str") ∨ (f ≠ .join ∧ T = "list")) → PlainAttrs T → Slot T f.nm f.id → PE X (.Call (.Attribute o f.nm ap) xs [] pos) (liftE G W fun τ M Q E => bo τ M (fun x M1 => bmT f x M1 ∧ b τ M1 (fun xs M2 => bmR x f xs M2 Q) E) E) := by
    intro T hT pa slot
    cases xs with
    | nil =>
      refine PE.imp (pe_bm0 pa slot ty (ob_bm f hK) ho (base_nb hb) hline) fun σ H Qh ⟨F, τ, M, Q, E, A, rs, up, xw, h⟩ => ?_
      refine thenE A rs xw h fun x F1 M1 H1 v e a s1 x1 r ⟨h1, h2⟩ => ⟨?_, F1, M1, x, [], Q, a, r, .nil, Up.on (show Up G F M H Q Qh from up) e, nl rfl _ _ _ _ h2⟩
      rcases bmT_ty f hK a r h1 with ⟨j1, j2⟩ | ⟨j1, j2⟩
      · rcases hT with ⟨_, rfl⟩ | ⟨j3, _⟩
        · exact j2
        · exact absurd j1 j3
      · rcases hT with ⟨j3, _⟩ | ⟨_, rfl⟩
        · exact absurd j3 j1
        · exact j2
    | cons e r =>
      have hfew : ((backTo pos (starEach (e :: r) X.env)).all (fun x => !x.1) && (backToKw pos (keywordEach [] X.env)).all (fun x => x.1.isSome) && decide ((e :: r).length + ([] : List Keyword).length + (if ([] : List Keyword).isEmpty then 0 else 1) < 30)) = true := by
        rw [all_noStar (ok.pl pos)]
        show (true && true && decide ((e :: r).length + 0 + 0 < 30)) = true
        rw [decide_eq_true (by omega)]
        rfl
      exact PE.imp (pe_bm pa slot ty (ob_bm f hK) ho ha (base_nb hb) hfew hline (ok.st e r rfl) (ok.tail pos)) fun σ H Qh ⟨F, τ, M, Q, E, A, rs, up, xw, h⟩ => read T hT A rs up xw h
  by_cases hj : f = .join
  · exact main "str" (.inl ⟨hj, rfl⟩) PySem.F.plainAttrs_str (sj hj)
  · exact main "list" (.inr ⟨hj, rfl⟩) PySem.F.plainAttrs_list (sl hj)

/-! ### own == and str, sorted(set(..)), list(reversed(..)) -/
theorem e_oeq (c : Cok X G Γ k W) {ne : Bool} {x y : Expr} {p : Pos} {ba bb : BE} (ha : PE X x (liftE G W ba)) (hb : PE X y (liftE G W bb)) (hm : behindInMarks (if ne then CmpOp.NotEq else .Eq) y = false) :
    let b : BE := fun τ M Q E => ba τ M (fun x M1 => bb τ M1 (fun y M2 => oeqR Γ ne x y M2 Q) E) E
    RE X G W (.Compare x [if ne then CmpOp.NotEq else .Eq] [y] p) (b, blT b) := by
  have step : ∀ {σ H} {Qh : VK} {F τ M Q E}, At G F M H → RelS G F τ σ → Up G F M H Q Qh → ExW G W F M H σ E → ba τ M (fun x M1 => bb τ M1 (fun y M2 => oeqR Γ ne x y M2 Q) E) E → tOp (liftR G (oeqR Γ ne)) (liftE G W ba) (liftE G W bb) σ H Qh :=
    fun {σ H Qh F τ M Q E} A rs up xw h => thenE A rs xw h fun x F1 M1 H1 v e a s1 x1 r h1 => thenE a s1 x1 h1 fun y F2 M2 H2 u e2 a2 _ _ r2 h2 => ⟨F2, M2, x, y, Q, a2, r.mono e2.sub, r2, (up.on e).on e2, h2⟩
  constructor
  · exact PE.imp (pe_cmpR (ob_oeq c ne) ha hb hm) fun σ H Qh ⟨F, τ, M, Q, E, A, rs, up, xw, h⟩ => step A rs up xw h
  · refine PT.imp (pt_cmpR (ob_oeq c ne) ha hb hm) fun σ H Qh ⟨F, τ, M, Q, E, A, rs, up, xw, h⟩ => step A rs ?_ xw h
    intro x F1 M1 H1 v e a r ⟨k, hk, q⟩
    subst hk
    cases r
    exact ⟨k, rfl, up k F1 M1 H1 e a q⟩
theorem one_args {x : Expr} (h : okHd x = true) : starEach [x] X.env = (false, eval x X.env) :: starEach [] X.env := star_plain X.env h []
theorem e_ostr (c : Cok X G Γ k W) {f : Str} {x : Expr} {p pos : Pos} {ba : BE} (hf : f = ("str" : Str)) (hg : glB X.env.scope f = true) (ha : PE X x (liftE G W ba)) (hx : okHd x = true) :
    PE X (.Call (.Name f p) [x] [] pos) (liftE G W fun τ M Q E => ba τ M (fun x M1 => ostR Γ x M1 Q) E) := by
  obtain ⟨g1, g2⟩ := gl_ok hg
  have pa : PA X [x] (liftA G W fun τ M Qs E => ba τ M (fun x M1 => Qs [x] M1) E) := by
    have q := a_cons ha hx (a_nil (X := X) (G := G) (W := W))
    exact q
  have hm := c.gm.bf .str
  subst hf
  refine ⟨fun pins s σ H Qh I ⟨F, τ, M, Q, E, A, rs, up, xw, h⟩ => ?_⟩
  have up' : Up G F M H Q Qh := up
  have args : tCB (liftC G fun xs M Q => ∃ x, xs = [x] ∧ ostR Γ x M Q) (liftA G W fun τ M Qs E => ba τ M (fun x M1 => Qs [x] M1) E) σ H Qh := thenA (R := fun xs M1 => ∃ x, xs = [x] ∧ ostR Γ x M1 Q) A rs xw
    (show ba τ M (fun x M1 => ∃ x', [x] = [x'] ∧ ostR Γ x' M1 Q) E from by
      have e : (fun x M1 => ∃ x', [x] = [x'] ∧ ostR Γ x' M1 Q) = fun x M1 => ostR Γ x M1 Q := by
        funext x M1
        simp
      rw [e]; exact h) fun ys F1 M1 H1 vs e1 a1 _ _ r1 q => ⟨F1, M1, ys, Q, a1, r1, up'.on e1, q⟩
  exact (pe_callTy (ob_ostr c) g1 hm (by decide +kernel) pa (by decide +kernel) g2 (one_args hx) rfl).run pins s σ H Qh I args
theorem val_str : ∀ {ys : List Str} {us : List Value}, Vals (ys.map V.str) us → ∀ (i : Nat) (v : Value), us[i]? = some v → ∃ k : Str, ys[i]? = some k ∧ Value.isStrOf k v = true
  | [], _, .nil, i, v, h => by simp at h
  | y :: ys, _, .cons r t, i, v, h => by
    obtain ⟨tk, rfl⟩ := r
    cases i with
    | zero =>
      simp at h
      subst h
      exact ⟨y, rfl, by simp [Value.isStrOf]⟩
    | succ i =>
      obtain ⟨k, h1, h2⟩ := val_str t i v (by simpa using h)
      exact ⟨k, by simpa using h1, h2⟩
theorem val_int : ∀ {ys : List Int} {us : List Value}, Vals (ys.map V.int) us → ∀ (i : Nat) (v : Value), us[i]? = some v → ∃ k : Int, ys[i]? = some k ∧ Value.isInt k v = true
  | [], _, .nil, i, v, h => by simp at h
  | y :: ys, _, .cons r t, i, v, h => by
    obtain ⟨tk, rfl⟩ := r
    cases i with
    | zero =>
      simp at h
      subst h
      exact ⟨y, rfl, by simp [Value.isInt]⟩
    | succ i =>
      obtain ⟨k, h1, h2⟩ := val_int t i v (by simpa using h)
      exact ⟨k, by simpa using h1, h2⟩
/-- a new list at p, nothing else touched -/
theorem laidL {pins : List (Addr × Obj)} {σ : L2.St} {H : Hp} {s s' : Shared} {p : Addr} {vs : List V} {out : List Value} {cc : Nat} (I : Inv X pins σ H s) (k : ∀ b o, s.heap.get? b = some o → s'.heap.get? b = some o) (hg : s'.gens = s.gens) (ho : s'.os = s.os) (hp : s.heap.objs.size ≤ p)
    (hl : vs.length ≤ sizeLine) (hv : Vals vs out) (hh : s'.heap.get? p = some { cls := .type "list", data := .seq out.toArray cc }) : H p = none ∧ Inv X pins σ (upd H p (.lst vs)) s' := by
  have hn : H p = none := I.hok.fresh hp
  have J : Inv X pins σ (upd H p (.lst vs)) { s with heap := s'.heap, gens := s'.gens, drawn := s'.drawn, toks := s'.toks } :=
    I.call (ch := []) (Un.laid k hp hn) (I.hok.laid k hp ⟨hl, out, cc, hv, hh⟩) (by rw [hg]; exact I.bare) (fun _ z => nomatch z)
  have e : s' = { s with heap := s'.heap, gens := s'.gens, drawn := s'.drawn, toks := s'.toks } := by
    cases s'
    cases s
    cases ho
    rfl
  rw [e]
  exact ⟨hn, J⟩
theorem e_sset (c : Cok X G Γ k W) {mu : Bool} {f f2 : Str} {x : Expr} {p p2 q pos : Pos} {ba : BE} (hf : f = ("sorted" : Str)) (hf2 : f2 = ("set" : Str)) (hg : glB X.env.scope f = true) (hg2 : glB X.env.scope f2 = true) (ha : PE X x (liftE G W ba)) (hx : okHd x = true) :
    PE X (.Call (.Name f p) [.Call (.Name f2 p2) [x] [] q] [] pos) (liftE G W fun τ M Q E => Γ.cold = true ∧ ba τ M (fun x M1 => ssetR mu x M1 Q) E) := by
  obtain ⟨g1, _⟩ := gl_ok hg
  obtain ⟨g3, _⟩ := gl_ok hg2
  have hm := c.gm.bf .sorted
  have hm2 := c.gm.bn.2.2.2.2.2
  have hK := c.gm.gk
  subst hf hf2
  refine ⟨fun pins s σ H Qh I ⟨F, τ, M, Q, E, A, rs, up, xw, hcd, h⟩ => ?_⟩
  have up' : Up G F M H Q Qh := up
  have hc : X.calm = true := (c.cold hcd).1
  refine Call_ (ld_blt I g1 hm boot_sorted ?_)
  refine PyProof.Rows.callWith_builtin1 (PyProof.Rows.args_cons ?_ rfl) rfl rfl
  refine Call_ (ld_blt I g3 hm2 boot_set ?_)
  refine PyProof.Rows.callWith_type1 (PyProof.Rows.args_cons (thn (ha.run pins s σ H _ I (thenE A rs xw h (Kn := fun v H1 => ∃ F1 M1 x, Ev F M H F1 M1 H1 ∧ At G F1 M1 H1 ∧ RepV G F1 x v ∧ ssetR mu x M1 Q) fun x F1 M1 H1 v e a _ _ r q => ⟨F1, M1, x, e, a, r, q⟩)) fun u s1 ⟨v, H1, I1, r1, F1, M1, x, e1, A1, rx, q⟩ => PyProof.Rows.args_nil ?_) (one_args hx)) (one_args hx) rfl
  have hh : X.A.handled = none := I1.ok.hd hc
  rcases q with ⟨ys, hy, h64, q⟩ | ⟨ys, hy, h64, q⟩
  · obtain ⟨b, ws, rfl, hs, t2⟩ := seqOf_ok A1 rx hy
    cases strs_of t2
    rw [hK] at hs
    obtain rfl : u = Value.ref b := r1
    have fin : ∀ (h' : Heap) (tk m : Nat), NbA.SetG (NbA.skS X.prog X.w) h' s1.heap.objs.size (fun j => decide (j ∈ ys)) m → m ≤ ys.length → (∀ b o, s1.heap.get? b = some o → h'.get? b = some o) →
        wpAny (model X.prog X.w) X.A (spliced (backTo pos (starEach [] X.env))) (fun vs s₂ => wpAny (model X.prog X.w) X.A (call (.builtin "sorted") (Value.ref s1.heap.objs.size :: vs)) (EP X pins σ Qh) X.xe s₂) X.xe { s1 with heap := h', toks := tk } := fun h' tk m R hm hk => by
      refine PyProof.Rows.args_nil ?_
      have hlt : s1.heap.objs.size < h'.objs.size := by
        obtain ⟨o, _, _, _, ho, _⟩ := R
        exact Heap.lt_size ho
      refine NbA.sorted_setS (s := { s1 with heap := h', toks := tk }) R hh (by omega) fun s' p out cc ns k2 g2 o2 hp hout hstr pw nd mem len => ?_
      obtain ⟨hn, J⟩ := laidL (vs := ns.map V.str) (out := out.toList) (cc := cc) I1 (fun b o e => k2 b o (hk b o e)) g2 o2 (Nat.le_trans (Nat.le_of_lt hlt) hp) (by rw [List.length_map, len, sizeLine_eq]; omega) (vals_of_strs hstr) (by simpa using hout)
      exact ⟨.ref p, _, J, rfl, newL_ok A1 (reps_str ns) (up'.on e1) (q ns pw nd fun k => by rw [mem k, decide_eq_true_iff]) p hn⟩
    have fw : ys.length + 1 < scanBound := by unfold scanBound; omega
    rcases hs with hs | hs
    · obtain ⟨its, rv, pl, hz⟩ := I1.list hs
      exact NbA.call_set (T := NbA.skS X.prog X.w) false ys hh pl.isList (by rw [List.size_toArray, ← rv.length, List.length_map]) fw (fun i v hv => val_str rv i v (by simpa using hv)) fin
    · obtain ⟨its, rv, pl, hz⟩ := I1.tuple hs
      exact NbA.call_set (T := NbA.skS X.prog X.w) true ys hh pl (by rw [List.size_toArray, ← rv.length, List.length_map]) fw (fun i v hv => val_str rv i v (by simpa using hv)) fin
  · obtain ⟨b, ws, rfl, hs, t2⟩ := seqOf_ok A1 rx hy
    cases ints_of t2
    rw [hK] at hs
    obtain rfl : u = Value.ref b := r1
    have fin : ∀ (h' : Heap) (tk m : Nat), NbA.SetG (NbA.skI X.prog X.w) h' s1.heap.objs.size (fun j => decide (j ∈ ys)) m → m ≤ ys.length → (∀ b o, s1.heap.get? b = some o → h'.get? b = some o) →
        wpAny (model X.prog X.w) X.A (spliced (backTo pos (starEach [] X.env))) (fun vs s₂ => wpAny (model X.prog X.w) X.A (call (.builtin "sorted") (Value.ref s1.heap.objs.size :: vs)) (EP X pins σ Qh) X.xe s₂) X.xe { s1 with heap := h', toks := tk } := fun h' tk m R hm hk => by
      refine PyProof.Rows.args_nil ?_
      have hlt : s1.heap.objs.size < h'.objs.size := by
        obtain ⟨o, _, _, _, ho, _⟩ := R
        exact Heap.lt_size ho
      refine NbA.sorted_setI (s := { s1 with heap := h', toks := tk }) R hh (by omega) fun s' p out cc ns k2 g2 o2 hp hout hint pw mem len => ?_
      obtain ⟨hn, J⟩ := laidL (vs := ns.map V.int) (out := out.toList) (cc := cc) I1 (fun b o e => k2 b o (hk b o e)) g2 o2 (Nat.le_trans (Nat.le_of_lt hlt) hp) (by rw [List.length_map, len, sizeLine_eq]; omega) (vals_of_ints hint) (by simpa using hout)
      exact ⟨.ref p, _, J, rfl, newL_ok A1 (reps_int ns) (up'.on e1) (q ns pw fun k => by rw [mem k, decide_eq_true_iff]) p hn⟩
    have fw : ys.length + 1 < scanBound := by unfold scanBound; omega
    rcases hs with hs | hs
    · obtain ⟨its, rv, pl, hz⟩ := I1.list hs
      exact NbA.call_set (T := NbA.skI X.prog X.w) false ys hh pl.isList (by rw [List.size_toArray, ← rv.length, List.length_map]) fw (fun i v hv => val_int rv i v (by simpa using hv)) fin
    · obtain ⟨its, rv, pl, hz⟩ := I1.tuple hs
      exact NbA.call_set (T := NbA.skI X.prog X.w) true ys hh pl (by rw [List.size_toArray, ← rv.length, List.length_map]) fw (fun i v hv => val_int rv i v (by simpa using hv)) fin
theorem vals_rev : ∀ {xs : List V} {us : List Value}, Vals xs us → Vals xs.reverse us.reverse
  | [], _, .nil => .nil
  | x :: xs, _, .cons r t => by
    rw [List.reverse_cons, List.reverse_cons]
    exact (vals_rev t).append (.cons r .nil)
theorem e_lrv (c : Cok X G Γ k W) {mu : Bool} {f f2 : Str} {x : Expr} {p p2 q pos : Pos} {ba : BE} (hf : f = ("list" : Str)) (hf2 : f2 = ("reversed" : Str)) (hg : glB X.env.scope f = true) (hg2 : glB X.env.scope f2 = true) (ha : PE X x (liftE G W ba)) (hx : okHd x = true) :
    PE X (.Call (.Name f p) [.Call (.Name f2 p2) [x] [] q] [] pos) (liftE G W fun τ M Q E => Γ.cold = true ∧ ba τ M (fun x M1 => ∃ xs, lsOf M1 x = some xs ∧ newL mu xs.reverse M1 Q) E) := by
  obtain ⟨g1, _⟩ := gl_ok hg
  obtain ⟨g3, _⟩ := gl_ok hg2
  have hm := c.gm.bf .list
  have hm2 := c.gm.bn.2.2.2.1
  have hK := c.gm.gk
  subst hf hf2
  refine ⟨fun pins s σ H Qh I ⟨F, τ, M, Q, E, A, rs, up, xw, hcd, h⟩ => ?_⟩
  have up' : Up G F M H Q Qh := up
  have hc : X.calm = true := (c.cold hcd).1
  refine Call_ (ld_blt I g1 hm (Bf.boot .list) ?_)
  refine PyProof.Rows.callWith_type1 (PyProof.Rows.args_cons ?_ rfl) rfl rfl
  refine Call_ (ld_blt I g3 hm2 PyProof.Rows.boot_reversed ?_)
  refine PyProof.Rows.callWith_type1 (PyProof.Rows.args_cons (thn (ha.run pins s σ H _ I (thenE A rs xw h (Kn := fun v H1 => ∃ F1 M1 x, Ev F M H F1 M1 H1 ∧ At G F1 M1 H1 ∧ RepV G F1 x v ∧ ∃ xs, lsOf M1 x = some xs ∧ newL mu xs.reverse M1 Q) fun x F1 M1 H1 v e a _ _ r q => ⟨F1, M1, x, e, a, r, q⟩)) fun u s1 ⟨v, H1, I1, r1, F1, M1, x, e1, A1, rx, xs, hxs, q⟩ => PyProof.Rows.args_nil ?_) (one_args hx)) (one_args hx) rfl
  have hh : X.A.handled = none := I1.ok.hd hc
  obtain ⟨b, ws, rfl, hs, t2⟩ := lsOf_ok A1 rx hxs
  rw [hK] at hs
  obtain rfl : u = Value.ref b := r1
  obtain ⟨its, rv, pl, hz⟩ := I1.list hs
  have hl := pl.isList
  have hlt : b < s1.heap.objs.size := by
    obtain ⟨o, ho, _⟩ := hl
    exact Heap.lt_size ho
  refine call_reversed_list hl (PyProof.Rows.args_nil ?_)
  have hpu : ∀ b o, s1.heap.get? b = some o → (s1.heap.push (revObj b ((its.toArray.size : Int) - 1))).get? b = some o := fun b o e => Heap.get?_push_of_some _ e
  refine NbA.call_list_rev (s := { s1 with heap := s1.heap.push (revObj b ((its.toArray.size : Int) - 1)) }) (it := s1.heap.objs.size) hh ⟨_, Heap.get?_push_size _ rfl, rfl, rfl⟩ (hl.push _) (Nat.ne_of_lt hlt) (by rw [List.size_toArray, ← rv.length]; exact hz) fun h' tk cc acc k2 hS hacc => ?_
  have eacc : acc.toList = its.reverse := by
    have := NbA.items_rev hacc
    simpa using this
  obtain ⟨hn, J⟩ := laidL (s' := { s1 with heap := h', toks := tk }) (p := (s1.heap.push (revObj b ((its.toArray.size : Int) - 1))).objs.size) (vs := ws.reverse) (out := acc.toList) (cc := cc) I1 (fun b' o e => k2 b' o (Nat.ne_of_lt (Heap.lt_size e)) (Heap.get?_push_of_some _ e)) rfl rfl (by rw [Heap.size_push]; exact Nat.le_succ _) (by rw [List.length_reverse]; exact hz) (by rw [eacc]; exact vals_rev rv) (by simpa using hS)
  exact ⟨.ref _, _, J, rfl, newL_ok A1 t2.reverse (up'.on e1) q _ hn⟩
end
end Nb

/-! Nb11 -/
set_option Elab.async false
set_option linter.all false
set_option maxRecDepth 100000
set_option maxHeartbeats 1000000
/-! Nb11: what is walked, comprehensions, isinstance. -/
namespace Nb
open PySem PySem.Spec L2 L2H
open PyProof.Rows hiding St
section
variable {G : GI} {Γ : Gm} {X : Cx} {k : Nat} {W : WX}

/-! ### isinstance -/
/-- the names of the classes -/
theorem boot_ty : ∀ t ∈ tyL, bootBuiltins (Str.ofString t) = some (.type t) := by
  intro t h
  simp only [tyL, List.mem_cons, List.not_mem_nil, or_false] at h
  rcases h with rfl | rfl | rfl | rfl | rfl | rfl | rfl <;> decide +kernel
theorem named_ty : ∀ t ∈ tyL, (Str.ofString t ≠ ("__name__" : Str)) := by
  intro t h
  simp only [tyL, List.mem_cons, List.not_mem_nil, or_false] at h
  rcases h with rfl | rfl | rfl | rfl | rfl | rfl | rfl <;> decide +kernel
theorem cc_pe (c : Cok X G Γ k W) {cc : Cc} {e : Expr} (h : agC G.nm X.env.scope cc e = true) : (∃ x p, e = .Name x p) ∧ PE X e (fun _ H Q => ∃ cv u, CcV G cc cv u ∧ Q cv H) := by
  cases e <;> first | (cases cc <;> cases h; done) | skip
  rename_i x p
  refine ⟨⟨x, p, rfl⟩, ?_⟩
  cases cc with
  | ty t =>
    obtain ⟨h, hg⟩ := and2 h
    obtain ⟨hx, ht⟩ := and2 h
    have hx := of_decide_eq_true hx
    subst hx
    have ht : t ∈ tyL := by simpa using ht
    obtain ⟨g1, g2⟩ := gl_ok hg
    refine PE.imp (pe_bltn (v := .ty t) g1 (c.gm.bty t ht) (boot_ty t ht) rfl (named_ty t ht) g2) fun σ H Q ⟨cv, u, hc, q⟩ => ?_
    cases hc
    exact q
  | own d =>
    obtain ⟨hx, hg⟩ := and2 h
    have hx := of_decide_eq_true hx
    subst hx
    obtain ⟨g1, g2⟩ := gl_ok hg
    refine ⟨fun pins s σ H Q I ⟨cv, u, hc, q⟩ => ?_⟩
    cases hc with
    | own hd => exact (pe_glob (v := .ref _) g1 (c.gm.own d _ hd) rfl g2).run pins s σ H Q I q
inductive CcVs (G : GI) : List Cc → List V → List Value → Prop where
  | nil : CcVs G [] [] []
  | cons {c : Cc} {v : V} {u : Value} {cs : List Cc} {vs : List V} {us : List Value} : CcV G c v u → CcVs G cs vs us → CcVs G (c :: cs) (v :: vs) (u :: us)
theorem cc_rel {cc : Cc} {v : V} {u w : Value} (h : CcV G cc v u) (r : RelV v w) : w = u := by
  cases h with
  | ty t => exact r
  | own _ => exact r
theorem ccs_rel : ∀ {cs : List Cc} {vs : List V} {us ws : List Value}, CcVs G cs vs us → Vals vs ws → ws = us
  | _, _, _, _, .nil, .nil => rfl
  | _, _, _, _, .cons h t, .cons r s => by rw [cc_rel h r, ccs_rel t s]
theorem cc_pa (c : Cok X G Γ k W) : ∀ {cs : List Cc} {es : List Expr}, agCs G.nm X.env.scope cs es = true → PA X es (fun _ H Q => ∃ vs us, CcVs G cs vs us ∧ Q vs H)
  | [], [], _ => PA.imp pa_nil fun σ H Q ⟨vs, us, hc, q⟩ => by cases hc; exact q
  | [], _ :: _, h => by cases h
  | _ :: _, [], h => by cases h
  | cc :: cs, e :: es, h => by
    obtain ⟨h1, h2⟩ := and2 h
    obtain ⟨⟨x, p, rfl⟩, he⟩ := cc_pe c h1
    refine PA.imp (pa_cons he (cc_pa c h2) rfl) fun σ H Q ⟨vs, us, hc, q⟩ => ?_
    cases hc with
    | cons h1 h2 => exact ⟨_, _, h1, _, _, h2, q⟩
theorem cc_ex (c : Cok X G Γ k W) {cc : Cc} (h : knC Γ cc = true) : ∃ v u, CcV G cc v u := by
  cases cc with
  | ty t => exact ⟨_, _, .ty t⟩
  | own d =>
    obtain ⟨b, hb⟩ := Option.isSome_iff_exists.mp h
    obtain ⟨C, D, hC, _⟩ := c.gm.isa d d b hb
    exact ⟨_, _, .own hC⟩
theorem ccs_ex (c : Cok X G Γ k W) : ∀ {cs : List Cc}, cs.all (knC Γ) = true → ∃ vs us, CcVs G cs vs us
  | [], _ => ⟨_, _, .nil⟩
  | cc :: cs, h => by
    rw [List.all_cons] at h
    obtain ⟨h1, h2⟩ := and2 h
    obtain ⟨v, u, r⟩ := cc_ex c h1
    obtain ⟨vs, us, r2⟩ := ccs_ex c h2
    exact ⟨_, _, .cons r r2⟩
theorem isiR_ok (c : Cok X G Γ k W) {t : String ⊕ Nat} {T : Value} (hT : TyObj G T t) : ∀ {cs : List Cc} {vs : List V} {us : List Value} {r : Bool}, CcVs G cs vs us → isiR Γ t cs = some r → PySem.W.kitAny X.K T us = some r
  | _, _, _, _, .nil, h => by cases h; rfl
  | _, _, _, r, .cons (c := cc) (cs := cs) h1 t1, h => by
    unfold isiR at h
    cases e : isi1 Γ t cc with
    | none => rw [e] at h; cases h
    | some b =>
      rw [e] at h
      have q := isi1_ok c hT h1 e
      cases b with
      | true =>
        cases h
        exact kitAny_cons q (fun z => by cases z) fun _ => rfl
      | false => exact kitAny_cons q (fun _ => isiR_ok c hT t1 h) fun z => by cases z
def rIs (G : GI) (Γ : Gm) (cc : Cc) : List V → Hp → VK → Prop := fun vs H Qh => ∃ F M x v cv u t r, vs = [v, cv] ∧ At G F M H ∧ RepV G F x v ∧ CcV G cc cv u ∧ tyOf Γ M x = some t ∧ isi1 Γ t cc = some r ∧ Qh (.bl r) H
theorem ob_is (c : Cok X G Γ k W) (cc : Cc) : CallR X (.builtin "isinstance") (rIs G Γ cc) := by
  intro pins s σ H xs us Q I r h
  obtain ⟨F, M, x, v, cv, u, t, b, rfl, A, rx, hc, ht, e, q⟩ := h
  obtain ⟨u1, u2, rfl, r1, r2⟩ := vals2 r
  have e2 := cc_rel hc r2
  subst e2
  obtain ⟨T, P, Z, p, hx, hT⟩ := kit_at c I A rx r1 ht
  exact PySem.W.kia_one Z I.kIn p (isi1_ok c hT hc e) hx fun tk => ⟨.bl b, H, I.tok tk, rfl, q⟩
def rIsT (G : GI) (Γ : Gm) (cs : List Cc) : List V → Hp → VK → Prop := fun vs H Qh => ∃ F M x v tp cvs us t r, vs = [v, .ref tp] ∧ At G F M H ∧ RepV G F x v ∧ H tp = some (.tup cvs) ∧ CcVs G cs cvs us ∧ tyOf Γ M x = some t ∧ isiR Γ t cs = some r ∧ Qh (.bl r) H
theorem ob_isT (c : Cok X G Γ k W) (cs : List Cc) : CallR X (.builtin "isinstance") (rIsT G Γ cs) := by
  intro pins s σ H xs us Q I r h
  obtain ⟨F, M, x, v, tp, cvs, ws, t, b, rfl, A, rx, hT, hc, ht, e, q⟩ := h
  obtain ⟨u1, u2, rfl, r1, r2⟩ := vals2 r
  cases (show u2 = Value.ref tp from r2)
  obtain ⟨T, P, Z, p, hx, hTy⟩ := kit_at c I A rx r1 ht
  obtain ⟨_, its, rv, o, h1, h2, n, h3⟩ := (show ObjOk X.prog X.w H s.heap tp (.tup cvs) from I.hok tp _ hT)
  have e3 := ccs_rel hc rv
  subst e3
  obtain ⟨oc, od, dt, sl⟩ := o
  simp only at h2 h3
  subst h2 h3
  exact PySem.W.kia_tup Z I.kIn p h1 (isiR_ok c hTy hc e) hx fun tk => ⟨.bl b, H, I.tok tk, rfl, q⟩
theorem isiR_one {t : String ⊕ Nat} {cc : Cc} {r : Bool} (h : isiR Γ t [cc] = some r) : isi1 Γ t cc = some r := by
  unfold isiR at h
  cases e : isi1 Γ t cc with
  | none => rw [e] at h; cases h
  | some b =>
    rw [e] at h
    cases b <;> (cases h; rfl)
abbrev bIsi (Γ : Gm) (ba : BE) (cs : List Cc) : BE := fun τ M Q E => ba τ M (fun x M1 => ∃ t k, tyOf Γ M1 x = some t ∧ cs.all (knC Γ) = true ∧ isiR Γ t cs = some k ∧ Q (.bl k) M1) E
theorem e_isi1 (c : Cok X G Γ k W) {x y : Expr} {f : Str} {p pos : Pos} {ba : BE} {cc : Cc} (hf : f = ("isinstance" : Str)) (hg : glB X.env.scope f = true) (ha : PE X x (liftE G W ba)) (hx : okHd x = true) (hy : agC G.nm X.env.scope cc y = true) :
    PE X (.Call (.Name f p) [x, y] [] pos) (liftE G W (bIsi Γ ba [cc])) := by
  subst hf
  obtain ⟨g1, g2⟩ := gl_ok hg
  obtain ⟨⟨z, pz, rfl⟩, hc⟩ := cc_pe c hy
  refine PE.imp (pe_callB (ob_is c cc) g1 c.gm.bn.2.2.2.2.1 (by decide +kernel) (pa_cons ha (pa_cons hc pa_nil rfl) (star_plain X.env hx _)) (by decide) (by decide) (star_plain X.env hx _) rfl) fun σ H Qh ⟨F, τ, M, Q, E, A, rs, up, xw, h⟩ => ?_
  refine thenE A rs xw h fun xx F1 M1 H1 v e a s1 x1 r ⟨t, kk, ht, hk, hi, q⟩ => ?_
  rw [List.all_cons] at hk
  obtain ⟨cv, u, hcv⟩ := cc_ex c (and2 hk).1
  exact ⟨cv, u, hcv, F1, M1, xx, v, cv, u, t, kk, rfl, a, r, hcv, ht, isiR_one hi, up _ F1 M1 H1 _ e a (.bl kk) q⟩
theorem e_isiT (c : Cok X G Γ k W) {x : Expr} {ys : List Expr} {f : Str} {j : Nat} {p pos py : Pos} {ba : BE} {cs : List Cc} (hf : f = ("isinstance" : Str)) (hg : glB X.env.scope f = true) (ha : PE X x (liftE G W ba)) (hx : okHd x = true) (hl : cs.length ≤ 100) (hy : agCs G.nm X.env.scope cs ys = true) :
    PE X (.Call (.Name f p) [x, .Tuple ys j py] [] pos) (liftE G W (bIsi Γ ba cs)) := by
  subst hf
  obtain ⟨g1, g2⟩ := gl_ok hg
  refine PE.imp (pe_callB (ob_isT c cs) g1 c.gm.bn.2.2.2.2.1 (by decide +kernel) (pa_cons ha (pa_cons (pe_tup (cc_pa c hy)) pa_nil rfl) (star_plain X.env hx _)) (by decide) (by decide) (star_plain X.env hx _) rfl) fun σ H Qh ⟨F, τ, M, Q, E, A, rs, up, xw, h⟩ => ?_
  refine thenE A rs xw h fun xx F1 M1 H1 v e a s1 x1 r ⟨t, kk, ht, hk, hi, q⟩ => ?_
  obtain ⟨vs, us, hcs⟩ := ccs_ex c hk
  have hlen : vs.length ≤ sizeLine := by
    have : ∀ {cs : List Cc} {vs : List V} {us : List Value}, CcVs G cs vs us → vs.length = cs.length := by
      intro cs vs us h
      induction h with
      | nil => rfl
      | cons _ _ ih => exact congrArg (· + 1) ih
    rw [this hcs, sizeLine_eq]
    omega
  refine ⟨vs, us, hcs, hlen, fun tp hn => ?_⟩
  obtain ⟨A2, E2⟩ := a.new (o := .tup vs) hn
  exact ⟨F1, M1, xx, v, tp, vs, us, t, kk, rfl, A2, r, upd_same, hcs, ht, hi, up _ F1 M1 _ _ (e.trans E2) A2 (.bl kk) q⟩

/-! ### what is walked -/
/-- the iterator J brings the items, while g holds -/
def JOk (G : GI) (F : Hp) (M : MHp) (H : Hp) (J : L2.It) (items : List PV) (g : MHp → Prop) : Prop :=
  ∀ F2 M2 H2, Ev F M H F2 M2 H2 → At G F2 M2 H2 → g M2 → ∀ i, (i < items.length → J.go i H2 ∧ ∀ x H', J.yld i H2 x H' → ∃ F3, Ev F2 M2 H2 F3 M2 H' ∧ At G F3 M2 H' ∧ ∃ y, items[i]? = some y ∧ RepV G F3 y x) ∧ (i = items.length → J.stop i H2)
def liftI (G : GI) (W : WX) (b : BI) : TI := fun σ H Rh => ∃ F τ M R E, At G F M H ∧ RelS G F τ σ ∧
  (∀ J items g F1 M1 H1, Ev F M H F1 M1 H1 → At G F1 M1 H1 → JOk G F1 M1 H1 J items g → R items g M1 → Rh J H1) ∧ ExW G W F M H σ E ∧ b τ M R E
/-- the iterator is made of a value -/
def iAny (K : PySem.W.Frag) (te : TE) : TI := fun σ H R => te σ H fun v H1 => (∃ a, v = .ref a ∧ (∃ xs, SqL K H1 a xs) ∧ R (Itl K a) H1) ∨ (∃ a, v = .ref a ∧ (∃ xs, SqT K H1 a xs) ∧ R (Itt K a) H1) ∨ ∃ x, v = .str x ∧ R (Its x) H1
theorem pi_any {tg l : Expr} {tl : TE} (hl : PE X l tl) : PI X tg l (iAny X.K tl) := by
  refine ⟨fun pins s σ H R I h => thn (hl.run pins s σ H _ I h) fun v s1 ⟨x, H1, I1, r1, q1⟩ => ?_⟩
  have one : ∀ b ∈ [s1.heap.objs.size], FpOk X pins H1 b := fun b hb => by
    obtain rfl : b = s1.heap.objs.size := by simpa using hb
    exact I1.fpOk (Nat.le_refl _) (I1.hok.fresh (Nat.le_refl _))
  rcases q1 with ⟨a, rfl, ⟨xs, hq⟩, q⟩ | ⟨a, rfl, ⟨xs, hq⟩, q⟩ | ⟨z, rfl, q⟩
  · cases r1
    obtain ⟨its, rv, p, hz⟩ := I1.list hq
    exact wpAny_pyIter_list p.isList ⟨_, _, _, _, H1, rfl, I1.kept (t' := s1.toks) fun b o e => Heap.get?_push_of_some _ e, turn_list a _, ⟨_, Heap.get?_push_size _ rfl, rfl, rfl⟩, one, q⟩
  · cases r1
    obtain ⟨its, rv, p, hz⟩ := I1.tuple hq
    exact wpAny_pyIter_tuple (show s1.heap.IsTuple a its.toArray from p) ⟨_, _, _, _, H1, rfl, I1.kept (t' := s1.toks) fun b o e => Heap.get?_push_of_some _ e, turn_tuple a _, ⟨_, Heap.get?_push_size _ rfl, rfl, rfl⟩, one, q⟩
  · obtain ⟨t, rfl⟩ := r1
    cases ha : z.cps.all (· < 128)
    · exact wpAny_pyIter_wide ha (pi_one (tk := s1.toks) I1 _ (turn_str _ z t "str_iterator" (.inr rfl)) ⟨_, Heap.get?_push_size _ rfl, rfl, rfl⟩ q)
    · exact wpAny_pyIter_ascii ha (pi_one (tk := s1.toks) I1 _ (turn_str _ z t "str_ascii_iterator" (.inl rfl)) ⟨_, Heap.get?_push_size _ rfl, rfl, rfl⟩ q)
theorem len_get {xs : List PV} {i : Nat} (h : i < xs.length) : ∃ y, xs[i]? = some y := ⟨_, List.getElem?_eq_getElem h⟩
theorem jok_list {F H : Hp} {M : MHp} {a : Addr} {vs : List V} {xs : List PV} {K : PySem.W.Frag} (hs : SqL K F a vs) (t : RepVs G F xs vs) (g : MHp → Prop) : JOk G F M H (Itl K a) xs g := by
  intro F2 M2 H2 e A _ i
  have hs2 : SqL K H2 a vs := sqL_mono A.sub (sqL_mono e.sub hs)
  refine ⟨fun hi => ?_, fun hi => ⟨vs, hs2, by rw [← t.length]; omega⟩⟩
  obtain ⟨y, hy⟩ := len_get hi
  obtain ⟨v, hv, r⟩ := t.get hy
  refine ⟨⟨vs, v, hs2, hv⟩, fun x H' ⟨e1, h⟩ => ?_⟩
  subst e1
  have hx := h vs hs2
  rw [hv] at hx
  cases hx
  exact ⟨F2, .refl, A, y, hy, r.mono e.sub⟩
theorem jok_tup {F H : Hp} {M : MHp} {a : Addr} {vs : List V} {xs : List PV} {K : PySem.W.Frag} (hs : SqT K F a vs) (t : RepVs G F xs vs) (g : MHp → Prop) : JOk G F M H (Itt K a) xs g := by
  intro F2 M2 H2 e A _ i
  have hs2 : SqT K H2 a vs := sqT_mono A.sub (sqT_mono e.sub hs)
  refine ⟨fun hi => ?_, fun hi => ⟨vs, hs2, by rw [← t.length]; omega⟩⟩
  obtain ⟨y, hy⟩ := len_get hi
  obtain ⟨v, hv, r⟩ := t.get hy
  refine ⟨⟨vs, v, hs2, hv⟩, fun x H' ⟨e1, h⟩ => ?_⟩
  subst e1
  have hx := h vs hs2
  rw [hv] at hx
  cases hx
  exact ⟨F2, .refl, A, y, hy, r.mono e.sub⟩
theorem jok_mut {F H : Hp} {M : MHp} {a : Addr} {xs : List PV} {K : PySem.W.Frag} : JOk G F M H (Itl K a) xs (fun M1 => M1 a = some (.lst xs)) := by
  intro F2 M2 H2 e A hg i
  obtain ⟨vs, hs, t⟩ := A.mo a _ hg
  have hs2 : SqL K H2 a vs := SqL.of hs
  refine ⟨fun hi => ?_, fun hi => ⟨vs, hs2, by rw [← t.length]; omega⟩⟩
  obtain ⟨y, hy⟩ := len_get hi
  obtain ⟨v, hv, r⟩ := t.get hy
  refine ⟨⟨vs, v, hs2, hv⟩, fun x H' ⟨e1, h⟩ => ?_⟩
  subst e1
  have hx := h vs hs2
  rw [hv] at hx
  cases hx
  exact ⟨F2, .refl, A, y, hy, r⟩
theorem jok_str {F H : Hp} {M : MHp} {z : Str} (g : MHp → Prop) : JOk G F M H (Its z) (z.cps.toList.map fun c => .str ⟨#[c]⟩) g := by
  intro F2 M2 H2 e A _ i
  rw [List.length_map, Array.length_toList]
  refine ⟨fun hi => ⟨hi, fun x H' ⟨e1, c, hc, hx⟩ => ?_⟩, fun hi => by subst hi; exact Nat.le_refl _⟩
  subst e1 hx
  refine ⟨F2, .refl, A, .str ⟨#[c]⟩, ?_, .str _⟩
  rw [List.getElem?_map, Array.getElem?_toList, hc]
  rfl
theorem jok_rng {F H : Hp} {M : MHp} {lo hi : Int} (g : MHp → Prop) : JOk G F M H (Itr lo (hi - lo).toNat) (rngL lo hi) g := by
  intro F2 M2 H2 e A _ i
  unfold rngL
  rw [List.length_map, List.length_range]
  refine ⟨fun hi' => ⟨hi', fun x H' ⟨e1, hx⟩ => ?_⟩, fun hi' => by subst hi'; exact Nat.le_refl _⟩
  subst e1 hx
  refine ⟨F2, .refl, A, .int (lo + i), ?_, .int _⟩
  rw [List.getElem?_map, List.getElem?_range hi']
  rfl
theorem i_val (hK : G.K = X.K) {tg e : Expr} {b : BE} (he : PE X e (liftE G W b)) : PI X tg e (liftI G W fun τ M R E => b τ M (fun x M1 => itemsR x M1 R) E) := by
  refine ⟨fun pins s σ H Rh I ⟨F, τ, M, R, E, A, rs, up, xw, h⟩ => (pi_any (tg := tg) he).run pins s σ H Rh I (thenE A rs xw h fun x F1 M1 H1 v e a _ _ r q => ?_)⟩
  cases r with
  | tup hs t => 
    have hs' := hs
    rw [hK] at hs'
    exact .inr (.inl ⟨_, rfl, ⟨_, sqT_mono a.sub hs'⟩, up _ _ _ F1 M1 H1 e a (jok_tup hs' t _) q⟩)
  | lst hs t =>
    have hs' : SqL X.K F1 _ _ := SqL.of hs
    exact .inl ⟨_, rfl, ⟨_, sqL_mono a.sub hs'⟩, up _ _ _ F1 M1 H1 e a (jok_list hs' t _) q⟩
  | kl hs t =>
    have hs' := hs
    rw [hK] at hs'
    exact .inl ⟨_, rfl, ⟨_, sqL_mono a.sub hs'⟩, up _ _ _ F1 M1 H1 e a (jok_list hs' t _) q⟩
  | str z => exact .inr (.inr ⟨z, rfl, up _ _ _ F1 M1 H1 e a (jok_str _) q⟩)
  | ref l =>
    obtain ⟨xs, hx, q⟩ := q
    obtain ⟨vs, hs, _⟩ := a.mo l _ hx
    exact .inl ⟨l, rfl, ⟨vs, SqL.of hs⟩, up _ _ _ F1 M1 H1 e a jok_mut q⟩
  | _ => exact q.elim
theorem i_rng1 (c : Cok X G Γ k W) {tg e : Expr} {x : Str} {p pos : Pos} {b : BE} (hx : x = ("range" : Str)) (hg : glB X.env.scope x = true) (he : PE X e (liftE G W b)) (hh : okHd e = true) :
    PI X tg (.Call (.Name x p) [e] [] pos) (liftI G W fun τ M R E => b τ M (fun y M1 => rngR (.int 0) y M1 R) E) := by
  subst hx
  obtain ⟨g1, g2⟩ := gl_ok hg
  refine ⟨fun pins s σ H Rh I ⟨F, τ, M, R, E, A, rs, up, xw, h⟩ => (pi_range1 (tg := tg) g1 c.gm.bn.1 (pa_cons he pa_nil (star_plain X.env hh _)) (star_plain X.env hh _)).run pins s σ H Rh I (thenE A rs xw h fun y F1 M1 H1 v e a _ _ r q => ?_)⟩
  cases r with
  | int j =>
    obtain ⟨⟨_, _, h3, h4⟩, q⟩ := q
    have z := up _ _ _ F1 M1 H1 e a (jok_rng (G := G) (lo := 0) (hi := j) _) q
    rw [Int.sub_zero] at z
    exact ⟨j, rfl, h3, h4, z⟩
  | _ => exact q.elim
theorem i_rng2 (c : Cok X G Γ k W) {tg e e2 : Expr} {x : Str} {p pos : Pos} {b b2 : BE} (hx : x = ("range" : Str)) (hg : glB X.env.scope x = true) (he : PE X e (liftE G W b)) (hh : okHd e = true) (he2 : PE X e2 (liftE G W b2)) (hh2 : okHd e2 = true) :
    PI X tg (.Call (.Name x p) [e, e2] [] pos) (liftI G W fun τ M R E => b τ M (fun x M1 => b2 τ M1 (fun y M2 => rngR x y M2 R) E) E) := by
  subst hx
  obtain ⟨g1, g2⟩ := gl_ok hg
  have s2 : starEach [e2] X.env = [(false, eval e2 X.env)] := star_plain X.env hh2 _
  have s1 : starEach [e, e2] X.env = [(false, eval e X.env), (false, eval e2 X.env)] := by rw [star_plain X.env hh, s2]
  refine ⟨fun pins s σ H Rh I ⟨F, τ, M, R, E, A, rs, up, xw, h⟩ => (pi_range2 (tg := tg) g1 c.gm.bn.1 (pa_cons he (pa_cons he2 pa_nil (star_plain X.env hh2 _)) (star_plain X.env hh _)) s1 s2).run pins s σ H Rh I (thenE A rs xw h fun x F1 M1 H1 v e a t1 x1 r h1 => thenE a t1 x1 h1 fun y F2 M2 H2 u e2 a2 _ _ r2 q => ?_)⟩
  cases r with
  | int i => cases r2 with
    | int j => exact ⟨i, j, rfl, q.1, up _ _ _ F2 M2 H2 (e.trans e2) a2 (jok_rng _) q.2⟩
    | _ => exact q.elim
  | _ => exact (show False by cases r2 <;> exact q).elim
theorem frL_ok {F : Hp} {x : PV} {v : V} {xs : List PV} (r : RepV G F x v) (h : frL x = some xs) : ∃ a vs, v = .ref a ∧ SqL G.K F a vs ∧ RepVs G F xs vs := by
  cases r with
  | lst hs t => cases h; exact ⟨_, _, rfl, SqL.of hs, t⟩
  | kl hs t => cases h; exact ⟨_, _, rfl, hs, t⟩
  | _ => cases h
theorem jok_rev {F H : Hp} {M : MHp} {a : Addr} {vs : List V} {xs : List PV} {K : PySem.W.Frag} (hs : SqL K F a vs) (t : RepVs G F xs vs) (g : MHp → Prop) : JOk G F M H (Itv K a vs.length) xs.reverse g := by
  intro F2 M2 H2 e A _ i
  have hs2 : SqL K H2 a vs := sqL_mono A.sub (sqL_mono e.sub hs)
  rw [List.length_reverse, t.length]
  refine ⟨fun hi => ?_, fun hi => by subst hi; exact Nat.le_refl _⟩
  obtain ⟨y, hy⟩ := len_get (xs := xs) (i := vs.length - 1 - i) (by rw [t.length]; omega)
  obtain ⟨v, hv, r⟩ := t.get hy
  refine ⟨⟨hi, vs, v, hs2, hv⟩, fun x H' ⟨e1, h⟩ => ?_⟩
  subst e1
  have hx := h vs hs2
  rw [hv] at hx
  cases hx
  refine ⟨F2, .refl, A, y, ?_, r.mono e.sub⟩
  rw [List.getElem?_reverse (by rw [t.length]; exact hi), t.length]
  exact hy
theorem jok_revT {F H : Hp} {M : MHp} {a : Addr} {vs : List V} {xs : List PV} {K : PySem.W.Frag} (hs : SqT K F a vs) (t : RepVs G F xs vs) (g : MHp → Prop) : JOk G F M H (RT.ItvT K a vs.length) xs.reverse g := by
  intro F2 M2 H2 e A _ i
  have hs2 : SqT K H2 a vs := sqT_mono A.sub (sqT_mono e.sub hs)
  rw [List.length_reverse, t.length]
  refine ⟨fun hi => ?_, fun hi => by subst hi; exact Nat.le_refl _⟩
  obtain ⟨y, hy⟩ := len_get (xs := xs) (i := vs.length - 1 - i) (by rw [t.length]; omega)
  obtain ⟨v, hv, r⟩ := t.get hy
  refine ⟨⟨hi, vs, v, hs2, hv⟩, fun x H' ⟨e1, h⟩ => ?_⟩
  subst e1
  have hx := h vs hs2
  rw [hv] at hx
  cases hx
  refine ⟨F2, .refl, A, y, ?_, r.mono e.sub⟩
  rw [List.getElem?_reverse (by rw [t.length]; exact hi), t.length]
  exact hy
theorem i_rvd (c : Cok X G Γ k W) {tg e : Expr} {x : Str} {p pos : Pos} {b : BE} (hx : x = ("reversed" : Str)) (hg : glB X.env.scope x = true) (he : PE X e (liftE G W b)) (hh : okHd e = true) :
    PI X tg (.Call (.Name x p) [e] [] pos) (liftI G W fun τ M R E => b τ M (fun x M1 => rvdR x M1 R) E) := by
  subst hx
  obtain ⟨g1, g2⟩ := gl_ok hg
  have hK := c.gm.gk
  refine ⟨fun pins s σ H Rh I ⟨F, τ, M, R, E, A, rs, up, xw, h⟩ => (RT.pi_revA (tg := tg) g1 c.gm.bn.2.2.2.1 he (star_plain X.env hh _)).run pins s σ H Rh I (thenE A rs xw h fun y F1 M1 H1 v e a _ _ r q => ?_)⟩
  have lists : (∃ xs, frL y = some xs ∧ R xs.reverse (fun _ => True) M1) → ∃ (b : Addr) (xs : List V), v = .ref b ∧ ((SqL X.K H1 b xs ∧ Rh (Itv X.K b xs.length) H1) ∨ (SqT X.K H1 b xs ∧ Rh (RT.ItvT X.K b xs.length) H1)) := by
    rintro ⟨xs, hx, q⟩
    obtain ⟨l, vs, ev, hs, t⟩ := frL_ok r hx
    rw [hK] at hs
    exact ⟨l, vs, ev, .inl ⟨sqL_mono a.sub hs, up _ _ _ F1 M1 H1 e a (jok_rev hs t _) q⟩⟩
  cases r with
  | tup hs t =>
    rw [hK] at hs
    exact ⟨_, _, rfl, .inr ⟨sqT_mono a.sub hs, up _ _ _ F1 M1 H1 e a (jok_revT hs t _) q⟩⟩
  | _ => exact lists q
theorem jok_enu {F H : Hp} {M : MHp} {a : Addr} {vs : List V} {xs : List PV} {K : PySem.W.Frag} (hK : G.K = K) (hs : SqL K F a vs) (t : RepVs G F xs vs) (g : MHp → Prop) : JOk G F M H (Ite K a) (xs.zipIdx.map fun p => .tup [.int (p.2 : Nat), p.1]) g := by
  intro F2 M2 H2 e A _ i
  have hs2 : SqL K H2 a vs := sqL_mono A.sub (sqL_mono e.sub hs)
  rw [List.length_map, List.length_zipIdx]
  refine ⟨fun hi => ?_, fun hi => ⟨vs, hs2, by rw [← t.length]; omega⟩⟩
  obtain ⟨y, hy⟩ := len_get hi
  obtain ⟨v, hv, r⟩ := t.get hy
  refine ⟨⟨vs, v, hs2, hv⟩, fun x H' ⟨T, z, ex, hT, eH, h⟩ => ?_⟩
  have hx := h vs hs2
  rw [hv] at hx
  cases hx
  subst ex eH
  obtain ⟨A3, E3⟩ := A.newF (o := .tup [.int (i : Nat), v]) hT
  refine ⟨_, E3, A3, .tup [.int (i : Nat), y], ?_, .tup (.inl (.inl upd_same)) (.cons (.int _) (.cons ((r.mono e.sub).mono E3.sub) .nil))⟩
  rw [List.getElem?_map, List.getElem?_zipIdx, hy]
  simp
theorem i_enu (c : Cok X G Γ k W) {tg e : Expr} {x : Str} {p pos : Pos} {b : BE} (hx : x = ("enumerate" : Str)) (hg : glB X.env.scope x = true) (he : PE X e (liftE G W b)) (hh : okHd e = true) (ht : (dTup tg).isSome = true) :
    PI X tg (.Call (.Name x p) [e] [] pos) (liftI G W fun τ M R E => b τ M (fun x M1 => enuR x M1 R) E) := by
  subst hx
  obtain ⟨g1, g2⟩ := gl_ok hg
  have hK := c.gm.gk
  obtain ⟨ts, hts⟩ := Option.isSome_iff_exists.mp ht
  obtain ⟨kk, tp, rfl⟩ := dTup_ok hts
  refine ⟨fun pins s σ H Rh I ⟨F, τ, M, R, E, A, rs, up, xw, h⟩ => (pi_enum g1 c.gm.bn.2.2.1 (pa_cons he pa_nil (star_plain X.env hh _)) (star_plain X.env hh _)).run pins s σ H Rh I (thenE A rs xw h fun y F1 M1 H1 v e a _ _ r q => ?_)⟩
  obtain ⟨xs, hx, q⟩ := q
  obtain ⟨l, vs, ev, hs, t⟩ := frL_ok r hx
  subst ev
  rw [hK] at hs
  exact ⟨l, vs, rfl, sqL_mono a.sub hs, up _ _ _ F1 M1 H1 e a (jok_enu hK hs t _) q⟩
theorem zip_get {xs ys : List PV} {i : Nat} (h : i < (xs.zip ys).length) : ∃ x y, xs[i]? = some x ∧ ys[i]? = some y ∧ (xs.zip ys)[i]? = some (x, y) := by
  have h' := h
  rw [List.length_zip] at h'
  obtain ⟨x, hx⟩ := len_get (xs := xs) (i := i) (by omega)
  obtain ⟨y, hy⟩ := len_get (xs := ys) (i := i) (by omega)
  exact ⟨x, y, hx, hy, by rw [List.getElem?_zip_eq_some]; exact ⟨hx, hy⟩⟩
theorem jok_zip {F H : Hp} {M : MHp} {a b : Addr} {vs ws : List V} {xs ys : List PV} {K : PySem.W.Frag} (hs : SqL K F a vs) (hw : SqL K F b ws) (t : RepVs G F xs vs) (t2 : RepVs G F ys ws) (g : MHp → Prop) : JOk G F M H (Itz K a b) ((xs.zip ys).map fun p => .tup [p.1, p.2]) g := by
  intro F2 M2 H2 e A _ i
  have hs2 : SqL K H2 a vs := sqL_mono A.sub (sqL_mono e.sub hs)
  have hw2 : SqL K H2 b ws := sqL_mono A.sub (sqL_mono e.sub hw)
  rw [List.length_map]
  refine ⟨fun hi => ?_, fun hi => ⟨vs, ws, hs2, hw2, by rw [← t.length, ← t2.length, hi, List.length_zip]; omega⟩⟩
  obtain ⟨x, y, hx, hy, hz⟩ := zip_get hi
  obtain ⟨v, hv, r⟩ := t.get hx
  obtain ⟨w, hw', r2⟩ := t2.get hy
  refine ⟨⟨vs, ws, v, w, hs2, hw2, hv, hw'⟩, fun xx H' ⟨T, p, q, ex, hT, eH, h1, h2⟩ => ?_⟩
  have e1 := h1 vs hs2
  have e2 := h2 ws hw2
  rw [hv] at e1
  rw [hw'] at e2
  cases e1
  cases e2
  subst ex eH
  obtain ⟨A3, E3⟩ := A.newF (o := .tup [v, w]) hT
  refine ⟨_, E3, A3, .tup [x, y], ?_, .tup (.inl (.inl upd_same)) (.cons ((r.mono e.sub).mono E3.sub) (.cons ((r2.mono e.sub).mono E3.sub) .nil))⟩
  rw [List.getElem?_map, hz]
  rfl
theorem jok_zipT {F H : Hp} {M : MHp} {a b : Addr} {vs ws : List V} {xs ys : List PV} {K : PySem.W.Frag} (hs : SqT K F a vs) (hw : SqT K F b ws) (t : RepVs G F xs vs) (t2 : RepVs G F ys ws) (g : MHp → Prop) : JOk G F M H (RZ.ItzT K a b) ((xs.zip ys).map fun p => .tup [p.1, p.2]) g := by
  intro F2 M2 H2 e A _ i
  have hs2 : SqT K H2 a vs := sqT_mono A.sub (sqT_mono e.sub hs)
  have hw2 : SqT K H2 b ws := sqT_mono A.sub (sqT_mono e.sub hw)
  rw [List.length_map]
  refine ⟨fun hi => ?_, fun hi => ⟨vs, ws, hs2, hw2, by rw [← t.length, ← t2.length, hi, List.length_zip]; omega⟩⟩
  obtain ⟨x, y, hx, hy, hz⟩ := zip_get hi
  obtain ⟨v, hv, r⟩ := t.get hx
  obtain ⟨w, hw', r2⟩ := t2.get hy
  refine ⟨⟨vs, ws, v, w, hs2, hw2, hv, hw'⟩, fun xx H' ⟨T, p, q, ex, hT, eH, h1, h2⟩ => ?_⟩
  have e1 := h1 vs hs2
  have e2 := h2 ws hw2
  rw [hv] at e1
  rw [hw'] at e2
  cases e1
  cases e2
  subst ex eH
  obtain ⟨A3, E3⟩ := A.newF (o := .tup [v, w]) hT
  refine ⟨_, E3, A3, .tup [x, y], ?_, .tup (.inl (.inl upd_same)) (.cons ((r.mono e.sub).mono E3.sub) (.cons ((r2.mono e.sub).mono E3.sub) .nil))⟩
  rw [List.getElem?_map, hz]
  rfl
theorem i_zip (c : Cok X G Γ k W) {tg e e2 : Expr} {x : Str} {p pos : Pos} {b b2 : BE} (hx : x = ("zip" : Str)) (hg : glB X.env.scope x = true) (he : PE X e (liftE G W b)) (hh : okHd e = true) (he2 : PE X e2 (liftE G W b2)) (hh2 : okHd e2 = true) (ht : (dTup tg).isSome = true) :
    PI X tg (.Call (.Name x p) [e, e2] [] pos) (liftI G W fun τ M R E => b τ M (fun x M1 => b2 τ M1 (fun y M2 => zipR x y M2 R) E) E) := by
  subst hx
  obtain ⟨g1, g2⟩ := gl_ok hg
  have hK := c.gm.gk
  obtain ⟨ts, hts⟩ := Option.isSome_iff_exists.mp ht
  obtain ⟨kk, tp, rfl⟩ := dTup_ok hts
  have s2 : starEach [e2] X.env = [(false, eval e2 X.env)] := star_plain X.env hh2 _
  refine ⟨fun pins s σ H Rh I ⟨F, τ, M, R, E, A, rs, up, xw, h⟩ => (RZ.pi_zipA g1 c.gm.bn.2.1 (pa_cons he (pa_cons he2 pa_nil (star_plain X.env hh2 _)) (star_plain X.env hh _)) (star_plain X.env hh _) (by rw [s2]; rfl)).run pins s σ H Rh I (thenE A rs xw h fun x F1 M1 H1 v e a t1 x1 r h1 => thenE a t1 x1 h1 fun y F2 M2 H2 u e2 a2 _ _ r2 q => ?_)⟩
  have r' := r.mono e2.sub
  have lists : (∃ xs ys, frL x = some xs ∧ frL y = some ys ∧ R ((xs.zip ys).map fun p => .tup [p.1, p.2]) (fun _ => True) M2) → ∃ a b xs ys, [v, u] = [V.ref a, V.ref b] ∧ ((SqL X.K H2 a xs ∧ SqL X.K H2 b ys ∧ Rh (Itz X.K a b) H2) ∨ (SqT X.K H2 a xs ∧ SqT X.K H2 b ys ∧ Rh (RZ.ItzT X.K a b) H2)) := by
    rintro ⟨xs, ys, hx, hy, q⟩
    obtain ⟨l, vs, ev, hs, t⟩ := frL_ok r' hx
    obtain ⟨l2, ws, ew, hw, t2⟩ := frL_ok r2 hy
    subst ev ew
    rw [hK] at hs hw
    exact ⟨l, l2, vs, ws, rfl, .inl ⟨sqL_mono a2.sub hs, sqL_mono a2.sub hw, up _ _ _ F2 M2 H2 (e.trans e2) a2 (jok_zip hs hw t t2 _) q⟩⟩
  cases r' with
  | tup hs t => cases r2 with
    | tup hw t2 =>
      rw [hK] at hs hw
      exact ⟨_, _, _, _, rfl, .inr ⟨sqT_mono a2.sub hs, sqT_mono a2.sub hw, up _ _ _ F2 M2 H2 (e.trans e2) a2 (jok_zipT hs hw t t2 _) q⟩⟩
    | _ => exact lists q
  | _ => exact lists (show ∃ xs ys, _ by revert q; unfold zipR; exact id)
end
end Nb

/-! Nb12 -/
set_option Elab.async false
set_option linter.all false
set_option maxRecDepth 100000
set_option maxHeartbeats 2000000
/-! Nb12: targets, comprehensions, all expressions. -/
namespace Nb
open PySem PySem.Spec L2 L2H
open PyProof.Rows hiding St
section
variable {G : GI} {Γ : Gm} {X : Cx} {k : Nat} {W : WX}

/-! ### targets -/
theorem wipe_set {σ : L2.St} {i : Nat} {x : Option V} : ∀ {vs : List Nat}, i ∈ vs → wipe (σ.set i x) vs = wipe σ vs
  | v :: vs, h => by
    show (wipe (σ.set i x) vs).set v none = (wipe σ vs).set v none
    by_cases hv : i ∈ vs
    · rw [wipe_set hv]
    · have e : i = v := by
        rcases List.mem_cons.mp h with h | h
        · exact h
        · exact absurd h hv
      subst e
      have out : ∀ {ws : List Nat} {τ : L2.St}, i ∉ ws → wipe (τ.set i x) ws = (wipe τ ws).set i x := by
        intro ws
        induction ws with
        | nil => intro τ _; rfl
        | cons w ws ih =>
          intro τ hw
          show (wipe (τ.set i x) ws).set w none = ((wipe τ ws).set w none).set i x
          rw [ih (fun z => hw (List.mem_cons_of_mem _ z)), List.set_comm _ _ (fun z => hw (by rw [z]; exact List.mem_cons_self))]
      rw [out hv, List.set_set]
theorem wipe_wipe {σ : L2.St} : ∀ {vs ws : List Nat}, (∀ v ∈ vs, v ∈ ws) → wipe (wipe σ vs) ws = wipe σ ws
  | [], _, _ => rfl
  | v :: vs, ws, h => by
    show wipe ((wipe σ vs).set v none) ws = _
    rw [wipe_set (h v List.mem_cons_self)]
    exact wipe_wipe fun u hu => h u (List.mem_cons_of_mem _ hu)
theorem wipe_rel {F : Hp} {τ : Sl} {σ : L2.St} (r : RelS G F τ σ) : ∀ vs : List Nat, RelS G F (vs.foldr (fun i τ => τ.set i none) τ) (wipe σ vs)
  | [] => r
  | v :: vs => (wipe_rel r vs).unset v
/-- the target's reading: the heap stays, the slots take the item's parts -/
def liftG (G : GI) (Γ : Gm) (tg : List Nat) : TG := fun v σ H Q => ∃ F M τ y k, At G F M H ∧ RelS G F τ σ ∧ RepV G F y v ∧ asgT Γ tg y τ k ∧ ∀ τ1 σ1, RelS G F τ1 σ1 → (∀ vs : List Nat, (∀ i ∈ tg, i ∈ vs) → wipe σ1 vs = wipe σ vs) → k τ1 → Q σ1 H
theorem set_ok {cc : Bool} {sc : Scope} {x : Str} (h : setB cc sc x = true) : sc.names.lookup x = some .local ∨ (cc = true ∧ sc.names.lookup x = some .cell) := by
  unfold setB at h
  rw [Bool.or_eq_true] at h
  rcases h with h | h
  · exact .inl (of_decide_eq_true h)
  · obtain ⟨h1, h2⟩ := and2 h
    exact .inr ⟨h1, of_decide_eq_true h2⟩
/-- what may be stored -/
theorem store_at {cc : Bool} {x : Str} (hfn : cc = true → ∀ x, X.fn x = true ∨ X.env.scope.names.lookup x ≠ some .cell) (h : setB cc X.env.scope x = true) : Loc X.env.scope x ∧ (X.fn x = true ∨ X.env.scope.names.lookup x = some .local) := by
  rcases set_ok h with h | ⟨h1, h⟩
  · exact ⟨.inl h, .inr h⟩
  · exact ⟨.inr h, .inl ((hfn h1 x).resolve_right fun z => z h)⟩
theorem loc_ok {sc : Scope} {x : Str} (h : locB sc x = true) : sc.names.lookup x = some .local := of_decide_eq_true h
theorem gs_ok {cc : Bool} (hfn : cc = true → ∀ x, X.fn x = true ∨ X.env.scope.names.lookup x ≠ some .cell) (hN : X.N.Nodup) : ∀ {is : List Nat} {es : List Expr}, agTs cc X.N X.env.scope is es = true →
    PGs X es (fun vs σ H Q => vs.length = is.length ∧ Q ((is.zip vs).foldl (fun σ p => σ.set p.1 (some p.2)) σ) H) ∧ (assignEach es X.env).length = is.length ∧ (assignEach es X.env).findIdx? (·.1) = none
  | [], [], _ => ⟨⟨fun pins s σ H vs us Q I r ⟨hl, q⟩ => pgs_nil.run pins s σ H vs us Q I r ⟨List.length_eq_zero_iff.mp hl, by
      have e := List.length_eq_zero_iff.mp hl
      subst e
      exact q⟩⟩, rfl, rfl⟩
  | [], _ :: _, h => by cases h
  | _ :: _, [], h => by cases h
  | i :: is, e :: es, h => by
    cases e <;> first | (cases h; done) | skip
    rename_i x p
    obtain ⟨h, h3⟩ := and2 h
    obtain ⟨h1, h2⟩ := and2 h
    obtain ⟨g, gl, gf⟩ := gs_ok hfn hN h3
    obtain ⟨hl1, hl2⟩ := store_at hfn h2
    refine ⟨⟨fun pins s σ H vs us Q I r ⟨hz, q⟩ => ?_⟩, ?_, ?_⟩
    · cases vs with
      | nil => cases hz
      | cons v vs =>
        exact (pgs_cons (pg_name hN (of_decide_eq_true h1) hl1 hl2) g rfl).run pins s σ H _ us Q I r ⟨v, vs, rfl, by simpa using hz, q⟩
    · show (assignEach es X.env).length + 1 = _
      rw [gl]; rfl
    · show List.findIdx? (·.1) ((false, _) :: assignEach es X.env) = none
      rw [List.findIdx?_cons, gf]
      rfl
theorem fold_rel {F : Hp} : ∀ {is : List Nat} {ys : List PV} {vs : List V} {τ : Sl} {σ : L2.St}, RelS G F τ σ → RepVs G F ys vs → RelS G F ((is.zip ys).foldl (fun τ p => τ.set p.1 (some p.2)) τ) ((is.zip vs).foldl (fun σ p => σ.set p.1 (some p.2)) σ)
  | [], _, _, _, _, r, _ => r
  | _ :: _, _, _, _, _, r, .nil => r
  | i :: is, _ :: ys, _ :: vs, τ, σ, r, .cons (x := x) (v := v) q t => by
    show RelS G F ((is.zip ys).foldl _ (τ.set i (some x))) ((is.zip vs).foldl _ (σ.set i (some v)))
    exact fold_rel (r.set i q) t
theorem fold_wipe {ws : List Nat} : ∀ {is : List Nat} {vs : List V} {σ : L2.St}, (∀ i ∈ is, i ∈ ws) → wipe ((is.zip vs).foldl (fun σ p => σ.set p.1 (some p.2)) σ) ws = wipe σ ws
  | [], _, _, _ => rfl
  | _ :: _, [], _, _ => rfl
  | i :: is, v :: vs, σ, h => by
    show wipe ((is.zip vs).foldl (fun σ p => σ.set p.1 (some p.2)) (σ.set i (some v))) ws = _
    rw [fold_wipe fun j hj => h j (List.mem_cons_of_mem _ hj), wipe_set (h i List.mem_cons_self)]
theorem g_tup {cc : Bool} (hfn : cc = true → ∀ x, X.fn x = true ∨ X.env.scope.names.lookup x ≠ some .cell) (hK : G.K = X.K) (hcold : Γ.cold = true → X.calm = true) (hN : X.N.Nodup) {is : List Nat} {es : List Expr} {j : Nat} {p : Pos} (h : agTs cc X.N X.env.scope is es = true) (hn : is.length ≠ 1) : PG X (.Tuple es j p) (liftG G Γ is) := by
  obtain ⟨g, gl, gf⟩ := gs_ok hfn hN h
  have main : ∀ {pins : List (Addr × Obj)} {s : Shared} {σ : L2.St} {H : Hp} {v : V} {u : Value} {Q : L2.St → Hp → Prop} {F M τ y} {k : Sl → Prop}, Inv X pins σ H s → RelV v u → At G F M H → RelS G F τ σ → RepV G F y v →
      (Γ.cold = true ∧ ∃ ys, y = .tup ys ∧ ys.length = is.length ∧ k ((is.zip ys).foldl (fun τ p => τ.set p.1 (some p.2)) τ)) → (∀ τ1 σ1, RelS G F τ1 σ1 → (∀ vs : List Nat, (∀ i ∈ is, i ∈ vs) → wipe σ1 vs = wipe σ vs) → k τ1 → Q σ1 H) →
      wpAny (model X.prog X.w) X.A (assign (.Tuple es j p) X.env u) (fun _ s' => ∃ σ' H', Inv X pins σ' H' s' ∧ Q σ' H') X.xe s := by
    intro pins s σ H v u Q F M τ y k I r A rs ry ⟨hc, ys, e, hl, hk⟩ go
    subst e
    cases ry with
    | tup hs t =>
      rw [hK] at hs
      exact (pg_tup (hcold hc) g gl gf).run pins s σ H _ u Q I r ⟨_, _, rfl, sqT_mono A.sub hs, by rw [← t.length]; exact hl, by rw [← t.length]; exact hl, go _ _ (fold_rel rs t) (fun vs hv => fold_wipe hv) hk⟩
  refine ⟨fun pins s σ H v u Q I r ⟨F, M, τ, y, k, A, rs, ry, ha, go⟩ => ?_⟩
  rcases is with _ | ⟨i, _ | ⟨i2, is⟩⟩
  · exact main I r A rs ry ha go
  · exact absurd rfl hn
  · exact main I r A rs ry ha go
theorem g_ok {cc : Bool} (hfn : cc = true → ∀ x, X.fn x = true ∨ X.env.scope.names.lookup x ≠ some .cell) (hK : G.K = X.K) (hcold : Γ.cold = true → X.calm = true) (hN : X.N.Nodup) {is : List Nat} {e : Expr} (h : agT cc X.N X.env.scope is e = true) : PG X e (liftG G Γ is) := by
  have tups : ∀ {es j p}, (agTs cc X.N X.env.scope is es && !(is.length == 1)) = true → PG X (.Tuple es j p) (liftG G Γ is) := fun h => by
    obtain ⟨h1, h2⟩ := and2 h
    exact g_tup hfn hK hcold hN h1 (by simpa using h2)
  cases e with
  | Name x p =>
    match is, h with
    | [i], h =>
      obtain ⟨h1, h2⟩ := and2 h
      obtain ⟨hl1, hl2⟩ := store_at hfn h2
      refine ⟨fun pins s σ H v u Q I r ⟨F, M, τ, y, k, A, rs, ry, ha, go⟩ => (pg_name hN (of_decide_eq_true h1) hl1 hl2).run pins s σ H v u Q I r ?_⟩
      exact go _ _ (rs.set i ry) (fun vs hv => wipe_set (hv i List.mem_cons_self)) ha
    | [], h => cases h
    | _ :: _ :: _, h => cases h
  | Tuple es j p =>
    rcases is with _ | ⟨i, _ | ⟨i2, is⟩⟩
    · exact tups h
    · have h' := (and2 (show (agTs cc X.N X.env.scope [i] es && !([i].length == 1)) = true from h)).2
      cases h'
    · exact tups h
  | _ =>
    match is, h with
    | [], h => cases h
    | [_], h => cases h
    | _ :: _ :: _, h => cases h

/-! ### comprehensions -/
abbrev W0 : WX := fun _ _ _ _ => False
theorem At.updD {F H : Hp} {M : MHp} {D : Addr} {o : HO} (A : At G F M H) (hf : F D = none) (hm : M D = none) : At G F M (upd H D o) := by
  refine ⟨fun a u e => ?_, A.dis, fun a m e => ?_⟩
  · rw [upd_ne (ne_of_none e hf)]; exact A.sub a u e
  · exact (A.mo a m e).mono (Same.refl F) (upd_ne fun z => by rw [z, hm] at e; cases e)
theorem Ev.skip {F F1 H H1 : Hp} {M M1 : MHp} {D : Addr} {o : HO} (e : Ev F M H F1 M1 H1) (h : H D = none) : Ev F M H F1 M1 (upd H1 D o) :=
  ⟨e.sub, fun a u q n => by rw [upd_ne (ne_of_none q h)]; exact e.kp a u q n, e.gr, e.fr⟩
/-- an untold object is told, as it stands -/
theorem At.tellF {F H : Hp} {M : MHp} {D : Addr} {o : HO} (A : At G F M H) (hf : F D = none) (hm : M D = none) (hd : H D = some o) : At G (upd F D o) M H := by
  refine ⟨fun a u e => ?_, fun a u e => ?_, fun a m e => (A.mo a m e).mono (same_upd hf) rfl⟩
  · by_cases q : a = D
    · subst q; rw [upd_same] at e; rw [hd]; exact e
    · rw [upd_ne q] at e; exact A.sub a u e
  · by_cases q : a = D
    · subst q; exact hm
    · rw [upd_ne q] at e; exact A.dis a u e
theorem At.tellM {F H : Hp} {M : MHp} {D : Addr} {m : MO} (A : At G F M H) (hf : F D = none) (hm : M D = none) (ok : MOk G F H D m) : At G F (ms M D m) H := by
  refine ⟨A.sub, fun a u e => ?_, fun a m2 e => ?_⟩
  · rw [ms_ne (ne_of_none e hf)]; exact A.dis a u e
  · by_cases q : a = D
    · subst q; rw [ms_same] at e; cases e; exact ok
    · rw [ms_ne q] at e; exact A.mo a m2 e
theorem newL_at {F0 F H0 H : Hp} {M0 M : MHp} {D : Addr} {ws : List V} {xs : List PV} {mu : Bool} {Q : BV} {Qh : VK} (A : At G F M H) (e : Ev F0 M0 H0 F M H) (h0 : H0 D = none) (hf : F D = none) (hm : M D = none) (hd : H D = some (.lst ws)) (t : RepVs G F xs ws) (up : Up G F0 M0 H0 Q Qh) (q : newL mu xs M Q) : Qh (.ref D) H := by
  cases mu with
  | true =>
    refine up (.ref D) F (ms M D (.lst xs)) H _ ⟨e.sub, e.kp, fun a o ha n => ?_, e.fr⟩ (A.tellM hf hm ⟨ws, hd, t⟩) (.ref D) (q D hm)
    rw [ms_ne (ne_of_none ha h0)]
    exact e.gr a o ha n
  | false =>
    refine up (.lst xs) (upd F D (.lst ws)) M H _ ⟨e.sub.trans (same_upd hf), e.kp, e.gr, fun a zs ha l n f => ?_⟩ (A.tellF hf hm hd) (.lst upd_same (t.mono (same_upd hf))) q
    rw [upd_ne (ne_of_none ha h0)]
    exact e.fr a zs ha l n f
theorem lc_ok (hcd : Γ.cold = true) {items : List PV} {g : MHp → Prop} {own tg : List Nat} {bt : BT} {be : BE} {mu : Bool} {J : L2.It} {F0 F1 H0 H1 : Hp} {M0 M1 : MHp} {τ : Sl} {σ : L2.St} {Q : BV} {Qh : VK} (hown : ∀ i ∈ tg, i ∈ own) (e01 : Ev F0 M0 H0 F1 M1 H1) (A1 : At G F1 M1 H1) (rs : RelS G F1 τ σ)
    (up : Up G F0 M0 H0 Q Qh) (jok : JOk G F1 M1 H1 J items g) (h : lcW Γ g tg bt be (own.foldr (fun i τ => τ.set i none) τ) (fun xs M2 => newL mu xs M2 Q) items [] M1) :
    ∀ D, H1 D = none → ∃ W : Nat → Nat → Hp → Prop, (∃ m, W 0 m (upd H1 D (.lst []))) ∧ ∀ i m H, W i m H →
      (J.stop i H ∧ Qh (.ref D) H) ∨ (J.go i H ∧ ∃ Nx : Hp → Prop, (∀ H', Nx H' → ∃ m', m' < m ∧ W (i + 1) m' H') ∧ ∀ x H', J.yld i H x H' → liftG G Γ tg x (wipe σ own) H' fun σ2 H2 => wipe σ2 own = wipe σ own ∧ liftT G W0 bt σ2 H2 fun b H3 =>
        if b = true then liftE G W0 be σ2 H3 fun y H4 => ∃ acc, H4 D = some (.lst acc) ∧ acc.length < sizeLine ∧ Nx (upd H4 D (.lst (acc ++ [y]))) else Nx H3) := by
  intro D hD
  have hf1 := A1.fnone_of hD
  have hm1 := A1.none_of hD
  refine ⟨fun i m H => ∃ F M acc ws, m + i = items.length ∧ Ev F1 M1 H1 F M H ∧ At G F M H ∧ H D = some (.lst ws) ∧ F D = none ∧ M D = none ∧ RepVs G F acc ws ∧
    lcW Γ g tg bt be (own.foldr (fun i τ => τ.set i none) τ) (fun xs M2 => newL mu xs M2 Q) (items.drop i) acc M, ⟨items.length, F1, M1, [], [], rfl, ?_, A1.updD hf1 hm1, upd_same, hf1, hm1, .nil, h⟩, ?_⟩
  · exact Ev.skip .refl hD
  rintro i m H ⟨F, M, acc, ws, hi, e, A, hd, hf, hm, t, hw⟩
  cases hr : items.drop i with
  | nil =>
    rw [hr] at hw
    have hle : items.length ≤ i := List.drop_eq_nil_iff.mp hr
    have hie : i = items.length := by omega
    have hw' : g M ∧ newL mu acc M Q := hw
    exact .inl ⟨(jok F M H e A hw'.1 i).2 hie, newL_at A e hD hf hm hd t (up.on e01) hw'.2⟩
  | cons y ys =>
    rw [hr] at hw
    have hlt : i < items.length := by
      by_cases hlt : i < items.length
      · exact hlt
      · rw [List.drop_eq_nil_of_le (by omega)] at hr; cases hr
    have hy : items[i]? = some y := by
      have := congrArg List.head? hr
      rw [List.head?_drop] at this
      exact this
    have hys : items.drop (i + 1) = ys := by
      rw [← List.tail_drop, hr]; rfl
    obtain ⟨hg, hw⟩ := (show g M ∧ asgT Γ tg y (own.foldr (fun i τ => τ.set i none) τ) fun τ1 => bt τ1 M (fun b M1 => (b = true → be τ1 M1 (fun z M2 => acc.length < sizeLine ∧ lcW Γ g tg bt be (own.foldr (fun i τ => τ.set i none) τ) (fun xs M2 => newL mu xs M2 Q) ys (acc ++ [z]) M2) fun _ _ _ => False) ∧ (b = false → lcW Γ g tg bt be (own.foldr (fun i τ => τ.set i none) τ) (fun xs M2 => newL mu xs M2 Q) ys acc M1)) fun _ _ _ => False from hw)
    obtain ⟨jgo, jy⟩ := (jok F M H e A hg i).1 hlt
    refine .inr ⟨jgo, fun H' => ∃ F M acc ws, (m - 1) + (i + 1) = items.length ∧ Ev F1 M1 H1 F M H' ∧ At G F M H' ∧ H' D = some (.lst ws) ∧ F D = none ∧ M D = none ∧ RepVs G F acc ws ∧
      lcW Γ g tg bt be (own.foldr (fun i τ => τ.set i none) τ) (fun xs M2 => newL mu xs M2 Q) ys acc M, fun H' ⟨F', M', acc', ws', a1, a2, a3, a4, a5, a6, a7, a8⟩ => ⟨m - 1, by omega, F', M', acc', ws', a1, a2, a3, a4, a5, a6, a7, by rw [hys]; exact a8⟩, fun x H' hyld => ?_⟩
    obtain ⟨F3, e3, A3, y', hy', ry⟩ := jy x H' hyld
    rw [hy] at hy'
    cases hy'
    have hd3 := e3.kp D _ hd hm
    have hf3 := e3.fr D _ hd trivial hm hf
    have r3 := (wipe_rel rs own).mono (e.sub.trans e3.sub)
    refine ⟨F3, M, _, y, _, A3, r3, ry, hw, fun τ1 σ1 r1 hwp hk => ⟨by rw [hwp own hown]; exact wipe_wipe fun v hv => hv, ?_⟩⟩
    refine thenT A3 r1 (fun _ _ _ _ _ _ _ _ _ _ z => z.elim) hk fun b F4 M4 H4 e4 A4 r4 _ q => ?_
    have hd4 := e4.kp D _ hd3 hm
    have hm4 := e4.gr D _ hd3 hm
    have hf4 := e4.fr D _ hd3 trivial hm hf3
    cases b with
    | true =>
      rw [if_pos rfl]
      refine thenE A4 r4 (fun _ _ _ _ _ _ _ _ _ _ z => z.elim) (q.1 rfl) fun z F5 M5 H5 v e5 A5 _ _ rz ⟨hz, hw5⟩ => ?_
      have hd5 := e5.kp D _ hd4 hm4
      have hm5 := e5.gr D _ hd4 hm4
      have hf5 := e5.fr D _ hd4 trivial hm4 hf4
      refine ⟨ws, hd5, by rw [← t.length]; exact hz, F5, M5, acc ++ [z], ws ++ [v], by omega, ?_, A5.updD hf5 hm5, upd_same, hf5, hm5, ?_, hw5⟩
      · exact Ev.skip (((e.trans e3).trans e4).trans e5) hD
      · exact (t.mono ((e3.sub.trans e4.sub).trans e5.sub)).append (.cons rz .nil)
    | false =>
      rw [if_neg (by decide)]
      exact ⟨F4, M4, acc, ws, by omega, (e.trans e3).trans e4, A4, hd4, hf4, hm4, t.mono (e3.sub.trans e4.sub), q.2 rfl⟩
theorem cok_blk (c : Cok X G Γ k W) (hcd : Γ.cold = true) (s : Shared) (H : Hp) (scope : Scope) (cenv : Env) (fp : List Addr) : Cok (X.blk s H scope cenv fp) G Γ k W0 where
  gm := c.gm
  room := c.room
  nd := c.nd
  cold := c.cold
  hot := fun h => by rw [hcd] at h; cases h
  tk := takes0
  ps := PassesOwn.never
theorem comp_scope {scope : Scope} {cl : List (Str × Addr)} {C : Addr} {env : PySem.Env} : (compEnvC scope cl C env).scope = rlS env.scope scope := rfl
abbrev bLc (Γ : Gm) (mu : Bool) (own tg : List Nat) (bi : BI) (bt : BT) (be : BE) : BE := fun τ M Q E => Γ.cold = true ∧ bi τ M (fun items g M1 => lcW Γ g tg bt be (own.foldr (fun i τ => τ.set i none) τ) (fun xs M2 => newL mu xs M2 Q) items [] M1) E
/-- what a comprehension's parts must keep -/
structure LcOk (X : Cx) (G : GI) (Γ : Gm) (W : WX) (elt tg iter : Expr) (ifs : List Expr) (scope : Scope) (own tgs : List Nat) (bi : BI) (bt : BT) (be : BE) : Prop where
  pi : PI X tg iter (liftI G W bi)
  ok : BlkOk X.N X.env.scope scope (ownP X.N own)
  ix : (ownP X.N own).map (·.2) = own
  tin : ∀ i ∈ tgs, i ∈ own
  pg : Γ.cold = true → ∀ (s : Shared) (H : Hp) (C : Addr) (cl : List (Str × Addr)) (fp : List Addr), PG (X.blk s H scope (compEnvC scope cl C X.env) fp) tg (liftG G Γ tgs)
  pt : Γ.cold = true → ∀ (s : Shared) (H : Hp) (C : Addr) (cl : List (Str × Addr)) (fp : List Addr), PTs (X.blk s H scope (compEnvC scope cl C X.env) fp) ifs (liftT G W0 bt)
  pe : Γ.cold = true → ∀ (s : Shared) (H : Hp) (C : Addr) (cl : List (Str × Addr)) (fp : List Addr), PE (X.blk s H scope (compEnvC scope cl C X.env) fp) elt (liftE G W0 be)
  fs : ∀ x, foldedSetIterable iter X.env x = pure x
theorem tlc_of (hcd : Γ.cold = true) {own tgs : List Nat} {bi : BI} {bt : BT} {be : BE} {mu : Bool} (hown : ∀ i ∈ tgs, i ∈ own) {F : Hp} {τ : Sl} {σ : L2.St} {M : MHp} {H : Hp} {Q : BV} {E : BX} {Qh : VK} (A : At G F M H) (rs : RelS G F τ σ) (up : Up G F M H Q Qh) (xw : ExW G W F M H σ E)
    (h : bi τ M (fun items g M1 => lcW Γ g tgs bt be (own.foldr (fun i τ => τ.set i none) τ) (fun xs M2 => newL mu xs M2 Q) items [] M1) E) : tLc (liftI G W bi) (liftG G Γ tgs) (liftT G W0 bt) (liftE G W0 be) own σ H Qh :=
  ⟨F, τ, M, _, E, A, rs, fun J items g F1 M1 H1 e1 A1 jok hR => lc_ok hcd hown e1 A1 (rs.mono e1.sub) up jok hR, xw, h⟩
theorem e_lc (c : Cok X G Γ k W) {mu : Bool} {elt tg iter : Expr} {ifs : List Expr} {scope : Scope} {own tgs : List Nat} {pos : Pos} {bi : BI} {bt : BT} {be : BE} (L : LcOk X G Γ W elt tg iter ifs scope own tgs bi bt be) :
    PE X (.ListComp elt [⟨tg, iter, ifs, 0⟩] scope pos) (liftE G W (bLc Γ mu own tgs bi bt be)) := by
  refine ⟨fun pins s σ H Qh I ⟨F, τ, M, Q, E, A, rs, up, xw, hcd, h⟩ => ?_⟩
  refine (pe_lc (c.cold hcd).1 c.nd L.pi L.ok (L.pg hcd) (L.pt hcd) (L.pe hcd) L.fs).run pins s σ H Qh I ?_
  rw [L.ix]
  exact tlc_of hcd L.tin A rs up xw h

/-! ### all expressions -/
def SE (e : Ex) : Prop := ∀ ⦃X : Cx⦄ ⦃G : GI⦄ ⦃Γ : Gm⦄ ⦃k : Nat⦄ ⦃W : WX⦄ (mu : Bool) ⦃pe : Expr⦄, Cok X G Γ k W → agE G.nm X.N X.env.scope e pe = true → RE X G W pe (wX Γ mu e)
def SA (es : Exs) : Prop := ∀ ⦃X : Cx⦄ ⦃G : GI⦄ ⦃Γ : Gm⦄ ⦃k : Nat⦄ ⦃W : WX⦄ ⦃xs : List Expr⦄, Cok X G Γ k W → agEs G.nm X.N X.env.scope es xs = true → PA X xs (liftA G W (wXs Γ es)) ∧
  ∀ p, (PW X (.BoolOp .And xs p) (liftT G W (wAnd Γ es)) ∨ xs = []) ∧ (PW X (.BoolOp .Or xs p) (liftT G W (wOr Γ es)) ∨ xs = []) ∧ PE X (.BoolOp .And xs p) (liftE G W (wAndV Γ es)) ∧ PE X (.BoolOp .Or xs p) (liftE G W (wOrV Γ es))
def SO (o : Exo) : Prop := ∀ ⦃X : Cx⦄ ⦃G : GI⦄ ⦃Γ : Gm⦄ ⦃k : Nat⦄ ⦃W : WX⦄, Cok X G Γ k W → (∀ {po : Option Expr}, agO G.nm X.N X.env.scope o po = true → PO X po (liftO G W (wO Γ o))) ∧ ∀ {ps : List Expr}, agF G.nm X.N X.env.scope o ps = true → PTs X ps (liftT G W (wF Γ o))
def SI (i : It) : Prop := ∀ ⦃X : Cx⦄ ⦃G : GI⦄ ⦃Γ : Gm⦄ ⦃k : Nat⦄ ⦃W : WX⦄ ⦃tg pe : Expr⦄, Cok X G Γ k W → agI G.nm X.N X.env.scope i pe = true → i.okT tg = true → PI X tg pe (liftI G W (wI Γ i)) ∧ ∀ x, foldedSetIterable pe X.env x = pure x
end
end Nb

/-! Nb13 -/
set_option Elab.async false
set_option linter.all false
set_option maxRecDepth 100000
set_option maxHeartbeats 4000000
/-! Nb13: every expression that agrees keeps its wish. -/
namespace Nb
open PySem PySem.Spec L2 L2H
open PyProof.Rows hiding St
section
variable {G : GI} {Γ : Gm} {X : Cx} {k : Nat} {W : WX}
theorem pw_pt {pe : Expr} {t : TT} (h : PW X pe t) : PT X pe t := ⟨fun pins s σ H Q I q => h.run _ pins s σ H Q I q⟩
theorem pw_imp {pe : Expr} {t t' : TT} (h : PW X pe t) (i : ∀ σ H Q, t' σ H Q → t σ H Q) : PW X pe t' := ⟨fun wh pins s σ H Q I q => h.run wh pins s σ H Q I (i σ H Q q)⟩
theorem pw_false {pe : Expr} : PW X pe (liftT G W fun _ _ _ _ => False) := ⟨fun _ _ _ _ _ _ _ h => by
  obtain ⟨_, _, _, _, _, _, _, _, _, h⟩ := h
  exact h.elim⟩
theorem pa_false {xs : List Expr} : PA X xs (liftA G W fun _ _ _ _ => False) := ⟨fun _ _ _ _ _ _ _ h => by
  obtain ⟨_, _, _, _, _, _, _, _, _, h⟩ := h
  exact h.elim⟩
abbrev bAnd (ta tb : BT) : BT := fun τ M Q E => ta τ M (fun k M1 => (k = true → tb τ M1 Q E) ∧ (k = false → Q false M1)) E
abbrev bOr (ta tb : BT) : BT := fun τ M Q E => ta τ M (fun k M1 => (k = true → Q true M1) ∧ (k = false → tb τ M1 Q E)) E
theorem w_and1 {x : Expr} {p : Pos} {ta : BT} (ha : PT X x (liftT G W ta)) : PW X (.BoolOp .And [x] p) (liftT G W (bAnd ta fun _ M Q _ => Q true M)) :=
  pw_imp (pw_and1 ha) fun σ H Qh ⟨F, τ, M, Q, E, A, rs, up, xw, h⟩ => thenT A rs xw h fun k F1 M1 H1 e a _ _ q => up k F1 M1 H1 e a (by cases k with | true => exact q.1 rfl | false => exact q.2 rfl)
theorem w_or1 {x : Expr} {p : Pos} {ta : BT} (ha : PT X x (liftT G W ta)) : PW X (.BoolOp .Or [x] p) (liftT G W (bOr ta fun _ M Q _ => Q false M)) :=
  pw_imp (pw_or1 ha) fun σ H Qh ⟨F, τ, M, Q, E, A, rs, up, xw, h⟩ => thenT A rs xw h fun k F1 M1 H1 e a _ _ q => up k F1 M1 H1 e a (by cases k with | true => exact q.1 rfl | false => exact q.2 rfl)
theorem w_and {x y : Expr} {r : List Expr} {p : Pos} {ta tb : BT} (ha : PT X x (liftT G W ta)) (hb : PW X (.BoolOp .And (y :: r) p) (liftT G W tb)) : PW X (.BoolOp .And (x :: y :: r) p) (liftT G W (bAnd ta tb)) :=
  pw_imp (pw_and ha hb) fun σ H Qh ⟨F, τ, M, Q, E, A, rs, up, xw, h⟩ => thenT A rs xw h fun k F1 M1 H1 e a s1 x1 q => by
    cases k with
    | true => rw [if_pos rfl]; exact ⟨F1, τ, M1, Q, E, a, s1, fun k2 F2 M2 H2 e2 a2 q2 => up k2 F2 M2 H2 (e.trans e2) a2 q2, x1, q.1 rfl⟩
    | false => rw [if_neg (by decide)]; exact up false F1 M1 H1 e a (q.2 rfl)
theorem w_or {x y : Expr} {r : List Expr} {p : Pos} {ta tb : BT} (ha : PT X x (liftT G W ta)) (hb : PW X (.BoolOp .Or (y :: r) p) (liftT G W tb)) : PW X (.BoolOp .Or (x :: y :: r) p) (liftT G W (bOr ta tb)) :=
  pw_imp (pw_or ha hb) fun σ H Qh ⟨F, τ, M, Q, E, A, rs, up, xw, h⟩ => thenT A rs xw h fun k F1 M1 H1 e a s1 x1 q => by
    cases k with
    | true => rw [if_pos rfl]; exact up true F1 M1 H1 e a (q.1 rfl)
    | false => rw [if_neg (by decide)]; exact ⟨F1, τ, M1, Q, E, a, s1, fun k2 F2 M2 H2 e2 a2 q2 => up k2 F2 M2 H2 (e.trans e2) a2 q2, x1, q.2 rfl⟩
abbrev bAndV (ba bb : BE) : BE := fun τ M Q E => ba τ M (fun x M1 => ∃ k, x = .bl k ∧ (k = true → bb τ M1 Q E) ∧ (k = false → Q (.bl false) M1)) E
abbrev bOrV (ba bb : BE) : BE := fun τ M Q E => ba τ M (fun x M1 => ∃ k, x = .bl k ∧ (k = true → Q (.bl true) M1) ∧ (k = false → bb τ M1 Q E)) E
theorem v_and {x y : Expr} {r : List Expr} {p : Pos} {ba bb : BE} (ha : PE X x (liftE G W ba)) (hb : PE X (.BoolOp .And (y :: r) p) (liftE G W bb)) : PE X (.BoolOp .And (x :: y :: r) p) (liftE G W (bAndV ba bb)) :=
  PE.imp (pe_and ha hb) fun σ H Qh ⟨F, τ, M, Q, E, A, rs, up, xw, h⟩ => thenE A rs xw h fun x F1 M1 H1 v e a s1 x1 rv ⟨k, hk, q⟩ => by
    subst hk
    cases rv
    refine ⟨k, rfl, ?_⟩
    cases k with
    | true => rw [if_pos rfl]; exact ⟨F1, τ, M1, Q, E, a, s1, fun x2 F2 M2 H2 v2 e2 a2 r2 q2 => up x2 F2 M2 H2 v2 (e.trans e2) a2 r2 q2, x1, q.1 rfl⟩
    | false => rw [if_neg (by decide)]; exact up _ F1 M1 H1 _ e a (.bl false) (q.2 rfl)
theorem v_or {x y : Expr} {r : List Expr} {p : Pos} {ba bb : BE} (ha : PE X x (liftE G W ba)) (hb : PE X (.BoolOp .Or (y :: r) p) (liftE G W bb)) : PE X (.BoolOp .Or (x :: y :: r) p) (liftE G W (bOrV ba bb)) :=
  PE.imp (pe_or ha hb) fun σ H Qh ⟨F, τ, M, Q, E, A, rs, up, xw, h⟩ => thenE A rs xw h fun x F1 M1 H1 v e a s1 x1 rv ⟨k, hk, q⟩ => by
    subst hk
    cases rv
    refine ⟨k, rfl, ?_⟩
    cases k with
    | true => rw [if_pos rfl]; exact up _ F1 M1 H1 _ e a (.bl true) (q.1 rfl)
    | false => rw [if_neg (by decide)]; exact ⟨F1, τ, M1, Q, E, a, s1, fun x2 F2 M2 H2 v2 e2 a2 r2 q2 => up x2 F2 M2 H2 v2 (e.trans e2) a2 r2 q2, x1, q.2 rfl⟩
theorem e_fz {pe : Expr} {b : BE} (he : PE X pe (liftE G W b)) : PE X pe (liftE G W fun τ M Q E => b τ M (fun x M1 => freezeR x M1 Q) E) :=
  PE.imp he fun σ H Qh ⟨F, τ, M, Q, E, A, rs, up, xw, h⟩ => thenE A rs xw h fun x F1 M1 H1 v e a s1 x1 rv q => by
    have up' : Up G F M H Q Qh := up
    have same : Q x M1 → Qh v H1 := fun q => up x F1 M1 H1 v e a rv q
    cases rv with
    | ref l =>
      rcases q with ⟨xs, hx, q⟩ | ⟨c, fs, hx, q⟩
      · obtain ⟨vs, hh, t⟩ := a.mo l _ hx
        obtain ⟨A2, E2⟩ := a.freeze hx hh
        exact up _ _ _ _ _ (e.trans E2) A2 (.lst upd_same (t.mono E2.sub)) q
      · obtain ⟨C, dx, gs, hC, hh, t⟩ := a.mo l _ hx
        obtain ⟨A2, E2⟩ := a.freeze hx hh
        exact up _ _ _ _ _ (e.trans E2) A2 (.obj hC upd_same (t.mono E2.sub)) q
    | _ => exact same q
/-- a test by its value, for an expression of an allowed head: its truth is asked by the value -/
theorem plain_tru {pe : Expr} (h : notCmp pe = true) : ∀ whole, isTrue pe X.env whole = (do let v ← whole; standAt pe.pos; holding [v] (truthy v)) := by
  intro whole
  cases pe <;> first | rfl | cases h
/-- every expression in its value form that has no test of its own -/
theorem re_plain (c : Cok X G Γ k W) {pe : Expr} {b : BE} (h : notCmp pe = true) (he : PE X pe (liftE G W b)) : RE X G W pe (b, truT b) := ⟨he, pt_tru c.gm.gk he (plain_tru h)⟩
end

mutual
theorem sndE : ∀ e : Ex, SE e
  | .k c => by
    intro X G Γ k W mu pe ck h
    simp only [agE] at h
    split at h
    · rename_i d hd
      obtain ⟨j, p, rfl⟩ := dConst_ok hd
      exact re_plain ck rfl (e_k h)
    · cases h
  | .v i => by
    intro X G Γ k W mu pe ck h
    simp only [agE] at h
    split at h
    · rename_i d hd
      obtain ⟨p, rfl⟩ := dName_ok hd
      obtain ⟨h1, h2⟩ := and2 h
      exact re_plain ck rfl (e_v h1 h2)
    · cases h
  | .g n => by
    intro X G Γ k W mu pe ck h
    simp only [agE] at h
    split at h
    · rename_i d hd
      obtain ⟨p, rfl⟩ := dName_ok hd
      obtain ⟨h1, h2⟩ := and2 h
      exact re_plain ck rfl (e_g ck (of_decide_eq_true h1) h2)
    · cases h
  | .bin op a b => by
    intro X G Γ k W mu pe ck h
    simp only [agE] at h
    split at h
    · rename_i d hd
      obtain ⟨p, rfl⟩ := dBin_ok hd
      obtain ⟨h, h3⟩ := and2 h
      obtain ⟨h1, h2⟩ := and2 h
      have e := of_decide_eq_true h1
      subst e
      exact re_plain ck rfl (e_bin ck.gm.gk (sndE a false ck h2).1 (sndE b false ck h3).1)
    · cases h
  | .un op a => by
    intro X G Γ k W mu pe ck h
    simp only [agE] at h
    split at h
    · rename_i d hd
      obtain ⟨p, rfl⟩ := dUn_ok hd
      obtain ⟨h, h3⟩ := and2 h
      obtain ⟨h1, h2⟩ := and2 h
      have e := of_decide_eq_true h1
      subst e
      refine ⟨e_un (sndE a false ck h3).1, pt_tru ck.gm.gk (e_un (sndE a false ck h3).1) ?_⟩
      intro whole
      have hn : op ≠ .Not := by simpa using h2
      cases op <;> first | rfl | exact absurd rfl hn
    · cases h
  | .not a => by
    intro X G Γ k W mu pe ck h
    simp only [agE] at h
    split at h
    · rename_i d hd
      obtain ⟨p, rfl⟩ := dUn_ok hd
      obtain ⟨h1, h3⟩ := and2 h
      have e := of_decide_eq_true h1
      subst e
      exact e_not ck.gm.gk (sndE a false ck h3)
    · cases h
  | .cmp op a b => by
    intro X G Γ k W mu pe ck h
    simp only [agE] at h
    split at h
    · rename_i d hd
      obtain ⟨p, rfl⟩ := dCmp1_ok hd
      obtain ⟨h, h3⟩ := and2 h
      obtain ⟨h1, h2⟩ := and2 h
      have e := of_decide_eq_true h1
      subst e
      exact e_cmp ck (sndE a false ck h2).1 (sndE b false ck h3).1 (in_plain _ (agE_hd b h3))
    · cases h
  | .chn o1 o2 a b c => by
    intro X G Γ k W mu pe ck h
    simp only [agE] at h
    split at h
    · rename_i d hd
      obtain ⟨p, rfl⟩ := dCmp2_ok hd
      obtain ⟨h, h5⟩ := and2 h
      obtain ⟨h, h4⟩ := and2 h
      obtain ⟨h, h3⟩ := and2 h
      obtain ⟨h1, h2⟩ := and2 h
      have e := of_decide_eq_true h1
      subst e
      have e := of_decide_eq_true h2
      subst e
      exact e_chn ck (sndE a false ck h3).1 (sndE b false ck h4).1 (sndE c false ck h5).1 (last_plain (agE_hd c h5))
    · cases h
  | .and es => by
    intro X G Γ k W mu pe ck h
    simp only [agE] at h
    split at h
    · rename_i d hd
      obtain ⟨p, rfl⟩ := dBool_ok hd
      obtain ⟨h, h3⟩ := and2 h
      obtain ⟨h1, h2⟩ := and2 h
      have e := of_decide_eq_true h1
      subst e
      obtain ⟨_, q⟩ := sndA es ck h3
      obtain ⟨q1, _, q3, _⟩ := q p
      refine ⟨q3, ?_⟩
      rcases q1 with q1 | q1
      · exact pw_pt q1
      · rw [q1] at h2
        cases h2
    · cases h
  | .or es => by
    intro X G Γ k W mu pe ck h
    simp only [agE] at h
    split at h
    · rename_i d hd
      obtain ⟨p, rfl⟩ := dBool_ok hd
      obtain ⟨h, h3⟩ := and2 h
      obtain ⟨h1, h2⟩ := and2 h
      have e := of_decide_eq_true h1
      subst e
      obtain ⟨_, q⟩ := sndA es ck h3
      obtain ⟨_, q1, _, q3⟩ := q p
      refine ⟨q3, ?_⟩
      rcases q1 with q1 | q1
      · exact pw_pt q1
      · rw [q1] at h2
        cases h2
    · cases h
  | .ife t a b => by
    intro X G Γ k W mu pe ck h
    simp only [agE] at h
    split at h
    · rename_i d hd
      obtain ⟨p, rfl⟩ := dIf_ok hd
      obtain ⟨h, h3⟩ := and2 h
      obtain ⟨h1, h2⟩ := and2 h
      exact ⟨e_ife (sndE t false ck h1).2 (sndE a false ck h2).1 (sndE b false ck h3).1, pt_false⟩
    · cases h
  | .tup es => by
    intro X G Γ k W mu pe ck h
    simp only [agE] at h
    split at h
    · rename_i d hd
      obtain ⟨j, p, rfl⟩ := dTup_ok hd
      exact re_plain ck rfl (e_tup (sndA es ck h).1)
    · cases h
  | .lst es => by
    intro X G Γ k W mu pe ck h
    simp only [agE] at h
    split at h
    · rename_i d hd
      obtain ⟨p, rfl⟩ := dLst_ok hd
      exact re_plain ck rfl (e_lst (sndA es ck h).1)
    · cases h
  | .sub a i => by
    intro X G Γ k W mu pe ck h
    simp only [agE] at h
    split at h
    · rename_i d hd
      obtain ⟨p, rfl⟩ := dSub_ok hd
      obtain ⟨h1, h2⟩ := and2 h
      exact re_plain ck rfl (e_sub ck.gm.gk (sndE a false ck h1).1 (sndE i false ck h2).1 (agE_hd i h2))
    · cases h
  | .sl a lo hi => by
    intro X G Γ k W mu pe ck h
    simp only [agE] at h
    split at h
    · rename_i d hd
      obtain ⟨p, p2, rfl⟩ := dSl_ok hd
      obtain ⟨h, h3⟩ := and2 h
      obtain ⟨h1, h2⟩ := and2 h
      exact re_plain ck rfl (e_sl ck.gm.gk (sndE a false ck h1).1 ((sndO lo ck).1 h2) ((sndO hi ck).1 h3))
    · cases h
  | .rev a => by
    intro X G Γ k W mu pe ck h
    simp only [agE] at h
    split at h
    · rename_i d hd
      obtain ⟨j, p1, p2, p3, p, rfl⟩ := dRev_ok hd
      exact re_plain ck rfl (e_rev ck.gm.gk (sndE a false ck h).1)
    · cases h
  | .att a f => by
    intro X G Γ k W mu pe ck h
    simp only [agE] at h
    split at h
    · rename_i d hd
      obtain ⟨p, rfl⟩ := dAtt_ok hd
      obtain ⟨h, h3⟩ := and2 h
      obtain ⟨h1, h2⟩ := and2 h
      exact re_plain ck rfl (pe_att ck (sndE a false ck h1).1 (of_decide_eq_true h2) h3)
    · cases h
  | .call n es => by
    intro X G Γ k W mu pe ck h
    simp only [agE] at h
    split at h
    · rename_i d hd
      obtain ⟨p, pos, rfl⟩ := dCN_ok hd
      obtain ⟨h, h4⟩ := and2 h
      obtain ⟨h, h3⟩ := and2 h
      obtain ⟨h1, h2⟩ := and2 h
      obtain ⟨g1, g2⟩ := gl_ok h2
      exact re_plain ck rfl (pe_fn ck (of_decide_eq_true h1) g1 g2 (sndA es ck h4).1 (ArgsOk.of h3 h4) (NilOk.of h3 h4))
    · cases h
  | .new n es => by
    intro X G Γ k W mu pe ck h
    simp only [agE] at h
    split at h
    · rename_i d hd
      obtain ⟨p, pos, rfl⟩ := dCN_ok hd
      obtain ⟨h, h4⟩ := and2 h
      obtain ⟨h, h3⟩ := and2 h
      obtain ⟨h1, h2⟩ := and2 h
      obtain ⟨g1, g2⟩ := gl_ok h2
      exact re_plain ck rfl (pe_new ck (of_decide_eq_true h1) g1 g2 (sndA es ck h4).1 (ArgsOk.of h3 h4) (NilOk.of h3 h4))
    · cases h
  | .exn n es => by
    intro X G Γ k W mu pe ck h
    simp only [agE] at h
    split at h
    · rename_i d hd
      obtain ⟨p, pos, rfl⟩ := dCN_ok hd
      obtain ⟨h, h4⟩ := and2 h
      obtain ⟨h, h3⟩ := and2 h
      obtain ⟨h1, h2⟩ := and2 h
      obtain ⟨g1, g2⟩ := gl_ok h2
      exact re_plain ck rfl (pe_exn ck (of_decide_eq_true h1) g1 (sndA es ck h4).1 (ArgsOk.of h3 h4) (NilOk.of h3 h4))
    · cases h
  | .met o m es => by
    intro X G Γ k W mu pe ck h
    simp only [agE] at h
    split at h
    · rename_i d hd
      have e := dCM_ok hd
      subst e
      obtain ⟨h, h7⟩ := and2 h
      obtain ⟨h, h6⟩ := and2 h
      obtain ⟨h, h5⟩ := and2 h
      obtain ⟨h, h4⟩ := and2 h
      obtain ⟨h, h3⟩ := and2 h
      obtain ⟨h1, h2⟩ := and2 h
      exact re_plain ck rfl (pe_met ck (sndE o false ck h1).1 (of_decide_eq_true h2) h3 (by simpa using h4) (of_decide_eq_true h5) (sndA es ck h7).1 (ArgsOk.of h6 h7) (NilOk.of h6 h7))
    · cases h
  | .bi f es => by
    intro X G Γ k W mu pe ck h
    simp only [agE] at h
    split at h
    · rename_i d hd
      obtain ⟨p, pos, rfl⟩ := dCN_ok hd
      obtain ⟨h, h4⟩ := and2 h
      obtain ⟨h, h3⟩ := and2 h
      obtain ⟨h1, h2⟩ := and2 h
      exact re_plain ck rfl (e_bi ck (of_decide_eq_true h1) h2 (sndA es ck h4).1 (ArgsOk.of h3 h4) (NilOk.of h3 h4))
    · cases h
  | .bm o m es => by
    intro X G Γ k W mu pe ck h
    simp only [agE] at h
    split at h
    · rename_i d hd
      have e := dCM_ok hd
      subst e
      obtain ⟨h, h7⟩ := and2 h
      obtain ⟨h, h6⟩ := and2 h
      obtain ⟨h, h5⟩ := and2 h
      obtain ⟨h, h4⟩ := and2 h
      obtain ⟨h, h3⟩ := and2 h
      obtain ⟨h1, h2⟩ := and2 h
      exact re_plain ck rfl (e_bm ck (sndE o false ck h1).1 (of_decide_eq_true h2) h3 (by simpa using h4) (of_decide_eq_true h5) (sndA es ck h7).1 (ArgsOk.of h6 h7) (NilOk.of h6 h7))
    · cases h
  | .lc own e tg it ifs => by
    intro X G Γ k W mu pe ck h
    simp only [agE] at h
    split at h
    · rename_i d hd
      obtain ⟨p, rfl⟩ := dLC_ok hd
      obtain ⟨h, h8⟩ := and2 h
      obtain ⟨h, h7⟩ := and2 h
      obtain ⟨h, h6⟩ := and2 h
      obtain ⟨h, h5⟩ := and2 h
      obtain ⟨h, h4⟩ := and2 h
      obtain ⟨h, h3⟩ := and2 h
      obtain ⟨h1, h2⟩ := and2 h
      obtain ⟨pi, fs⟩ := sndI it ck h3 h4
      refine re_plain ck rfl (e_lc ck ⟨pi, blkOk_by h1, of_decide_eq_true h2, fun i hi => ?_, fun hcd s H C cl fp => ?_, fun hcd s H C cl fp => ?_, fun hcd s H C cl fp => ?_, fs⟩)
      · have := List.all_eq_true.mp h6 i hi
        simpa using this
      · exact g_ok (X := X.blk s H _ (compEnvC _ cl C X.env) fp) (cc := false) (fun z => by cases z) ck.gm.gk (fun z => (ck.cold z).1) ck.nd h5
      · exact (sndO ifs (cok_blk ck hcd s H _ (compEnvC _ cl C X.env) fp)).2 h7
      · exact (sndE e false (cok_blk ck hcd s H _ (compEnvC _ cl C X.env) fp) h8).1
    · cases h
  | .isi a cs => by
    intro X G Γ k W mu pe ck h
    simp only [agE] at h
    split at h
    · rename_i f x y hd
      obtain ⟨p, pos, rfl⟩ := dCN_ok hd
      obtain ⟨h, h4⟩ := and2 h
      obtain ⟨h, h3⟩ := and2 h
      obtain ⟨h1, h2⟩ := and2 h
      have hf := of_decide_eq_true h1
      split at h4
      · have he := e_isi1 ck (p := p) (pos := pos) hf h2 (sndE a false ck h3).1 (agE_hd a h3) h4
        exact ⟨he, pt_bl he (plain_tru rfl)⟩
      · rename_i cs ys ht
        obtain ⟨j, py, rfl⟩ := dTup_ok ht
        obtain ⟨h5, h6⟩ := and2 h4
        have he := e_isiT ck (p := p) (pos := pos) (j := j) (py := py) hf h2 (sndE a false ck h3).1 (agE_hd a h3) (of_decide_eq_true h5) h6
        exact ⟨he, pt_bl he (plain_tru rfl)⟩
      · cases h4
    · cases h
  | .sset a => by
    intro X G Γ k W mu pe ck h
    simp only [agE] at h
    split at h
    · rename_i f y hd
      obtain ⟨p, pos, rfl⟩ := dCN_ok hd
      obtain ⟨h, h3⟩ := and2 h
      obtain ⟨h1, h2⟩ := and2 h
      split at h3
      · rename_i f2 x hd2
        obtain ⟨p2, q, rfl⟩ := dCN_ok hd2
        obtain ⟨h3, h6⟩ := and2 h3
        obtain ⟨h4, h5⟩ := and2 h3
        exact re_plain ck rfl (e_sset ck (of_decide_eq_true h1) (of_decide_eq_true h4) h2 h5 (sndE a false ck h6).1 (agE_hd a h6))
      · cases h3
    · cases h
  | .lrv a => by
    intro X G Γ k W mu pe ck h
    simp only [agE] at h
    split at h
    · rename_i f y hd
      obtain ⟨p, pos, rfl⟩ := dCN_ok hd
      obtain ⟨h, h3⟩ := and2 h
      obtain ⟨h1, h2⟩ := and2 h
      split at h3
      · rename_i f2 x hd2
        obtain ⟨p2, q, rfl⟩ := dCN_ok hd2
        obtain ⟨h3, h6⟩ := and2 h3
        obtain ⟨h4, h5⟩ := and2 h3
        exact re_plain ck rfl (e_lrv ck (of_decide_eq_true h1) (of_decide_eq_true h4) h2 h5 (sndE a false ck h6).1 (agE_hd a h6))
      · cases h3
    · cases h
  | .ostr a => by
    intro X G Γ k W mu pe ck h
    simp only [agE] at h
    split at h
    · rename_i f x hd
      obtain ⟨p, pos, rfl⟩ := dCN_ok hd
      obtain ⟨h, h3⟩ := and2 h
      obtain ⟨h1, h2⟩ := and2 h
      exact re_plain ck rfl (e_ostr ck (of_decide_eq_true h1) h2 (sndE a false ck h3).1 (agE_hd a h3))
    · cases h
  | .oeq ne a b => by
    intro X G Γ k W mu pe ck h
    simp only [agE] at h
    split at h
    · rename_i x o y hd
      obtain ⟨p, rfl⟩ := dCmp1_ok hd
      obtain ⟨h, h3⟩ := and2 h
      obtain ⟨h1, h2⟩ := and2 h
      have ho := of_decide_eq_true h1
      subst ho
      exact e_oeq ck (sndE a false ck h2).1 (sndE b false ck h3).1 (in_plain _ (agE_hd b h3))
    · cases h
  | .dct ks vs => fun X G Γ k W mu pe ck h => ⟨pe_false, pt_false⟩
  | .m e => fun X G Γ k W mu pe ck h => sndE e true ck h
  | .fz e => fun X G Γ k W mu pe ck h => ⟨e_fz (sndE e true ck h).1, pt_false⟩
theorem sndA : ∀ es : Exs, SA es
  | .nil => by
    intro X G Γ k W xs ck h
    have e : xs = [] := List.isEmpty_iff.mp h
    subst e
    exact ⟨a_nil, fun p => ⟨.inr rfl, .inr rfl, pe_false, pe_false⟩⟩
  | .cons e r => by
    intro X G Γ k W xs ck h
    cases xs with
    | nil => cases h
    | cons x xs =>
      obtain ⟨h1, h2⟩ := and2 (show (agE G.nm X.N X.env.scope e x && agEs G.nm X.N X.env.scope r xs) = true from h)
      have he := sndE e false ck h1
      obtain ⟨ha, hb⟩ := sndA r ck h2
      refine ⟨a_cons he.1 (agE_hd e h1) ha, fun p => ?_⟩
      obtain ⟨b1, b2, b3, b4⟩ := hb p
      cases r with
      | nil =>
        have ex : xs = [] := List.isEmpty_iff.mp h2
        subst ex
        exact ⟨.inl (w_and1 he.2), .inl (w_or1 he.2), pe_one he.1, pe_one he.1⟩
      | cons e2 r2 =>
        cases xs with
        | nil => cases h2
        | cons y ys => exact ⟨.inl (w_and he.2 (b1.resolve_right (by simp))), .inl (w_or he.2 (b2.resolve_right (by simp))), v_and he.1 b3, v_or he.1 b4⟩
      | star e2 r2 =>
        cases xs with
        | nil => cases h2
        | cons y ys => exact ⟨.inl (w_and he.2 (b1.resolve_right (by simp))), .inl (w_or he.2 (b2.resolve_right (by simp))), v_and he.1 b3, v_or he.1 b4⟩
  | .star e r => by
    intro X G Γ k W xs ck h
    cases xs with
    | nil => cases h
    | cons x xs =>
      cases x <;> first | (cases h; done) | skip
      rename_i y p
      obtain ⟨h1, h2⟩ := and2 (show (agE G.nm X.N X.env.scope e y && agEs G.nm X.N X.env.scope r xs) = true from h)
      exact ⟨a_star ck.gm.gk (sndE e false ck h1).1 (sndA r ck h2).1, fun p => ⟨.inl pw_false, .inl pw_false, pe_false, pe_false⟩⟩
theorem sndO : ∀ o : Exo, SO o
  | .no => by
    intro X G Γ k W ck
    refine ⟨fun {po} h => ?_, fun {ps} h => ?_⟩
    · cases po with
      | none => exact o_none
      | some x => cases h
    · have e : ps = [] := List.isEmpty_iff.mp h
      subst e
      exact ⟨fun pins s σ H Q I ⟨F, τ, M, Qb, E, A, rs, up, xw, q⟩ => pts_nil.run pins s σ H Q I (up true F M H .refl A q)⟩
  | .yes e => by
    intro X G Γ k W ck
    refine ⟨fun {po} h => ?_, fun {ps} h => ?_⟩
    · cases po with
      | none => cases h
      | some x => exact o_some (sndE e false ck h).1
    · match ps, h with
      | [], h => cases h
      | [x], h => exact pts_one (sndE e false ck h).2
      | _ :: _ :: _, h => cases h
theorem sndI : ∀ i : It, SI i
  | .val e => by
    intro X G Γ k W tg pe ck h ht
    exact ⟨i_val ck.gm.gk (sndE e false ck h).1, fold_plain (agE_hd e h)⟩
  | .rng .no b => by
    intro X G Γ k W tg pe ck h ht
    simp only [agI] at h
    split at h
    · rename_i x y hd
      obtain ⟨p, pos, rfl⟩ := dCN_ok hd
      obtain ⟨h, h3⟩ := and2 h
      obtain ⟨h1, h2⟩ := and2 h
      exact ⟨i_rng1 ck (of_decide_eq_true h1) h2 (sndE b false ck h3).1 (agE_hd b h3), fun x => rfl⟩
    · cases h
  | .rng (.yes a) b => by
    intro X G Γ k W tg pe ck h ht
    simp only [agI] at h
    split at h
    · rename_i x y z hd
      obtain ⟨p, pos, rfl⟩ := dCN_ok hd
      obtain ⟨h, h4⟩ := and2 h
      obtain ⟨h, h3⟩ := and2 h
      obtain ⟨h1, h2⟩ := and2 h
      exact ⟨i_rng2 ck (of_decide_eq_true h1) h2 (sndE a false ck h3).1 (agE_hd a h3) (sndE b false ck h4).1 (agE_hd b h4), fun x => rfl⟩
    · cases h
  | .zip a b => by
    intro X G Γ k W tg pe ck h ht
    simp only [agI] at h
    split at h
    · rename_i x y z hd
      obtain ⟨p, pos, rfl⟩ := dCN_ok hd
      obtain ⟨h, h4⟩ := and2 h
      obtain ⟨h, h3⟩ := and2 h
      obtain ⟨h1, h2⟩ := and2 h
      exact ⟨i_zip ck (of_decide_eq_true h1) h2 (sndE a false ck h3).1 (agE_hd a h3) (sndE b false ck h4).1 (agE_hd b h4) ht, fun x => rfl⟩
    · cases h
  | .enu a => by
    intro X G Γ k W tg pe ck h ht
    simp only [agI] at h
    split at h
    · rename_i x y hd
      obtain ⟨p, pos, rfl⟩ := dCN_ok hd
      obtain ⟨h, h3⟩ := and2 h
      obtain ⟨h1, h2⟩ := and2 h
      exact ⟨i_enu ck (of_decide_eq_true h1) h2 (sndE a false ck h3).1 (agE_hd a h3) ht, fun x => rfl⟩
    · cases h
  | .rvd a => by
    intro X G Γ k W tg pe ck h ht
    simp only [agI] at h
    split at h
    · rename_i x y hd
      obtain ⟨p, pos, rfl⟩ := dCN_ok hd
      obtain ⟨h, h3⟩ := and2 h
      obtain ⟨h1, h2⟩ := and2 h
      exact ⟨i_rvd ck (of_decide_eq_true h1) h2 (sndE a false ck h3).1 (agE_hd a h3), fun x => rfl⟩
    · cases h
  | .items a => by
    intro X G Γ k W tg pe ck h ht
    simp only [agI] at h
    split at h
    · rename_i x y ap pos hd
      have e := dCM_ok hd
      subst e
      exact ⟨⟨fun _ _ _ _ _ _ h => by
        obtain ⟨_, _, _, _, _, _, _, _, _, h⟩ := h
        exact h.elim⟩, fun x => rfl⟩
    · cases h
end
end Nb

/-! Nb14 -/
set_option Elab.async false
set_option linter.all false
set_option maxRecDepth 100000
set_option maxHeartbeats 2000000
/-! Nb14: statements and loops over trees. -/
namespace Nb
open PySem PySem.Spec L2 L2H
open PyProof.Rows hiding St

/-- the ends of a statement, told -/
structure RelD (G : GI) (W : WX) (F : Hp) (M : MHp) (H : Hp) (B : BD) (D : Ends) : Prop where
  nx : ∀ τ1 F1 M1 H1 σ1, Ev F M H F1 M1 H1 → At G F1 M1 H1 → RelS G F1 τ1 σ1 → B.nx τ1 M1 → D.nx σ1 H1
  rt : ∀ x F1 M1 H1 v, Ev F M H F1 M1 H1 → At G F1 M1 H1 → RepV G F1 x v → B.rt x M1 → D.rt v H1
  bk : ∀ τ1 F1 M1 H1 σ1, Ev F M H F1 M1 H1 → At G F1 M1 H1 → RelS G F1 τ1 σ1 → B.bk τ1 M1 → D.bk σ1 H1
  ct : ∀ τ1 F1 M1 H1 σ1, Ev F M H F1 M1 H1 → At G F1 M1 H1 → RelS G F1 τ1 σ1 → B.ct τ1 M1 → D.ct σ1 H1
  ex : ∀ c fs τ1 F1 M1 H1 σ1 cls d, Ev F M H F1 M1 H1 → At G F1 M1 H1 → RelS G F1 τ1 σ1 → XR G F1 M1 H1 c fs cls d → B.ex c fs τ1 M1 → W cls d σ1 H1
def liftB (G : GI) (W : WX) (b : BS) : TS := fun D σ H => ∃ F τ M B, At G F M H ∧ RelS G F τ σ ∧ RelD G W F M H B D ∧ b B τ M
section
variable {G : GI} {Γ : Gm} {X : Cx} {k : Nat} {W : WX} {F F1 H H1 : Hp} {M M1 : MHp} {B : BD} {D : Ends} {τ : Sl} {σ : L2.St}
theorem RelD.on (r : RelD G W F M H B D) (e : Ev F M H F1 M1 H1) : RelD G W F1 M1 H1 B D :=
  ⟨fun t F2 M2 H2 s e2 a b q => r.nx t F2 M2 H2 s (e.trans e2) a b q, fun t F2 M2 H2 s e2 a b q => r.rt t F2 M2 H2 s (e.trans e2) a b q, fun t F2 M2 H2 s e2 a b q => r.bk t F2 M2 H2 s (e.trans e2) a b q,
    fun t F2 M2 H2 s e2 a b q => r.ct t F2 M2 H2 s (e.trans e2) a b q, fun c fs t F2 M2 H2 s cls d e2 a b q z => r.ex c fs t F2 M2 H2 s cls d (e.trans e2) a b q z⟩
theorem RelD.exw (r : RelD G W F M H B D) (rs : RelS G F τ σ) : ExW G W F M H σ (fun c fs M1 => B.ex c fs τ M1) := fun c fs F1 M1 H1 cls d e a x q => r.ex c fs τ F1 M1 H1 σ cls d e a (rs.mono e.sub) x q
/-- another end of the usual kind -/
theorem RelD.seq (r : RelD G W F M H B D) {P : Sl → MHp → Prop} {N : L2.St → Hp → Prop} (h : ∀ τ1 F1 M1 H1 σ1, Ev F M H F1 M1 H1 → At G F1 M1 H1 → RelS G F1 τ1 σ1 → P τ1 M1 → N σ1 H1) : RelD G W F M H { B with nx := P } { D with nx := N } := ⟨h, r.rt, r.bk, r.ct, r.ex⟩

theorem s_expr {x : Expr} {p : Pos} {b : BE} (he : PE X x (liftE G W b)) (hn : noLC x = true) : PS X (.Expr x p) (liftB G W fun B τ M => b τ M (fun _ M1 => B.nx τ M1) fun c fs M1 => B.ex c fs τ M1) :=
  PS.imp (ps_expr he (swaps_no hn)) fun D σ H ⟨F, τ, M, B, A, rs, rd, h⟩ => thenE A rs (rd.exw rs) h fun x F1 M1 H1 v e a s1 _ _ q => rd.nx τ F1 M1 H1 σ e a s1 q
theorem s_asg {cc : Bool} (c : Cok X G Γ k W) (hfn : cc = true → ∀ x, X.fn x = true ∨ X.env.scope.names.lookup x ≠ some .cell) {x : Expr} {i : Nat} {n : Str} {p p2 : Pos} {b : BE} (hi : ixB X.N i n = true) (hl : setB cc X.env.scope n = true) (he : PE X x (liftE G W b)) (hn : swapsWith x (some (.Name n p)) p2.line X.env = pure false) :
    PS X (.Assign [.Name n p] x p2) (liftB G W fun B τ M => b τ M (fun x M1 => B.nx (τ.set i (some x)) M1) fun c fs M1 => B.ex c fs τ M1) :=
  PS.imp (ps_set c.nd (of_decide_eq_true hi) (store_at hfn hl).1 he hn (store_at hfn hl).2) fun D σ H ⟨F, τ, M, B, A, rs, rd, h⟩ => thenE A rs (rd.exw rs) h fun x F1 M1 H1 v e a s1 _ r q => rd.nx _ F1 M1 H1 _ e a (s1.set i r) q
theorem s_asgT {cc : Bool} (c : Cok X G Γ k W) (hfn : cc = true → ∀ x, X.fn x = true ∨ X.env.scope.names.lookup x ≠ some .cell) {x : Expr} {is : List Nat} {ts : List Expr} {j : Nat} {p p2 : Pos} {b : BE} (ht : agTs cc X.N X.env.scope is ts = true) (hl : is.length ≠ 1) (he : PE X x (liftE G W b)) (hn : noLC x = true) (hd : dTup x = none) :
    PS X (.Assign [.Tuple ts j p] x p2) (liftB G W fun B τ M => b τ M (fun x M1 => asgT Γ is x τ fun τ1 => B.nx τ1 M1) fun c fs M1 => B.ex c fs τ M1) := by
  have hg := g_tup (j := j) (p := p) hfn c.gm.gk (fun z => (c.cold z).1) c.nd ht hl
  have hw : swappedStores [.Tuple ts j p] x X.env = pure none := by
    cases x <;> first | rfl | cases hd
  exact PS.imp (ps_asg he hg (by unfold swapsWithSole; exact swaps_no hn) hw) fun D σ H ⟨F, τ, M, B, A, rs, rd, h⟩ => thenE A rs (rd.exw rs) h fun x F1 M1 H1 v e a s1 _ r q =>
    ⟨F1, M1, τ, x, _, a, s1, r, q, fun τ1 σ1 r1 _ hq => rd.nx τ1 F1 M1 H1 σ1 e a r1 hq⟩
theorem s_asgA (c : Cok X G Γ k W) {o x : Expr} {f : Nat} {y : Str} {p p2 : Pos} {bo b : BE} (ho : PE X o (liftE G W bo)) (he : PE X x (liftE G W b)) (hf : G.nm f = y) (hn : noLC x = true) :
    PS X (.Assign [.Attribute o y p] x p2) (liftB G W fun B τ M => b τ M (fun y M1 => bo τ M1 (fun x M2 => ∃ a c gs, x = .ref a ∧ M2 a = some (.ins c gs) ∧ Γ.fld c f = true ∧ gs.length < 900 ∧ B.nx τ (ms M2 a (.ins c (putN f y gs)))) fun c fs M1 => B.ex c fs τ M1) fun c fs M1 => B.ex c fs τ M1) :=
  PS.imp (ps_fld ho he (swaps_no hn)) fun D σ H ⟨F, τ, M, B, A, rs, rd, h⟩ => thenE A rs (rd.exw rs) h fun yv F1 M1 H1 v e a s1 x1 r h1 => thenE a s1 x1 h1 fun x F2 M2 H2 u e2 a2 s2 _ r2 ⟨l, cc, gs, ex, hM, hfl, hz, q⟩ => by
    subst ex
    cases r2
    subst hf
    obtain ⟨C, dx, ws, hC, hH, rf⟩ := a2.mo l _ hM
    obtain ⟨C2, hC2, hcl, hno⟩ := c.gm.fld cc f hfl
    rw [hC] at hC2
    cases hC2
    obtain ⟨A3, E3⟩ := a2.put (o := .ins C dx (putF (G.nm f) v ws)) (m' := .ins cc (putN f yv gs)) hM ⟨C, dx, _, hC, upd_same, RepFs.put (r.mono e2.sub) rf⟩
    exact ⟨l, C, dx, ws, rfl, hH, hcl, hno, by rw [← rf.length]; omega, rd.nx τ F2 _ _ σ ((e.trans e2).trans E3) A3 s2 q⟩
theorem s_asgS (c : Cok X G Γ k W) {o i x : Expr} {p p2 : Pos} {bo bi b : BE} (ho : PE X o (liftE G W bo)) (hi : PE X i (liftE G W bi)) (he : PE X x (liftE G W b)) (hh : okHd i = true) (hn : noLC x = true) :
    PS X (.Assign [.Subscript o i p] x p2) (liftB G W fun B τ M => b τ M (fun y M1 => bo τ M1 (fun x M2 => bi τ M2 (fun z M3 => ∃ a xs k j, x = .ref a ∧ M3 a = some (.lst xs) ∧ z = .int k ∧ ixN xs.length k = some j ∧ B.nx τ (ms M3 a (.lst (xs.set j y))))
      fun c fs M1 => B.ex c fs τ M1) fun c fs M1 => B.ex c fs τ M1) fun c fs M1 => B.ex c fs τ M1) := by
  have hg : PG X (.Subscript o i p) (gSub (liftE G W bo) (liftE G W bi) rSetL) := pg_sub ho hi set_list (by intro v; cases i <;> first | rfl | cases hh)
  have hw : swappedStores [.Subscript o i p] x X.env = pure none := by cases x <;> rfl
  exact PS.imp (ps_asg he hg (by unfold swapsWithSole; exact swaps_no hn) hw) fun D σ H ⟨F, τ, M, B, A, rs, rd, h⟩ => thenE A rs (rd.exw rs) h fun yv F1 M1 H1 v e a s1 x1 r h1 =>
    thenE a s1 x1 h1 fun x F2 M2 H2 u e2 a2 s2 x2 r2 h2 => thenE a2 s2 x2 h2 fun z F3 M3 H3 w e3 a3 s3 _ r3 ⟨l, xs, kk, j, ex, hM, ez, hj, q⟩ => by
      subst ex ez
      cases r2
      cases r3
      obtain ⟨ws, hH, t⟩ := a3.mo l _ hM
      obtain ⟨A4, E4⟩ := a3.put (o := .lst (ws.set j v)) (m' := .lst (xs.set j yv)) hM ⟨_, upd_same, t.set ((r.mono e2.sub).mono e3.sub) j⟩
      exact ⟨l, ws, kk, j, rfl, rfl, hH, by rw [← t.length]; exact hj, rd.nx τ F3 _ _ σ (((e.trans e2).trans e3).trans E4) A4 s3 q⟩
theorem s_aug {cc : Bool} (c : Cok X G Γ k W) (hfn : cc = true → ∀ x, X.fn x = true ∨ X.env.scope.names.lookup x ≠ some .cell) {x : Expr} {i : Nat} {n : Str} {op : Operator} {p p2 : Pos} {b : BE} (hi : ixB X.N i n = true) (hl : setB cc X.env.scope n = true) (he : PE X x (liftE G W b)) :
    PS X (.AugAssign (.Name n p) op x p2) (liftB G W fun B τ M => ∃ x, τ[i]? = some (some x) ∧ b τ M (fun y M1 => ∃ a c, op = .Add ∧ x = .int a ∧ y = .int c ∧ B.nx (τ.set i (some (.int (a + c)))) M1) fun c fs M1 => B.ex c fs τ M1) := by
  have pip : PIp X op (fun x y H Q => op = .Add ∧ ipI (fun i j => i + j) x y H Q) := fun pins s σ H x y v u Q I r1 r2 ⟨e, h⟩ => by
    subst e
    exact ip_add pins s σ H x y v u Q I r1 r2 h
  refine PS.imp (ps_aug c.nd (of_decide_eq_true hi) (store_at hfn hl).1 he pip (store_at hfn hl).2) fun D σ H ⟨F, τ, M, B, A, rs, rd, y, hy, h⟩ => ?_
  obtain ⟨v, hv, rv⟩ := rs.at_ i y hy
  refine ⟨v, hv, thenE A rs (rd.exw rs) h fun z F1 M1 H1 u e a s1 _ r ⟨m, n, e1, e2, e3, q⟩ => ?_⟩
  subst e1 e2 e3
  cases rv
  cases r
  exact ⟨rfl, m, n, rfl, rfl, rd.nx _ F1 M1 H1 _ e a (s1.set i (.int _)) q⟩
theorem s_augA (c : Cok X G Γ k W) {x : Expr} {i f : Nat} {n y : Str} {op : Operator} {p p2 p3 : Pos} {b : BE} (hi : ixB X.N i n = true) (hv : visB X.env.scope n = true) (hf : G.nm f = y) (he : PE X x (liftE G W b)) :
    PS X (.AugAssign (.Attribute (.Name n p) y p2) op x p3) (liftB G W fun B τ M => ∃ a c gs v, τ[i]? = some (some (.ref a)) ∧ M a = some (.ins c gs) ∧ Γ.fld c f = true ∧ gs.lookup f = some (.int v) ∧
      b τ M (fun y M1 => ∃ n, op = .Add ∧ y = .int n ∧ M1 a = some (.ins c gs) ∧ gs.length < 900 ∧ B.nx τ (ms M1 a (.ins c (putN f (.int (v + n)) gs)))) fun c fs M1 => B.ex c fs τ M1) := by
  have inop : InOp X op (fun x y H Q => op = .Add ∧ rAdd x y H Q) := fun pins s σ H x y v u Q I r1 r2 ⟨e, h⟩ => by
    subst e
    exact in_add pins s σ H x y v u Q I r1 r2 h
  obtain ⟨v1, v2, v3⟩ := vis_ok hv
  refine PS.imp (ps_fldaug (pe_var (of_decide_eq_true hi) v1 v2 v3) he inop) fun D σ H ⟨F, τ, M, B, A, rs, rd, l, cc, gs, m, hy, hM, hfl, hlk, h⟩ => ?_
  obtain ⟨v, hv, rv⟩ := rs.at_ i _ hy
  cases rv
  subst hf
  obtain ⟨C, dx, ws, hC, hH, rf⟩ := A.mo l _ hM
  obtain ⟨C2, hC2, hcl, hno⟩ := c.gm.fld cc f hfl
  rw [hC] at hC2
  cases hC2
  obtain ⟨w, hw, rw'⟩ := rf.lookup hlk
  cases rw'
  refine ⟨.ref l, hv, l, C, dx, ws, .int m, rfl, hH, hcl, hno, hw, thenE A rs (rd.exw rs) h fun z F1 M1 H1 u e a s1 _ r ⟨n, e1, e2, hM1, hz, q⟩ => ?_⟩
  subst e1 e2
  cases r
  obtain ⟨C3, dx3, ws3, hC3, hH3, rf3⟩ := a.mo l _ hM1
  obtain ⟨A3, E3⟩ := a.put (o := .ins C3 dx3 (putF (G.nm f) (.int (m + n)) ws3)) (m' := .ins cc (putN f (.int (m + n)) gs)) hM1 ⟨C3, dx3, _, hC3, upd_same, RepFs.put (.int _) rf3⟩
  have eC : C3 = C := by rw [hC] at hC3; cases hC3; rfl
  subst eC
  exact ⟨rfl, m, n, rfl, rfl, dx3, ws3, hH3, by rw [← rf3.length]; omega, rd.nx τ F1 _ _ σ (e.trans E3) A3 s1 q⟩
theorem s_ret {x : Expr} {p : Pos} {b : BE} (he : PE X x (liftE G W b)) : PS X (.Return (some x) p) (liftB G W fun B τ M => b τ M (fun x M1 => B.rt x M1) fun c fs M1 => B.ex c fs τ M1) :=
  PS.imp (ps_ret he) fun D σ H ⟨F, τ, M, B, A, rs, rd, h⟩ => thenE A rs (rd.exw rs) h fun x F1 M1 H1 v e a s1 _ r q => rd.rt x F1 M1 H1 v e a r q
theorem s_retN {p : Pos} : PS X (.Return none p) (liftB G W fun B _ M => B.rt .non M) := PS.imp ps_retN fun D σ H ⟨F, τ, M, B, A, rs, rd, h⟩ => rd.rt .non F M H .non .refl A .non h
theorem s_ifs {t : Expr} {x y : List Stmt} {p : Pos} {bt : BT} {bx b_y : BS} (ht : PT X t (liftT G W bt)) (hx : PSs X x (liftB G W bx)) (hy : PSs X y (liftB G W b_y)) :
    PS X (.If t x y p) (liftB G W fun B τ M => bt τ M (fun k M1 => (k = true → bx B τ M1) ∧ (k = false → b_y B τ M1)) fun c fs M1 => B.ex c fs τ M1) :=
  PS.imp (ps_if ht hx hy) fun D σ H ⟨F, τ, M, B, A, rs, rd, h⟩ => thenT A rs (rd.exw rs) h fun k F1 M1 H1 e a s1 _ q => by
    cases k with
    | true => rw [if_pos rfl]; exact ⟨F1, τ, M1, B, a, s1, rd.on e, q.1 rfl⟩
    | false => rw [if_neg (by decide)]; exact ⟨F1, τ, M1, B, a, s1, rd.on e, q.2 rfl⟩
theorem s_fore (c : Cok X G Γ k W) {tg it : Expr} {b : List Stmt} {p : Pos} {is : List Nat} {bi : BI} {bb : BS} (hg : PG X tg (liftG G Γ is)) (hi : PI X tg it (liftI G W bi)) (hb : PSs X b (liftB G W bb)) (hf : ∀ x, foldedSetIterable it X.env x = pure x) :
    PS X (.For tg it b [] p) (liftB G W fun B τ M => Γ.cold = true ∧ bi τ M (fun items g M1 => forW Γ g is bb B items τ M1) fun c fs M1 => B.ex c fs τ M1) := by
  refine ⟨fun pins s σ H D I ⟨F, τ, M, B, A, rs, rd, hcd, h⟩ => ?_⟩
  refine (ps_for c.ps (c.cold hcd).1 hi hg hb hf).run pins s σ H D I ⟨F, τ, M, _, _, A, rs, fun J items g F1 M1 H1 e1 A1 jok hR => ?_, rd.exw rs, h⟩
  refine ⟨fun i m σ H => ∃ F M τ, m + i = items.length ∧ Ev F1 M1 H1 F M H ∧ At G F M H ∧ RelS G F τ σ ∧ forW Γ g is bb B (items.drop i) τ M, ⟨items.length, F1, M1, τ, rfl, .refl, A1, rs.mono e1.sub, hR⟩, ?_⟩
  rintro i m σ2 H2 ⟨F2, M2, τ2, hi', e2, A2, r2, hw⟩
  cases hr : items.drop i with
  | nil =>
    rw [hr] at hw
    have hle : items.length ≤ i := List.drop_eq_nil_iff.mp hr
    have hw' : g M2 ∧ B.nx τ2 M2 := hw
    exact .inl ⟨(jok F2 M2 H2 e2 A2 hw'.1 i).2 (by omega), rd.nx τ2 F2 M2 H2 σ2 (e1.trans e2) A2 r2 hw'.2⟩
  | cons y ys =>
    rw [hr] at hw
    have hlt : i < items.length := by
      by_cases hlt : i < items.length
      · exact hlt
      · rw [List.drop_eq_nil_of_le (by omega)] at hr; cases hr
    have hy : items[i]? = some y := by
      have := congrArg List.head? hr
      rw [List.head?_drop] at this
      exact this
    have hys : items.drop (i + 1) = ys := by
      rw [← List.tail_drop, hr]; rfl
    obtain ⟨hg', hw⟩ := (show g M2 ∧ asgT Γ is y τ2 fun τ1 => bb { B with nx := fun τ2 M2 => forW Γ g is bb B ys τ2 M2, ct := fun τ2 M2 => forW Γ g is bb B ys τ2 M2, bk := B.nx } τ1 M2 from hw)
    obtain ⟨jgo, jy⟩ := (jok F2 M2 H2 e2 A2 hg' i).1 hlt
    refine .inr ⟨jgo, fun σ H => ∃ F M τ, (m - 1) + (i + 1) = items.length ∧ Ev F1 M1 H1 F M H ∧ At G F M H ∧ RelS G F τ σ ∧ forW Γ g is bb B ys τ M, fun σ' H' ⟨F', M', τ', a1, a2, a3, a4, a5⟩ => ⟨m - 1, by omega, F', M', τ', a1, a2, a3, a4, by rw [hys]; exact a5⟩, fun x H' hyld => ?_⟩
    obtain ⟨F3, e3, A3, y', hy', ry⟩ := jy x H' hyld
    rw [hy] at hy'
    cases hy'
    refine ⟨F3, M2, τ2, y, _, A3, r2.mono e3.sub, ry, hw, fun τ1 σ1 r1 _ hk => ⟨F3, τ1, M2, _, A3, r1, ?_, hk⟩⟩
    have base := rd.on ((e1.trans e2).trans e3)
    refine ⟨fun τ4 F4 M4 H4 σ4 e4 a4 r4 q => ⟨F4, M4, τ4, by omega, (e2.trans e3).trans e4, a4, r4, q⟩, base.rt, base.nx, fun τ4 F4 M4 H4 σ4 e4 a4 r4 q => ⟨F4, M4, τ4, by omega, (e2.trans e3).trans e4, a4, r4, q⟩, base.ex⟩
theorem s_whl (c : Cok X G Γ k W) {t : Expr} {b : List Stmt} {p : Pos} {bt : BT} {bb : BS} (ht : PT X t (liftT G W bt)) (hb : PSs X b (liftB G W bb)) :
    PS X (.While t b [] p) (liftB G W fun B τ M => ∃ n, whlW bt bb B n τ M) := by
  refine PS.imp (ps_while c.ps ht hb) fun D σ H0 ⟨F, τ, M, B, A, rs, rd, n, h⟩ => ?_
  refine ⟨fun m σ H => ∃ F1 M1 τ1, Ev F M H0 F1 M1 H ∧ At G F1 M1 H ∧ RelS G F1 τ1 σ ∧ whlW bt bb B m τ1 M1, ⟨n, F, M, τ, .refl, A, rs, h⟩, ?_⟩
  rintro m σ2 H2 ⟨F2, M2, τ2, e2, A2, r2, hw⟩
  cases m with
  | zero => exact hw.elim
  | succ m =>
    have hw' : bt τ2 M2 (fun b M1 => (b = true → bb { B with nx := fun τ2 M2 => whlW bt bb B m τ2 M2, ct := fun τ2 M2 => whlW bt bb B m τ2 M2, bk := B.nx } τ2 M1) ∧ (b = false → B.nx τ2 M1)) fun c fs M1 => B.ex c fs τ2 M1 := hw
    have rd2 := rd.on e2
    refine thenT A2 r2 (rd2.exw r2) hw' fun kk F3 M3 H3 e3 A3 r3 _ q => ?_
    cases kk with
    | true =>
      rw [if_pos rfl]
      refine ⟨fun σ H => ∃ F1 M1 τ1, Ev F M H0 F1 M1 H ∧ At G F1 M1 H ∧ RelS G F1 τ1 σ ∧ whlW bt bb B m τ1 M1, fun σ' H' z => ⟨m, Nat.lt_succ_self _, z⟩, F3, τ2, M3, _, A3, r3, ?_, q.1 rfl⟩
      have base := rd2.on e3
      exact ⟨fun τ4 F4 M4 H4 σ4 e4 a4 r4 q => ⟨F4, M4, τ4, (e2.trans e3).trans e4, a4, r4, q⟩, base.rt, base.nx, fun τ4 F4 M4 H4 σ4 e4 a4 r4 q => ⟨F4, M4, τ4, (e2.trans e3).trans e4, a4, r4, q⟩, base.ex⟩
    | false =>
      rw [if_neg (by decide)]
      exact rd2.nx τ2 F3 M3 H3 σ2 e3 A3 r3 (q.2 rfl)
theorem s_rais (c : Cok X G Γ k W) {n : Nat} {y : Str} {xs : List Expr} {p p2 p3 : Pos} {b : BA} (hx : G.nm n = y) (hg : Gl X y) (ha : PA X xs (liftA G W b)) (ok : ArgsOk X xs) (nl : NilOk xs b) :
    PS X (.Raise (some (.Call (.Name y p) xs [] p2)) none p3) (liftB G W fun B τ M => Γ.cold = true ∧ ∃ fo, Γ.xc n = some fo ∧ b τ M (fun xs M1 => match fo with
      | some f => ∃ x, xs = [x] ∧ B.ex n [(f, x)] τ M1
      | none => xs = [] ∧ B.ex n [] τ M1) fun c fs M1 => B.ex c fs τ M1) := by
  refine ⟨fun pins s σ H D I ⟨F, τ, M, B, A, rs, rd, hcd, fo, hfo, h⟩ => ?_⟩
  subst hx
  obtain ⟨C, hC, hr⟩ := (c.gm.xc n fo hfo).pmk
  have mk := hr X rfl rfl rfl rfl rfl c.room hg xs _ p p2 ha ok.st ok.pl (fun e σ' H' Q' q => by
    obtain ⟨F2, τ2, M2, Q2, E2, A2, rs2, up2, xw2, h2⟩ := q
    exact up2 [] F2 M2 H' [] .refl A2 .nil (nl e _ _ _ _ h2))
  refine (ps_raise (c.cold hcd).1 c.tk mk).run pins s σ H D I (thenA A rs (rd.exw rs) h fun ys F1 M1 H1 vs e a s1 _ r q => ?_)
  cases fo with
  | none =>
    obtain ⟨rfl, q⟩ := q
    cases r
    exact ⟨rfl, rd.ex n [] τ F1 M1 H1 σ _ _ e a s1 ⟨C, hC, rfl, .inl ⟨rfl, rfl⟩⟩ q⟩
  | some f =>
    obtain ⟨x, rfl, q⟩ := q
    obtain ⟨v, rfl, r1⟩ := rep1 r
    refine ⟨v, rfl, fun d hd => ?_⟩
    obtain ⟨A2, E2⟩ := a.new (o := .xd [(G.nm f, v)]) hd
    exact rd.ex n _ τ F1 M1 _ σ _ _ (e.trans E2) A2 s1 ⟨C, hC, rfl, .inr ⟨d, _, rfl, upd_same, a.none_of hd, .cons r1 .nil⟩⟩ q
theorem ss_nil : PSs X [] (liftB G W fun B τ M => B.nx τ M) := PSs.imp pss_nil fun D σ H ⟨F, τ, M, B, A, rs, rd, h⟩ => rd.nx τ F M H σ .refl A rs h
theorem ss_cons {st : Stmt} {r : List Stmt} {b1 b2 : BS} (h1 : PS X st (liftB G W b1)) (h2 : PSs X r (liftB G W b2)) : PSs X (st :: r) (liftB G W fun B τ M => b1 { B with nx := fun τ1 M1 => b2 B τ1 M1 } τ M) :=
  PSs.imp (pss_cons h1 h2) fun D σ H ⟨F, τ, M, B, A, rs, rd, h⟩ => ⟨F, τ, M, _, A, rs, rd.seq fun τ1 F1 M1 H1 σ1 e a r q => ⟨F1, τ1, M1, B, a, r, rd.on e, q⟩, h⟩
theorem s_pass {p : Pos} : PS X (.Pass p) (liftB G W fun B τ M => B.nx τ M) := PS.imp ps_pass fun D σ H ⟨F, τ, M, B, A, rs, rd, h⟩ => rd.nx τ F M H σ .refl A rs h
theorem s_brk {p : Pos} : PS X (.Break p) (liftB G W fun B τ M => B.bk τ M) := PS.imp ps_break fun D σ H ⟨F, τ, M, B, A, rs, rd, h⟩ => rd.bk τ F M H σ .refl A rs h
theorem s_cnt {p : Pos} : PS X (.Continue p) (liftB G W fun B τ M => B.ct τ M) := PS.imp ps_continue fun D σ H ⟨F, τ, M, B, A, rs, rd, h⟩ => rd.ct τ F M H σ .refl A rs h
theorem s_nvr {st : Stmt} : PS X st (liftB G W fun _ _ _ => False) := PS.imp ps_never fun D σ H ⟨F, τ, M, B, A, rs, rd, h⟩ => h
theorem ns_ok {n : Str} {p : Pos} {x : Expr} {l : Nat} (h : nsB X.env.scope n p.line x = true) : swapsWith x (some (.Name n p)) l X.env = pure false := by
  cases x <;> first | (cases h; done) | skip
  rename_i e gs comp pos
  have h' : (!((X.env.scope.names.lookup n == some .local) && (p.line == pos.line) && !(comp.names.any fun (m, k) => m == n && (k == .local || k == .cell)))) = true := h
  have h2 : ((X.env.scope.names.lookup n == some .local) && (p.line == pos.line) && !(comp.names.any fun (m, k) => m == n && (k == .local || k == .cell))) = false := by
    generalize ((X.env.scope.names.lookup n == some .local) && (p.line == pos.line) && !(comp.names.any fun (m, k) => m == n && (k == .local || k == .cell))) = b at h' ⊢
    cases b <;> first | rfl | cases h'
  show (pure (X.env.blockKind == .function && X.env.kindOf n == some .local && p.line == pos.line && !(comp.names.any fun (m, k) => m == n && (k == .local || k == .cell))) : Sem Bool) = pure false
  have e1 : X.env.kindOf n = X.env.scope.names.lookup n := rfl
  rw [e1]
  cases hb : (X.env.blockKind == .function)
  · rfl
  · rw [Bool.true_and, h2]
theorem s_asgL (c : Cok X G Γ k W) {mu : Bool} {elt tg iter : Expr} {ifs : List Expr} {scope : Scope} {own tgs : List Nat} {pos spos py : Pos} {bi : BI} {bt : BT} {be : BE} {i : Nat} {y : Str} (hi : ixB X.N i y = true)
    (hsw : swB X.env.scope y py.line (.ListComp elt [⟨tg, iter, ifs, 0⟩] scope pos) = true) (L : LcOk X G Γ W elt tg iter ifs scope own tgs bi bt be) :
    PS X (.Assign [.Name y py] (.ListComp elt [⟨tg, iter, ifs, 0⟩] scope pos) spos) (liftB G W fun B τ M => bLc Γ mu own tgs bi bt be τ M (fun x M1 => B.nx (τ.set i (some x)) M1) fun c fs M1 => B.ex c fs τ M1) := by
  refine ⟨fun pins s σ H D I ⟨F, τ, M, B, A, rs, rd, hcd, h⟩ => ?_⟩
  have isl : X.env.scope.names.lookup y = some .local := of_decide_eq_true (and2 (and2 (and2 hsw).1).1).2
  have sw : swapsWith (.ListComp elt [⟨tg, iter, ifs, 0⟩] scope pos) (some (.Name y py)) spos.line X.env = pure true := by
    obtain ⟨h1, h4⟩ := and2 hsw
    obtain ⟨h1, h3⟩ := and2 h1
    obtain ⟨h1, h2⟩ := and2 h1
    have e1 : X.env.scope.kind = .function := of_decide_eq_true h1
    have e2 : X.env.kindOf y = some .local := of_decide_eq_true h2
    show (pure (X.env.blockKind == .function && X.env.kindOf y == some .local && py.line == pos.line && !(scope.names.any fun (n, k) => n == y && (k == .local || k == .cell))) : Sem Bool) = pure true
    have e3 : X.env.blockKind = .function := by unfold Env.blockKind; rw [I.ok.kind]; rfl
    rw [e2, e3, h3, h4]
    rfl
  refine (ps_setLc (c.cold hcd).1 c.nd (of_decide_eq_true hi) isl sw L.pi L.ok (L.pg hcd) (L.pt hcd) (L.pe hcd) L.fs).run pins s σ H D I ?_
  rw [L.ix]
  refine tlc_of (Q := fun x M1 => B.nx (τ.set i (some x)) M1) hcd L.tin A rs (fun x F1 M1 H1 v e a r q => ?_) (rd.exw rs) h
  exact rd.nx _ F1 M1 H1 _ e a ((rs.mono e.sub).set i r) q
end
end Nb

/-! Nb15 -/
set_option Elab.async false
set_option linter.all false
set_option maxRecDepth 100000
set_option maxHeartbeats 4000000
/-! Nb15: try with several clauses, with names and without; all statements; defs. -/
namespace Nb
open PySem PySem.Spec L2 L2H
open PyProof.Rows hiding St

/-! ### the rule -/
/-- a clause: its class, its name's slot, its suite's reading -/
abbrev Cl := Value × Option Nat × (Addr → Value → Option Addr → TS)
def putO (σ : L2.St) (i : Option Nat) (v : Option V) : L2.St := match i with
  | some i => σ.set i v
  | none => σ
/-- the wish of an exception, clause by clause -/
def wCl (K : PySem.W.Frag) (Wout : WX) (D : Ends) : List Cl → WX
  | [] => Wout
  | (c, i, ts) :: r => fun cls d σ H => ∃ b, PySem.W.exmOne K cls c = some b ∧
      (b = true → ∀ a, H a = none → ts a cls d { nx := fun σ' H' => D.nx (putO σ' i none) H', rt := D.rt, bk := fun σ' H' => D.bk (putO σ' i none) H', ct := fun σ' H' => D.ct (putO σ' i none) H' } (putO σ i (some (.ref a))) H) ∧ (b = false → wCl K Wout D r cls d σ H)
inductive ClOk (X : Cx) : List ExceptHandler → List Cl → Prop
  | nil : ClOk X [] []
  | cons {x : Str} {c : Value} {n : Option Str} {i : Option Nat} {ts : Addr → Value → Option Addr → TS} {b₀ : Stmt} {suite : List Stmt} {np pos' : Pos} {hds : List ExceptHandler} {l : List Cl}
      (hc : Names X x c) (hn : ∀ y, n = some y → ∃ j, i = some j ∧ X.N[j]? = some y ∧ X.env.kindOf y = some .local) (hi : n = none → i = none)
      (hsu : ∀ (a : Addr) (oe : Obj) (cls : Value) (d : Option Addr) (pn : List (Addr × Obj)), Zc cls d oe → (∃ vs, oe.data = .fields vs) → PSs (X.suite a ((a, oe) :: pn)) (b₀ :: suite) (ts a cls d)) (r : ClOk X hds l) :
      ClOk X (.ExceptHandler (some (.Name x np)) n (b₀ :: suite) pos' :: hds) ((c, i, ts) :: l)
section
variable {X : Cx} {body : List Stmt} {h₀ : ExceptHandler} {hds : List ExceptHandler} {l : List Cl} {pos : Pos} {tb : WX → TS} {Wout : WX}
theorem ps_tryA (hs : X.stack = X.env :: X.outer) (hf : X.env.frame = some X.env.locals) (hN : X.N.Nodup) (tk : Takes X Wout)
    (hb : ∀ (W : WX) (pn : List (Addr × Obj)) (xe : Value → Shared → Prop), Takes (X.tr pn xe) W → PassesOwn (model X.prog X.w) X.A X.env xe → PSs (X.tr pn xe) body (tb W))
    (hh : ClOk X (h₀ :: hds) l) : PS X (.Try body (h₀ :: hds) [] [] pos) (fun D σ H => tb (wCl X.K Wout D l) D σ H) := by
  refine ⟨fun pins s σ H D I h => ?_⟩
  have ok := I.ok
  have frm : X.A.frames = some (X.env :: X.outer) := by rw [ok.frames, hs]
  refine wpAny_Try_except ?_
  refine wpAny_mono ((hb (wCl X.K Wout D l) (X.pn ++ pins) (fun e s₁ => wpAny (model X.prog X.w) X.A (noteFrame e X.env) (fun _ s₂ => wpAny (model X.prog X.w) X.A (setFlight e none) (fun _ s₃ =>
    wpAny (model X.prog X.w) X.A (handleBy e X.env (h₀ :: hds)) (SP X pins D) X.xe s₃) X.xe s₂) X.xe s₁) (fun u s' air => ?_) PassesOwn.looking).run [] s σ H D (I.toTry _) h) (fun f s1 hsp => ?_) (fun e s1 he => he)
  · obtain ⟨a, B, sI, pins', σ', H', cls, d, rfl, J', nb, up, sky, na, os, ag, w⟩ := air
    have J : Inv X pins σ' H' sI := J'.ofTry ok
    have sky' : Sky B (X.env :: X.outer) a (Zc cls d) X.env.locals s'.heap := by rw [← hs]; exact sky
    show wpAny (model X.prog X.w) X.A (noteFrame (.ref a) X.env) _ _ _
    refine Sky.land Zc.steady frm hf sky' fun h3 fl3 up3 => ?_
    have J3 : Inv X pins σ' H' { s' with heap := h3 } := J.landed nb fl3.1 (up.trans up3) os ag
    obtain ⟨oe3, vs3, he3, hz3, hd3⟩ := fl3.there
    have apart : a ∉ frs (X.env :: X.outer) := fun hm => by
      obtain ⟨_, o', e', hnf⟩ := fl3.2.2.1.mem hm
      rw [he3] at e'
      cases e'
      exact hnf _ hd3
    have nL : a ≠ X.env.locals := fun z => apart (List.mem_filterMap.mpr ⟨X.env, List.mem_cons_self, by rw [hf, z]⟩)
    have nF : a ∉ X.fs := fun hm => by
      obtain ⟨e, he, q⟩ := List.mem_filterMap.mp hm
      exact apart (List.mem_filterMap.mpr ⟨e, List.mem_cons_of_mem _ he, q⟩)
    have S3 := J3.suite he3 hd3 na nL nF
    have go : ∀ {hds' : List ExceptHandler} {l' : List Cl}, ClOk X hds' l' → wCl X.K Wout D l' cls d σ' H' →
        wpAny (model X.prog X.w) X.A (handleBy (.ref a) X.env hds') (SP X pins D) X.xe { s' with heap := h3 } := by
      intro hds' l' hk
      induction hk with
      | nil =>
        intro w
        refine wpAny_handleBy_nil ?_
        obtain ⟨k1, k2, k3, oe, vs, T, oT, ts', he, hz, hd, h1, hr⟩ := id fl3
        unfold PySem.passOn
        refine wpAny_bind (wpAny_field he hd h1 ?_)
        rw [if_neg (show ¬ ((Value.ref T == Value.none) = true) from by simp)]
        have leave : wpAny (model X.prog X.w) X.A (setFlight (.ref a) X.env.frame) (fun _ s4 => wpAny (model X.prog X.w) X.A (throw (.ref a) : Sem Flow) (SP X pins D) X.xe s4) X.xe { s' with heap := h3 } := by
          rw [hf]
          refine HandSPX.setFlight_upZ fl3 fun h4 hh4 up4 => wpAny_throw (tk _ _ ?_)
          exact ⟨a, B, sI, pins, σ', H', cls, d, rfl, J, nb, (up.trans up3).trans up4, .inr (.inr (by rw [hs]; exact hh4)), na, os, ag, w⟩
        first
          | exact wpAny_bind (wpAny_pure (wpAny_bind leave))
          | exact wpAny_bind leave
      | @cons x c n i ts b₀ suite np pos' hds2 l2 hc hn hi hsu r ih =>
        intro w
        obtain ⟨b, hb1, yes, no⟩ := w
        refine wpAny_handleBy_cons (codeAny_handlers_test ?_) (by intro q; cases q)
        have LT : PySem.W.Looks (model X.prog X.w) h3 (typeOf (.ref a)) cls := fun A Q E s k q => wpAny_typeOf_ref (k _ _ he3) (by rw [hz3.1]; exact q)
        have LM := PySem.W.exm_one (M := model X.prog X.w) (J3.kIn) LT hb1
        have named : ∀ {Q : Value → Shared → Prop} {E : Value → Shared → Prop}, Q c { s' with heap := h3 } → wpAny (model X.prog X.w) (X.A.mark (some (.ref a))) (eval (.Name x np) X.env) Q E { s' with heap := h3 } := fun {Q E} q => by
          obtain ⟨hg, hdbg, hm | ⟨hm, hv, hnn⟩⟩ := hc
          · exact ld_glob (X := X.suite a ((a, oe3) :: (X.pn ++ pins))) S3 hg hm q hdbg
          · exact ld_blt (X := X.suite a ((a, oe3) :: (X.pn ++ pins))) S3 hg hm hv q hnn hdbg
        refine named (LM.here ?_)
        cases b with
        | false =>
          show wpAny _ X.A (handleBy (.ref a) X.env hds2) _ _ _
          exact ih (no rfl)
        | true =>
          cases n with
          | none =>
            have ei := hi rfl
            subst ei
            refine codeAny_handlers_suite ?_
            refine HandSPX.lands_againZ fl3 fun h4 fl4 up4 => ?_
            have J4 : Inv X pins σ' H' { s' with heap := h4 } := J.landed nb fl4.1 ((up.trans up3).trans up4) os ag
            obtain ⟨oe4, vs4, he4, hz4, hd4⟩ := fl4.there
            have S4 := J4.suite he4 hd4 na nL nF
            refine wpAny_mono ((hsu a oe4 cls d (X.pn ++ pins) hz4 ⟨_, hd4⟩).run [] _ _ H' _ S4 (yes rfl a na)) (fun f s6 hsp => ?_) (fun _ _ z => False.elim z)
            cases f with
            | next => obtain ⟨σ6, H6, S6, q6⟩ := hsp; exact ⟨_, _, S6.unsuite ok, q6⟩
            | brk => obtain ⟨σ6, H6, S6, q6⟩ := hsp; exact ⟨_, _, S6.unsuite ok, q6⟩
            | cont => obtain ⟨σ6, H6, S6, q6⟩ := hsp; exact ⟨_, _, S6.unsuite ok, q6⟩
            | ret u => obtain ⟨v6, σ6, H6, S6, r6, q6⟩ := hsp; exact ⟨_, _, _, S6.unsuite ok, r6, q6⟩
          | some y =>
            obtain ⟨j, ej, hj, hl⟩ := hn y rfl
            subst ej
            refine codeAny_handlers_suite_as ?_
            refine HandSPX.lands_againZ fl3 fun h4 fl4 up4 => ?_
            have J4 : Inv X pins σ' H' { s' with heap := h4 } := J.landed nb fl4.1 ((up.trans up3).trans up4) os ag
            obtain ⟨oe4, vs4, he4, hz4, hd4⟩ := fl4.there
            have S4 := J4.suite he4 hd4 na nL nF
            refine store_ok (X := X.suite a ((a, oe4) :: (X.pn ++ pins))) (v := .ref a) S4 hN hj (.inl hl) rfl (fun s5 S5 => ?_) (.inr hl)
            refine wpAny_mono ((hsu a oe4 cls d (X.pn ++ pins) hz4 ⟨_, hd4⟩).run [] s5 _ H' _ S5 (yes rfl a na)) (fun f s6 hsp => ?_) (fun _ _ z => False.elim z)
            have forget : ∀ {σ6 : L2.St} {H6 : Hp} {Q : Shared → Prop}, Inv (X.suite a ((a, oe4) :: (X.pn ++ pins))) [] σ6 H6 s6 → (∀ s7, Inv X pins (σ6.set j none) H6 s7 → Q s7) →
                wpAny (model X.prog X.w) X.A (do bindName X.env y .none; unbindBehindTheSuite X.env y pos') (fun _ s7 => Q s7) X.xe s6 := fun {σ6 H6 Q} S6 hq => gone_ok (S6.unsuite ok) hN hj hl hq
            cases f with
            | next => obtain ⟨σ6, H6, S6, q6⟩ := hsp; exact forget S6 fun s7 J7 => ⟨_, _, J7, q6⟩
            | brk => obtain ⟨σ6, H6, S6, q6⟩ := hsp; exact forget S6 fun s7 J7 => ⟨_, _, J7, q6⟩
            | cont => obtain ⟨σ6, H6, S6, q6⟩ := hsp; exact forget S6 fun s7 J7 => ⟨_, _, J7, q6⟩
            | ret u => obtain ⟨v6, σ6, H6, S6, r6, q6⟩ := hsp; exact forget S6 fun s7 J7 => ⟨_, _, _, J7, r6, q6⟩
    exact go hh w
  · cases f with
    | next => obtain ⟨σ', H', J', q⟩ := hsp; exact wpAny_execs_nil ⟨σ', H', J'.ofTry ok, q⟩
    | brk => obtain ⟨σ', H', J', q⟩ := hsp; exact ⟨σ', H', J'.ofTry ok, q⟩
    | cont => obtain ⟨σ', H', J', q⟩ := hsp; exact ⟨σ', H', J'.ofTry ok, q⟩
    | ret u => obtain ⟨v, σ', H', J', r, q⟩ := hsp; exact ⟨v, σ', H', J'.ofTry ok, r, q⟩
end

/-! ### from the calm side to the side where an error is at hand, and back -/
section
variable {G : GI} {F F1 H H1 : Hp} {M M1 : MHp}
mutual
theorem RepV.at {e : Addr × Addr × Option Addr} (h : G.er = none) {x : PV} {v : V} : RepV G F x v → RepV (G.at e) F x v
  | .non => .non
  | .bl b => .bl b
  | .int i => .int i
  | .str x => .str x
  | .tup q r => .tup q (RepVs.at h r)
  | .lst q r => .lst q (RepVs.at h r)
  | .kl q r => .kl q (RepVs.at h r)
  | .obj c q r => .obj c q (RepFs.at h r)
  | .ref a => .ref a
  | .raw v => .raw v
  | .exc q r => .exc (by
      obtain ⟨C, hC, q⟩ := q
      refine ⟨C, hC, ?_⟩
      rcases q with q | q | ⟨d, q, _⟩ | ⟨q, _⟩
      · exact .inl q
      · exact .inr (.inl q)
      · rw [h] at q; cases q
      · rw [h] at q; cases q) (RepFs.at h r)
theorem RepVs.at {e : Addr × Addr × Option Addr} (h : G.er = none) {xs : List PV} {vs : List V} : RepVs G F xs vs → RepVs (G.at e) F xs vs
  | .nil => .nil
  | .cons r t => .cons (RepV.at h r) (RepVs.at h t)
theorem RepFs.at {e : Addr × Addr × Option Addr} (h : G.er = none) {fs : List (Nat × PV)} {gs : List (Str × V)} : RepFs G F fs gs → RepFs (G.at e) F fs gs
  | .nil => .nil
  | .cons r t => .cons (RepV.at h r) (RepFs.at h t)
end
mutual
theorem RepV.off {e : Addr × Addr × Option Addr} {x : PV} {v : V} : noX x = true → RepV (G.at e) F x v → RepV G F x v
  | _, .non => .non
  | _, .bl b => .bl b
  | _, .int i => .int i
  | _, .str x => .str x
  | h, .tup q r => .tup q (RepVs.off h r)
  | h, .lst q r => .lst q (RepVs.off h r)
  | h, .kl q r => .kl q (RepVs.off h r)
  | h, .obj c q r => .obj c q (RepFs.off h r)
  | _, .ref a => .ref a
  | _, .raw v => .raw v
  | h, .exc q r => by cases h
theorem RepVs.off {e : Addr × Addr × Option Addr} {xs : List PV} {vs : List V} : noXs xs = true → RepVs (G.at e) F xs vs → RepVs G F xs vs
  | _, .nil => .nil
  | h, .cons r t => .cons (RepV.off (and2 h).1 r) (RepVs.off (and2 h).2 t)
theorem RepFs.off {e : Addr × Addr × Option Addr} {fs : List (Nat × PV)} {gs : List (Str × V)} : noXf fs = true → RepFs (G.at e) F fs gs → RepFs G F fs gs
  | _, .nil => .nil
  | h, .cons r t => .cons (RepV.off (and2 h).1 r) (RepFs.off (and2 h).2 t)
end
theorem LI.mo {a : Addr} {m : MO} (h : MOk G F H a m) : ∃ o, H a = some o ∧ LI o := by
  cases m with
  | lst xs => obtain ⟨vs, h1, _⟩ := h; exact ⟨_, h1, trivial⟩
  | ins c fs => obtain ⟨C, dx, gs, _, h1, _⟩ := h; exact ⟨_, h1, trivial⟩
  | dct _ => exact h.elim
/-- into the suite: nothing that may change is known; the error's dict is told -/
theorem suite_in {c : Nat} {fs : List (Nat × PV)} {C : Addr} {d : Option Addr} (A : At G F M H) (her : G.er = none) (x : XR G F M H c fs (.ref C) d) (a : Addr) :
    ∃ F2, Same F F2 ∧ At (G.at (a, C, d)) F2 (fun _ => none) H ∧ RepV (G.at (a, C, d)) F2 (.exc c fs) (.ref a) ∧ (∀ b o, F b = none → H b = some o → LI o → F2 b = none) := by
  obtain ⟨C', hC, eC, x⟩ := x
  cases eC
  rcases x with ⟨rfl, rfl⟩ | ⟨dd, gs, rfl, hd, hm, rf⟩
  · refine ⟨F, Same.refl F, ⟨A.sub, fun _ _ _ => rfl, fun a m e => by cases e⟩, .exc ⟨C, hC, .inr (.inr (.inr ⟨rfl, rfl⟩))⟩ .nil, fun _ _ h _ _ => h⟩
  · have sm : Same F (upd F dd (.xd gs)) := fun b o e => by
      by_cases q : b = dd
      · subst q
        rw [upd_same]
        have := A.sub _ _ e
        rw [hd] at this
        exact this
      · rw [upd_ne q]; exact e
    refine ⟨upd F dd (.xd gs), sm, ⟨fun b o e => ?_, fun _ _ _ => rfl, fun a m e => by cases e⟩, .exc ⟨C, hC, .inr (.inr (.inl ⟨dd, rfl, upd_same⟩))⟩ (RepFs.at her (rf.mono sm)), fun b o h1 h2 h3 => ?_⟩
    · by_cases q : b = dd
      · subst q
        rw [upd_same] at e
        rw [hd]
        exact e
      · rw [upd_ne q] at e; exact A.sub _ _ e
    · rw [upd_ne (fun z => by rw [z, hd] at h2; cases h2; exact h3)]
      exact h1
/-- .. and out of it -/
theorem suite_out {e : Addr × Addr × Option Addr} {F2 : Hp} (A : At G F M H) (s : Same F F2) (fr : ∀ b o, F b = none → H b = some o → LI o → F2 b = none) (A1 : At (G.at e) F1 M1 H1) (ev : Ev F2 (fun _ => none) H F1 M1 H1) : At G F1 M H1 ∧ Ev F M H F1 M H1 := by
  have none_ : ∀ b m, M b = some m → F1 b = none := fun b m hm => by
    obtain ⟨o, ho, li⟩ := LI.mo (A.mo b m hm)
    have hf : F b = none := by
      cases q : F b with
      | none => rfl
      | some u => rw [A.dis b u q] at hm; cases hm
    exact ev.fr b o ho li rfl (fr b o hf ho li)
  refine ⟨⟨A1.sub, fun b o q => ?_, fun b m hm => ?_⟩, ⟨s.trans ev.sub, fun b o ho n => ev.kp b o ho rfl, fun b o _ n => n, fun b o ho li n f => ev.fr b o ho li rfl (fr b o f ho li)⟩⟩
  · cases z : M b with
    | none => rfl
    | some m => rw [none_ b m z] at q; cases q
  · obtain ⟨o, ho, li⟩ := LI.mo (A.mo b m hm)
    exact (A.mo b m hm).mono (s.trans ev.sub) ((ev.kp b o ho rfl).trans ho.symm)
theorem relS_at {e : Addr × Addr × Option Addr} {F2 : Hp} {τ : Sl} {σ : L2.St} (h : G.er = none) (s : Same F F2) (r : RelS G F τ σ) : RelS (G.at e) F2 τ σ :=
  ⟨r.len, fun i x q => let ⟨v, h1, h2⟩ := r.at_ i x q; ⟨v, h1, RepV.at h (h2.mono s)⟩⟩
end

section
variable {G : GI} {Γ : Gm} {X : Cx} {k : Nat} {W : WX}
theorem gm_hot {P : Program} {w : World} {K : PySem.W.Frag} {mg : Str → Option Value} {base : Heap} (g : GmOk P w K mg base G Γ k) (e : Addr × Addr × Option Addr) : GmOk P w K mg base (G.at e) Γ.hot k where
  gk := g.gk
  fn := fun h => by cases h
  hfn := g.hfn
  ini := fun c S h => by cases h
  mt := fun c m S h => by cases h
  gl := g.gl
  fld := g.fld
  xfl := g.xfl
  bf := g.bf
  bn := g.bn
  own := g.own
  cls := g.cls
  isa := g.isa
  exm := g.exm
  isb := g.isb
  isf := g.isf
  bty := g.bty
  xc := fun c fo h => by cases h
  eqm := fun c S h => by cases h
  sib := g.sib
  stm := fun c S h => by cases h
theorem cok_suite (c : Cok X G Γ k W) {a : Addr} {oe : Obj} {C : Addr} {d : Option Addr} (pn : List (Addr × Obj)) (hz : Zc (.ref C) d oe) (hv : ∃ vs, oe.data = .fields vs) : Cok (X.suite a ((a, oe) :: pn)) (G.at (a, C, d)) Γ.hot k W0 where
  gm := gm_hot c.gm _
  room := ⟨c.room.dp, c.room.un⟩
  nd := c.nd
  cold := fun h => by cases h
  hot := fun _ => ⟨rfl, (a, oe), C, d, List.mem_cons_self, rfl, hz, hv⟩
  tk := takes0
  ps := PassesOwn.never
theorem cok_try (c : Cok X G Γ k W) (hcd : Γ.cold = true) {W' : WX} {pn : List (Addr × Obj)} {xe : Value → Shared → Prop} (tk : Takes (X.tr pn xe) W') (ps : PassesOwn (model X.prog X.w) X.A X.env xe) : Cok (X.tr pn xe) G Γ k W' where
  gm := c.gm
  room := c.room
  nd := c.nd
  cold := c.cold
  hot := fun h => by rw [hcd] at h; cases h
  tk := tk
  ps := ps
/-- where the frame stands on the stack -/
structure Bok (X : Cx) : Prop where
  hs : X.stack = X.env :: X.outer
  hf : X.env.frame = some X.env.locals
  fn : ∀ x, X.fn x = true ∨ X.env.scope.names.lookup x ≠ some .cell

/-! ### all statements -/
def SS (s : Sm) : Prop := ∀ ⦃X : Cx⦄ ⦃G : GI⦄ ⦃Γ : Gm⦄ ⦃k : Nat⦄ ⦃W : WX⦄ ⦃st : Stmt⦄, Cok X G Γ k W → Bok X → agS G.nm X.N X.env.scope s st = true → PS X st (liftB G W (wS Γ s))
def SSs (s : Sms) : Prop := ∀ ⦃X : Cx⦄ ⦃G : GI⦄ ⦃Γ : Gm⦄ ⦃k : Nat⦄ ⦃W : WX⦄ ⦃st : List Stmt⦄, Cok X G Γ k W → Bok X → agSs G.nm X.N X.env.scope s st = true → PSs X st (liftB G W (wSs Γ s))
/-- the clauses: what they wish, in the rule's words -/
def SH (s : Hds) : Prop := ∀ ⦃X : Cx⦄ ⦃G : GI⦄ ⦃Γ : Gm⦄ ⦃k : Nat⦄ ⦃W : WX⦄ ⦃hs : List ExceptHandler⦄, Cok X G Γ k W → Bok X → Γ.cold = true → agHs G.nm X.N X.env.scope s hs = true → knH Γ s = true →
  ∃ l, ClOk X hs l ∧ ∀ {F H : Hp} {M : MHp} {τ : Sl} {σ : L2.St} {B : BD} {D : Ends} {c : Nat} {fs : List (Nat × PV)} {cls : Value} {d : Option Addr}, At G F M H → RelS G F τ σ → RelD G W F M H B D → XR G F M H c fs cls d → wHs Γ s B c fs τ M → wCl X.K W D l cls d σ H
theorem pss_false {st : List Stmt} : PSs X st (liftB G W fun _ _ _ => False) := PSs.imp pss_never fun D σ H ⟨F, τ, M, B, A, rs, rd, h⟩ => h
/-- a comprehension at a statement's right side -/
theorem lc_parts {e : Ex} (hl : lcTop e = true) : ∀ (ck : Cok X G Γ k W) (mu : Bool) {pe : Expr}, agE G.nm X.N X.env.scope e pe = true →
    ∃ elt tg iter ifs scope own tgs bi bt be mu' pos, pe = .ListComp elt [⟨tg, iter, ifs, 0⟩] scope pos ∧ LcOk X G Γ W elt tg iter ifs scope own tgs bi bt be ∧ (wX Γ mu e).1 = bLc Γ mu' own tgs bi bt be := by
  induction e using Ex.rec (motive_2 := fun _ => True) (motive_3 := fun _ => True) (motive_4 := fun _ => True) with
  | lc own e tg it ifs =>
    intro ck mu pe h
    simp only [agE] at h
    split at h
    · rename_i d hd
      obtain ⟨p, rfl⟩ := dLC_ok hd
      obtain ⟨h, h8⟩ := and2 h
      obtain ⟨h, h7⟩ := and2 h
      obtain ⟨h, h6⟩ := and2 h
      obtain ⟨h, h5⟩ := and2 h
      obtain ⟨h, h4⟩ := and2 h
      obtain ⟨h, h3⟩ := and2 h
      obtain ⟨h1, h2⟩ := and2 h
      obtain ⟨pi, fs⟩ := sndI it ck h3 h4
      refine ⟨_, _, _, _, _, own, tg, _, _, _, mu, p, rfl, ⟨pi, blkOk_by h1, of_decide_eq_true h2, fun i hi => ?_, fun hcd s H C cl fp => ?_, fun hcd s H C cl fp => ?_, fun hcd s H C cl fp => ?_, fs⟩, rfl⟩
      · have := List.all_eq_true.mp h6 i hi
        simpa using this
      · exact g_ok (X := X.blk s H _ (compEnvC _ cl C X.env) fp) (cc := false) (fun z => by cases z) ck.gm.gk (fun z => (ck.cold z).1) ck.nd h5
      · exact (sndO ifs (cok_blk ck hcd s H _ (compEnvC _ cl C X.env) fp)).2 h7
      · exact (sndE e false (cok_blk ck hcd s H _ (compEnvC _ cl C X.env) fp) h8).1
    · cases h
  | m e ih => exact fun ck mu pe h => ih hl ck true h
  | nil | cons | star | no | yes | val | rng | zip | enu | items | rvd => trivial
  | _ => cases hl
end
mutual
theorem sndS : ∀ s : Sm, SS s
  | .exp e => by
    intro X G Γ k W st ck bk h
    cases st <;> first | (cases h; done) | skip
    obtain ⟨h1, h2⟩ := and2 h
    exact s_expr (sndE e false ck h2).1 h1
  | .asg i e => by
    intro X G Γ k W st ck bk h
    cases st <;> first | (cases h; done) | skip
    rename_i ts y p
    match ts, h with
    | [.Name x px], h =>
      obtain ⟨h, h4⟩ := and2 h
      obtain ⟨h, h3⟩ := and2 h
      obtain ⟨h1, h2⟩ := and2 h
      rw [Bool.or_eq_true] at h4
      rcases h4 with h4 | h4
      · exact s_asg ck (fun _ => bk.fn) h1 h2 (sndE e false ck h3).1 (swaps_no h4)
      rw [Bool.or_eq_true] at h4
      rcases h4 with h4 | h4
      rotate_left
      · exact s_asg ck (fun _ => bk.fn) h1 h2 (sndE e false ck h3).1 (ns_ok h4)
      · obtain ⟨h5, h6⟩ := and2 h4
        obtain ⟨elt, tg, iter, ifs, scope, own, tgs, bi, bt, be, mu, pos, rfl, L, ew⟩ := lc_parts h6 ck false h3
        have q := s_asgL (mu := mu) (spos := p) ck h1 h5 L
        show PS X _ (liftB G W fun D τ M => (wX Γ false e).1 τ M (fun x M1 => D.nx (τ.set i (some x)) M1) fun c fs M1 => D.ex c fs τ M1)
        rw [ew]
        exact q
  | .asgT is e => by
    intro X G Γ k W st ck bk h
    cases st <;> first | (cases h; done) | skip
    rename_i ts y p
    match ts, h with
    | [.Tuple es j px], h =>
      obtain ⟨h, h5⟩ := and2 h
      obtain ⟨h, h4⟩ := and2 h
      obtain ⟨h, h3⟩ := and2 h
      obtain ⟨h1, h2⟩ := and2 h
      exact s_asgT ck (fun _ => bk.fn) h1 (of_decide_eq_true h2) (sndE e false ck h5).1 h3 (by simpa using h4)
  | .asgA o f e => by
    intro X G Γ k W st ck bk h
    cases st <;> first | (cases h; done) | skip
    rename_i ts y p
    match ts, h with
    | [.Attribute x a px], h =>
      obtain ⟨h, h5⟩ := and2 h
      obtain ⟨h, h4⟩ := and2 h
      obtain ⟨h, h3⟩ := and2 h
      obtain ⟨h1, h2⟩ := and2 h
      exact s_asgA ck (sndE o false ck h1).1 (sndE e false ck h5).1 (of_decide_eq_true h2) h4
  | .asgS o i e => by
    intro X G Γ k W st ck bk h
    cases st <;> first | (cases h; done) | skip
    rename_i ts y p
    match ts, h with
    | [.Subscript x a px], h =>
      obtain ⟨h, h4⟩ := and2 h
      obtain ⟨h, h3⟩ := and2 h
      obtain ⟨h1, h2⟩ := and2 h
      exact s_asgS ck (sndE o false ck h1).1 (sndE i false ck h2).1 (sndE e false ck h4).1 (agE_hd i h2) h3
  | .aug i op e => by
    intro X G Γ k W st ck bk h
    cases st <;> first | (cases h; done) | skip
    rename_i t o y p
    cases t <;> first | (cases h; done) | skip
    obtain ⟨h, h4⟩ := and2 h
    obtain ⟨h, h3⟩ := and2 h
    obtain ⟨h1, h2⟩ := and2 h
    have e1 := of_decide_eq_true h1
    subst e1
    exact s_aug ck (fun _ => bk.fn) h2 h3 (sndE e false ck h4).1
  | .augA i f op e => by
    intro X G Γ k W st ck bk h
    cases st <;> first | (cases h; done) | skip
    rename_i t o y p
    cases t <;> first | (cases h; done) | skip
    rename_i x a px
    cases x <;> first | (cases h; done) | skip
    obtain ⟨h, h5⟩ := and2 h
    obtain ⟨h, h4⟩ := and2 h
    obtain ⟨h, h3⟩ := and2 h
    obtain ⟨h1, h2⟩ := and2 h
    have e1 := of_decide_eq_true h1
    subst e1
    exact s_augA ck h2 h3 (of_decide_eq_true h4) (sndE e false ck h5).1
  | .ret e => by
    intro X G Γ k W st ck bk h
    cases st <;> first | (cases h; done) | skip
    rename_i v p
    cases v <;> first | (cases h; done) | skip
    exact s_ret (sndE e false ck h).1
  | .retN => by
    intro X G Γ k W st ck bk h
    cases st <;> first | (cases h; done) | skip
    rename_i v p
    cases v <;> first | (cases h; done) | skip
    exact s_retN
  | .ifs t a b => by
    intro X G Γ k W st ck bk h
    cases st <;> first | (cases h; done) | skip
    obtain ⟨h, h3⟩ := and2 h
    obtain ⟨h1, h2⟩ := and2 h
    exact s_ifs (sndE t false ck h1).2 (sndSs a ck bk h2) (sndSs b ck bk h3)
  | .fore tg it b => by
    intro X G Γ k W st ck bk h
    cases st <;> first | (cases h; done) | skip
    rename_i t i y z p
    cases z <;> first | (cases h; done) | skip
    obtain ⟨h, h4⟩ := and2 h
    obtain ⟨h, h3⟩ := and2 h
    obtain ⟨h1, h2⟩ := and2 h
    obtain ⟨pi, fs⟩ := sndI it ck h3 h2
    exact s_fore ck (g_ok (fun _ => bk.fn) ck.gm.gk (fun z => (ck.cold z).1) ck.nd h1) pi (sndSs b ck bk h4) fs
  | .whl t b => by
    intro X G Γ k W st ck bk h
    cases st <;> first | (cases h; done) | skip
    rename_i x y z p
    cases z <;> first | (cases h; done) | skip
    obtain ⟨h1, h2⟩ := and2 h
    exact s_whl ck (sndE t false ck h1).2 (sndSs b ck bk h2)
  | .brk => by
    intro X G Γ k W st ck bk h
    cases st <;> first | (cases h; done) | exact s_brk
  | .cnt => by
    intro X G Γ k W st ck bk h
    cases st <;> first | (cases h; done) | exact s_cnt
  | .pass => by
    intro X G Γ k W st ck bk h
    cases st <;> first | (cases h; done) | exact s_pass
  | .rais c es => by
    intro X G Γ k W st ck bk h
    cases st <;> first | (cases h; done) | skip
    rename_i x y p
    cases x <;> first | (cases h; done) | skip
    cases y <;> first | (cases h; done) | skip
    rename_i x
    have h' : (match dCN x with | some (y, xs) => decide (G.nm c = y) && glB X.env.scope y && es.plain && agEs G.nm X.N X.env.scope es xs | none => false) = true := h
    split at h'
    · rename_i d hd
      obtain ⟨p1, p2, rfl⟩ := dCN_ok hd
      obtain ⟨h, h4⟩ := and2 h'
      obtain ⟨h, h3⟩ := and2 h
      obtain ⟨h1, h2⟩ := and2 h
      exact s_rais ck (of_decide_eq_true h1) (gl_ok h2).1 (sndA es ck h4).1 (ArgsOk.of h3 h4) (NilOk.of h3 h4)
    · cases h'
  | .tri b hs => by
    intro X G Γ k W st ck bk h
    cases st <;> first | (cases h; done) | skip
    rename_i x y z u p
    cases z <;> first | (cases h; done) | skip
    cases u <;> first | (cases h; done) | skip
    obtain ⟨h, h2⟩ := and2 h
    obtain ⟨h0, h1⟩ := and2 h
    have key : Γ.cold = true → knH Γ hs = true → ∃ l, ClOk X y l ∧ ∀ {F H : Hp} {M : MHp} {τ : Sl} {σ : L2.St} {B : BD} {D : Ends} {c : Nat} {fs : List (Nat × PV)} {cls : Value} {d : Option Addr}, At G F M H → RelS G F τ σ → RelD G W F M H B D → XR G F M H c fs cls d → wHs Γ hs B c fs τ M → wCl X.K W D l cls d σ H :=
      fun hcd hk => sndH hs ck bk hcd h2 hk
    cases hcd : Γ.cold with
    | false =>
      refine ⟨fun pins s σ H D I ⟨F, τ, M, B, A, rs, rd, q, _⟩ => ?_⟩
      rw [hcd] at q
      cases q
    | true =>
      cases hk : knH Γ hs with
      | false =>
        refine ⟨fun pins s σ H D I ⟨F, τ, M, B, A, rs, rd, _, q, _⟩ => ?_⟩
        rw [hk] at q
        cases q
      | true =>
        obtain ⟨l, ok, go⟩ := key hcd hk
        cases y with
        | nil => cases h0
        | cons h0 hr =>
          refine PS.imp (ps_tryA bk.hs bk.hf ck.nd ck.tk (tb := fun W' => liftB G W' (wSs Γ b)) (fun W' pn xe tk ps => sndSs b (cok_try ck hcd tk ps) ⟨bk.hs, bk.hf, bk.fn⟩ h1) ok) fun D σ H ⟨F, τ, M, B, A, rs, rd, _, _, q⟩ => ?_
          exact ⟨F, τ, M, { B with ex := fun c fs τ1 M1 => wHs Γ hs B c fs τ1 M1 }, A, rs, ⟨rd.nx, rd.rt, rd.bk, rd.ct, fun c fs τ1 F1 M1 H1 σ1 cls d e a r x q => go a r (rd.on e) x q⟩, q⟩
  | .nvr => fun X G Γ k W st ck bk h => s_nvr
theorem sndSs : ∀ s : Sms, SSs s
  | .nil => by
    intro X G Γ k W st ck bk h
    have e : st = [] := List.isEmpty_iff.mp h
    subst e
    exact ss_nil
  | .cons s r => by
    intro X G Γ k W st ck bk h
    cases st with
    | nil => cases h
    | cons x xs =>
      obtain ⟨h1, h2⟩ := and2 (show (agS G.nm X.N X.env.scope s x && agSs G.nm X.N X.env.scope r xs) = true from h)
      show PSs X (x :: xs) (liftB G W fun B τ M => wS Γ s { B with nx := fun τ1 M1 => wSs Γ r B τ1 M1 } τ M)
      exact ss_cons (sndS s ck bk h1) (sndSs r ck bk h2)
theorem sndH : ∀ s : Hds, SH s
  | .nil => by
    intro X G Γ k W hs ck bk hcd h hk
    have e : hs = [] := List.isEmpty_iff.mp h
    subst e
    exact ⟨[], .nil, fun A rs rd x q => rd.ex _ _ _ _ _ _ _ _ _ .refl A rs x q⟩
  | .cons c i s r => by
    intro X G Γ k W hs ck bk hcd h hk
    have her := (ck.cold hcd).2.2
    cases hs with
    | nil => cases h
    | cons y ys =>
      obtain ⟨t, n, b, p⟩ := y
      cases t <;> first | (cases h; done) | skip
      rename_i t
      cases t <;> first | (cases h; done) | skip
      rename_i x np
      obtain ⟨h, h5⟩ := and2 (show (agHc G.nm X.env.scope x c && agHn X.N X.env.scope i n && !b.isEmpty && agSs G.nm X.N X.env.scope s b && agHs G.nm X.N X.env.scope r ys) = true from h)
      obtain ⟨h, h4⟩ := and2 h
      obtain ⟨h, h3⟩ := and2 h
      obtain ⟨h1, h2⟩ := and2 h
      obtain ⟨k1, k2⟩ := and2 (show (knO Γ c && knH Γ r) = true from hk)
      cases c with
      | none => cases h1
      | some dc =>
        obtain ⟨h6, h7⟩ := and2 h1
        obtain ⟨g1, g2⟩ := gl_ok h7
        have ex := of_decide_eq_true h6
        subst ex
        obtain ⟨eb, heb⟩ := Option.isSome_iff_exists.mp k1
        obtain ⟨_, DA, _, hD, _⟩ := ck.gm.exm dc dc eb heb
        obtain ⟨l, ok, go⟩ := sndH r ck bk hcd h5 k2
        cases b with
        | nil => cases h3
        | cons b0 bs =>
          refine ⟨(.ref DA, i, fun a cls d => match cls with | .ref C => liftB (G.at (a, C, d)) W0 (wSs Γ.hot s) | _ => tNever) :: l, .cons ⟨g1, g2, .inl (ck.gm.own _ _ hD)⟩ ?_ ?_ ?_ ok, ?_⟩
          · intro y hy
            subst hy
            cases i with
            | none => cases h2
            | some j =>
              obtain ⟨h8, h9⟩ := and2 h2
              exact ⟨j, rfl, of_decide_eq_true h8, loc_ok h9⟩
          · intro hn
            subst hn
            cases i with
            | none => rfl
            | some j => cases h2
          · intro a oe cls d pn hz hv
            cases cls with
            | ref C => exact sndSs s (cok_suite ck pn hz hv) ⟨bk.hs, bk.hf, bk.fn⟩ h4
            | _ => exact pss_never
          · intro F H M τ σ B D cc fs cls d A rs rd x q
            obtain ⟨kk, hkk, yes, no⟩ := q
            obtain ⟨C, hC, rfl, hx⟩ := id x
            obtain ⟨C2, D2, hC2, hD2, he⟩ := ck.gm.exm cc dc kk hkk
            rw [hC] at hC2
            cases hC2
            rw [hD] at hD2
            cases hD2
            refine ⟨kk, he, fun hb a ha => ?_, fun hb => go A rs rd x (no hb)⟩
            obtain ⟨F2, sm, A2, r2, fr⟩ := suite_in A her x a
            have rs2 : RelS (G.at (a, C, d)) F2 (setO τ i (.exc cc fs)) (putO σ i (some (.ref a))) := by
              cases i with
              | none => exact relS_at her sm rs
              | some j => exact (relS_at her sm rs).set j r2
            refine ⟨F2, _, _, suiteD B τ M, A2, rs2, ⟨fun _ _ _ _ _ _ _ _ z => z.elim, fun z F1 M1 H1 v e a1 rz q => ?_, fun _ _ _ _ _ _ _ _ z => z.elim, fun _ _ _ _ _ _ _ _ z => z.elim, fun _ _ _ _ _ _ _ _ _ _ _ _ _ z => z.elim⟩, yes hb⟩
            obtain ⟨A3, E3⟩ := suite_out A sm fr a1 e
            exact rd.rt z F1 M H1 v E3 A3 (RepV.off q.1 rz) q.2
end

/-! ### defs -/
/-- the ends of a def's body -/
def endsP (Q : BV) (E : BX) : BD where
  nx := fun _ M => Q .non M
  rt := Q
  bk := fun _ _ => False
  ct := fun _ _ => False
  ex := fun c fs _ M => E c fs M
def startP (N : List Str) (xs : List PV) : Sl := xs.map some ++ List.replicate (N.length - xs.length) none
/-- a def's body, as a promise -/
def bodyP (Γ : Gm) (s : Sms) (N : List Str) (n : Nat) : BP := fun xs M Q E => xs.length = n ∧ wSs Γ s (endsP Q E) (startP N xs) M
section
variable {P : Program} {w : World} {K : PySem.W.Frag} {mg : Str → Option Value} {base : Heap} {G : GI} {Γ : Gm} {k : Nat}
theorem start_rel {F : Hp} {N : List Str} {xs : List PV} {vs : List V} (t : RepVs G F xs vs) : RelS G F (startP N xs) (L2.start N vs) := by
  have hl := t.length
  refine ⟨?_, fun i x e => ?_⟩
  · unfold startP L2.start
    rw [List.length_append, List.length_append, List.length_map, List.length_map, List.length_replicate, List.length_replicate, hl]
  · unfold startP at e
    by_cases hi : i < xs.length
    · rw [List.getElem?_append_left (by simpa using hi), List.getElem?_map] at e
      cases hx : xs[i]? with
      | none => rw [hx] at e; cases e
      | some y =>
        rw [hx] at e
        cases e
        obtain ⟨v, hv, r⟩ := t.get hx
        refine ⟨v, ?_, r⟩
        unfold L2.start
        rw [List.getElem?_append_left (by rw [List.length_map, ← hl]; exact hi), List.getElem?_map, hv]
        rfl
    · rw [List.getElem?_append_right (by simpa using hi), List.getElem?_replicate] at e
      split at e <;> cases e
theorem liftP_len {S : BP} {n : Nat} (h : ∀ xs M Q E, S xs M Q E → xs.length = n) : ∀ vs H Q E, liftP G S vs H Q E → vs.length = n := fun vs H Q E ⟨F, xs, M, Qb, Eb, A, t, up, ex, q⟩ => by
  rw [← t.length]
  exact h _ _ _ _ q
theorem liftP_imp {S S' : BP} (h : ∀ xs M Q E, S' xs M Q E → S xs M Q E) : ∀ vs H Q E, liftP G S' vs H Q E → liftP G S vs H Q E := fun vs H Q E ⟨F, xs, M, Qb, Eb, A, t, up, ex, q⟩ => ⟨F, xs, M, Qb, Eb, A, t, up, ex, h _ _ _ _ q⟩
/-- a def keeps what its body wishes -/
theorem fn_sound {x qual : Str} {st : Stmt} {f : Addr} {fd : FuncData} {N ps : List Str} {s : Sms} (Fn : Fun K x qual st f fd) (S : FnScope N ps (defScope st)) (g : GmOk P w K mg base G Γ k) (hcd : Γ.cold = true) (her : G.er = none) (ag : agSs G.nm N (defScope st) s (defBody st) = true) :
    FnOk P w K mg base (L2.CX P w) (k + 1) f fd ps (liftP G (bodyP Γ s N ps.length)) := by
  refine Fn.okX S (liftP_len fun xs M Q E q => q.1) fun cdv A outer s0 H vs Q E hr ⟨F, xs, M, Qb, Eb, At_, t, up, ex, hl, q⟩ => ?_
  have ck : Cok (cxOf (L2.CX P w) P w K mg base N qual (defScope st) f cdv A outer s0 H E) G Γ k (fun cls d _ H => E cls d H) :=
    ⟨g, ⟨hr.dp, hr.un⟩, S.nd, fun _ => ⟨rfl, hr.hd, her⟩, (fun h => by rw [hcd] at h; cases h), takes_of (X := cxOf (L2.CX P w) P w K mg base N qual (defScope st) f cdv A outer s0 H E) (E := E) rfl rfl rfl rfl, passes_of (X := cxOf (L2.CX P w) P w K mg base N qual (defScope st) f cdv A outer s0 H E) rfl⟩
  refine ⟨_, sndSs s ck ⟨rfl, rfl, fun _ => .inl rfl⟩ ag, F, _, M, endsP Qb Eb, At_, start_rel t, ⟨fun τ1 F1 M1 H1 σ1 e a r q => up .non F1 M1 H1 .non e a .non q, up, fun _ _ _ _ _ _ _ _ z => z.elim, fun _ _ _ _ _ _ _ _ z => z.elim, fun c fs τ1 F1 M1 H1 σ1 cls d e a r x q => ex c fs F1 M1 H1 cls d e a x q⟩, q⟩
/-- .. where an error is at hand: it is the one pinned -/
theorem fn_soundH {x qual : Str} {st : Stmt} {f : Addr} {fd : FuncData} {N ps : List Str} {s : Sms} (Fn : Fun K x qual st f fd) (S : FnScope N ps (defScope st)) (g : GmOk P w K mg base G Γ k) (ag : agSs G.nm N (defScope st) s (defBody st) = true)
    (p : Addr × Obj) (C : Addr) (d : Option Addr) (hz : Zc (.ref C) d p.2) (hv : ∃ vs, p.2.data = .fields vs) :
    FnE P w K mg base (L2.CX P w) (k + 1) f fd ps p (liftP (G.at (p.1, C, d)) (bodyP Γ.hot s N ps.length)) := by
  obtain ⟨oc, od, kV, doc, pm, an, cdv, ct, osl, rfl, lk, hcd⟩ := Fn.ex
  refine ⟨liftP_len fun xs M Q E q => q.1, fun A outer s0 H args us vs Q E hr hpin e0 hb r hsp => ?_⟩
  have hl := liftP_len (G := G.at (p.1, C, d)) (S := bodyP Γ.hot s N ps.length) (fun xs M Q E q => q.1) _ _ _ _ hsp
  obtain ⟨F, xs, M, Qb, Eb, At_, t, up, ex, hl2, q⟩ := hsp
  have KX : K.In s0.heap := e0.mod.kin.keeps fun b o e => (e0.bs b o e).1
  have lim : s0.heap.NoLimit := e0.mod.nolimit.keeps fun b o e => (e0.bs b o e).1
  have hkind : ∀ y ∈ ps.zip us, (defScope st).names.lookup y.1 = some .local ∨ ((defScope st).names.lookup y.1 = some .cell ∧ ((cellsFrom (s0.heap.objs.size + 1) (defScope st).names []).lookup y.1).isSome = true) := fun ⟨n, v⟩ hy => by
    rcases S.par n (List.of_mem_zip hy).1 with q | q
    · exact .inl q
    · exact .inr ⟨q, PySem.W.cellsFrom_some _ _ _ (.inl q)⟩
  refine codeAny_call_function hr.depth (KX _ _ lk) rfl S.co S.gen rfl (PySem.W.codeRec_of KX hcd) (hb _ _ _ _ ?_)
  refine wpAny_newFunctionEnv_cells S.kind hkind fun env he s1 x => ?_
  subst he
  refine ⟨lim.keeps x.toInCall.keep, codeAny_func ?_⟩
  have ck : Cok (cxH (L2.CX P w) P w K mg base N qual (defScope st) f cdv A outer s0 H E p) (G.at (p.1, C, d)) Γ.hot k (fun cls d _ H => E cls d H) :=
    ⟨gm_hot g _, hr.deeper _, S.nd, (fun h => by cases h), fun _ => ⟨rfl, p, C, d, List.mem_cons_self, rfl, hz, hv⟩, takes_of (X := cxH (L2.CX P w) P w K mg base N qual (defScope st) f cdv A outer s0 H E p) (E := E) rfl rfl rfl rfl, passes_of (X := cxH (L2.CX P w) P w K mg base N qual (defScope st) f cdv A outer s0 H E p) rfl⟩
  have I : Inv (cxH (L2.CX P w) P w K mg base N qual (defScope st) f cdv A outer s0 H E p) [] (L2.start N vs) H s1 := inv_startH S hpin e0 hl r x
  refine wpAny_mono ((sndSs s ck ⟨rfl, rfl, fun _ => .inl rfl⟩ ag).run [] s1 (L2.start N vs) H { nx := fun _ H' => Q .non H', rt := Q } I ⟨F, _, M, endsP Qb Eb, At_, start_rel t, ⟨fun τ1 F1 M1 H1 σ1 e a r q => up .non F1 M1 H1 .non e a .non q, up, fun _ _ _ _ _ _ _ _ z => z.elim, fun _ _ _ _ _ _ _ _ z => z.elim, fun c fs τ1 F1 M1 H1 σ1 cls d e a r x q => ex c fs F1 M1 H1 cls d e a x q⟩, q⟩) (fun fl s' hs => ?_) fun e s' hs => hs
  have back : ∀ {σ' : L2.St} {H' : Hp} {v : V} {u : Value}, Inv (cxH (L2.CX P w) P w K mg base N qual (defScope st) f cdv A outer s0 H E p) [] σ' H' s' → RelV v u → Q v H' → CE outer P w H s0 Q u s' :=
    fun {σ' H' v u} J rv q => ⟨v, H', J.os, J.bare, J.base, J.hok, rv, q⟩
  cases fl with
  | ret u =>
    obtain ⟨v, σ', H', J, rv, q⟩ := hs
    exact back J rv q
  | next =>
    obtain ⟨σ', H', J, q⟩ := hs
    exact back (v := V.non) (u := Value.none) J rfl q
  | brk =>
    obtain ⟨_, _, _, q⟩ := hs
    exact False.elim q
  | cont =>
    obtain ⟨_, _, _, q⟩ := hs
    exact False.elim q
end
end Nb

/-! Nb16 -/
set_option Elab.async false
set_option linter.all false
set_option maxRecDepth 100000
set_option maxHeartbeats 4000000
/-! Nb16: an own error whose __init__ says super().__init__(text), and keeps one field. -/
namespace PySem
namespace NbX
open PySem.W PySem.Calls PyProof.Rows
/-- what the written part says of such a class at C, of its __init__ at fI -/
structure XTxt (prog : Program) (K : Frag) (mg : Str → Option Value) (C fI : Addr) (st : Stmt) (fo : Option Str) : Prop where
  cls : ∃ nm q N bs bm sn sub ab col dd k0 k1 k2 k3 k5, K.lookup C = some (excClassObj nm q C N bs bm true sn sub ab col dd k0 k1 k2 k3 k5 "ValueError.__new__") ∧ HandSPX.refsVE bm = true
  sa : findIn K (.ref C) "__setattr__" = some (some (.builtin "object.__setattr__"))
  noN : ∀ f, fo = some f → findIn K (.ref C) f = some none
  iC : findIn K (.ref C) "__init__" = some (some (.ref fI))
  tC : typeIn K (.ref fI) = some (.type "function")
  kC : keepIn K (.ref C) = true
  exC : subIn K (.ref C) (.type "BaseException") = some true
  tyC : typeIn K (.ref C) = some (.type "type")
  sup : ks_superIn K C C "__init__" = some (some (.builtin "ValueError.__init__"))
  sVE : subIn K (.ref C) (.type "ValueError") = some true
  ot : nsIn K cStatics "thirdparty.any" = some none
  mC : mroIn K C (.ref C) = some true
  sg : mg "super" = none
  top : (prog.main.scope.names.lookup ("super" : Str)).isSome = false
  fn : ∃ (oc : Value) (od : Option Addr) (name qual : Str) (kV doc pm : Value) (an : Option Addr) (cda : Addr) (ct : Value) (cc : Addr) (osl : Array (Option Value)),
    K.lookup fI = some ⟨oc, od, .func (ksFn name qual (L2.defArgs st) (L2.defBody st) (L2.defScope st) .none kV doc pm an (.ref cda) ct cc), osl⟩ ∧ codeIn K (.ref cda) qual = true ∧
    (∃ ccl cdd vs ccs file tf, K.lookup cda = some ⟨ccl, cdd, .fields vs, ccs⟩ ∧ vs[2]? = some (.str file tf) ∧ ((prog.main.file : Str) == file) = true) ∧
    (∃ cl cld csl, K.lookup cc = some ⟨cl, cld, .cell (some (.ref C)), csl⟩)
/-- how many parameters -/
def xN {α : Type} : Option α → Nat
  | some _ => 2
  | none => 1
/-- the text of such an __init__ -/
structure XSt (st : Stmt) (ps : List Str) (fo : Option Str) : Prop where
  bind : ∀ (name qual : Str) (kV doc pm : Value) (an : Option Addr) (cdv ct : Value) (cc : Addr) (us : List Value), us.length = ps.length → bindArgs (ksFn name qual (L2.defArgs st) (L2.defBody st) (L2.defScope st) .none kV doc pm an cdv ct cc) ⟨us, []⟩ = pure (ps.zip us)
  hd : ∃ ar, ((L2.defArgs st).posonlyargs ++ (L2.defArgs st).args).head? = some ar ∧ ps[0]? = some ar.arg
  two : ps.length = xN fo
  nd : ps.Nodup
  loc : ∀ y ∈ ps, (L2.defScope st).names.lookup y = some .local ∧ (y == ("__debug__" : Str)) = false
  kind : (L2.defScope st).kind = .function
  co : (L2.defScope st).isCoroutine = false
  gen : (L2.defScope st).isGenerator = false
  nocell : ∀ x ∈ (L2.defScope st).names, x.2 ≠ .cell
  ks : (L2.defScope st).names.lookup ("super" : Str) = some .globalImplicit
  kc : (L2.defScope st).names.lookup ("__class__" : Str) = some .free
  body : ∃ (msg : Str) (j : Nat) (p0 p1 p2 p3 p4 p5 p6 p7 p8 p9 : Pos), p2.endLine = p4.line ∧ L2.defBody st = .Expr (.Call (.Attribute (.Call (.Name "super" p0) [] [] p1) "__init__" p2) [.Constant (.str msg) j p3] [] p4) p5 :: (match fo with
    | some f => [.Assign [.Attribute (.Name (ps.getD 0 "") p6) f p7] (.Name (ps.getD 1 "") p8) p9]
    | none => [])
theorem bound_call {prog : Program} {w : World} {A : Around} {E : Value → Shared → Prop} {h : Heap} {g : Array GenState} {d : Drawn} {t : Nat} {os : OsState} {nm q : Str} {C N : Addr} {bs bm : List Value} {hdct : Bool} {sn : List Str} {sub : List Value} {ab : Bool} {col : Option Bool} {dd : Option Addr} {k0 k1 k2 k3 k5 : Option Value}
    {u e t0 : Addr} {rest : List Value} {Q : Value → Shared → Prop} (hC : h.get? C = some (excClassObj nm q C N bs bm hdct sn sub ab col dd k0 k1 k2 k3 k5 "ValueError.__new__")) (he : h.get? e = some (HandSPX.excO C t0)) (hu : h.get? u = some (kxs_mw "ValueError.__init__" e)) (hz : rest.length ≤ sizeLine)
    (hq : ∀ h' t1, (∀ b o, b ≠ e → h.get? b = some o → h'.get? b = some o) → h'.get? e = some (HandSPX.excO C t1) → Q .none ⟨h', g, d, t, os⟩) : wpAny (model prog w) A (call (.ref u) rest) Q E ⟨h, g, d, t, os⟩ := by
  refine wpAny_call (codeAny_of_tree ?_)
  show wpAny _ A.in1 (callAny (.ref u) ⟨rest, []⟩) _ _ _
  simp only [callAny]
  refine wpAny_bind (wpAny_load hu ?_)
  simp only [kxs_mw, show (Value.type "method-wrapper" == Value.type "method" || Value.type "method-wrapper" == Value.type "builtin_function_or_method" || Value.type "method-wrapper" == Value.type "method-wrapper") = true by decide, if_true]
  refine KFB.if_so (by decide) ?_
  refine wpAny_bind (check_bound_init F.excBase_ValueError.toExcCallFacts hC he rfl ?_)
  refine wpAny_bind (wpAny_pure (wpAny_pure ?_))
  refine ⟨plainId_quiet F.excBase_ValueError.init.plain _, codeAny_builtin F.excBase_ValueError.initEntry ?_⟩
  exact exc_init_tree (cls := .ref C) (t0 := t0) (dv := none) (c2 := .none) (c3 := .none) (b4 := .bool false) he hz fun h' k e' _ => hq h' _ k e'
theorem lookup_zip {x : Str} {v : Value} : ∀ {ps : List Str} {us : List Value} {i : Nat}, ps.Nodup → ps[i]? = some x → us[i]? = some v → ps.length = us.length → (ps.zip us).reverse.lookup x = some v := by
  intro ps us i nd h1 h2 hl
  have mem : (x, v) ∈ (ps.zip us).reverse := by
    rw [List.mem_reverse]
    exact List.mem_of_getElem? (i := i) (by rw [List.getElem?_zip_eq_some]; exact ⟨h1, h2⟩)
  have nd2 : ((ps.zip us).reverse.map (·.1)).Nodup := by
    rw [List.map_reverse, List.map_fst_zip (by omega)]
    exact (List.reverse_perm _).nodup_iff.mpr nd
  have key : ∀ {l : List (Str × Value)}, (l.map (·.1)).Nodup → (x, v) ∈ l → l.lookup x = some v := by
    intro l
    induction l with
    | nil => intro _ h; cases h
    | cons p l ih =>
      intro n h
      obtain ⟨y, u⟩ := p
      rw [List.lookup_cons]
      rcases List.mem_cons.mp h with e | hm
      · cases e
        simp
      · have ne : (x == y) = false := by
          have := (List.nodup_cons.mp n).1
          simp only [beq_eq_false_iff_ne]
          intro z
          subst z
          exact this (List.mem_map.mpr ⟨_, hm, rfl⟩)
        rw [ne]
        exact ih (List.nodup_cons.mp n).2 hm
  exact key nd2 mem
theorem sup_eq {o : Expr} {m : Str} {ap pos : Pos} {e : Expr} {env : PySem.Env} (hl : ap.endLine = pos.line) (hs : starEach [e] env = [(false, eval e env)]) :
    eval (.Call (.Attribute o m ap) [e] [] pos) env = (do
      let ov ← attributeBase o m env (eval o env)
      standAt ap.atName
      let (f, first) ← holding [ov] (getMethod ov m (do return (← importBound o env).getD true))
      callWith pos f first (backTo pos (starEach [e] env)) []) := by
  have few : methodCallForm ([e].length + ([] : List Keyword).length) (backTo pos (starEach [e] env)) (backToKw pos (keywordEach [] env)) = true := by
    rw [hs]
    rfl
  show (do
    let ov ← attributeBase o m env (eval o env)
    standAt ap.atName
    methodCall o m ap pos env ov ([e].length + ([] : List Keyword).length) (backTo pos (starEach [e] env)) (backToKw pos (keywordEach [] env))) = _
  unfold methodCall
  rw [few]
  have hpos : methodCallPos true o env ap pos = pure pos := by
    unfold methodCallPos
    rw [if_pos (by rw [hl]; simp)]
  rw [hpos]
  rfl
section
variable {prog : Program} {w : World} {A : Around} {E : Value → Shared → Prop} {s : Shared} {K : Frag} {mg mb : Str → Option Value} {C fI : Addr} {st : Stmt} {ps : List Str} {fo : Option Str}
/-- the body, in such a frame -/
theorem x_body (T : XTxt prog K mg C fI st fo) {env : PySem.Env} {fbody : List Stmt} {x t0 L cda cc : Addr} {m : Str → Option Value} {Q : Flow → Shared → Prop} {of : Obj} {fd : FuncData} {ar : Arg} {vs : Array Value} {file : Str} {tf : Tok} {oc cl : Value} {cdd cld : Option Addr} {ccs csl : Array (Option Value)} {sn nn : Str} {uv : Option Value}
    {msg : Str} {j : Nat} {p0 p1 p2 p3 p4 p5 p6 p7 p8 p9 : Pos}
    (X : K.In s.heap) (hg : s.heap.Ns mainGlobals mg) (hb : s.heap.Ns builtinsNs mb) (hmb : mb "super" = some (.type "super")) (hx : s.heap.get? x = some (HandSPX.excO C t0)) (hnk : K.lookup x = none) (hns : s.heap.Ns L m)
    (eg : env.globals = mainGlobals) (eb : env.builtins = builtinsNs) (el : env.locals = L) (hk : env.scope.kind = .function) (hks : env.kindOf "super" = some .globalImplicit) (hkc : env.kindOf "__class__" = some .free) (hce : env.cells.lookup ("__class__" : Str) = some cc)
    (hfu : env.func = some fI) (hf : K.lookup fI = some of) (hfd : of.data = .func fd) (hp : (fd.params.posonlyargs ++ fd.params.args).head? = some ar) (hsn : ar.arg = sn) (hco : env.code = .ref cda) (hcda : K.lookup cda = some ⟨oc, cdd, .fields vs, ccs⟩) (hvs : vs[2]? = some (.str file tf)) (hfile : ((prog.main.file : Str) == file) = true)
    (hcc : K.lookup cc = some ⟨cl, cld, .cell (some (.ref C)), csl⟩) (hl : p2.endLine = p4.line) (ksn : env.kindOf sn = some .local) (dsn : (sn == ("__debug__" : Str)) = false) (vsn : m sn = some (.ref x))
    (hnn : ∀ f, fo = some f → ∃ v, uv = some v ∧ env.kindOf nn = some .local ∧ (nn == ("__debug__" : Str)) = false ∧ m nn = some v)
    (hq : ∀ h' tk t1, (∀ b o, b ≠ x → s.heap.get? b = some o → h'.get? b = some o) → (match fo with
      | some f => ∃ dx v, uv = some v ∧ s.heap.objs.size ≤ dx ∧ dx ≠ x ∧ h'.get? x = some { cls := .ref C, dict := some dx, data := .fields #[.ref t1, .none, .none, .none, .bool false, .none] } ∧ h'.Ns1 dx (fun y => if y = f then some v else none)
      | none => h'.get? x = some (HandSPX.excO C t1)) → Q .next { s with heap := h', toks := tk }) :
    _root_.PySem.wpAt (model prog w) A (.func fbody env) (execs (.Expr (.Call (.Attribute (.Call (.Name "super" p0) [] [] p1) "__init__" p2) [.Constant (.str msg) j p3] [] p4) p5 :: (match fo with
      | some f => [.Assign [.Attribute (.Name sn p6) f p7] (.Name nn p8) p9]
      | none => [])) env) Q E s := by
  obtain ⟨nm, q, N, bs, bm, sn', sub, ab, col, dd, k0, k1, k2, k3, k5, hC, hbm⟩ := T.cls
  have hcl : clsIn K C = some { name := nm, bases := bs, mro := .ref C :: bm, ns := N, qualname := q, hasDict := true, slotNames := sn', subclasses := sub, abstract := ab, collection := col, hasDel := false } := by unfold clsIn; rw [hC] <;> rfl
  have notC : ∀ c, (HandSPX.excO C t0).data ≠ .cls c := fun c z => by cases z
  have hCo := X _ _ hC
  have IA : InstAt s.heap x (HandSPX.excO C t0) C none := ⟨hx, rfl, rfl, trivial⟩
  have hint : interactive env = false := by simp [interactive, hk]
  refine ks_wpAt_execs_cons (ks_wpAt_Expr_any (ks_wpAt_MethodCall ?_ (sup_eq hl rfl)) hint rfl)
  refine ks_wpAt_super_base hks hkc (by decide) hfu (X _ _ hf) hfd hp hco (X _ _ hcda) rfl hvs hfile T.top ?_
  refine ks_loadName_global hk hks (loadGlobal_builtin (by rw [eg]; exact hg) T.sg (by rw [eb]; exact hb) hmb ⟨rfl, ?_⟩)
  refine wpAny_loadName_free hk hkc hce ⟨_, X _ _ hcc, rfl⟩ ?_
  rw [hsn]
  refine wpAny_loadName_local hk ksn (by rw [el]; exact hns) vsn ?_
  obtain ⟨hp', g, d, tk, os⟩ := s
  refine ks_wpAny_isType_cls hCo rfl ⟨rfl, ?_⟩
  refine ks_wpAny_call_super hCo rfl hx rfl notC (looks_mroIn X T.mC) (fun h₂ so₂ k₂ => ?_)
  have X₂ : K.In h₂ := X.keeps k₂
  have I₂ : InstAt h₂ x (HandSPX.excO C t0) C none := ⟨k₂ _ _ hx, rfl, rfl, trivial⟩
  have hsup : alongIn K "__init__" (((Value.ref C :: bm).dropWhile (· != .ref C)).drop 1) = some (some (.builtin "ValueError.__init__")) := by
    have z := T.sup
    unfold ks_superIn at z
    rw [hcl] at z
    exact z
  refine kxs_getMethod kxs_ValueError so₂ (looks_opaque X₂ T.ot) (l₀ := Value.ref C :: bm) (fun A Q E s k q => wpAny_bind ((looks_clsIn X₂ hcl) A _ E s k (wpAny_pure q))) rfl X₂ hsup (I₂.type.andThen (looks_subIn X₂ T.sVE)) (ks_ne X₂ I₂ hcl) (by decide) ?_
  have k₃ : ∀ b o, h₂.get? b = some o → (h₂.push (kxs_mw "ValueError.__init__" x)).get? b = some o := fun b o e => Heap.get?_push_of_some _ e
  refine kxs_callWith (i := "ValueError.__init__") (x := x) rfl ?_
  refine evalArgs_plain ?_
  refine PyProof.Rows.args_cons (Calls.Constant_str ?_) rfl
  refine PyProof.Rows.args_nil ?_
  refine ⟨Heap.get?_push_size _ rfl, ?_⟩
  refine bound_call (C := C) (t0 := t0) (k₃ _ _ (X₂ _ _ hC)) (k₃ _ _ (k₂ _ _ hx)) (Heap.get?_push_size _ rfl) (by rw [sizeLine_eq]; exact (by decide : 1 ≤ 16777216)) fun h₄ t1 k₄ hx₄ => ?_
  have k14 : ∀ b o, b ≠ x → hp'.get? b = some o → h₄.get? b = some o := fun b o hb e => k₄ b o hb (k₃ b o (k₂ b o e))
  cases fo with
  | none => exact wpAt_of_wpAny (wpAny_execs_nil (hq h₄ _ t1 k14 hx₄))
  | some f =>
    obtain ⟨v, euv, kn, dn, vn⟩ := hnn f rfl
    have hLx : L ≠ x := by
      intro z
      obtain ⟨o, es, ep, e1, e2, _⟩ := hns
      rw [z, hx] at e1
      have z2 := Option.some.inj e1
      subst z2
      cases e2
    have X₄ : K.In h₄ := fun b o e => k14 b o (fun z => by rw [z, hnk] at e; cases e) (X b o e)
    have n4 : h₄.Ns L m := hns.at fun o e => k14 L o hLx e
    refine wpAt_of_wpAny (wpAny_execs_cons (plainObj_wpAny_Assign_Attribute ?_))
    refine wpAny_Name (wpAny_loadName_local hk kn (by rw [el]; exact n4) vn ?_) dn
    refine wpAny_Name (wpAny_loadName_local hk ksn (by rw [el]; exact n4) vsn ?_) dsn
    refine set_plain X₄ (ox := HandSPX.excO C t1) (od := none) ⟨hx₄, rfl, rfl, trivial⟩ T.sa ?_
    refine HandSPX.exc_osa X₄ hx₄ hcl (show HandSPX.refsVE (.ref C :: bm) = true from hbm) rfl (T.noN f rfl) (fun h₅ tk₅ dx k₅ dn₅ dne hx₅ hn₅ => ?_)
    refine wpAny_execs_nil (hq h₅ _ t1 (fun b o hb e => k₅ b o hb (k14 b o hb e)) ⟨dx, v, euv, ?_, dne, hx₅, hn₅⟩)
    exact Nat.le_trans (Nat.le_of_lt (Heap.lt_size (k₄ hp'.objs.size _ (Nat.ne_of_gt (Heap.lt_size hx)) (k₃ _ _ so₂)))) dn₅
/-- the call of such an __init__ -/
theorem x_init {R : Result → Shared → Prop} (T : XTxt prog K mg C fI st fo) (S : XSt st ps fo) {x t0 : Addr} {us : List Value} (X : K.In s.heap) (hg : s.heap.Ns mainGlobals mg) (hb : s.heap.Ns builtinsNs mb) (hmb : mb "super" = some (.type "super")) (hlim : s.heap.NoLimit)
    (hx : s.heap.get? x = some (HandSPX.excO C t0)) (hnk : K.lookup x = none) (hu : us.length = ps.length) (h0 : us[0]? = some (.ref x)) (hroom : A.depth < recursionLimit)
    (hq : ∀ h' tk t1, (∀ b o, b ≠ x → s.heap.get? b = some o → h'.get? b = some o) → (match fo with
      | some f => ∃ dx v, us[1]? = some v ∧ s.heap.objs.size ≤ dx ∧ dx ≠ x ∧ h'.get? x = some { cls := .ref C, dict := some dx, data := .fields #[.ref t1, .none, .none, .none, .bool false, .none] } ∧ h'.Ns1 dx (fun y => if y = f then some v else none)
      | none => h'.get? x = some (HandSPX.excO C t1)) → R (.ok (.ret .none)) { s with heap := h', toks := tk }) :
    codeAny (model prog w) A (.call (.ref fI) ⟨us, []⟩) R s := by
  obtain ⟨oc, od, name, qual, kV, doc, pm, an, cda, ct, cc, osl, lk, hcd, ⟨ccl, cdd, vs, ccs, file, tf, hcda, hvs, hfile⟩, cl, cld, csl, hcc⟩ := id T.fn
  obtain ⟨ar, har, hp0⟩ := S.hd
  obtain ⟨msg, j, p0, p1, p2, p3, p4, p5, p6, p7, p8, p9, hline, hbody⟩ := S.body
  have hbind : BindsTo s (ksFn name qual (L2.defArgs st) (L2.defBody st) (L2.defScope st) .none kV doc pm an (.ref cda) ct cc) ⟨us, []⟩ (ps.zip us) := BindsTo.of_eq (S.bind _ _ _ _ _ _ _ _ _ us hu)
  have mem0 : ar.arg ∈ ps := List.mem_of_getElem? hp0
  have e0 : ar.arg = ps.getD 0 "" := by rw [List.getD_eq_getElem?_getD, hp0]; rfl
  refine ks_codeAny_call_defAt (binds := ps.zip us) hroom (X _ _ lk) rfl hlim (codeRec_of X hcd) rfl hbind S.nocell (fun y hy => (S.loc _ (List.of_mem_zip hy).1).1) (fun h₁ hns k₁ => ?_) S.co S.gen S.kind
  have big : s.heap.objs.size ≤ h₁.objs.size := Nat.le_of_lt hns.lt
  have body := x_body (s := { s with heap := h₁, toks := s.toks + (ps.zip us).length }) (A := A.deeper (callEnv (ksFn name qual (L2.defArgs st) (L2.defBody st) (L2.defScope st) .none kV doc pm an (.ref cda) ct cc) s.heap.objs.size fI)) (w := w)
    (E := fun e s' => wpAny (model prog w) (A.deeper (callEnv (ksFn name qual (L2.defArgs st) (L2.defBody st) (L2.defScope st) .none kV doc pm an (.ref cda) ct cc) s.heap.objs.size fI)) (leaving (callEnv (ksFn name qual (L2.defArgs st) (L2.defBody st) (L2.defScope st) .none kV doc pm an (.ref cda) ct cc) s.heap.objs.size fI) e) (fun _ s'' => R (.error e) s'') (fun e' s'' => R (.error e') s'') s')
    (fbody := L2.defBody st) (sn := ps.getD 0 "") (nn := ps.getD 1 "") (uv := us[1]?) (msg := msg) (j := j) (p0 := p0) (p1 := p1) (p2 := p2) (p3 := p3) (p4 := p4) (p5 := p5) (p6 := p6) (p7 := p7) (p8 := p8) (p9 := p9)
    (env := callEnv (ksFn name qual (L2.defArgs st) (L2.defBody st) (L2.defScope st) .none kV doc pm an (.ref cda) ct cc) s.heap.objs.size fI) (Q := fun f s' => R (.ok (.ret (match f with | .ret v => v | _ => .none))) s')
    T (X.keeps k₁) (hg.keeps k₁) (hb.keeps k₁) hmb (k₁ _ _ hx) hnk hns rfl rfl rfl S.kind S.ks S.kc rfl rfl lk rfl har e0 rfl hcda hvs hfile hcc hline (by rw [← e0]; exact (S.loc _ mem0).1) (by rw [← e0]; exact (S.loc _ mem0).2) (by rw [← e0]; exact lookup_zip S.nd hp0 h0 hu.symm)
    (fun f hf => by
      subst hf
      have h2 : ps.length = 2 := S.two
      have i1 : (1 : Nat) < ps.length := by omega
      have g1 : ps[1]? = some (ps.getD 1 "") := by rw [List.getD_eq_getElem?_getD, List.getElem?_eq_getElem i1]; rfl
      have u1 : us[1]? = some (us[1]'(by omega)) := List.getElem?_eq_getElem _
      have m1 : ps.getD 1 "" ∈ ps := List.mem_of_getElem? g1
      exact ⟨_, u1, (S.loc _ m1).1, (S.loc _ m1).2, lookup_zip S.nd g1 u1 hu.symm⟩)
    (fun h' tk t1 k z => hq h' tk t1 (fun b o hb e => k b o hb (k₁ b o e)) (by
      cases fo with
      | none => exact z
      | some f =>
        obtain ⟨dx, v, a1, a2, a3, a4, a5⟩ := z
        exact ⟨dx, v, a1, Nat.le_trans big a2, a3, a4, a5⟩))
  have eqb : ∀ {b : List Stmt} {env : PySem.Env} {Q E} {s : Shared}, L2.defBody st = b → _root_.PySem.wpAt (model prog w) (A.deeper env) (.func (L2.defBody st) env) (execs b env) Q E s → _root_.PySem.wpAt (model prog w) (A.deeper env) (.func (L2.defBody st) env) (execs (L2.defBody st) env) Q E s := by
    intro b env Q E s e h
    rw [e] at h ⊢
    exact h
  exact eqb hbody body
end
end NbX
end PySem

/-! Nb17 -/
set_option Elab.async false
set_option linter.all false
set_option maxRecDepth 100000
set_option maxHeartbeats 4000000
/-! Nb17: such an error made: raised, or held as a value. -/
namespace Nb
open PySem PySem.Spec L2 L2H NbX
open PyProof.Rows hiding St
section
variable {X : Cx} {pins : List (Addr × Obj)} {σ : L2.St} {H : Hp} {s : Shared}
/-- two new objects at once -/
theorem laid2 {h' : Heap} {a d : Addr} {oa od : HO} {t' : Nat} (I : Inv X pins σ H s) (k : ∀ b o, s.heap.get? b = some o → h'.get? b = some o) (ha : s.heap.objs.size ≤ a) (hd : s.heap.objs.size ≤ d) (ne : a ≠ d)
    (na : ObjOk X.prog X.w (upd (upd H d od) a oa) h' a oa) (nd : ObjOk X.prog X.w (upd (upd H d od) a oa) h' d od) : Inv X pins σ (upd (upd H d od) a oa) { s with heap := h', toks := t' } := by
  have Ha : H a = none := I.hok.fresh ha
  have Hd : H d = none := I.hok.fresh hd
  have off : ∀ {b : Addr} {o : HO}, H b = some o → upd (upd H d od) a oa b = some o := fun {b o} q => by rw [upd_ne (ne_of_none q Ha), upd_ne (ne_of_none q Hd)]; exact q
  have old : ∀ {b : Addr} {o : Obj}, s.heap.get? b = some o → b ≠ a ∧ b ≠ d := fun {b o} q => ⟨Nat.ne_of_lt (Nat.lt_of_lt_of_le (Heap.lt_size q) ha), Nat.ne_of_lt (Nat.lt_of_lt_of_le (Heap.lt_size q) hd)⟩
  refine I.un (t' := t') ⟨fun b o q _ _ _ => k b o q, fun b o q _ _ _ => ⟨o.slots, k b o q⟩, fun b o q n _ => by rw [upd_ne (old q).1, upd_ne (old q).2]; exact n, fun b o q _ => ⟨o, k b o q⟩, fun b xs q => off q, fun b o v q => off q, fun b ps q => ⟨#[], by rw [off q]; simp⟩⟩ fun b o q => ?_
  by_cases hba : b = a
  · subst hba
    rw [upd_same] at q
    cases q
    exact na
  · rw [upd_ne hba] at q
    by_cases hbd : b = d
    · subst hbd
      rw [upd_same] at q
      cases q
      exact nd
    · rw [upd_ne hbd] at q
      exact (I.hok b o q).stay (fun c v _ z => k c v z) (fun c hc => off hc) fun c xs hc => off hc
end
section
variable {P : Program} {w : World} {K : PySem.W.Frag} {mg : Str → Option Value} {base : Heap} {G : GI} {k c : Nat} {fo : Option Nat} {C fI : Addr} {st : Stmt} {ps : List Str}
/-- what the call of such a class leaves -/
def XMade (s : Shared) (C : Addr) (fo : Option Str) (us : List Value) (a : Addr) (h' : Heap) : Prop :=
  s.heap.objs.size ≤ a ∧ (∀ b o, s.heap.get? b = some o → h'.get? b = some o) ∧ ∃ t1 : Addr, (match fo with
    | some f => ∃ dx v, us = [v] ∧ s.heap.objs.size ≤ dx ∧ dx ≠ a ∧ h'.get? a = some { cls := .ref C, dict := some dx, data := .fields #[.ref t1, .none, .none, .none, .bool false, .none] } ∧ h'.Ns1 dx (fun y => if y = f then some v else none)
    | none => us = [] ∧ h'.get? a = some (HandSPX.excO C t1))
theorem x_call {X : Cx} {fs : Option Str} (T : XTxt X.prog X.K X.mg C fI st fs) (S : XSt st ps fs) {pins : List (Addr × Obj)} {σ : L2.St} {H : Hp} {s : Shared} {us : List Value} {Qv : Value → Shared → Prop} {E : Value → Shared → Prop} (I : Inv X pins σ H s) (hr : RoomH k X.A) (hu : us.length + 1 = ps.length)
    (go : ∀ h' tk a, XMade s C fs us a h' → Qv (.ref a) { s with heap := h', toks := tk }) : wpAny (model X.prog X.w) X.A (call (.ref C) us) Qv E s := by
  obtain ⟨nm, q, N, bs, bm, sn, sub, ab, col, dd, k0, k1, k2, k3, k5, hC, hbm⟩ := id T.cls
  obtain ⟨mb, hb1, hb2⟩ := I.mod.blt
  have lim : s.heap.NoLimit := I.nolimit
  have KX := I.kIn
  have hg := I.mod.glob.keeps I.bk
  have hb := hb1.keeps I.bk
  have two : ps.length = xN fs := S.two
  have hz : us.length ≤ sizeLine := by
    rw [sizeLine_eq]
    cases fs with
    | none => have : ps.length = 1 := two; omega
    | some f => have : ps.length = 2 := two; omega
  obtain ⟨hp, g, dr, tk, os⟩ := s
  have kk : ∀ b o, hp.get? b = some o → ((hp.push (PySem.W.kdv_tup us)).push (HandSPX.excO C hp.objs.size)).get? b = some o := fun b o e => Heap.get?_push_of_some _ (Heap.get?_push_of_some _ e)
  have hget : ((hp.push (PySem.W.kdv_tup us)).push (HandSPX.excO C hp.objs.size)).get? (hp.objs.size + 1) = some (HandSPX.excO C hp.objs.size) := by heap_get
  have hnk : X.K.lookup (hp.objs.size + 1) = none := by
    cases e : X.K.lookup (hp.objs.size + 1) with
    | none => rfl
    | some o => exact absurd (Nat.lt_of_succ_lt (Heap.lt_size (show hp.get? (hp.objs.size + 1) = some o from KX _ _ e))) (Nat.lt_irrefl _)
  refine wpAny_call (HandSPX.call_own F.excBase_ValueError (fun Y => HandSPX.refsVE_contains Y bm hbm) (KX _ _ hC) (PySem.W.looks_findIn KX T.iC) (fun self => PySem.W.bind_fn KX self T.tC) hz ?_)
  refine x_init (s := ⟨(hp.push (PySem.W.kdv_tup us)).push (HandSPX.excO C hp.objs.size), g, dr, tk, os⟩) T S (KX.keeps kk) (hg.keeps kk) (hb.keeps kk) ((hb2 _ (by decide +kernel)).trans (by decide +kernel)) (lim.keeps kk) hget hnk (by simpa using hu) rfl ?_ fun h' tk' t1 k' z => ?_
  · show X.A.depth + 1 < recursionLimit
    have := hr.dp
    omega
  · have old : ∀ b o, hp.get? b = some o → h'.get? b = some o := fun b o e => k' b o (Nat.ne_of_lt (Nat.lt_succ_of_lt (Heap.lt_size e))) (kk b o e)
    refine ⟨rfl, go h' tk' (hp.objs.size + 1) ⟨Nat.le_succ _, old, t1, ?_⟩⟩
    cases fs with
    | none =>
      have : ps.length = 1 := two
      exact ⟨List.length_eq_zero_iff.mp (by omega), z⟩
    | some f =>
      obtain ⟨dx, v, a1, a2, a3, a4, a5⟩ := z
      have l2 : ps.length = 2 := two
      have a2' : hp.objs.size ≤ dx := by
        have q := a2
        rw [Heap.size_push, Heap.size_push] at q
        omega
      refine ⟨dx, v, ?_, a2', a3, a4, a5⟩
      rcases us with _ | ⟨u, _ | ⟨u2, us⟩⟩
      · cases a1
      · have e : u = v := by simpa using a1
        rw [e]
      · have : (u :: u2 :: us).length + 1 = ps.length := hu
        rw [l2] at this
        simp at this
theorem rel_one {v : V} {u : Value} {f : Str} (r : RelV v u) : ∀ g, RelO (List.lookup g [(f, v)]) (if g = f then some u else none) := fun g => by
  by_cases h : g = f
  · subst h
    rw [if_pos rfl]
    have e : List.lookup g [(g, v)] = some v := by simp [List.lookup]
    rw [e]
    exact r
  · rw [if_neg h]
    have e : (g == f) = false := by simpa using h
    have e2 : List.lookup g [(f, v)] = none := by simp [List.lookup, e]
    rw [e2]
    trivial
/-- such a class may be raised, and held -/
theorem raisesC (T : XTxt P K mg C fI st (fo.map G.nm)) (S : XSt st ps (fo.map G.nm)) (hC : G.cl c = some C) (hm : mg (G.nm c) = some (.ref C)) (hdb : (G.nm c == ("__debug__" : Str)) = false) : RaisesC P w K mg base G k c fo := by
  have len : ∀ {vs : List V} {us : List Value}, Vals vs us → (match fo with | some _ => vs.length = 1 | none => vs.length = 0) → us.length + 1 = ps.length := by
    intro vs us r h
    have two := S.two
    cases fo with
    | none => have : ps.length = 1 := two; have := r.length; have h' : vs.length = 0 := h; omega
    | some f => have : ps.length = 2 := two; have := r.length; have h' : vs.length = 1 := h; omega
  have enter : ∀ {X : Cx} {xs : List Expr} {t : TA} {p pos : Pos} {pins : List (Addr × Obj)} {s : Shared} {σ : L2.St} {H : Hp} {R : List V → Hp → Prop} {Qv : Value → Shared → Prop}, X.mg = mg → X.K = K → Gl X (G.nm c) → PA X xs t →
      (∀ e r, xs = e :: r → starEach (e :: r) X.env = (false, eval e X.env) :: starEach r X.env) → (∀ ps, (backTo ps (starEach xs X.env)).any (·.1) = false) → (xs = [] → ∀ σ H Q, t σ H Q → Q [] H) → Inv X pins σ H s → t σ H R →
      (∀ us s1 vs H1, Inv X pins σ H1 s1 → Vals vs us → R vs H1 → wpAny (model X.prog X.w) X.A (call (.ref C) us) Qv X.xe s1) → wpAny (model X.prog X.w) X.A (eval (.Call (.Name (G.nm c) p) xs [] pos) X.env) Qv X.xe s := by
    intro X xs t p pos pins s σ H R Qv e1 e2 hg ha st' pl nl I h go
    refine wpAny_Call_Name_kw (ld_glob I hg (by rw [e1]; exact hm) ?_ hdb)
    have kC : PySem.W.keepIn X.K (.ref C) = true := by rw [e2]; exact T.kC
    cases xs with
    | nil => exact PySem.W.callWith_K0 I.kIn kC (go [] s [] H I .nil (nl rfl σ H R h))
    | cons e r =>
      have tl : (backTo pos (starEach r X.env)).any (·.1) = false := by
        have q := pl pos
        rw [st' e r rfl] at q
        exact q
      exact PySem.W.callWith_K (h₀ := X.base) I.ok.mod.kin kC (thn (ha.run pos pins s σ H _ I h) fun us s1 ⟨vs, H1, I1, r1, q⟩ => ⟨I1.kIn, go us s1 vs H1 I1 r1 q⟩) (st' e r rfl) tl
  refine ⟨⟨C, hC, ?_⟩, ⟨C, hC, ?_⟩⟩
  · intro X e1 e2 e3 e4 e5 hr hg xs t p pos ha st' pl nl pins s σ H Q I h
    subst e1 e2 e3 e4 e5
    refine enter rfl rfl hg ha st' pl nl I h fun us s1 vs H1 I1 r q => ?_
    refine x_call T S I1 hr (len r ?_) fun h' tk a ⟨ha', kp, t1, z⟩ => ?_
    · cases fo with
      | none => rw [q.1]; rfl
      | some f => obtain ⟨v, e, _⟩ := q; subst e; rfl
    · have rz : Raises X (.ref C) := raises_own T.exC T.tyC
      have na : s1.heap.get? a = none := by
        cases e : s1.heap.get? a with
        | none => rfl
        | some o => exact absurd (Heap.lt_size e) (Nat.not_lt.mpr ha')
      cases fo with
      | none =>
        obtain ⟨rfl, q⟩ := q
        obtain ⟨_, hx⟩ := z
        exact ⟨a, _, _, s1, H1, .ref C, none, rfl, I1, kp, na, hx, ⟨rfl, rfl⟩, rfl, rfl, I1.hok.fresh ha', rfl, I1.bare, rz, q⟩
      | some f =>
        obtain ⟨v, rfl, q⟩ := q
        obtain ⟨dx, u, eu, hd, ne, hx, hns⟩ := z
        subst eu
        obtain ⟨u', e', rv⟩ : ∃ u', [u] = [u'] ∧ RelV v u' := by
          cases r with
          | cons r0 _ => exact ⟨_, rfl, r0⟩
        cases e'
        obtain ⟨Gh, g1, g2⟩ := restrict h' fun b => decide (b ≠ a)
        have gk : ∀ b, b ≠ a → Gh.get? b = h'.get? b := fun b hb => g1 b (decide_eq_true hb)
        have ge : Gh.get? a = none := g2 a (by simp)
        have nd : H1 dx = none := I1.hok.fresh hd
        have J : Inv X pins σ (upd H1 dx (.xd [(G.nm f, v)])) { s1 with heap := Gh, toks := tk } := I1.laid (fun b o e => by
          rw [gk b (fun z => by rw [z, na] at e; cases e)]
          exact kp b o e) hd ⟨_, hns.at fun o e => (gk dx ne).trans e, rel_one rv⟩
        refine ⟨a, _, _, { s1 with heap := Gh, toks := tk }, _, .ref C, some dx, rfl, J, fun b o e => ?_, ge, hx, ⟨rfl, rfl⟩, rfl, rfl, ?_, rfl, I1.bare, rz, q dx nd⟩
        · by_cases hb : b = a
          · rw [hb, ge] at e; cases e
          · rw [gk b hb] at e; exact e
        · rw [upd_ne (Ne.symm ne)]
          exact I1.hok.fresh ha'
  · intro X e1 e2 e3 e4 e5 hr hg xs t p pos ha st' pl nl
    subst e1 e2 e3 e4 e5
    refine ⟨fun pins s σ H Q I h => ?_⟩
    refine enter rfl rfl hg ha st' pl nl I h fun us s1 vs H1 I1 r q => ?_
    cases fo with
    | none => exact q.elim
    | some f =>
      obtain ⟨v, e, q⟩ := q
      subst e
      refine x_call T S I1 hr (len r rfl) fun h' tk a ⟨ha', kp, t1, z⟩ => ?_
      obtain ⟨dx, u, eu, hd, ne, hx, hns⟩ := z
      subst eu
      obtain ⟨u', e', rv⟩ : ∃ u', [u] = [u'] ∧ RelV v u' := by
        cases r with
        | cons r0 _ => exact ⟨_, rfl, r0⟩
      cases e'
      have J := laid2 (t' := tk) I1 kp ha' hd (Ne.symm ne) (exo_ok (C := C) (d := some dx) hx) (exd_ok hns (rel_one rv))
      exact ⟨.ref a, _, J, rfl, q a dx (I1.hok.fresh ha') (I1.hok.fresh hd) (Ne.symm ne)⟩
end
end Nb

/-! Nb18 -/
set_option Elab.async false
set_option linter.all false
set_option maxRecDepth 100000
set_option maxHeartbeats 4000000
/-! Nb18: what the top has left, asked of the heap; the environment built from it. -/
namespace Nb
open PySem PySem.Spec L2 L2H NbX He
open PyProof.Rows hiding St

section
variable {fa : List Nf} {fn : List DefD} {ini : List IniD} {K : PySem.W.Frag}
theorem SaysN.fact (c : SaysN fa fn ini K) {f : Nf} (h : f ∈ fa) : f.ok K = true := by
  have c1 := (ba (show ((fa.all fun f => f.ok K) && fn.all fun d => d.ok K) = true from congrArg (fun z : AlN => z.1) c)).1
  exact List.all_eq_true.mp c1 f h
theorem SaysN.def_ (c : SaysN fa fn ini K) {d : DefD} (i : Nat) (h : fn[i]? = some d) : ∃ fd, FunD K d.name d.qual d.params d.body d.scope (d.dvs K) (d.kws K) (fAd K d.at_) fd := by
  have c2 := (ba (show ((fa.all fun f => f.ok K) && fn.all fun d => d.ok K) = true from congrArg (fun z : AlN => z.1) c)).2
  have e : fn.map (fun d => fnW K d.at_) = fn.map DefD.val := congrArg (fun z : AlN => z.2.1) c
  have e2 : (fn.map fun d => fnW K d.at_)[i]? = (fn.map DefD.val)[i]? := by rw [e]
  rw [List.getElem?_map, List.getElem?_map, h] at e2
  exact DefD.funD (Option.some.inj e2) (List.all_eq_true.mp c2 d (List.mem_of_getElem? h))
theorem SaysN.ini_ (c : SaysN fa fn ini K) {d : IniD} (i : Nat) (h : ini[i]? = some d) : fnX K d.at_ = d.val := by
  have e : ini.map (fun d => fnX K d.at_) = ini.map IniD.val := congrArg (fun z : AlN => z.2.2) c
  have e2 : (ini.map fun d => fnX K d.at_)[i]? = (ini.map IniD.val)[i]? := by rw [e]
  rw [List.getElem?_map, List.getElem?_map, h] at e2
  exact Option.some.inj e2
end
theorem oexB_ok {K : PySem.W.Frag} {C : Addr} (h : oexB K C = true) : ∃ nm q N bs bm sn sub ab col dd k0 k1 k2 k3 k5, K.lookup C = some (excClassObj nm q C N bs bm true sn sub ab col dd k0 k1 k2 k3 k5 "ValueError.__new__") ∧ HandSPX.refsVE bm = true := by
  unfold oexB at h
  split at h
  · rename_i t dd cd sl ho
    split at h
    · rename_i C' bm k0 k1 k2 k3 n k5 hm hs
      obtain ⟨h, h6⟩ := and2 h
      obtain ⟨h, h5⟩ := and2 h
      obtain ⟨h, h4⟩ := and2 h
      obtain ⟨h, h3⟩ := and2 h
      obtain ⟨h1, h2⟩ := and2 h
      have e1 := of_decide_eq_true h1
      have e2 := of_decide_eq_true h2
      have e3 := of_decide_eq_true h3
      subst e1 e2 e3
      obtain ⟨nm, bs, mro, N, q, hd, sn, sub, ab, col, del⟩ := cd
      dsimp only at hm h4 h5
      subst hm h4
      have e5 : del = false := by simpa using h5
      subst e5
      obtain ⟨l⟩ := sl
      have e6 : l = [k0, k1, k2, k3, some (.builtin "ValueError.__new__"), k5] := hs
      subst e6
      exact ⟨nm, q, N, bs, bm, sn, sub, ab, col, dd, k0, k1, k2, k3, k5, ho, h6⟩
    · cases h
  · cases h
theorem excC_ok {K : PySem.W.Frag} {x : Str} (c : (Nf.exc x).ok K = true) : ExcC K (ga K x) ∧ oexB K (ga K x) = true ∧ PySem.W.keepIn K (.ref (ga K x)) = true ∧ PySem.W.typeIn K (.ref (ga K x)) = some (.type "type") ∧ PySem.W.findIn K (.ref (ga K x)) "__setattr__" = some (some (.builtin "object.__setattr__")) := by
  obtain ⟨c1, c⟩ := ba c
  obtain ⟨c2, c⟩ := ba c
  obtain ⟨c3, c⟩ := ba c
  obtain ⟨c4, c⟩ := ba c
  obtain ⟨c5, c⟩ := ba c
  obtain ⟨c6, c⟩ := ba c
  obtain ⟨c7, c⟩ := ba c
  obtain ⟨c8, c⟩ := ba c
  obtain ⟨c9, c⟩ := ba c
  obtain ⟨c10, c⟩ := ba c
  obtain ⟨c11, c12⟩ := ba c
  exact ⟨⟨eqO_ok c6, eqO_ok c7, of_decide_eq_true c3, c8, eqO_ok c9, eqO_ok c10, of_decide_eq_true c11, of_decide_eq_true c12⟩, c1, c2, of_decide_eq_true c4, eqO_ok c5⟩
theorem obC_ok {K : PySem.W.Frag} {x : Str} (c : (Nf.cls x).ok K = true) : ObC K (ga K x) := by
  obtain ⟨c1, c⟩ := ba c
  obtain ⟨c2, c⟩ := ba c
  obtain ⟨c3, c⟩ := ba c
  obtain ⟨c4, c⟩ := ba c
  obtain ⟨c5, c6⟩ := ba c
  exact ⟨cls_ok c1, eqO_ok c2, eqO_ok c3, of_decide_eq_true c4, of_decide_eq_true c5, eqO_ok c6⟩
/-- what raising wants, from the facts -/
theorem xtxt_ok {prog : Program} {K : PySem.W.Frag} {mg : Str → Option Value} {x : Str} {d : IniD} {fo : Option Str} (c : (Nf.exc x).ok K = true) (i : (Nf.ini x prog.main.file).ok K = true) (s : Nf.stat.ok K = true) (e : fnX K d.at_ = d.val) (hd : d.at_ = x)
    (no : ∀ f, fo = some f → (Nf.noat x f).ok K = true) (sg : mg "super" = none) (top : (prog.main.scope.names.lookup ("super" : Str)).isSome = false) : XTxt prog K mg (ga K x) (ma K (ga K x) "__init__") d.st fo := by
  obtain ⟨E, c1, c2, c4, c5⟩ := excC_ok c
  obtain ⟨i1, i⟩ := ba i
  obtain ⟨i2, i⟩ := ba i
  obtain ⟨i3, i⟩ := ba i
  obtain ⟨i4, i⟩ := ba i
  obtain ⟨i5, i6⟩ := ba i
  refine ⟨oexB_ok c1, c5, fun f hf => eqO_ok (no f hf), eqO_ok i2, of_decide_eq_true i3, c2, E.hs, c4, eqO_ok i4, of_decide_eq_true i5, eqO_ok s, of_decide_eq_true i6, sg, top, ?_⟩
  subst hd
  unfold iniB at i1
  unfold fnX at e
  cases z : K.lookup (ma K (ga K d.at_) "__init__") with
  | none => rw [z] at i1; cases i1
  | some o =>
    obtain ⟨oc, od, dt, osl⟩ := o
    rw [z] at i1 e
    cases dt with
    | func fd =>
      obtain ⟨n1, n2, n3, n4, n5, n6, n7, n8, n9, n10, n11, n12, n13, n14, n15⟩ := fd
      have e2 : (some (n3, n4, n5, n6, n7.map (·.1), n8, n15) : FnX) = some (defArgs d.st, FuncBody.stmts (defBody d.st), defScope d.st, mainGlobals, [("__class__" : Str)], Value.none, builtinsNs) := e
      simp only [Option.some.injEq, Prod.mk.injEq] at e2
      obtain ⟨h1, h2, h3, h4, h5, h6, h7⟩ := e2
      subst h1 h2 h3 h4 h6 h7
      have i1' : cloB K (ga K d.at_) n2 prog.main.file n13 n7 = true := i1
      match n13, n7, i1', h5, z with
      | .ref cda, [(y, cc)], i1', h5, z =>
        obtain ⟨j1, j⟩ := ba i1'
        obtain ⟨j2, j3⟩ := ba j
        have ey : y = ("__class__" : Str) := by simpa using h5
        subst ey
        obtain ⟨ccl, cdd, vs, ccs, tf, hcd, hvs⟩ := fileB_ok j2
        obtain ⟨cl, cld, csl, hcc⟩ := cellB_ok j3
        exact ⟨_, _, n1, n2, n9, n10, n11, n12, cda, n14, cc, _, rfl, j1, ⟨ccl, cdd, vs, ccs, _, tf, hcd, hvs, by simp⟩, cl, cld, csl, hcc⟩
    | _ => cases i1
end Nb

/-! Nb19 -/
set_option Elab.async false
set_option linter.all false
set_option maxRecDepth 100000
set_option maxHeartbeats 4000000
/-! Nb19: the environment from a table; a def added. -/
namespace Nb
open PySem PySem.Spec L2 L2H NbX He
open PyProof.Rows hiding St

/-! ### names -/
theorem nm_inj {L : List Str} (h : nmB L = true) : ∀ a b, nmOf L a = nmOf L b → a = b := by
  obtain ⟨h1, h2⟩ := and2 h
  have nd := of_decide_eq_true h1
  intro a b e
  unfold nmOf at e
  have mix : ∀ {x : Str} {i : Nat} {j : Nat}, L[i]? = some x → x = ⟨(List.replicate (j + 1) 0).toArray⟩ → False := by
    intro x i j hx ex
    have z := List.all_eq_true.mp h2 x (List.mem_of_getElem? hx)
    rw [ex] at z
    simp [List.replicate_succ] at z
  cases ha : L[a]? with
  | none =>
    cases hb : L[b]? with
    | none =>
      rw [ha, hb] at e
      simp only [Str.mk.injEq] at e
      have := congrArg Array.size e
      simpa using this
    | some y =>
      rw [ha, hb] at e
      exact (mix hb e.symm).elim
  | some x =>
    cases hb : L[b]? with
    | none =>
      rw [ha, hb] at e
      exact (mix ha e).elim
    | some y =>
      rw [ha, hb] at e
      have e' : x = y := e
      subst e'
      exact nd_ix nd ha hb
def Dt.G (D : Dt) (K : PySem.W.Frag) : GI := ⟨K, D.nm, nm_inj D.ok, fun c => if (D.cls.lookup c).isSome then some (ga K (D.nm c)) else none, none⟩
def Dt.Γ (D : Dt) : Gm where
  cold := true
  fn := fun _ => none
  hfn := fun _ => none
  xfl := fun c f => D.xfls.contains (c, f)
  fld := fun c f => D.flds.contains (c, f)
  ini := fun _ => none
  mt := fun _ _ => none
  gl := fun n => D.gls.lookup n
  kd := fun c => D.cls.lookup c == some true
  isa := fun c d => D.isa.lookup (c, d)
  exm := fun c d => D.exm.lookup (c, d)
  isb := fun c t => D.isb.lookup (c, t)
  xc := fun c => D.xc.lookup c
  eqm := fun _ => none
  sib := fun c d => D.sib.contains (c, d)
  stm := fun _ => none
theorem allBf_mem : ∀ f : Bf, f ∈ allBf := fun f => by cases f <;> decide
theorem fa_of {D : Dt} {l : List Nf} {f : Nf} (i : Nat) (h : D.seg[i]? = some l) (hf : f ∈ l) : f ∈ D.fa := List.mem_flatten.mpr ⟨l, List.mem_of_getElem? h, hf⟩
theorem mem_of_lookup {α β : Type} [BEq α] [LawfulBEq α] : ∀ {l : List (α × β)} {a : α} {b : β}, l.lookup a = some b → (a, b) ∈ l
  | [], _, _, h => by cases h
  | (x, y) :: l, a, b, h => by
    rw [List.lookup_cons] at h
    by_cases e : a = x
    · subst e
      simp at h
      subst h
      exact List.mem_cons_self
    · have e2 : (a == x) = false := by simpa using e
      rw [e2] at h
      exact List.mem_cons_of_mem _ (mem_of_lookup h)
section
variable {D : Dt} {fn : List DefD} {ini : List IniD} {P : Program} {w : World} {K : PySem.W.Frag} {mg : Str → Option Value} {base h : Heap} {k : Nat}
theorem Dt.cl_of (D : Dt) (K : PySem.W.Frag) {c : Nat} (h : (D.cls.lookup c).isSome = true) : (D.G K).cl c = some (ga K (D.nm c)) := by
  show (if (D.cls.lookup c).isSome then some (ga K (D.nm c)) else none) = _
  rw [if_pos h]
theorem Dt.cl_some {D : Dt} {c : Nat} {C : Addr} (h : (D.G K).cl c = some C) : ∃ b, D.cls.lookup c = some b ∧ (c, b) ∈ D.cls ∧ C = ga K (D.nm c) := by
  have h' : (if (D.cls.lookup c).isSome then some (ga K (D.nm c)) else none) = some C := h
  split at h'
  · rename_i q
    obtain ⟨b, hb⟩ := Option.isSome_iff_exists.mp q
    cases h'
    exact ⟨b, hb, mem_of_lookup hb, rfl⟩
  · cases h'
/-- the environment without defs -/
theorem gm_base (KX : K.In h) (Gn : h.Ns mainGlobals mg) (c : ∀ f ∈ D.fa, f.ok K = true) (ok : D.okB = true) (hx : ∀ cc fo, D.xc.lookup cc = some fo → RaisesC P w K mg base (D.G K) k cc fo) : GmOk P w K mg base (D.G K) D.Γ k := by
  obtain ⟨o1, ok⟩ := and2 ok
  obtain ⟨o2, ok⟩ := and2 ok
  obtain ⟨o3, ok⟩ := and2 ok
  obtain ⟨o4, ok⟩ := and2 ok
  obtain ⟨o5, ok⟩ := and2 ok
  obtain ⟨o6, ok⟩ := and2 ok
  obtain ⟨o7, o8⟩ := and2 ok
  have free : ∀ x, Nf.free x ∈ D.fa → mg x = none := fun x hm => free_ok KX Gn (x := x) (c _ hm)
  have clsF : ∀ cc b, (cc, b) ∈ D.cls → (Nf.glo (D.nm cc)).ok K = true ∧ (b = true → (Nf.exc (D.nm cc)).ok K = true) ∧ (b = false → (Nf.cls (D.nm cc)).ok K = true) := fun cc b hm => by
    have m : ∀ f, f ∈ [Nf.glo (D.nm cc), if b then .exc (D.nm cc) else .cls (D.nm cc)] → f ∈ D.fa := fun f hf => fa_of 0 rfl (List.mem_flatMap.mpr ⟨(cc, b), hm, hf⟩)
    refine ⟨c _ (m _ (by simp)), fun e => ?_, fun e => ?_⟩
    · subst e; exact c _ (m _ (by simp))
    · subst e; exact c _ (m _ (by simp))
  have iso : ∀ {cc b}, D.cls.lookup cc = some b → (D.cls.lookup cc).isSome = true := fun q => by rw [q]; rfl
  refine {
    gk := rfl
    fn := fun _ n S q => by cases q
    hfn := fun n S q => by cases q
    ini := fun n S q => by cases q
    mt := fun n m S q => by cases q
    gl := fun n x q => ?_
    fld := fun cc f q => ?_
    xfl := fun cc f q => ?_
    bf := fun f => free _ (fa_of 9 rfl (List.mem_map.mpr ⟨f, allBf_mem f, rfl⟩))
    bn := ⟨free _ (fa_of 11 rfl (by simp)), free _ (fa_of 11 rfl (by simp)), free _ (fa_of 11 rfl (by simp)), free _ (fa_of 11 rfl (by simp)), free _ (fa_of 11 rfl (by simp)), free _ (fa_of 11 rfl (by simp))⟩
    own := fun d DD q => ?_
    cls := fun cc C q => ?_
    isa := fun cc d b q => ?_
    exm := fun cc d b q => ?_
    isb := fun cc t b q => ?_
    isf := fun t d DD ht q => ?_
    bty := fun t ht => free _ (fa_of 10 rfl (List.mem_map.mpr ⟨t, ht, rfl⟩))
    xc := hx
    eqm := fun c S q => by cases q
    sib := fun cc d q => ?_
    stm := fun c S q => by cases q }
  · have hm := mem_of_lookup (show D.gls.lookup n = some x from q)
    have z := List.all_eq_true.mp o6 _ hm
    have inF : ∀ f, f ∈ D.glF (n, x) → f ∈ D.fa := fun f hf => fa_of 1 rfl (List.mem_flatMap.mpr ⟨_, hm, hf⟩)
    cases x with
    | str y =>
      obtain ⟨t, ht⟩ := str_ok KX Gn (x := D.nm n) (z := y) (c (.str (D.nm n) y) (inF _ (by simp [Dt.glF])))
      exact ⟨_, .str y, ht, ⟨t, rfl⟩, fun e F => .str y⟩
    | int i =>
      obtain ⟨t, ht⟩ := int_ok KX Gn (x := D.nm n) (i := i) (c (.int (D.nm n) i) (inF _ (by simp [Dt.glF])))
      exact ⟨_, .int i, ht, ⟨t, rfl⟩, fun e F => .int i⟩
    | _ => cases z
  · have hm : (cc, f) ∈ D.flds := by simpa using (show D.flds.contains (cc, f) = true from q)
    have z : D.cls.lookup cc = some false := by simpa using List.all_eq_true.mp o1 _ hm
    exact ⟨_, D.cl_of K (iso z), (obC_ok ((clsF cc false (mem_of_lookup z)).2.2 rfl)).cl, eqO_ok (c (.noat (D.nm cc) (D.nm f)) (fa_of 2 rfl (List.mem_map.mpr ⟨(cc, f), hm, rfl⟩)))⟩
  · have hm : (cc, f) ∈ D.xfls := by simpa using (show D.xfls.contains (cc, f) = true from q)
    have z : D.cls.lookup cc = some true := by simpa using List.all_eq_true.mp o2 _ hm
    exact ⟨_, D.cl_of K (iso z), (excC_ok ((clsF cc true (mem_of_lookup z)).2.1 rfl)).1, eqO_ok (c (.noat (D.nm cc) (D.nm f)) (fa_of 3 rfl (List.mem_map.mpr ⟨(cc, f), hm, rfl⟩)))⟩
  · obtain ⟨b, hb, hm, rfl⟩ := Dt.cl_some q
    exact glo_ok KX Gn (x := D.nm d) (clsF d b hm).1
  · obtain ⟨b, hb, hm, rfl⟩ := Dt.cl_some q
    refine ⟨fun e => ?_, fun e => ?_⟩
    · have e' : D.cls.lookup cc = some true := by simpa using (show (D.cls.lookup cc == some true) = true from e)
      exact (excC_ok ((clsF cc true (mem_of_lookup e')).2.1 rfl)).1
    · have e' : b = false := by
        have := (show (D.cls.lookup cc == some true) = false from e)
        rw [hb] at this
        cases b with
        | true => simp at this
        | false => rfl
      subst e'
      exact obC_ok ((clsF cc false hm).2.2 rfl)
  · have hm := mem_of_lookup (show D.isa.lookup (cc, d) = some b from q)
    obtain ⟨z1, z2⟩ := and2 (List.all_eq_true.mp o3 _ hm)
    exact ⟨_, _, D.cl_of K z1, D.cl_of K z2, of_decide_eq_true (c (.kit (D.nm cc) (D.nm d) b) (fa_of 4 rfl (List.mem_map.mpr ⟨((cc, d), b), hm, rfl⟩)))⟩
  · have hm := mem_of_lookup (show D.exm.lookup (cc, d) = some b from q)
    obtain ⟨z1, z2⟩ := and2 (List.all_eq_true.mp o4 _ hm)
    exact ⟨_, _, D.cl_of K z1, D.cl_of K z2, of_decide_eq_true (c (.exm (D.nm cc) (D.nm d) b) (fa_of 5 rfl (List.mem_map.mpr ⟨((cc, d), b), hm, rfl⟩)))⟩
  · have hm := mem_of_lookup (show D.isb.lookup (cc, t) = some b from q)
    have z1 := List.all_eq_true.mp o5 _ hm
    exact ⟨_, D.cl_of K z1, of_decide_eq_true (c (.kty (D.nm cc) t b) (fa_of 6 rfl (List.mem_map.mpr ⟨((cc, t), b), hm, rfl⟩)))⟩
  · obtain ⟨b, hb, hm, rfl⟩ := Dt.cl_some q
    exact of_decide_eq_true (c (.ktf t (D.nm d)) (fa_of 7 rfl (List.mem_flatMap.mpr ⟨(d, b), hm, List.mem_map.mpr ⟨t, ht, rfl⟩⟩)))
  · have hm : (cc, d) ∈ D.sib := by simpa using (show D.sib.contains (cc, d) = true from q)
    obtain ⟨z1, z2⟩ := and2 (List.all_eq_true.mp o8 _ hm)
    exact ⟨_, _, D.cl_of K z1, D.cl_of K z2, of_decide_eq_true (c (.sub (D.nm d) (D.nm cc)) (fa_of 12 rfl (List.mem_map.mpr ⟨(cc, d), hm, rfl⟩)))⟩
end

/-! ### defs added, one after another -/
section
variable {P : Program} {w : World} {K : PySem.W.Frag} {mg : Str → Option Value} {base : Heap} {G : GI} {Γ : Gm} {j k : Nat}
theorem RaisesC.mono {c : Nat} {fo : Option Nat} (r : RaisesC P w K mg base G j c fo) (h : j ≤ k) : RaisesC P w K mg base G k c fo := by
  obtain ⟨⟨C, hC, h1⟩, ⟨C2, hC2, h2⟩⟩ := r
  exact ⟨⟨C, hC, fun X e1 e2 e3 e4 e5 hr => h1 X e1 e2 e3 e4 e5 (hr.mono h)⟩, ⟨C2, hC2, fun X e1 e2 e3 e4 e5 hr => h2 X e1 e2 e3 e4 e5 (hr.mono h)⟩⟩
theorem GmOk.mono (g : GmOk P w K mg base G Γ j) (h : j ≤ k) : GmOk P w K mg base G Γ k where
  gk := g.gk
  fn := fun hc n S q => let ⟨i, f, a, r⟩ := g.fn hc n S q; ⟨i, f, Nat.le_trans a h, r⟩
  hfn := fun n S q => let ⟨i, f, fd, ps, a, r⟩ := g.hfn n S q; ⟨i, f, fd, ps, Nat.le_trans a h, r⟩
  ini := fun n S q => let ⟨hc, i, C, f, a, r⟩ := g.ini n S q; ⟨hc, i, C, f, Nat.le_trans a h, r⟩
  mt := fun n m S q => let ⟨hc, i, C, f, a, r⟩ := g.mt n m S q; ⟨hc, i, C, f, Nat.le_trans a h, r⟩
  gl := g.gl
  fld := g.fld
  xfl := g.xfl
  bf := g.bf
  bn := g.bn
  own := g.own
  cls := g.cls
  isa := g.isa
  exm := g.exm
  isb := g.isb
  isf := g.isf
  bty := g.bty
  xc := fun c fo q => (g.xc c fo q).mono h
  sib := g.sib
  eqm := fun c S q => let ⟨hc, i, C, f, a, r⟩ := g.eqm c S q; ⟨hc, i, C, f, Nat.le_trans a h, r⟩
  stm := fun c S q => let ⟨hc, i, C, f, a, r⟩ := g.stm c S q; ⟨hc, i, C, f, Nat.le_trans a h, r⟩
def Gm.addE (Γ : Gm) (c : Nat) (S : BP) : Gm := { Γ with eqm := fun m => if m = c then some S else Γ.eqm m }
def Gm.addT (Γ : Gm) (c : Nat) (S : BP) : Gm := { Γ with stm := fun m => if m = c then some S else Γ.stm m }
theorem GmOk.addE (g : GmOk P w K mg base G Γ k) (hc : Γ.cold = true) {c : Nat} {S : BP} {C f : Addr} (hC : G.cl c = some C) (cl : Cls K C) (me : Meth K C "__eq__" f) (F : FnR P w K mg base (L2.CX P w) j f (liftP G S)) (hj : j + 2 ≤ k) : GmOk P w K mg base G (Γ.addE c S) k := by
  refine { g with eqm := ?_ }
  intro d T q
  have q' : (if d = c then some S else Γ.eqm d) = some T := q
  split at q'
  · rename_i e
    subst e
    cases q'
    exact ⟨hc, j, C, f, hj, hC, cl, me, F⟩
  · exact g.eqm d T q'
theorem GmOk.addT (g : GmOk P w K mg base G Γ k) (hc : Γ.cold = true) {c : Nat} {S : BP} {C f : Addr} (hC : G.cl c = some C) (cl : Cls K C) (me : Meth K C "__str__" f) (F : FnR P w K mg base (L2.CX P w) j f (liftP G S)) (hj : j + 2 ≤ k) : GmOk P w K mg base G (Γ.addT c S) k := by
  refine { g with stm := ?_ }
  intro d T q
  have q' : (if d = c then some S else Γ.stm d) = some T := q
  split at q'
  · rename_i e
    subst e
    cases q'
    exact ⟨hc, j, C, f, hj, hC, cl, me, F⟩
  · exact g.stm d T q'
def Gm.add (Γ : Gm) (n : Nat) (S : BP) : Gm := { Γ with fn := fun m => if m = n then some S else Γ.fn m }
def Gm.addH (Γ : Gm) (n : Nat) (S : BP) : Gm := { Γ with hfn := fun m => if m = n then some S else Γ.hfn m }
def Gm.addI (Γ : Gm) (c : Nat) (S : BP) : Gm := { Γ with ini := fun m => if m = c then some S else Γ.ini m }
def Gm.addM (Γ : Gm) (c n : Nat) (S : BP) : Gm := { Γ with mt := fun d m => if d = c ∧ m = n then some S else Γ.mt d m }
theorem GmOk.add (g : GmOk P w K mg base G Γ k) {n : Nat} {S : BP} {f : Addr} {fd : FuncData} {ps : List Str} (hm : mg (G.nm n) = some (.ref f)) (kp : PySem.W.keepIn K (.ref f) = true) (b : Binds K fd ps []) (F : FnOk P w K mg base (L2.CX P w) k f fd ps (liftP G S)) : GmOk P w K mg base G (Γ.add n S) k := by
  refine { g with fn := ?_ }
  intro hc m T q
  have q' : (if m = n then some S else Γ.fn m) = some T := q
  split at q'
  · rename_i e
    subst e
    cases q'
    exact ⟨k, f, Nat.le_refl _, hm, kp, fnR_of F b⟩
  · exact g.fn hc m T q'
theorem GmOk.addH (g : GmOk P w K mg base G Γ k) {n : Nat} {S : BP} {f : Addr} {fd : FuncData} {ps : List Str} (hm : mg (G.nm n) = some (.ref f)) (kp : PySem.W.keepIn K (.ref f) = true) (b : Binds K fd ps [])
    (F : ∀ (p : Addr × Obj) C d, Zc (.ref C) d p.2 → (∃ vs, p.2.data = .fields vs) → FnE P w K mg base (L2.CX P w) k f fd ps p (liftP (G.at (p.1, C, d)) S)) : GmOk P w K mg base G (Γ.addH n S) k := by
  refine { g with hfn := ?_ }
  intro m T q
  have q' : (if m = n then some S else Γ.hfn m) = some T := q
  split at q'
  · rename_i e
    subst e
    cases q'
    exact ⟨k, f, fd, ps, Nat.le_refl _, hm, kp, b, F⟩
  · exact g.hfn m T q'
theorem GmOk.addI (g : GmOk P w K mg base G Γ k) (hc : Γ.cold = true) {c : Nat} {S : BP} {C f : Addr} (hC : G.cl c = some C) (hm : mg (G.nm c) = some (.ref C)) (mk : Mk K C f) (F : FnR P w K mg base (L2.CX P w) j f (liftP G S)) (hj : j + 1 ≤ k) : GmOk P w K mg base G (Γ.addI c S) k := by
  refine { g with ini := ?_ }
  intro m T q
  have q' : (if m = c then some S else Γ.ini m) = some T := q
  split at q'
  · rename_i e
    subst e
    cases q'
    exact ⟨hc, j, C, f, hj, hC, hm, mk, F⟩
  · exact g.ini m T q'
theorem GmOk.addM (g : GmOk P w K mg base G Γ k) (hc : Γ.cold = true) {c n : Nat} {S : BP} {C f : Addr} {fd : FuncData} {ps : List Str} (hC : G.cl c = some C) (cl : Cls K C) (me : Meth K C (G.nm n) f) (b : Binds K fd ps []) (F : FnOk P w K mg base (L2.CX P w) k f fd ps (liftP G S)) : GmOk P w K mg base G (Γ.addM c n S) k := by
  refine { g with mt := ?_ }
  intro d m T q
  have q' : (if d = c ∧ m = n then some S else Γ.mt d m) = some T := q
  split at q'
  · rename_i e
    obtain ⟨rfl, rfl⟩ := e
    cases q'
    exact ⟨hc, k, C, f, Nat.le_refl _, hC, cl, me, fnR_of F b⟩
  · exact g.mt d m T q'
/-- a promise kept by a body -/
theorem FnOk.of {S : BP} {s : Sms} {N ps : List Str} {f : Addr} {fd : FuncData} (F : FnOk P w K mg base (L2.CX P w) j f fd ps (liftP G (bodyP Γ s N ps.length))) (hw : ∀ xs M Q E, S xs M Q E → bodyP Γ s N ps.length xs M Q E) : FnOk P w K mg base (L2.CX P w) j f fd ps (liftP G S) := F.imp (liftP_imp hw)
/-- the words of a def, from the head's facts -/
theorem fun_of {x qual : Str} {st : Stmt} {f : Addr} {fd : FuncData} (F : FunD K x qual (defArgs st) (defBody st) (defScope st) [] [] f fd) : Fun K x qual st f fd := by
  obtain ⟨⟨oc, od, dV, kV, doc, pm, an, cdv, ct, osl, e, lk, cd, hd, _⟩, kp⟩ := F
  have ed : dV = .none := by
    rcases hd with ⟨_, h1⟩ | ⟨h1, _⟩
    · exact h1
    · exact absurd rfl h1
  subst ed
  exact ⟨⟨oc, od, kV, doc, pm, an, cdv, ct, osl, e, lk, cd⟩, kp⟩
/-- a def by its own depth: where it calls itself, the smaller promise is kept -/
theorem rec_ok {n : Nat} {S : Nat → BP} {x qual : Str} {st : Stmt} {f : Addr} {fd : FuncData} {N ps : List Str} {s : Sms} (g : GmOk P w K mg base G Γ k) (hcd : Γ.cold = true) (her : G.er = none) (Fn : Fun K x qual st f fd) (Sc : FnScope N ps (defScope st)) (hm : mg (G.nm n) = some (.ref f)) (b : Binds K fd ps [])
    (ag : agSs G.nm N (defScope st) s (defBody st) = true) (h0 : ∀ xs M Q E, S 0 xs M Q E → False) (hs : ∀ d xs M Q E, S (d + 1) xs M Q E → bodyP (Γ.add n (S d)) s N ps.length xs M Q E) : ∀ d, GmOk P w K mg base G (Γ.add n (S d)) (k + d)
  | 0 => g.add hm Fn.kp b ⟨fun vs H Q E q => by
      obtain ⟨F, xs, M, Qb, Eb, A, t, up, ex, q⟩ := q
      exact (h0 _ _ _ _ q).elim, fun A outer s H args us vs Q E _ _ _ _ q => by
      obtain ⟨F, xs, M, Qb, Eb, A, t, up, ex, q⟩ := q
      exact (h0 _ _ _ _ q).elim⟩
  | d + 1 => by
    have ih := rec_ok g hcd her Fn Sc hm b ag h0 hs d
    exact (g.mono (Nat.le_add_right k (d + 1))).add hm Fn.kp b (FnOk.of (fn_sound Fn Sc ih hcd her ag) (hs d))
end
end Nb

/-! Nb20 -/
set_option Elab.async false
set_option linter.all false
set_option maxRecDepth 100000
set_option maxHeartbeats 4000000
/-! Nb20: loops over trees; the words unfolded. -/
namespace Nb
open PySem PySem.Spec L2
open PyProof.Rows hiding St
/-! the words of code, unfolded one at a time -/
section
variable {Γ : Gm} {mu : Bool} {τ : Sl} {M : MHp} {Q : BV} {Qt : Bool → MHp → Prop} {E : BX}
@[simp] theorem x1_k (c : Ck) : (wX Γ mu (.k c)).1 τ M Q E = (Q c.pv M) := rfl
@[simp] theorem x2_k (c : Ck) : (wX Γ mu (.k c)).2 τ M Qt E = truT (wX Γ mu (.k c)).1 τ M Qt E := rfl
@[simp] theorem x1_v (i : Nat) : (wX Γ mu (.v i)).1 τ M Q E = (∃ x, τ[i]? = some (some x) ∧ Q x M) := rfl
@[simp] theorem x2_v (i : Nat) : (wX Γ mu (.v i)).2 τ M Qt E = truT (wX Γ mu (.v i)).1 τ M Qt E := rfl
@[simp] theorem x1_g (n : Nat) : (wX Γ mu (.g n)).1 τ M Q E = (∃ x, Γ.gl n = some x ∧ Q x M) := rfl
@[simp] theorem x2_g (n : Nat) : (wX Γ mu (.g n)).2 τ M Qt E = truT (wX Γ mu (.g n)).1 τ M Qt E := rfl
@[simp] theorem x1_bin (op : Operator) (a c : Ex) : (wX Γ mu (.bin op a c)).1 τ M Q E = ((wX Γ false a).1 τ M (fun x M1 => (wX Γ false c).1 τ M1 (fun y M2 => binR mu op x y M2 Q) E) E) := rfl
@[simp] theorem x2_bin (op : Operator) (a c : Ex) : (wX Γ mu (.bin op a c)).2 τ M Qt E = truT (wX Γ mu (.bin op a c)).1 τ M Qt E := rfl
@[simp] theorem x1_un (op : UnaryOp) (a : Ex) : (wX Γ mu (.un op a)).1 τ M Q E = ((wX Γ false a).1 τ M (fun x M1 => unR op x M1 Q) E) := rfl
@[simp] theorem x2_un (op : UnaryOp) (a : Ex) : (wX Γ mu (.un op a)).2 τ M Qt E = truT (wX Γ mu (.un op a)).1 τ M Qt E := rfl
@[simp] theorem x1_cmp (op : CmpOp) (a c : Ex) : (wX Γ mu (.cmp op a c)).1 τ M Q E = ((wX Γ false a).1 τ M (fun x M1 => (wX Γ false c).1 τ M1 (fun y M2 => cmpR op x y M2 Q) E) E) := rfl
@[simp] theorem x2_cmp (op : CmpOp) (a c : Ex) : (wX Γ mu (.cmp op a c)).2 τ M Qt E = blT (wX Γ mu (.cmp op a c)).1 τ M Qt E := rfl
@[simp] theorem x1_chn (o1 o2 : CmpOp) (a b c : Ex) : (wX Γ mu (.chn o1 o2 a b c)).1 τ M Q E = ((wX Γ false a).1 τ M (fun x M1 => (wX Γ false b).1 τ M1 (fun y M2 => cmpR o1 x y M2 fun z M3 => ∃ k, z = .bl k ∧ (k = true → (wX Γ false c).1 τ M3 (fun w M4 => cmpR o2 y w M4 Q) E) ∧ (k = false → Q (.bl false) M3)) E) E) := rfl
@[simp] theorem x2_chn (o1 o2 : CmpOp) (a b c : Ex) : (wX Γ mu (.chn o1 o2 a b c)).2 τ M Qt E = blT (wX Γ mu (.chn o1 o2 a b c)).1 τ M Qt E := rfl
@[simp] theorem x1_and (es : Exs) : (wX Γ mu (.and es)).1 τ M Q E = wAndV Γ es τ M Q E := rfl
@[simp] theorem x2_and (es : Exs) : (wX Γ mu (.and es)).2 τ M Qt E = wAnd Γ es τ M Qt E := rfl
@[simp] theorem x1_or (es : Exs) : (wX Γ mu (.or es)).1 τ M Q E = wOrV Γ es τ M Q E := rfl
@[simp] theorem x2_or (es : Exs) : (wX Γ mu (.or es)).2 τ M Qt E = wOr Γ es τ M Qt E := rfl
@[simp] theorem x1_not (a : Ex) : (wX Γ mu (.not a)).1 τ M Q E = truT (wX Γ false a).1 τ M (fun k M1 => Q (.bl (!k)) M1) E := rfl
@[simp] theorem x2_not (a : Ex) : (wX Γ mu (.not a)).2 τ M Qt E = (wX Γ false a).2 τ M (fun k M1 => Qt (!k) M1) E := rfl
@[simp] theorem x1_ife (t a c : Ex) : (wX Γ mu (.ife t a c)).1 τ M Q E = (wX Γ false t).2 τ M (fun k M1 => (k = true → (wX Γ false a).1 τ M1 Q E) ∧ (k = false → (wX Γ false c).1 τ M1 Q E)) E := rfl
@[simp] theorem x1_tup (es : Exs) : (wX Γ mu (.tup es)).1 τ M Q E = (wXs Γ es τ M (fun xs M1 => xs.length ≤ sizeLine ∧ Q (.tup xs) M1) E) := rfl
@[simp] theorem x2_tup (es : Exs) : (wX Γ mu (.tup es)).2 τ M Qt E = truT (wX Γ mu (.tup es)).1 τ M Qt E := rfl
@[simp] theorem x1_lst (es : Exs) : (wX Γ mu (.lst es)).1 τ M Q E = (wXs Γ es τ M (fun xs M1 => xs.length ≤ sizeLine ∧ newL mu xs M1 Q) E) := rfl
@[simp] theorem x2_lst (es : Exs) : (wX Γ mu (.lst es)).2 τ M Qt E = truT (wX Γ mu (.lst es)).1 τ M Qt E := rfl
@[simp] theorem x1_sub (a i : Ex) : (wX Γ mu (.sub a i)).1 τ M Q E = ((wX Γ false a).1 τ M (fun x M1 => (wX Γ false i).1 τ M1 (fun y M2 => ixR x y M2 Q) E) E) := rfl
@[simp] theorem x2_sub (a i : Ex) : (wX Γ mu (.sub a i)).2 τ M Qt E = truT (wX Γ mu (.sub a i)).1 τ M Qt E := rfl
@[simp] theorem x1_sl (a : Ex) (lo hi : Exo) : (wX Γ mu (.sl a lo hi)).1 τ M Q E = ((wX Γ false a).1 τ M (fun x M1 => wO Γ lo τ M1 (fun l M2 => wO Γ hi τ M2 (fun h M3 => slR mu x l h M3 Q) E) E) E) := rfl
@[simp] theorem x2_sl (a : Ex) (lo hi : Exo) : (wX Γ mu (.sl a lo hi)).2 τ M Qt E = truT (wX Γ mu (.sl a lo hi)).1 τ M Qt E := rfl
@[simp] theorem x1_rev (a : Ex) : (wX Γ mu (.rev a)).1 τ M Q E = ((wX Γ false a).1 τ M (fun x M1 => ∃ xs, lstOf M1 x = some xs ∧ xs.length ≤ sizeLine ∧ newL mu xs.reverse M1 Q) E) := rfl
@[simp] theorem x2_rev (a : Ex) : (wX Γ mu (.rev a)).2 τ M Qt E = truT (wX Γ mu (.rev a)).1 τ M Qt E := rfl
@[simp] theorem x1_att (a : Ex) (f : Nat) : (wX Γ mu (.att a f)).1 τ M Q E = ((wX Γ false a).1 τ M (fun x M1 => attR Γ x f M1 Q) E) := rfl
@[simp] theorem x2_att (a : Ex) (f : Nat) : (wX Γ mu (.att a f)).2 τ M Qt E = truT (wX Γ mu (.att a f)).1 τ M Qt E := rfl
@[simp] theorem x1_call (n : Nat) (es : Exs) : (wX Γ mu (.call n es)).1 τ M Q E = (∃ S, Γ.fn n = some S ∧ wXs Γ es τ M (fun xs M1 => S xs M1 Q E) E) := rfl
@[simp] theorem x2_call (n : Nat) (es : Exs) : (wX Γ mu (.call n es)).2 τ M Qt E = truT (wX Γ mu (.call n es)).1 τ M Qt E := rfl
@[simp] theorem x1_new (c : Nat) (es : Exs) : (wX Γ mu (.new c es)).1 τ M Q E = (∃ S, Γ.ini c = some S ∧ wXs Γ es τ M (fun xs M1 => mkR S mu c xs M1 Q E) E) := rfl
@[simp] theorem x2_new (c : Nat) (es : Exs) : (wX Γ mu (.new c es)).2 τ M Qt E = truT (wX Γ mu (.new c es)).1 τ M Qt E := rfl
@[simp] theorem x1_exn (c : Nat) (es : Exs) : (wX Γ mu (.exn c es)).1 τ M Q E = (∃ f, Γ.xc c = some (some f) ∧ wXs Γ es τ M (fun xs M1 => ∃ x, xs = [x] ∧ Q (.exc c [(f, x)]) M1) E) := rfl
@[simp] theorem x2_exn (c : Nat) (es : Exs) : (wX Γ mu (.exn c es)).2 τ M Qt E = truT (wX Γ mu (.exn c es)).1 τ M Qt E := rfl
@[simp] theorem x1_met (o : Ex) (m : Nat) (es : Exs) : (wX Γ mu (.met o m es)).1 τ M Q E = ((wX Γ false o).1 τ M (fun x M1 => ∃ c fs S, insOf M1 x = some (c, fs) ∧ fs.lookup m = none ∧ Γ.mt c m = some S ∧ wXs Γ es τ M1 (fun xs M2 => S (x :: xs) M2 Q E) E) E) := rfl
@[simp] theorem x2_met (o : Ex) (m : Nat) (es : Exs) : (wX Γ mu (.met o m es)).2 τ M Qt E = truT (wX Γ mu (.met o m es)).1 τ M Qt E := rfl
@[simp] theorem x1_bi (f : Bf) (es : Exs) : (wX Γ mu (.bi f es)).1 τ M Q E = (wXs Γ es τ M (fun xs M1 => biR Γ mu f xs M1 Q) E) := rfl
@[simp] theorem x2_bi (f : Bf) (es : Exs) : (wX Γ mu (.bi f es)).2 τ M Qt E = truT (wX Γ mu (.bi f es)).1 τ M Qt E := rfl
@[simp] theorem x1_bm (o : Ex) (f : Bm) (es : Exs) : (wX Γ mu (.bm o f es)).1 τ M Q E = ((wX Γ false o).1 τ M (fun x M1 => bmT f x M1 ∧ wXs Γ es τ M1 (fun xs M2 => bmR x f xs M2 Q) E) E) := rfl
@[simp] theorem x2_bm (o : Ex) (f : Bm) (es : Exs) : (wX Γ mu (.bm o f es)).2 τ M Qt E = truT (wX Γ mu (.bm o f es)).1 τ M Qt E := rfl
@[simp] theorem x1_lc (own : List Nat) (e : Ex) (tg : List Nat) (it : It) (ifs : Exo) : (wX Γ mu (.lc own e tg it ifs)).1 τ M Q E = (Γ.cold = true ∧ wI Γ it τ M (fun items g M1 => lcW Γ g tg (wF Γ ifs) (wX Γ false e).1 (own.foldr (fun i τ => τ.set i none) τ) (fun xs M2 => newL mu xs M2 Q) items [] M1) E) := rfl
@[simp] theorem x2_lc (own : List Nat) (e : Ex) (tg : List Nat) (it : It) (ifs : Exo) : (wX Γ mu (.lc own e tg it ifs)).2 τ M Qt E = truT (wX Γ mu (.lc own e tg it ifs)).1 τ M Qt E := rfl
@[simp] theorem x1_isi (a : Ex) (cs : List Cc) : (wX Γ mu (.isi a cs)).1 τ M Q E = ((wX Γ false a).1 τ M (fun x M1 => ∃ t k, tyOf Γ M1 x = some t ∧ cs.all (knC Γ) = true ∧ isiR Γ t cs = some k ∧ Q (.bl k) M1) E) := rfl
@[simp] theorem x2_isi (a : Ex) (cs : List Cc) : (wX Γ mu (.isi a cs)).2 τ M Qt E = blT (wX Γ mu (.isi a cs)).1 τ M Qt E := rfl
@[simp] theorem x1_sset (a : Ex) : (wX Γ mu (.sset a)).1 τ M Q E = (Γ.cold = true ∧ (wX Γ false a).1 τ M (fun x M1 => ssetR mu x M1 Q) E) := rfl
@[simp] theorem x1_oeq (ne : Bool) (a b : Ex) : (wX Γ mu (.oeq ne a b)).1 τ M Q E = ((wX Γ false a).1 τ M (fun x M1 => (wX Γ false b).1 τ M1 (fun y M2 => oeqR Γ ne x y M2 Q) E) E) := rfl
@[simp] theorem x1_ostr (a : Ex) : (wX Γ mu (.ostr a)).1 τ M Q E = ((wX Γ false a).1 τ M (fun x M1 => ostR Γ x M1 Q) E) := rfl
@[simp] theorem x1_lrv (a : Ex) : (wX Γ mu (.lrv a)).1 τ M Q E = (Γ.cold = true ∧ (wX Γ false a).1 τ M (fun x M1 => ∃ xs, lsOf M1 x = some xs ∧ newL mu xs.reverse M1 Q) E) := rfl
@[simp] theorem x1_m (e : Ex) : (wX Γ mu (.m e)).1 τ M Q E = (wX Γ true e).1 τ M Q E := rfl
@[simp] theorem x2_m (e : Ex) : (wX Γ mu (.m e)).2 τ M Qt E = (wX Γ true e).2 τ M Qt E := rfl
@[simp] theorem x1_fz (e : Ex) : (wX Γ mu (.fz e)).1 τ M Q E = (wX Γ true e).1 τ M (fun x M1 => freezeR x M1 Q) E := rfl
@[simp] theorem xs_nil {Qs : List PV → MHp → Prop} : wXs Γ .nil τ M Qs E = Qs [] M := rfl
@[simp] theorem xs_cons (e : Ex) (r : Exs) {Qs : List PV → MHp → Prop} : wXs Γ (.cons e r) τ M Qs E = (wX Γ false e).1 τ M (fun x M1 => wXs Γ r τ M1 (fun xs M2 => Qs (x :: xs) M2) E) E := rfl
@[simp] theorem xs_star (e : Ex) (r : Exs) {Qs : List PV → MHp → Prop} : wXs Γ (.star e r) τ M Qs E = (wX Γ false e).1 τ M (fun x M1 => ∃ ys, seqOf M1 x = some ys ∧ wXs Γ r τ M1 (fun xs M2 => Qs (ys ++ xs) M2) E) E := rfl
@[simp] theorem and_nil : wAnd Γ .nil τ M Qt E = Qt true M := rfl
@[simp] theorem and_cons (e : Ex) (r : Exs) : wAnd Γ (.cons e r) τ M Qt E = (wX Γ false e).2 τ M (fun k M1 => (k = true → wAnd Γ r τ M1 Qt E) ∧ (k = false → Qt false M1)) E := rfl
@[simp] theorem or_nil : wOr Γ .nil τ M Qt E = Qt false M := rfl
@[simp] theorem or_cons (e : Ex) (r : Exs) : wOr Γ (.cons e r) τ M Qt E = (wX Γ false e).2 τ M (fun k M1 => (k = true → Qt true M1) ∧ (k = false → wOr Γ r τ M1 Qt E)) E := rfl
@[simp] theorem andV_one (e : Ex) : wAndV Γ (.cons e .nil) τ M Q E = (wX Γ false e).1 τ M Q E := rfl
@[simp] theorem andV_cons (e e2 : Ex) (r : Exs) : wAndV Γ (.cons e (.cons e2 r)) τ M Q E = (wX Γ false e).1 τ M (fun x M1 => ∃ k, x = .bl k ∧ (k = true → wAndV Γ (.cons e2 r) τ M1 Q E) ∧ (k = false → Q (.bl false) M1)) E := rfl
@[simp] theorem orV_one (e : Ex) : wOrV Γ (.cons e .nil) τ M Q E = (wX Γ false e).1 τ M Q E := rfl
@[simp] theorem orV_cons (e e2 : Ex) (r : Exs) : wOrV Γ (.cons e (.cons e2 r)) τ M Q E = (wX Γ false e).1 τ M (fun x M1 => ∃ k, x = .bl k ∧ (k = true → Q (.bl true) M1) ∧ (k = false → wOrV Γ (.cons e2 r) τ M1 Q E)) E := rfl
@[simp] theorem o_no {Qo : Option Int → MHp → Prop} : wO Γ .no τ M Qo E = Qo none M := rfl
@[simp] theorem o_yes (e : Ex) {Qo : Option Int → MHp → Prop} : wO Γ (.yes e) τ M Qo E = (wX Γ false e).1 τ M (fun x M1 => ∃ i, x = .int i ∧ Qo (some i) M1) E := rfl
@[simp] theorem f_no : wF Γ .no τ M Qt E = Qt true M := rfl
@[simp] theorem f_yes (e : Ex) : wF Γ (.yes e) τ M Qt E = (wX Γ false e).2 τ M Qt E := rfl
@[simp] theorem i_val' (e : Ex) {R : List PV → (MHp → Prop) → MHp → Prop} : wI Γ (.val e) τ M R E = (wX Γ false e).1 τ M (fun x M1 => itemsR x M1 R) E := rfl
@[simp] theorem i_rng1' (c : Ex) {R : List PV → (MHp → Prop) → MHp → Prop} : wI Γ (.rng .no c) τ M R E = (wX Γ false c).1 τ M (fun y M1 => rngR (.int 0) y M1 R) E := rfl
@[simp] theorem i_rng2' (a c : Ex) {R : List PV → (MHp → Prop) → MHp → Prop} : wI Γ (.rng (.yes a) c) τ M R E = (wX Γ false a).1 τ M (fun x M1 => (wX Γ false c).1 τ M1 (fun y M2 => rngR x y M2 R) E) E := rfl
@[simp] theorem i_zip' (a c : Ex) {R : List PV → (MHp → Prop) → MHp → Prop} : wI Γ (.zip a c) τ M R E = (wX Γ false a).1 τ M (fun x M1 => (wX Γ false c).1 τ M1 (fun y M2 => zipR x y M2 R) E) E := rfl
@[simp] theorem i_enu' (a : Ex) {R : List PV → (MHp → Prop) → MHp → Prop} : wI Γ (.enu a) τ M R E = (wX Γ false a).1 τ M (fun x M1 => enuR x M1 R) E := rfl
@[simp] theorem i_rvd' (a : Ex) {R : List PV → (MHp → Prop) → MHp → Prop} : wI Γ (.rvd a) τ M R E = (wX Γ false a).1 τ M (fun x M1 => rvdR x M1 R) E := rfl
@[simp] theorem wE_eq (e : Ex) : wE Γ e τ M Q E = (wX Γ false e).1 τ M Q E := rfl
@[simp] theorem wT_eq (e : Ex) : wT Γ e τ M Qt E = (wX Γ false e).2 τ M Qt E := rfl
end
abbrev E0X : BX := fun _ _ _ => False
section
variable {Γ : Gm} {g : MHp → Prop} {i : Nat}
theorem lcW_inv {bt : BT} {be : BE} {τ : Sl} {Q : List PV → MHp → Prop} (I : List PV → List PV → MHp → Prop) (hg : ∀ r acc M, I r acc M → g M) (fin : ∀ acc M, I [] acc M → Q acc M)
    (step : ∀ y r acc M (N : List PV → MHp → Prop), I (y :: r) acc M → (∀ acc' M', I r acc' M' → N acc' M') → bt (τ.set i (some y)) M (fun b M1 => (b = true → be (τ.set i (some y)) M1 (fun z M2 => acc.length < sizeLine ∧ N (acc ++ [z]) M2) E0X) ∧ (b = false → N acc M1)) E0X) :
    ∀ items acc M, I items acc M → lcW Γ g [i] bt be τ Q items acc M
  | [], acc, M, h => ⟨hg _ _ _ h, fin _ _ h⟩
  | y :: ys, acc, M, h => ⟨hg _ _ _ h, step y ys acc M (fun acc M => lcW Γ g [i] bt be τ Q ys acc M) h fun acc' M' h' => lcW_inv I hg fin step ys acc' M' h'⟩
theorem forW_inv {body : BS} {D : BD} (I : List PV → Sl → MHp → Prop) (hg : ∀ r τ M, I r τ M → g M) (fin : ∀ τ M, I [] τ M → D.nx τ M)
    (step : ∀ y r τ M (N : Sl → MHp → Prop), I (y :: r) τ M → (∀ τ' M', I r τ' M' → N τ' M') → body { D with nx := N, ct := N, bk := D.nx } (τ.set i (some y)) M) : ∀ items τ M, I items τ M → forW Γ g [i] body D items τ M
  | [], τ, M, h => ⟨hg _ _ _ h, fin _ _ h⟩
  | y :: ys, τ, M, h => ⟨hg _ _ _ h, step y ys τ M (fun τ2 M2 => forW Γ g [i] body D ys τ2 M2) h fun τ' M' h' => forW_inv I hg fin step ys τ' M' h'⟩
end
end Nb

/-! Nb21 -/
set_option Elab.async false
set_option linter.all false
set_option maxRecDepth 100000
set_option maxHeartbeats 4000000
/-! Nb21: the wishes proved backwards, one form at a time. -/
namespace Nb
open PySem PySem.Spec L2
open PyProof.Rows hiding St
section
variable {Γ : Gm} {mu : Bool} {τ : Sl} {M : MHp} {Q : BV} {Qt : Bool → MHp → Prop} {E : BX} {D : BD} {r : Sms}
/-! values -/
theorem r_ki {n : Int} (h : Q (.int n) M) : (wX Γ mu (.k (.int n))).1 τ M Q E := h
theorem r_ks {z : Str} (h : Q (.str z) M) : (wX Γ mu (.k (.str z))).1 τ M Q E := h
theorem r_kb {b : Bool} (h : Q (.bl b) M) : (wX Γ mu (.k (.bl b))).1 τ M Q E := h
theorem r_kn (h : Q .non M) : (wX Γ mu (.k .non)).1 τ M Q E := h
theorem r_v {i : Nat} {x : PV} (e : τ[i]? = some (some x)) (h : Q x M) : (wX Γ mu (.v i)).1 τ M Q E := ⟨x, e, h⟩
theorem r_g {i : Nat} {x : PV} (e : Γ.gl i = some x) (h : Q x M) : (wX Γ mu (.g i)).1 τ M Q E := ⟨x, e, h⟩
theorem r_bin {op : Operator} {a c : Ex} (h : (wX Γ false a).1 τ M (fun x M1 => (wX Γ false c).1 τ M1 (fun y M2 => binR mu op x y M2 Q) E) E) : (wX Γ mu (.bin op a c)).1 τ M Q E := h
theorem r_un {op : UnaryOp} {a : Ex} (h : (wX Γ false a).1 τ M (fun x M1 => unR op x M1 Q) E) : (wX Γ mu (.un op a)).1 τ M Q E := h
theorem r_cmp {op : CmpOp} {a c : Ex} (h : (wX Γ false a).1 τ M (fun x M1 => (wX Γ false c).1 τ M1 (fun y M2 => cmpR op x y M2 Q) E) E) : (wX Γ mu (.cmp op a c)).1 τ M Q E := h
theorem r_chn {o1 o2 : CmpOp} {a b c : Ex} (h : (wX Γ false a).1 τ M (fun x M1 => (wX Γ false b).1 τ M1 (fun y M2 => cmpR o1 x y M2 fun z M3 => ∃ k, z = .bl k ∧ ((k = true → (wX Γ false c).1 τ M3 (fun w M4 => cmpR o2 y w M4 Q) E) ∧ (k = false → Q (.bl false) M3))) E) E) : (wX Γ mu (.chn o1 o2 a b c)).1 τ M Q E := h
theorem r_and {es : Exs} (h : wAndV Γ es τ M Q E) : (wX Γ mu (.and es)).1 τ M Q E := h
theorem r_or {es : Exs} (h : wOrV Γ es τ M Q E) : (wX Γ mu (.or es)).1 τ M Q E := h
theorem r_ife {t a c : Ex} (h : (wX Γ false t).2 τ M (fun k M1 => (k = true → (wX Γ false a).1 τ M1 Q E) ∧ (k = false → (wX Γ false c).1 τ M1 Q E)) E) : (wX Γ mu (.ife t a c)).1 τ M Q E := h
theorem r_tup {es : Exs} (h : wXs Γ es τ M (fun xs M1 => xs.length ≤ sizeLine ∧ Q (.tup xs) M1) E) : (wX Γ mu (.tup es)).1 τ M Q E := h
theorem r_lst {es : Exs} (h : wXs Γ es τ M (fun xs M1 => xs.length ≤ sizeLine ∧ Q (.lst xs) M1) E) : (wX Γ false (.lst es)).1 τ M Q E := h
theorem r_lstm {es : Exs} (h : wXs Γ es τ M (fun xs M1 => xs.length ≤ sizeLine ∧ ∀ a, M1 a = none → Q (.ref a) (ms M1 a (.lst xs))) E) : (wX Γ true (.lst es)).1 τ M Q E := h
theorem r_sub {a i : Ex} (h : (wX Γ false a).1 τ M (fun x M1 => (wX Γ false i).1 τ M1 (fun y M2 => ixR x y M2 Q) E) E) : (wX Γ mu (.sub a i)).1 τ M Q E := h
theorem r_sl {a : Ex} {lo hi : Exo} (h : (wX Γ false a).1 τ M (fun x M1 => wO Γ lo τ M1 (fun l M2 => wO Γ hi τ M2 (fun h M3 => slR mu x l h M3 Q) E) E) E) : (wX Γ mu (.sl a lo hi)).1 τ M Q E := h
theorem r_att {a : Ex} {f : Nat} (h : (wX Γ false a).1 τ M (fun x M1 => attR Γ x f M1 Q) E) : (wX Γ mu (.att a f)).1 τ M Q E := h
theorem r_call {n : Nat} {es : Exs} {S : BP} (e : Γ.fn n = some S) (h : wXs Γ es τ M (fun xs M1 => S xs M1 Q E) E) : (wX Γ mu (.call n es)).1 τ M Q E := ⟨S, e, h⟩
theorem r_new {n : Nat} {es : Exs} {S : BP} (e : Γ.ini n = some S) (h : wXs Γ es τ M (fun xs M1 => mkR S mu n xs M1 Q E) E) : (wX Γ mu (.new n es)).1 τ M Q E := ⟨S, e, h⟩
theorem r_exn {c : Nat} {es : Exs} {f : Nat} (e : Γ.xc c = some (some f)) (h : wXs Γ es τ M (fun xs M1 => ∃ x, xs = [x] ∧ Q (.exc c [(f, x)]) M1) E) : (wX Γ mu (.exn c es)).1 τ M Q E := ⟨f, e, h⟩
theorem r_met {o : Ex} {m : Nat} {es : Exs} (h : (wX Γ false o).1 τ M (fun x M1 => ∃ c fs S, insOf M1 x = some (c, fs) ∧ fs.lookup m = none ∧ Γ.mt c m = some S ∧ wXs Γ es τ M1 (fun xs M2 => S (x :: xs) M2 Q E) E) E) : (wX Γ mu (.met o m es)).1 τ M Q E := h
theorem r_bi {f : Bf} {es : Exs} (h : wXs Γ es τ M (fun xs M1 => biR Γ mu f xs M1 Q) E) : (wX Γ mu (.bi f es)).1 τ M Q E := h
theorem r_bm {o : Ex} {f : Bm} {es : Exs} (h : (wX Γ false o).1 τ M (fun x M1 => bmT f x M1 ∧ wXs Γ es τ M1 (fun xs M2 => bmR x f xs M2 Q) E) E) : (wX Γ mu (.bm o f es)).1 τ M Q E := h
theorem r_lc {own tg : List Nat} {e : Ex} {it : It} {ifs : Exo} (c : Γ.cold = true) (h : wI Γ it τ M (fun items g M1 => lcW Γ g tg (wF Γ ifs) (wX Γ false e).1 (own.foldr (fun i τ => τ.set i none) τ) (fun xs M2 => newL mu xs M2 Q) items [] M1) E) : (wX Γ mu (.lc own e tg it ifs)).1 τ M Q E := ⟨c, h⟩
theorem r_isi {a : Ex} {cs : List Cc} (h : (wX Γ false a).1 τ M (fun x M1 => ∃ t k, tyOf Γ M1 x = some t ∧ cs.all (knC Γ) = true ∧ isiR Γ t cs = some k ∧ Q (.bl k) M1) E) : (wX Γ mu (.isi a cs)).1 τ M Q E := h
theorem r_sset {a : Ex} (c : Γ.cold = true) (h : (wX Γ false a).1 τ M (fun x M1 => ssetR mu x M1 Q) E) : (wX Γ mu (.sset a)).1 τ M Q E := ⟨c, h⟩
theorem r_oeq {ne : Bool} {a b : Ex} (h : (wX Γ false a).1 τ M (fun x M1 => (wX Γ false b).1 τ M1 (fun y M2 => oeqR Γ ne x y M2 Q) E) E) : (wX Γ mu (.oeq ne a b)).1 τ M Q E := h
theorem q_oeq {ne : Bool} {a b : Ex} (h : (wX Γ false a).1 τ M (fun x M1 => (wX Γ false b).1 τ M1 (fun y M2 => oeqR Γ ne x y M2 (fun x M1 => ∃ k, x = .bl k ∧ Qt k M1)) E) E) : (wX Γ mu (.oeq ne a b)).2 τ M Qt E := h
theorem r_ostr {a : Ex} (h : (wX Γ false a).1 τ M (fun x M1 => ostR Γ x M1 Q) E) : (wX Γ mu (.ostr a)).1 τ M Q E := h
theorem r_lrv {a : Ex} (c : Γ.cold = true) (h : (wX Γ false a).1 τ M (fun x M1 => ∃ xs, lsOf M1 x = some xs ∧ newL mu xs.reverse M1 Q) E) : (wX Γ mu (.lrv a)).1 τ M Q E := ⟨c, h⟩
theorem r_m {e : Ex} (h : (wX Γ true e).1 τ M Q E) : (wX Γ mu (.m e)).1 τ M Q E := h
theorem r_fz {e : Ex} (h : (wX Γ true e).1 τ M (fun x M1 => freezeR x M1 Q) E) : (wX Γ mu (.fz e)).1 τ M Q E := h
theorem r_nil {Qs : List PV → MHp → Prop} (h : Qs [] M) : wXs Γ .nil τ M Qs E := h
theorem r_cons {e : Ex} {es : Exs} {Qs : List PV → MHp → Prop} (h : (wX Γ false e).1 τ M (fun x M1 => wXs Γ es τ M1 (fun xs M2 => Qs (x :: xs) M2) E) E) : wXs Γ (.cons e es) τ M Qs E := h
theorem r_ono {Qo : Option Int → MHp → Prop} (h : Qo none M) : wO Γ .no τ M Qo E := h
theorem r_oyes {e : Ex} {Qo : Option Int → MHp → Prop} (h : (wX Γ false e).1 τ M (fun x M1 => ∃ i, x = .int i ∧ Qo (some i) M1) E) : wO Γ (.yes e) τ M Qo E := h
theorem r_and1 {e : Ex} (h : (wX Γ false e).1 τ M Q E) : wAndV Γ (.cons e .nil) τ M Q E := h
theorem r_and2 {e e2 : Ex} {es : Exs} (h : (wX Γ false e).1 τ M (fun x M1 => ∃ k, x = .bl k ∧ ((k = true → wAndV Γ (.cons e2 es) τ M1 Q E) ∧ (k = false → Q (.bl false) M1))) E) : wAndV Γ (.cons e (.cons e2 es)) τ M Q E := h
theorem r_or1 {e : Ex} (h : (wX Γ false e).1 τ M Q E) : wOrV Γ (.cons e .nil) τ M Q E := h
theorem r_or2 {e e2 : Ex} {es : Exs} (h : (wX Γ false e).1 τ M (fun x M1 => ∃ k, x = .bl k ∧ ((k = true → Q (.bl true) M1) ∧ (k = false → wOrV Γ (.cons e2 es) τ M1 Q E))) E) : wOrV Γ (.cons e (.cons e2 es)) τ M Q E := h
/-! operators on known values -/
theorem o_addi {i j : Int} (h : Q (.int (i + j)) M) : binR mu .Add (.int i) (.int j) M Q := h
theorem o_adds {a b : Str} (l : a.length + b.length ≤ sizeLine) (h : Q (.str (a ++ b)) M) : binR mu .Add (.str a) (.str b) M Q := ⟨l, h⟩
theorem o_addt {a b : List PV} (l : a.length + b.length ≤ sizeLine) (h : Q (.tup (a ++ b)) M) : binR mu .Add (.tup a) (.tup b) M Q := ⟨l, h⟩
theorem o_addl {a b : List PV} (l : a.length + b.length ≤ sizeLine) (h : Q (.lst (a ++ b)) M) : binR false .Add (.lst a) (.lst b) M Q := ⟨a, b, rfl, rfl, l, h⟩
theorem o_sub {i j : Int} (h : Q (.int (i - j)) M) : binR mu .Sub (.int i) (.int j) M Q := h
theorem o_mul {i j : Int} (c : CMul i j ∨ CMulW i j) (h : Q (.int (i * j)) M) : binR mu .Mult (.int i) (.int j) M Q := ⟨c, h⟩
theorem o_mulr {i j : Int} (c1 : -(2 ^ 64) < j) (c2 : j < 2 ^ 64) (h : Q (.int (i * j)) M) : binR mu .Mult (.int i) (.int j) M Q := ⟨.inl (.inr ⟨c1, c2⟩), h⟩
theorem o_mull {i j : Int} (c1 : -(2 ^ 64) < i) (c2 : i < 2 ^ 64) (h : Q (.int (i * j)) M) : binR mu .Mult (.int i) (.int j) M Q := ⟨.inl (.inl ⟨c1, c2⟩), h⟩
theorem o_divl {i j : Int} (c1 : 0 < j) (c2 : j < 2 ^ 62) (h : Q (.int (i / j)) M) : binR mu .FloorDiv (.int i) (.int j) M Q := ⟨⟨c1, by
  have : j.natAbs < 2 ^ 62 := by omega
  have := (Nat.log2_lt (by omega)).mpr this
  omega⟩, h⟩
theorem o_pow3 {i j : Int} (c0 : 0 ≤ j) (c1 : j ≤ 1000000) (c2 : i.natAbs < 2 ^ 64) (h : Q (.int (i ^ j.toNat)) M) : binR mu .Pow (.int i) (.int j) M Q := ⟨⟨c0, c1, c2⟩, h⟩
theorem o_muls {a : Str} {k : Int} (h0 : 0 ≤ k) (h1 : k ≤ 1000) (h2 : a.length ≤ 1000) (h : Q (.str ⟨(List.replicate k.toNat a.cps.toList).flatten.toArray⟩) M) : binR mu .Mult (.str a) (.int k) M Q := ⟨h0, h1, h2, h⟩
theorem o_div {i j : Int} (c : CDivW i j) (h : Q (.int (i / j)) M) : binR mu .FloorDiv (.int i) (.int j) M Q := ⟨c, h⟩
theorem o_mod {i j : Int} (c : 0 < j) (h : Q (.int (i % j)) M) : binR mu .Mod (.int i) (.int j) M Q := ⟨c, h⟩
theorem o_pow {i j : Int} (c : CPow i j) (h : Q (.int (i ^ j.toNat)) M) : binR mu .Pow (.int i) (.int j) M Q := ⟨c, h⟩
theorem o_neg {i : Int} (h : Q (.int (-i)) M) : unR .USub (.int i) M Q := h
theorem o_eqi {i j : Int} (h : Q (.bl (decide (i = j))) M) : cmpR .Eq (.int i) (.int j) M Q := h
theorem o_eqs {i j : Str} (h : Q (.bl (decide (i = j))) M) : cmpR .Eq (.str i) (.str j) M Q := h
theorem o_eqb {i j : Bool} (h : Q (.bl (i == j)) M) : cmpR .Eq (.bl i) (.bl j) M Q := h
theorem o_nei {i j : Int} (h : Q (.bl (!decide (i = j))) M) : cmpR .NotEq (.int i) (.int j) M Q := h
theorem o_nes {i j : Str} (h : Q (.bl (!decide (i = j))) M) : cmpR .NotEq (.str i) (.str j) M Q := h
theorem o_neb {i j : Bool} (h : Q (.bl (!(i == j))) M) : cmpR .NotEq (.bl i) (.bl j) M Q := h
theorem o_lt {i j : Int} (h : Q (.bl (decide (i < j))) M) : cmpR .Lt (.int i) (.int j) M Q := h
theorem o_le {i j : Int} (h : Q (.bl (decide (i ≤ j))) M) : cmpR .LtE (.int i) (.int j) M Q := h
theorem o_gt {i j : Int} (h : Q (.bl (decide (j < i))) M) : cmpR .Gt (.int i) (.int j) M Q := h
theorem o_ge {i j : Int} (h : Q (.bl (decide (j ≤ i))) M) : cmpR .GtE (.int i) (.int j) M Q := h
theorem o_is {x : PV} (n : ∀ w, x ≠ .raw w) (h : Q (.bl (pvEq x .non)) M) : cmpR .Is x .non M Q := ⟨rfl, n, h⟩
theorem o_isn {x : PV} (n : ∀ w, x ≠ .raw w) (h : Q (.bl (!pvEq x .non)) M) : cmpR .IsNot x .non M Q := ⟨rfl, n, h⟩
theorem o_ixt {xs : List PV} {i : Int} {v : PV} (e : atI xs i = some v) (h : Q v M) : ixR (.tup xs) (.int i) M Q := ⟨xs, v, rfl, e, h⟩
theorem o_ixl {xs : List PV} {i : Int} {v : PV} (e : atI xs i = some v) (h : Q v M) : ixR (.lst xs) (.int i) M Q := ⟨xs, v, rfl, e, h⟩
theorem o_ixk {xs : List PV} {i : Int} {v : PV} (e : atI xs i = some v) (h : Q v M) : ixR (.kl xs) (.int i) M Q := ⟨xs, v, rfl, e, h⟩
theorem o_ixr {a : Nat} {xs : List PV} {i : Int} {v : PV} (m : M a = some (.lst xs)) (e : atI xs i = some v) (h : Q v M) : ixR (.ref a) (.int i) M Q := ⟨xs, v, by simp only [seqOf, lstOf, m], e, h⟩
theorem o_ixs {z : Str} {i : Int} {c : Nat} (l : z.length ≤ sizeLine) (e : atI z.cps.toList i = some c) (h : Q (.str ⟨#[c]⟩) M) : ixR (.str z) (.int i) M Q := ⟨l, c, e, h⟩
theorem b_lent {xs : List PV} (h : Q (.int (xs.length : Nat)) M) : biR Γ mu .len [.tup xs] M Q := ⟨_, _, rfl, ⟨xs, rfl, rfl⟩, h⟩
theorem b_lenl {xs : List PV} (h : Q (.int (xs.length : Nat)) M) : biR Γ mu .len [.lst xs] M Q := ⟨_, _, rfl, ⟨xs, rfl, rfl⟩, h⟩
theorem b_lenk {xs : List PV} (h : Q (.int (xs.length : Nat)) M) : biR Γ mu .len [.kl xs] M Q := ⟨_, _, rfl, ⟨xs, rfl, rfl⟩, h⟩
theorem b_lens {z : Str} (l : z.length ≤ sizeLine) (h : Q (.int (z.length : Nat)) M) : biR Γ mu .len [.str z] M Q := ⟨_, _, rfl, ⟨l, rfl⟩, h⟩
theorem b_lenr {a : Nat} {xs : List PV} (m : M a = some (.lst xs)) (h : Q (.int (xs.length : Nat)) M) : biR Γ mu .len [.ref a] M Q := ⟨_, _, rfl, ⟨xs, by simp only [seqOf, lstOf, m], rfl⟩, h⟩
theorem b_int {i : Int} (h : Q (.int i) M) : biR Γ mu .int [.int i] M Q := .inl ⟨i, rfl, h⟩
theorem b_listk {xs : List PV} (h : newL mu xs M Q) : biR Γ mu .list [.kl xs] M Q := ⟨_, _, rfl, rfl, h⟩
theorem b_listt {xs : List PV} (h : newL mu xs M Q) : biR Γ mu .list [.tup xs] M Q := ⟨_, _, rfl, rfl, h⟩
theorem b_listl {xs : List PV} (h : newL mu xs M Q) : biR Γ mu .list [.lst xs] M Q := ⟨_, _, rfl, rfl, h⟩
theorem b_listr {a : Nat} {xs : List PV} (m : M a = some (.lst xs)) (h : newL mu xs M Q) : biR Γ mu .list [.ref a] M Q := ⟨_, _, rfl, by simp only [seqOf, lstOf, m], h⟩
theorem b_tupl {xs : List PV} (h : Q (.tup xs) M) : biR Γ mu .tuple [.lst xs] M Q := ⟨_, _, rfl, rfl, h⟩
theorem b_tupt {xs : List PV} (h : Q (.tup xs) M) : biR Γ mu .tuple [.tup xs] M Q := ⟨_, _, rfl, rfl, h⟩
theorem b_tupr {a : Nat} {xs : List PV} (m : M a = some (.lst xs)) (h : Q (.tup xs) M) : biR Γ mu .tuple [.ref a] M Q := ⟨_, _, rfl, by simp only [seqOf, lstOf, m], h⟩
theorem b_abs {i : Int} (h : Q (.int (if i < 0 then -i else i)) M) : biR Γ mu .abs [.int i] M Q := ⟨i, rfl, h⟩
theorem b_max {i j : Int} (c : Γ.cold = true) (h : Q (.int (if j > i then j else i)) M) : biR Γ mu .max [.int i, .int j] M Q := ⟨c, i, j, rfl, h⟩
theorem b_min {i j : Int} (c : Γ.cold = true) (h : Q (.int (if j < i then j else i)) M) : biR Γ mu .min [.int i, .int j] M Q := ⟨c, i, j, rfl, h⟩
theorem n_t {xs : List PV} (h : ∀ a, M a = none → Q (.ref a) (ms M a (.lst xs))) : newL true xs M Q := h
theorem n_f {xs : List PV} (h : Q (.lst xs) M) : newL false xs M Q := h
theorem m_app {a : Nat} {ys : List PV} {y : PV} (m : M a = some (.lst ys)) (l : ys.length < sizeLine) (h : Q .non (ms M a (.lst (ys ++ [y])))) : bmR (.ref a) .append [y] M Q := ⟨a, ys, y, rfl, rfl, m, l, h⟩
theorem m_appT {a : Nat} {ys : List PV} {p : Prop} (m : M a = some (.lst ys)) (h : p) : bmT .append (.ref a) M ∧ p := ⟨⟨ys, by simp only [lstOf, m]⟩, h⟩
theorem at_x {c f : Nat} {fs : List (Nat × PV)} {v : PV} (e : Γ.xfl c f = true) (l : fs.lookup f = some v) (h : Q v M) : attR Γ (.exc c fs) f M Q := ⟨v, e, l, h⟩
theorem at_o {c f : Nat} {fs : List (Nat × PV)} {v : PV} (e : Γ.fld c f = true) (l : fs.lookup f = some v) (h : Q v M) : attR Γ (.obj c fs) f M Q := ⟨c, fs, v, rfl, e, l, h⟩
theorem at_r {a c f : Nat} {fs : List (Nat × PV)} {v : PV} (m : M a = some (.ins c fs)) (e : Γ.fld c f = true) (l : fs.lookup f = some v) (h : Q v M) : attR Γ (.ref a) f M Q := ⟨c, fs, v, by simp only [insOf, m], e, l, h⟩
theorem f_rl {a : Nat} {xs : List PV} (m : M a = some (.lst xs)) (h : Q (.lst xs) (md M a)) : freezeR (.ref a) M Q := .inl ⟨xs, m, h⟩
/-! tests -/
theorem e_bl {b : Bool} {p : Bool → Prop} (h : p b) : ∃ k, PV.bl b = .bl k ∧ p k := ⟨b, rfl, h⟩
theorem e_int {b : Int} {p : Int → Prop} (h : p b) : ∃ k, PV.int b = .int k ∧ p k := ⟨b, rfl, h⟩
theorem s_t {A B : Prop} (h : A) : (true = true → A) ∧ (true = false → B) := And.intro (fun _ => h) (fun e => Bool.noConfusion e)
theorem s_f {A B : Prop} (h : B) : (false = true → A) ∧ (false = false → B) := And.intro (fun e => Bool.noConfusion e) (fun _ => h)
theorem s_d {p : Prop} [Decidable p] {A B : Prop} (h1 : p → A) (h2 : ¬ p → B) : (decide p = true → A) ∧ (decide p = false → B) := ⟨fun e => h1 (of_decide_eq_true e), fun e => h2 (of_decide_eq_false e)⟩
theorem s_n {p : Prop} [Decidable p] {A B : Prop} (h1 : p → B) (h2 : ¬ p → A) : ((!decide p) = true → A) ∧ ((!decide p) = false → B) := ⟨fun e => h2 (by simpa using e), fun e => h1 (by simpa using e)⟩
theorem s_b {b : Bool} {A B : Prop} (h1 : b = true → A) (h2 : b = false → B) : (b = true → A) ∧ (b = false → B) := ⟨h1, h2⟩
theorem s_nb {b : Bool} {A B : Prop} (h1 : b = true → B) (h2 : b = false → A) : ((!b) = true → A) ∧ ((!b) = false → B) := ⟨fun e => h2 (by simpa using e), fun e => h1 (by simpa using e)⟩
theorem q_cmp {op : CmpOp} {a c : Ex} (h : (wX Γ false a).1 τ M (fun x M1 => (wX Γ false c).1 τ M1 (fun y M2 => cmpR op x y M2 (fun x M1 => ∃ k, x = .bl k ∧ Qt k M1)) E) E) : (wX Γ mu (.cmp op a c)).2 τ M Qt E := h
theorem q_chn {o1 o2 : CmpOp} {a b c : Ex} (h : (wX Γ false (.chn o1 o2 a b c)).1 τ M (fun x M1 => ∃ k, x = .bl k ∧ Qt k M1) E) : (wX Γ mu (.chn o1 o2 a b c)).2 τ M Qt E := h
theorem q_isi {a : Ex} {cs : List Cc} (h : (wX Γ false a).1 τ M (fun x M1 => ∃ t k, tyOf Γ M1 x = some t ∧ cs.all (knC Γ) = true ∧ isiR Γ t cs = some k ∧ Qt k M1) E) : (wX Γ mu (.isi a cs)).2 τ M Qt E :=
  have z : (fun x M1 => ∃ t k, tyOf Γ M1 x = some t ∧ cs.all (knC Γ) = true ∧ isiR Γ t cs = some k ∧ Qt k M1) = (fun x M1 => ∃ t k, tyOf Γ M1 x = some t ∧ cs.all (knC Γ) = true ∧ isiR Γ t cs = some k ∧ ∃ k', PV.bl k = .bl k' ∧ Qt k' M1) := by
    funext x M1
    simp
  (z ▸ h : (wX Γ false a).1 τ M (fun x M1 => ∃ t k, tyOf Γ M1 x = some t ∧ cs.all (knC Γ) = true ∧ isiR Γ t cs = some k ∧ ∃ k', PV.bl k = .bl k' ∧ Qt k' M1) E)
theorem q_and {es : Exs} (h : wAnd Γ es τ M Qt E) : (wX Γ mu (.and es)).2 τ M Qt E := h
theorem q_or {es : Exs} (h : wOr Γ es τ M Qt E) : (wX Γ mu (.or es)).2 τ M Qt E := h
theorem q_not {a : Ex} (h : (wX Γ false a).2 τ M (fun k M1 => Qt (!k) M1) E) : (wX Γ mu (.not a)).2 τ M Qt E := h
theorem q_anil (h : Qt true M) : wAnd Γ .nil τ M Qt E := h
theorem q_acons {e : Ex} {es : Exs} (h : (wX Γ false e).2 τ M (fun k M1 => (k = true → wAnd Γ es τ M1 Qt E) ∧ (k = false → Qt false M1)) E) : wAnd Γ (.cons e es) τ M Qt E := h
theorem q_onil (h : Qt false M) : wOr Γ .nil τ M Qt E := h
theorem q_ocons {e : Ex} {es : Exs} (h : (wX Γ false e).2 τ M (fun k M1 => (k = true → Qt true M1) ∧ (k = false → wOr Γ es τ M1 Qt E)) E) : wOr Γ (.cons e es) τ M Qt E := h
/-- a value's truth -/
def truQ (Qt : Bool → MHp → Prop) : BV := fun x M1 => ∃ k, truB M1 x = some k ∧ (match x with | .str z => z.length ≤ sizeLine | _ => True) ∧ Qt k M1
theorem r_not {a : Ex} (h : (wX Γ false a).1 τ M (truQ fun k M1 => Q (.bl (!k)) M1) E) : (wX Γ mu (.not a)).1 τ M Q E := h
theorem s_t2 {A B : Prop} (h : A) : ((!false) = true → A) ∧ ((!false) = false → B) := s_t h
theorem s_f2 {A B : Prop} (h : B) : ((!true) = true → A) ∧ ((!true) = false → B) := s_f h
theorem q_v {i : Nat} (h : (wX Γ mu (.v i)).1 τ M (truQ Qt) E) : (wX Γ mu (.v i)).2 τ M Qt E := h
theorem q_k {c : Ck} (h : (wX Γ mu (.k c)).1 τ M (truQ Qt) E) : (wX Γ mu (.k c)).2 τ M Qt E := h
theorem q_sub {a i : Ex} (h : (wX Γ mu (.sub a i)).1 τ M (truQ Qt) E) : (wX Γ mu (.sub a i)).2 τ M Qt E := h
theorem q_call {n : Nat} {es : Exs} (h : (wX Γ mu (.call n es)).1 τ M (truQ Qt) E) : (wX Γ mu (.call n es)).2 τ M Qt E := h
theorem q_met {o : Ex} {n : Nat} {es : Exs} (h : (wX Γ mu (.met o n es)).1 τ M (truQ Qt) E) : (wX Γ mu (.met o n es)).2 τ M Qt E := h
theorem q_att {a : Ex} {f : Nat} (h : (wX Γ mu (.att a f)).1 τ M (truQ Qt) E) : (wX Γ mu (.att a f)).2 τ M Qt E := h
theorem q_bin {op : Operator} {a c : Ex} (h : (wX Γ mu (.bin op a c)).1 τ M (truQ Qt) E) : (wX Γ mu (.bin op a c)).2 τ M Qt E := h
theorem u_bl {b : Bool} (h : Qt b M) : truQ Qt (.bl b) M := ⟨b, rfl, trivial, h⟩
theorem u_int {i : Int} (h : Qt (i != 0) M) : truQ Qt (.int i) M := ⟨_, rfl, trivial, h⟩
theorem u_non (h : Qt false M) : truQ Qt .non M := ⟨_, rfl, trivial, h⟩
theorem u_lst {xs : List PV} (h : Qt (!xs.isEmpty) M) : truQ Qt (.lst xs) M := ⟨_, rfl, trivial, h⟩
theorem u_tup {xs : List PV} (h : Qt (!xs.isEmpty) M) : truQ Qt (.tup xs) M := ⟨_, rfl, trivial, h⟩
theorem u_str {z : Str} (l : z.length ≤ sizeLine) (h : Qt (z.length != 0) M) : truQ Qt (.str z) M := ⟨_, rfl, l, h⟩
theorem u_ref {a : Nat} {xs : List PV} (m : M a = some (.lst xs)) (h : Qt (!xs.isEmpty) M) : truQ Qt (.ref a) M := ⟨!xs.isEmpty, by simp only [truB, lstOf, m]; rfl, trivial, h⟩
/-! what is walked -/
theorem wi_val {e : Ex} {R : List PV → (MHp → Prop) → MHp → Prop} (h : (wX Γ false e).1 τ M (fun x M1 => itemsR x M1 R) E) : wI Γ (.val e) τ M R E := h
theorem wi_rng {c : Ex} {R : List PV → (MHp → Prop) → MHp → Prop} (h : (wX Γ false c).1 τ M (fun y M1 => rngR (.int 0) y M1 R) E) : wI Γ (.rng .no c) τ M R E := h
theorem wi_rng2 {a c : Ex} {R : List PV → (MHp → Prop) → MHp → Prop} (h : (wX Γ false a).1 τ M (fun x M1 => (wX Γ false c).1 τ M1 (fun y M2 => rngR x y M2 R) E) E) : wI Γ (.rng (.yes a) c) τ M R E := h
theorem wi_zip {a c : Ex} {R : List PV → (MHp → Prop) → MHp → Prop} (h : (wX Γ false a).1 τ M (fun x M1 => (wX Γ false c).1 τ M1 (fun y M2 => zipR x y M2 R) E) E) : wI Γ (.zip a c) τ M R E := h
theorem wi_enu {a : Ex} {R : List PV → (MHp → Prop) → MHp → Prop} (h : (wX Γ false a).1 τ M (fun x M1 => enuR x M1 R) E) : wI Γ (.enu a) τ M R E := h
theorem wi_rvd {a : Ex} {R : List PV → (MHp → Prop) → MHp → Prop} (h : (wX Γ false a).1 τ M (fun x M1 => rvdR x M1 R) E) : wI Γ (.rvd a) τ M R E := h
theorem i_rR {i j : Int} {R : List PV → (MHp → Prop) → MHp → Prop} (b : -(2 ^ 62) ≤ i ∧ i < 2 ^ 62 ∧ -(2 ^ 62) ≤ j ∧ j < 2 ^ 62) (h : R (rngL i j) (fun _ => True) M) : rngR (.int i) (.int j) M R := ⟨b, h⟩
theorem i_tR {xs : List PV} {R : List PV → (MHp → Prop) → MHp → Prop} (h : R xs (fun _ => True) M) : itemsR (.tup xs) M R := h
theorem i_lR {xs : List PV} {R : List PV → (MHp → Prop) → MHp → Prop} (h : R xs (fun _ => True) M) : itemsR (.lst xs) M R := h
theorem i_kR {xs : List PV} {R : List PV → (MHp → Prop) → MHp → Prop} (h : R xs (fun _ => True) M) : itemsR (.kl xs) M R := h
theorem i_sR {z : Str} {R : List PV → (MHp → Prop) → MHp → Prop} (h : R (z.cps.toList.map fun c => .str ⟨#[c]⟩) (fun _ => True) M) : itemsR (.str z) M R := h
/-! statements -/
/-- the ends, with what follows; a loop's turn -/
def _root_.Nb.BD.nxt (D : BD) (k : Sl → MHp → Prop) : BD := { D with nx := k }
def _root_.Nb.BD.lp (D : BD) (k : Sl → MHp → Prop) : BD := { D with nx := k, ct := k, bk := D.nx }
def _root_.Nb.BD.xc (D : BD) (k : Sl → MHp → Prop) (e : Nat → List (Nat × PV) → Sl → MHp → Prop) : BD := { D with nx := k, ex := e }
theorem t_nil (h : D.nx τ M) : wSs Γ .nil D τ M := by
  rw [wSs.eq_1]; exact h
theorem t_cons {s : Sm} (h : wS Γ s { D with nx := fun τ1 M1 => wSs Γ r D τ1 M1 } τ M) : wSs Γ (.cons s r) D τ M := by
  rw [wSs.eq_2]; exact h
theorem t_exp {e : Ex} (h : (wX Γ false e).1 τ M (fun _ M1 => wSs Γ r D τ M1) fun c fs M1 => D.ex c fs τ M1) : wSs Γ (.cons (.exp e) r) D τ M := t_cons (by simp only [wS]; exact h)
theorem t_asg {i : Nat} {e : Ex} (h : (wX Γ false e).1 τ M (fun x M1 => wSs Γ r D (τ.set i (some x)) M1) fun c fs M1 => D.ex c fs τ M1) : wSs Γ (.cons (.asg i e) r) D τ M := t_cons (by simp only [wS]; exact h)
theorem t_asgT {is : List Nat} {e : Ex} (h : (wX Γ false e).1 τ M (fun x M1 => asgT Γ is x τ fun τ1 => wSs Γ r D τ1 M1) fun c fs M1 => D.ex c fs τ M1) : wSs Γ (.cons (.asgT is e) r) D τ M := t_cons (by rw [wS]; exact h)
theorem t_asgS {o i e : Ex} (h : (wX Γ false e).1 τ M (fun y M1 => (wX Γ false o).1 τ M1 (fun x M2 => (wX Γ false i).1 τ M2 (fun z M3 => ∃ a xs k j, x = .ref a ∧ M3 a = some (.lst xs) ∧ z = .int k ∧ ixN xs.length k = some j ∧ wSs Γ r D τ (ms M3 a (.lst (xs.set j y))))
      fun c fs M1 => D.ex c fs τ M1) fun c fs M1 => D.ex c fs τ M1) fun c fs M1 => D.ex c fs τ M1) : wSs Γ (.cons (.asgS o i e) r) D τ M := t_cons (by simp only [wS]; exact h)
theorem e_set {a : Nat} {xs : List PV} {k : Int} {j : Nat} {p : Nat → List PV → Nat → Prop} (m : M a = some (.lst xs)) (e : ixN xs.length k = some j) (h : p a xs j) : ∃ a' xs' k' j', PV.ref a = .ref a' ∧ M a' = some (.lst xs') ∧ PV.int k = .int k' ∧ ixN xs'.length k' = some j' ∧ p a' xs' j' := ⟨a, xs, k, j, rfl, m, rfl, e, h⟩
theorem t_aug {i : Nat} {e : Ex} {a : Int} (v : τ[i]? = some (some (.int a))) (h : (wX Γ false e).1 τ M (fun y M1 => ∃ b, y = .int b ∧ wSs Γ r D (τ.set i (some (.int (a + b)))) M1) fun c fs M1 => D.ex c fs τ M1) : wSs Γ (.cons (.aug i .Add e) r) D τ M := t_cons (by
  rw [wS]
  refine ⟨_, v, ?_⟩
  have z : (fun (y : PV) (M1 : MHp) => ∃ b, y = .int b ∧ wSs Γ r D (τ.set i (some (.int (a + b)))) M1) = (fun y M1 => ∃ a_1 b, Operator.Add = Operator.Add ∧ PV.int a = PV.int a_1 ∧ y = PV.int b ∧ wSs Γ r D (τ.set i (some (.int (a_1 + b)))) M1) := by
    funext y M1
    simp
  exact Eq.mp (congrArg (fun q => (wX Γ false e).1 τ M q fun c fs M1 => D.ex c fs τ M1) z) h)
theorem t_ret {e : Ex} (h : (wX Γ false e).1 τ M (fun x M1 => D.rt x M1) fun c fs M1 => D.ex c fs τ M1) : wSs Γ (.cons (.ret e) r) D τ M := t_cons (by simp only [wS]; exact h)
theorem t_retN (h : D.rt .non M) : wSs Γ (.cons .retN r) D τ M := t_cons (by simp only [wS]; exact h)
theorem t_if {t : Ex} {a b : Sms} (h : (wX Γ false t).2 τ M (fun k M1 => (k = true → wSs Γ a (D.nxt fun τ1 M1 => wSs Γ r D τ1 M1) τ M1) ∧ (k = false → wSs Γ b (D.nxt fun τ1 M1 => wSs Γ r D τ1 M1) τ M1)) fun c fs M1 => D.ex c fs τ M1) : wSs Γ (.cons (.ifs t a b) r) D τ M := t_cons (by simp only [wS]; exact h)
theorem t_for {tg : List Nat} {it : It} {b : Sms} (c : Γ.cold = true) (h : wI Γ it τ M (fun items g M1 => forW Γ g tg (wSs Γ b) (D.nxt fun τ1 M1 => wSs Γ r D τ1 M1) items τ M1) fun c fs M1 => D.ex c fs τ M1) : wSs Γ (.cons (.fore tg it b) r) D τ M := t_cons (by rw [wS]; exact ⟨c, h⟩)
theorem t_nilN {k : Sl → MHp → Prop} (h : k τ M) : wSs Γ .nil (D.nxt k) τ M := t_nil h
theorem t_nilL {k : Sl → MHp → Prop} (h : k τ M) : wSs Γ .nil (D.lp k) τ M := t_nil h
theorem t_nilX {k : Sl → MHp → Prop} {e} (h : k τ M) : wSs Γ .nil (D.xc k e) τ M := t_nil h
theorem t_cntL {k : Sl → MHp → Prop} (h : k τ M) : wSs Γ (.cons .cnt r) (D.lp k) τ M := t_cons (by simp only [wS]; exact h)
theorem t_brk (h : D.bk τ M) : wSs Γ (.cons .brk r) D τ M := t_cons (by simp only [wS]; exact h)
theorem t_cnt (h : D.ct τ M) : wSs Γ (.cons .cnt r) D τ M := t_cons (by simp only [wS]; exact h)
theorem t_pass (h : wSs Γ r D τ M) : wSs Γ (.cons .pass r) D τ M := t_cons (by simp only [wS]; exact h)
theorem t_rais {c : Nat} {es : Exs} {f : Nat} (k : Γ.cold = true) (e : Γ.xc c = some (some f)) (h : wXs Γ es τ M (fun xs M1 => ∃ x, xs = [x] ∧ D.ex c [(f, x)] τ M1) fun c fs M1 => D.ex c fs τ M1) : wSs Γ (.cons (.rais c es) r) D τ M := t_cons (by rw [wS]; exact ⟨k, _, e, h⟩)
theorem t_rais0 {c : Nat} {es : Exs} (k : Γ.cold = true) (e : Γ.xc c = some none) (h : wXs Γ es τ M (fun xs M1 => xs = [] ∧ D.ex c [] τ M1) fun c fs M1 => D.ex c fs τ M1) : wSs Γ (.cons (.rais c es) r) D τ M := t_cons (by rw [wS]; exact ⟨k, _, e, h⟩)
theorem t_try {b : Sms} {hs : Hds} (k : Γ.cold = true) (e : knH Γ hs = true) (h : wSs Γ b (D.xc (fun τ1 M1 => wSs Γ r D τ1 M1) fun c fs τ1 M1 => wHs Γ hs (D.nxt fun τ1 M1 => wSs Γ r D τ1 M1) c fs τ1 M1) τ M) : wSs Γ (.cons (.tri b hs) r) D τ M := t_cons (by rw [wS]; exact ⟨k, e, h⟩)
/-- one at a time: an if whose two ways go on alike is cut -/
theorem t_mid {s : Sm} (P : Sl → MHp → Prop) (h1 : ∀ N : Sl → MHp → Prop, (∀ τ1 M1, P τ1 M1 → N τ1 M1) → wS Γ s (D.nxt N) τ M) (h2 : ∀ τ1 M1, P τ1 M1 → wSs Γ r D τ1 M1) : wSs Γ (.cons s r) D τ M := t_cons (h1 _ h2)
theorem t_one {s : Sm} (h : wSs Γ (.cons s .nil) D τ M) : wS Γ s D τ M := by
  have z : wSs Γ (.cons s .nil) D τ M = wS Γ s D τ M := by
    rw [wSs.eq_2]
    simp only [wSs]
  exact z ▸ h
end
end Nb

/-! Nb22 -/
set_option Elab.async false
set_option linter.all false
set_option maxRecDepth 100000
set_option maxHeartbeats 4000000
/-! Nb22: isinstance, comprehensions that map or choose, backwards. -/
namespace Nb
open PySem PySem.Spec L2
open PyProof.Rows hiding St
theorem tb_NoneType_bool : tyB "NoneType" "bool" = some false := by decide
theorem tb_NoneType_int : tyB "NoneType" "int" = some false := by decide
theorem tb_NoneType_str : tyB "NoneType" "str" = some false := by decide
theorem tb_NoneType_tuple : tyB "NoneType" "tuple" = some false := by decide
theorem tb_NoneType_list : tyB "NoneType" "list" = some false := by decide
theorem tb_bool_bool : tyB "bool" "bool" = some true := by decide
theorem tb_bool_int : tyB "bool" "int" = some true := by decide
theorem tb_bool_str : tyB "bool" "str" = some false := by decide
theorem tb_bool_tuple : tyB "bool" "tuple" = some false := by decide
theorem tb_bool_list : tyB "bool" "list" = some false := by decide
theorem tb_int_bool : tyB "int" "bool" = some false := by decide
theorem tb_int_int : tyB "int" "int" = some true := by decide
theorem tb_int_str : tyB "int" "str" = some false := by decide
theorem tb_int_tuple : tyB "int" "tuple" = some false := by decide
theorem tb_int_list : tyB "int" "list" = some false := by decide
theorem tb_str_bool : tyB "str" "bool" = some false := by decide
theorem tb_str_int : tyB "str" "int" = some false := by decide
theorem tb_str_str : tyB "str" "str" = some true := by decide
theorem tb_str_tuple : tyB "str" "tuple" = some false := by decide
theorem tb_str_list : tyB "str" "list" = some false := by decide
theorem tb_tuple_bool : tyB "tuple" "bool" = some false := by decide
theorem tb_tuple_int : tyB "tuple" "int" = some false := by decide
theorem tb_tuple_str : tyB "tuple" "str" = some false := by decide
theorem tb_tuple_tuple : tyB "tuple" "tuple" = some true := by decide
theorem tb_tuple_list : tyB "tuple" "list" = some false := by decide
theorem tb_list_bool : tyB "list" "bool" = some false := by decide
theorem tb_list_int : tyB "list" "int" = some false := by decide
theorem tb_list_str : tyB "list" "str" = some false := by decide
theorem tb_list_tuple : tyB "list" "tuple" = some false := by decide
theorem tb_list_list : tyB "list" "list" = some true := by decide
section
variable {Γ : Gm} {mu : Bool} {τ : Sl} {M : MHp} {Q : BV} {Qt : Bool → MHp → Prop} {E : BX} {D : BD} {r : Sms}
theorem isi_b {x : PV} {a b : String} {k : Bool} {q : Bool → Prop} (t : tyOf Γ M x = some (.inl a)) (h : tyB a b = some k) (z : q k) : ∃ t k, tyOf Γ M x = some t ∧ [Cc.ty b].all (knC Γ) = true ∧ isiR Γ t [Cc.ty b] = some k ∧ q k :=
  ⟨_, k, t, rfl, by simp only [isiR, isi1, h]; cases k <;> rfl, z⟩
theorem isi_o {c d : Nat} {fs : List (Nat × PV)} {k : Bool} {q : Bool → Prop} (kd : Γ.kd c = true) (dd : (Γ.isa d d).isSome = true) (h : Γ.isa c d = some k) (z : q k) : ∃ t k, tyOf Γ M (.exc c fs) = some t ∧ [Cc.own d].all (knC Γ) = true ∧ isiR Γ t [Cc.own d] = some k ∧ q k :=
  ⟨.inr c, k, by simp only [tyOf, ofK, kd, if_true], by simp only [List.all_cons, knC, dd, List.all_nil, Bool.and_true], by simp only [isiR, isi1, h]; cases k <;> rfl, z⟩
theorem isi_ob {c d : Nat} {fs : List (Nat × PV)} {k : Bool} {q : Bool → Prop} (kd : Γ.kd c = false) (dd : (Γ.isa d d).isSome = true) (h : Γ.isa c d = some k) (z : q k) : ∃ t k, tyOf Γ M (.obj c fs) = some t ∧ [Cc.own d].all (knC Γ) = true ∧ isiR Γ t [Cc.own d] = some k ∧ q k :=
  ⟨.inr c, k, by simp only [tyOf, ofK, kd, if_true], by simp only [List.all_cons, knC, dd, List.all_nil, Bool.and_true], by simp only [isiR, isi1, h]; cases k <;> rfl, z⟩
theorem isi_x {c : Nat} {b : String} {fs : List (Nat × PV)} {k : Bool} {q : Bool → Prop} (kd : Γ.kd c = true) (h : Γ.isb c b = some k) (z : q k) : ∃ t k, tyOf Γ M (.exc c fs) = some t ∧ [Cc.ty b].all (knC Γ) = true ∧ isiR Γ t [Cc.ty b] = some k ∧ q k :=
  ⟨.inr c, k, by simp only [tyOf, ofK, kd, if_true], rfl, by simp only [isiR, isi1, h]; cases k <;> rfl, z⟩
theorem is_n  (h : Q (.bl true) M) : cmpR .Is PV.non .non M Q := o_is (fun w e => by cases e) (by exact h)
theorem isn_n  (h : Q (.bl false) M) : cmpR .IsNot PV.non .non M Q := o_isn (fun w e => by cases e) (by exact h)
theorem is_b {b : Bool} (h : Q (.bl false) M) : cmpR .Is (.bl b) .non M Q := o_is (fun w e => by cases e) (by exact h)
theorem isn_b {b : Bool} (h : Q (.bl true) M) : cmpR .IsNot (.bl b) .non M Q := o_isn (fun w e => by cases e) (by exact h)
theorem is_i {b : Int} (h : Q (.bl false) M) : cmpR .Is (.int b) .non M Q := o_is (fun w e => by cases e) (by exact h)
theorem isn_i {b : Int} (h : Q (.bl true) M) : cmpR .IsNot (.int b) .non M Q := o_isn (fun w e => by cases e) (by exact h)
theorem is_s {b : Str} (h : Q (.bl false) M) : cmpR .Is (.str b) .non M Q := o_is (fun w e => by cases e) (by exact h)
theorem isn_s {b : Str} (h : Q (.bl true) M) : cmpR .IsNot (.str b) .non M Q := o_isn (fun w e => by cases e) (by exact h)
theorem is_t {b : List PV} (h : Q (.bl false) M) : cmpR .Is (.tup b) .non M Q := o_is (fun w e => by cases e) (by exact h)
theorem isn_t {b : List PV} (h : Q (.bl true) M) : cmpR .IsNot (.tup b) .non M Q := o_isn (fun w e => by cases e) (by exact h)
theorem is_l {b : List PV} (h : Q (.bl false) M) : cmpR .Is (.lst b) .non M Q := o_is (fun w e => by cases e) (by exact h)
theorem isn_l {b : List PV} (h : Q (.bl true) M) : cmpR .IsNot (.lst b) .non M Q := o_isn (fun w e => by cases e) (by exact h)
theorem is_o {c : Nat} {b : List (Nat × PV)} (h : Q (.bl false) M) : cmpR .Is (.obj c b) .non M Q := o_is (fun w e => by cases e) (by exact h)
theorem isn_o {c : Nat} {b : List (Nat × PV)} (h : Q (.bl true) M) : cmpR .IsNot (.obj c b) .non M Q := o_isn (fun w e => by cases e) (by exact h)
theorem is_x {c : Nat} {b : List (Nat × PV)} (h : Q (.bl false) M) : cmpR .Is (.exc c b) .non M Q := o_is (fun w e => by cases e) (by exact h)
theorem isn_x {c : Nat} {b : List (Nat × PV)} (h : Q (.bl true) M) : cmpR .IsNot (.exc c b) .non M Q := o_isn (fun w e => by cases e) (by exact h)
theorem is_r {b : Addr} (h : Q (.bl false) M) : cmpR .Is (.ref b) .non M Q := o_is (fun w e => by cases e) (by exact h)
theorem isn_r {b : Addr} (h : Q (.bl true) M) : cmpR .IsNot (.ref b) .non M Q := o_isn (fun w e => by cases e) (by exact h)
theorem is_k {b : List PV} (h : Q (.bl false) M) : cmpR .Is (.kl b) .non M Q := o_is (fun w e => by cases e) (by exact h)
theorem isn_k {b : List PV} (h : Q (.bl true) M) : cmpR .IsNot (.kl b) .non M Q := o_isn (fun w e => by cases e) (by exact h)
theorem e_one {v : PV} {p : PV → Prop} (h : p v) : ∃ x, [v] = [x] ∧ p x := ⟨v, rfl, h⟩
theorem c_len {xs : List PV} {p : Prop} (l : xs.length ≤ sizeLine) (h : p) : xs.length ≤ sizeLine ∧ p := ⟨l, h⟩
theorem lcW_go {g : MHp → Prop} {i : Nat} {bt : BT} {be : BE} {Q : List PV → MHp → Prop} (p : PV → Bool) (f : PV → PV) (hg : g M) : ∀ (items acc : List PV), (acc.length + items.length ≤ sizeLine) →
    (∀ y ∈ items, ∀ Qt : Bool → MHp → Prop, Qt (p y) M → bt (τ.set i (some y)) M Qt E0X) →
    (∀ y ∈ items, p y = true → ∀ N : PV → MHp → Prop, N (f y) M → be (τ.set i (some y)) M N E0X) → Q (acc ++ (items.filter p).map f) M → lcW Γ g [i] bt be τ Q items acc M
  | [], acc, hl, ht, hb, h => ⟨hg, by simpa using h⟩
  | y :: ys, acc, hl, ht, hb, h => by
    refine ⟨hg, ht y (by simp) _ ⟨fun e => hb y (by simp) e _ ⟨?_, ?_⟩, fun e => ?_⟩⟩
    · simp only [List.length_cons] at hl; omega
    · refine lcW_go p f hg ys (acc ++ [f y]) (by simp only [List.length_append, List.length_cons, List.length_nil] at hl ⊢; omega) (fun z hz => ht z (by simp [hz])) (fun z hz => hb z (by simp [hz])) ?_
      rw [List.filter_cons_of_pos e] at h
      simpa using h
    · refine lcW_go p f hg ys acc (by simp only [List.length_cons] at hl; omega) (fun z hz => ht z (by simp [hz])) (fun z hz => hb z (by simp [hz])) ?_
      rw [List.filter_cons_of_neg (by simp [e])] at h
      exact h
/-- a comprehension that maps -/
theorem lcW_map {g : MHp → Prop} {i : Nat} {be : BE} {Q : List PV → MHp → Prop} {items : List PV} (f : PV → PV) (hg : g M) (hl : items.length ≤ sizeLine)
    (hb : ∀ y ∈ items, ∀ N : PV → MHp → Prop, N (f y) M → be (τ.set i (some y)) M N E0X) (h : Q (items.map f) M) : lcW Γ g [i] (wF Γ .no) be τ Q items [] M :=
  lcW_go (fun _ => true) f hg items [] (by simpa using hl) (fun y _ Qt h => h) (fun y hy _ => hb y hy) (by
    have e : items.filter (fun _ => true) = items := List.filter_eq_self.mpr fun _ _ => rfl
    rw [List.nil_append, e]; exact h)
/-- a comprehension that maps and chooses -/
theorem lcW_fil {g : MHp → Prop} {i : Nat} {bt : BT} {be : BE} {Q : List PV → MHp → Prop} {items : List PV} (p : PV → Bool) (f : PV → PV) (hg : g M) (hl : items.length ≤ sizeLine)
    (ht : ∀ y ∈ items, ∀ Qt : Bool → MHp → Prop, Qt (p y) M → bt (τ.set i (some y)) M Qt E0X)
    (hb : ∀ y ∈ items, p y = true → ∀ N : PV → MHp → Prop, N (f y) M → be (τ.set i (some y)) M N E0X) (h : Q ((items.filter p).map f) M) : lcW Γ g [i] bt be τ Q items [] M :=
  lcW_go p f hg items [] (by simpa using hl) ht hb (by simpa using h)
/-- a for loop whose turns leave the heap as it is, and whose locals keep a form -/
theorem forW_kp {g : MHp → Prop} {i : Nat} {body : BS} (I : Sl → Prop) (hg : g M) : ∀ (items : List PV), I τ → (∀ y ∈ items, ∀ τ, I τ → ∀ N : Sl → MHp → Prop, (∀ τ', I τ' → N τ' M) → body (D.lp N) (τ.set i (some y)) M) → (∀ τ, I τ → D.nx τ M) → forW Γ g [i] body D items τ M := fun items h hs hn =>
  forW_inv (fun r τ M1 => I τ ∧ M1 = M ∧ ∀ y ∈ r, y ∈ items) (fun r τ M1 q => q.2.1 ▸ hg) (fun τ M1 q => q.2.1 ▸ hn τ q.1) (fun y r τ M1 N q hN => by
    obtain ⟨q1, rfl, q3⟩ := q
    exact hs y (q3 y (by simp)) τ q1 N fun τ' h' => hN τ' _ ⟨h', rfl, fun z hz => q3 z (by simp [hz])⟩) items τ M ⟨h, rfl, fun y hy => hy⟩
end
end Nb

/-! Nb23 -/
set_option Elab.async false
set_option linter.all false
set_option maxRecDepth 100000
set_option maxHeartbeats 4000000
/-! Nb23: counted loops. -/
namespace Nb
open PySem PySem.Spec L2
open PyProof.Rows hiding St
section
variable {Γ : Gm} {τ : Sl} {M : MHp} {D : BD} {i : Nat} {body : BS}
theorem d_nx {k : Sl → MHp → Prop} (h : k τ M) : (D.nxt k).nx τ M := h
theorem d_nl {k : Sl → MHp → Prop} (h : k τ M) : (D.lp k).nx τ M := h
theorem d_rn {k : Sl → MHp → Prop} {x : PV} (h : D.rt x M) : (D.nxt k).rt x M := h
theorem d_rl {k : Sl → MHp → Prop} {x : PV} (h : D.rt x M) : (D.lp k).rt x M := h
theorem d_rx {k : Sl → MHp → Prop} {e} {x : PV} (h : D.rt x M) : (D.xc k e).rt x M := h
theorem d_re {Q : BV} {E : BX} {x : PV} (h : Q x M) : (endsP Q E).rt x M := h
theorem d_ne {Q : BV} {E : BX} (h : Q .non M) : (endsP Q E).nx τ M := h
theorem rngL_nat (n : Nat) : rngL 0 (n : Int) = (List.range n).map fun (i : Nat) => PV.int (i : Int) := by
  unfold rngL
  have e : ((n : Int) - 0).toNat = n := by omega
  rw [e]
  simp only [Int.zero_add]
theorem forW_rng {n : Nat} (I : Nat → Sl → MHp → Prop) (h0 : I 0 τ M) (step : ∀ j, j < n → ∀ τ M, I j τ M → ∀ N : Sl → MHp → Prop, (∀ τ' M', I (j + 1) τ' M' → N τ' M') → body (D.lp N) (τ.set i (some (.int (j : Int)))) M)
    (fin : ∀ τ M, I n τ M → D.nx τ M) : forW Γ (fun _ => True) [i] body D (rngL 0 (n : Int)) τ M := by
  refine forW_inv (fun r τ M => ∃ j, j ≤ n ∧ r = (List.range' j (n - j)).map (fun (i : Nat) => PV.int (i : Int)) ∧ I j τ M) (fun _ _ _ _ => trivial) ?_ ?_ _ _ _ ⟨0, Nat.zero_le n, ?_, h0⟩
  · rintro τ M ⟨j, hj, e, h⟩
    have : n - j = 0 := by
      have := congrArg List.length e
      simpa using this.symm
    have e2 : j = n := by omega
    subst e2
    exact fin τ M h
  · rintro y r τ M N ⟨j, hj, e, h⟩ hN
    have lt : j < n := by
      have := congrArg List.length e
      simp only [List.length_cons, List.length_map, List.length_range'] at this
      omega
    have e3 : n - j = (n - (j + 1)) + 1 := by omega
    rw [e3, List.range'_succ, List.map_cons] at e
    simp only [List.cons.injEq] at e
    obtain ⟨rfl, e5⟩ := e
    exact step j lt τ M h N fun τ' M' h' => hN τ' M' ⟨j + 1, lt, e5, h'⟩
  · rw [rngL_nat, List.range_eq_range', Nat.sub_zero]
end
end Nb

/-! Nb24 -/
set_option Elab.async false
set_option linter.all false
set_option maxRecDepth 100000
set_option maxHeartbeats 4000000
/-! Nb24: the environment of a law, def by def; the law's end. -/
namespace Nb
open PySem PySem.Spec L2 L2H NbX He
open PyProof.Rows hiding St

/-- the own errors' texts, one beside the other -/
inductive XAll (D : Dt) : List (Nat × Option Nat) → List IniD → Prop
  | nil {ds : List IniD} : XAll D [] ds
  | cons {c : Nat} {fo : Option Nat} {d : IniD} {ps : List Str} {xs : List (Nat × Option Nat)} {ds : List IniD} : d.at_ = D.nm c → XSt d.st ps (fo.map D.nm) → XAll D xs ds → XAll D ((c, fo) :: xs) (d :: ds)
theorem XAll.get {D : Dt} : ∀ {xs : List (Nat × Option Nat)} {ds : List IniD} {c : Nat} {fo : Option Nat}, XAll D xs ds → (c, fo) ∈ xs → ∃ (i : Nat) (d : IniD) (ps : List Str), ds[i]? = some d ∧ d.at_ = D.nm c ∧ XSt d.st ps (fo.map D.nm)
  | _, _, _, _, .cons e S t, h => by
    rcases List.mem_cons.mp h with h | h
    · cases h
      exact ⟨0, _, _, rfl, e, S⟩
    · obtain ⟨i, d, ps, h1, h2, h3⟩ := t.get h
      exact ⟨i + 1, d, ps, h1, h2, h3⟩
section
variable {D : Dt} {fa : List Nf} {fn : List DefD} {ini : List IniD} {P : Program} {w : World} {K : PySem.W.Frag} {mg : Str → Option Value} {base h : Heap} {j k : Nat} {Γ : Gm}
/-- the environment without defs, the errors raised -/
theorem gm_start (KX : K.In h) (Gn : h.Ns mainGlobals mg) (c : SaysN fa fn ini K) (hfa : ∀ f ∈ D.fa, f ∈ fa) (ok : D.okB = true) (XA : XAll D D.xc ini) (hf : D.file = P.main.file) (ns : (P.main.scope.names.lookup ("super" : Str)).isSome = false) (k : Nat) : GmOk P w K mg base (D.G K) D.Γ k := by
  have cf : ∀ f ∈ D.fa, f.ok K = true := fun f m => c.fact (hfa f m)
  refine gm_base KX Gn cf ok fun cc fo q => ?_
  have hm := mem_of_lookup q
  obtain ⟨o1, ok⟩ := and2 ok
  obtain ⟨o2, ok⟩ := and2 ok
  obtain ⟨o3, ok⟩ := and2 ok
  obtain ⟨o4, ok⟩ := and2 ok
  obtain ⟨o5, ok⟩ := and2 ok
  obtain ⟨o6, o7⟩ := and2 ok
  obtain ⟨z1, z2⟩ := and2 (List.all_eq_true.mp (and2 o7).1 _ hm)
  have z : D.cls.lookup cc = some true := by simpa using z1
  have zd : (D.nm cc == ("__debug__" : Str)) = false := by simpa using z2
  have hc : (cc, true) ∈ D.cls := mem_of_lookup z
  have m0 : ∀ f, f ∈ [Nf.glo (D.nm cc), .exc (D.nm cc)] → f ∈ D.fa := fun f hf => fa_of 0 rfl (List.mem_flatMap.mpr ⟨(cc, true), hc, hf⟩)
  have m8 : ∀ f, f ∈ (Nf.ini (D.nm cc) D.file :: (match fo with | some f => [.noat (D.nm cc) (D.nm f)] | none => [])) → f ∈ D.fa := fun f hf => fa_of 8 rfl (List.mem_flatMap.mpr ⟨(cc, fo), hm, hf⟩)
  have iso : (D.cls.lookup cc).isSome = true := by rw [z]; rfl
  obtain ⟨i, d, ps, hi, he, S⟩ := XA.get hm
  have T : XTxt P K mg (ga K (D.nm cc)) (ma K (ga K (D.nm cc)) "__init__") d.st (fo.map D.nm) := by
    refine xtxt_ok (cf _ (m0 _ (by simp))) (by rw [← hf]; exact cf _ (m8 _ (by simp))) (cf _ (fa_of 11 rfl (by simp))) (c.ini_ i hi) he (fun f q => ?_) (free_ok KX Gn (x := "super") (cf (.free "super") (fa_of 11 rfl (by simp)))) ns
    cases fo with
    | none => cases q
    | some f' =>
      cases q
      exact cf _ (m8 _ (by simp))
  exact raisesC T S (D.cl_of K iso) (glo_ok KX Gn (x := D.nm cc) (cf (.glo (D.nm cc)) (m0 _ (by simp)))) zd
/-- one def more -/
theorem gm_def {x : Str} {st : Stmt} {N ps : List Str} {s : Sms} {n : Nat} {S : BP} (g : GmOk P w K mg base (D.G K) Γ k) (hcd : Γ.cold = true) (KX : K.In h) (Gn : h.Ns mainGlobals mg) (c : SaysN fa fn ini K) (i : Nat) (hi : fn[i]? = some ⟨(x, none), x, x, defArgs st, defBody st, defScope st, [], []⟩) (hg : Nf.glo x ∈ fa) (hn : D.nm n = x)
    (Sc : FnScope N ps (defScope st)) (bd : ∀ (kV doc pm : Value) (an : Option Addr) (cdv ct : Value) (us : List Value), us.length = ps.length → bindArgs (PySem.W.fnOf x x (defArgs st) (defBody st) (defScope st) .none kV doc pm an cdv ct) ⟨us, []⟩ = pure (ps.zip us))
    (ag : agSs D.nm N (defScope st) s (defBody st) = true) (hw : ∀ xs M Q E, S xs M Q E → bodyP Γ s N ps.length xs M Q E) : GmOk P w K mg base (D.G K) (Γ.add n S) (k + 1) := by
  obtain ⟨fd, F⟩ := c.def_ i hi
  have Fn : Fun K x x st (ga K x) fd := fun_of F
  have e : mg (D.nm n) = some (.ref (ga K x)) := by rw [hn]; exact glo_ok KX Gn (x := x) (c.fact (f := .glo x) hg)
  exact (g.mono (Nat.le_succ k)).add e Fn.kp (Fn.binds bd) (FnOk.of (fn_sound Fn Sc g hcd rfl ag) hw)
/-- one that calls itself -/
theorem gm_rec {x : Str} {st : Stmt} {N ps : List Str} {s : Sms} {n : Nat} {S : Nat → BP} (g : GmOk P w K mg base (D.G K) Γ k) (hcd : Γ.cold = true) (KX : K.In h) (Gn : h.Ns mainGlobals mg) (c : SaysN fa fn ini K) (i : Nat) (hi : fn[i]? = some ⟨(x, none), x, x, defArgs st, defBody st, defScope st, [], []⟩) (hg : Nf.glo x ∈ fa) (hn : D.nm n = x)
    (Sc : FnScope N ps (defScope st)) (bd : ∀ (kV doc pm : Value) (an : Option Addr) (cdv ct : Value) (us : List Value), us.length = ps.length → bindArgs (PySem.W.fnOf x x (defArgs st) (defBody st) (defScope st) .none kV doc pm an cdv ct) ⟨us, []⟩ = pure (ps.zip us))
    (ag : agSs D.nm N (defScope st) s (defBody st) = true) (h0 : ∀ xs M Q E, S 0 xs M Q E → False) (hs : ∀ d xs M Q E, S (d + 1) xs M Q E → bodyP (Γ.add n (S d)) s N ps.length xs M Q E) (d : Nat) : GmOk P w K mg base (D.G K) (Γ.add n (S d)) (k + d) := by
  obtain ⟨fd, F⟩ := c.def_ i hi
  have Fn : Fun K x x st (ga K x) fd := fun_of F
  have e : mg (D.nm n) = some (.ref (ga K x)) := by rw [hn]; exact glo_ok KX Gn (x := x) (c.fact (f := .glo x) hg)
  exact rec_ok g hcd rfl Fn Sc e (Fn.binds bd) ag h0 hs d
/-- one called where an error is at hand -/
theorem gm_defH {x : Str} {st : Stmt} {N ps : List Str} {s : Sms} {n : Nat} {S : BP} (g : GmOk P w K mg base (D.G K) Γ k) (KX : K.In h) (Gn : h.Ns mainGlobals mg) (c : SaysN fa fn ini K) (i : Nat) (hi : fn[i]? = some ⟨(x, none), x, x, defArgs st, defBody st, defScope st, [], []⟩) (hg : Nf.glo x ∈ fa) (hn : D.nm n = x)
    (Sc : FnScope N ps (defScope st)) (bd : ∀ (kV doc pm : Value) (an : Option Addr) (cdv ct : Value) (us : List Value), us.length = ps.length → bindArgs (PySem.W.fnOf x x (defArgs st) (defBody st) (defScope st) .none kV doc pm an cdv ct) ⟨us, []⟩ = pure (ps.zip us))
    (ag : agSs D.nm N (defScope st) s (defBody st) = true) (hw : ∀ xs M Q E, S xs M Q E → bodyP Γ.hot s N ps.length xs M Q E) : GmOk P w K mg base (D.G K) (Γ.addH n S) (k + 1) := by
  obtain ⟨fd, F⟩ := c.def_ i hi
  have Fn : Fun K x x st (ga K x) fd := fun_of F
  have e : mg (D.nm n) = some (.ref (ga K x)) := by rw [hn]; exact glo_ok KX Gn (x := x) (c.fact (f := .glo x) hg)
  refine (g.mono (Nat.le_succ k)).addH e Fn.kp (Fn.binds bd) fun p C d hz hv => ?_
  have F2 := fn_soundH (k := k) Fn Sc g ag p C d hz hv
  exact ⟨fun vs H Q E q => F2.len vs H Q E (liftP_imp hw vs H Q E q), fun A outer s0 H args us vs Q E hr hp e0 hb r hsp => F2.run A outer s0 H args us vs Q E hr hp e0 hb r (liftP_imp hw vs H Q E hsp)⟩
/-- the law's own def -/
theorem gm_law {x : Str} {st : Stmt} {N ps : List Str} {s : Sms} {f : Addr} {S : BP} (g : GmOk P w K mg base (D.G K) Γ k) (hcd : Γ.cold = true) (KX : K.In h) (Gn : h.Ns mainGlobals mg) (c : SaysN fa fn ini K) (i : Nat) (hi : fn[i]? = some ⟨(x, none), x, x, defArgs st, defBody st, defScope st, [], []⟩) (hg : Nf.glo x ∈ fa) (hf : mg x = some (.ref f)) : True := trivial
end
/-- a law's end -/
theorem walkW {l : PySem.W.OpenLaw} {n k : Nat} {q : Program} {loose : List Str} {XP : (Str → Option Value) → Heap → Prop} {YP : World → Heap → Prop} {d : DefRec} {x : Str} (hn : l.most = some n) (hn2 : n ≤ sizeLine) (hdf : d.params.defaults = []) (hr : Room k callerA)
    (F : ∀ (w : World) (mg : Str → Option Value) (fa : Addr) (h : Heap), YP w h → h.Ns mainGlobals mg → mg d.name = some (.ref fa) →
      ∃ (K : PySem.W.Frag) (fd : FuncData) (G : GI) (S : BP), K.In h ∧ G.K = K ∧ (∀ (s : Shared) (u : Value), BindsTo s fd ⟨[u], []⟩ [(x, u)]) ∧
        (∀ (ns : List Int), ns.length ≤ n → S [.kl (ns.map .int)] (fun _ => none) (fun v _ => v = .bl true) fun _ _ _ => False) ∧
        ∀ base : Heap, K.In base → base.Ns mainGlobals mg → FnOk l.prog w K mg base (L2.CX l.prog w) k fa fd [x] (liftP G S)) : PySem.W.WalkO q loose XP YP l.row.toRowW d [] (fun f vs => PySem.call f vs) := by
  refine Att.attach_call hn hdf fun w s₀ s₁ mg mb fa o pm cd doc a vs ns Gr Y ho hd hcd hmg hobj hints hlen hg => ?_
  obtain ⟨K, fd, G, S, KX, hGK, hb, hsp, hF⟩ := F w mg fa _ Y Gr.T.g hmg
  refine L2.law_call KX Gr.T.g Gr.T.b Gr.T.builtins Gr.T.nolimit hg hobj hints (Nat.le_trans hlen hn2) hr hF hb (fun H hO hS => ?_) fun H e s' z => ?_
  · have hi : ∀ ns : List Int, RepVs G H (ns.map PV.int) (ns.map V.int) := fun ns => by
      induction ns with
      | nil => exact .nil
      | cons i ns ih => exact .cons (.int i) ih
    refine ⟨H, [.kl (ns.map .int)], fun _ => none, _, _, ⟨fun _ _ h => h, fun _ _ _ => rfl, fun _ _ h => by cases h⟩, .cons (.kl (by rw [hGK]; exact hS) (hi ns)) .nil, fun x F1 M1 H1 v _ _ r q => ?_, fun c fs F1 M1 H1 cls d _ _ _ q => q.elim, hsp ns hlen⟩
    subst q
    cases r
    rfl
  · obtain ⟨_, _, _, _, _, _, _, _, _, _, _, _, q⟩ := z
    exact q.elim
end Nb

/-! NbP -/
set_option Elab.async false
set_option linter.all false
set_option maxRecDepth 100000
set_option maxHeartbeats 4000000
/-! NbP: plain lemmas about texts: names, joined texts, lists without doubles in order. -/
namespace Nb
open PySem PySem.Spec L2
open PyProof.Rows hiding St
def chars (z : Str) : List Nat := z.cps.toList
theorem chars_ext {a b : Str} (h : chars a = chars b) : a = b := by
  cases a with | mk a => cases b with | mk b => exact congrArg Str.mk (Array.toList_inj.mp h)
theorem chars_app (a b : Str) : chars (a ++ b) = chars a ++ chars b := by
  show (a.cps ++ b.cps).toList = _
  simp [chars]
theorem chars_len (z : Str) : z.length = (chars z).length := by
  show z.cps.size = _
  simp [chars]
theorem str_app_len (a b : Str) : (a ++ b).length = a.length + b.length := by
  rw [chars_len, chars_app, List.length_append, ← chars_len, ← chars_len]
theorem str_app_assoc (a b c : Str) : a ++ b ++ c = a ++ (b ++ c) := chars_ext (by simp [chars_app])
def lcB (c : Nat) : Bool := decide (97 ≤ c) && decide (c ≤ 122)
/-- a name: 1 to 8 small letters -/
def vn (z : Str) : Bool := (decide (1 ≤ z.length) && decide (z.length ≤ 8)) && (chars z).all lcB
theorem vn_len {z : Str} (h : vn z = true) : z.length ≤ 8 := by
  unfold vn at h
  simp only [Bool.and_eq_true, decide_eq_true_eq] at h
  exact h.1.2
theorem vn_ne {z : Str} (h : vn z = true) : 1 ≤ z.length := by
  unfold vn at h
  simp only [Bool.and_eq_true, decide_eq_true_eq] at h
  exact h.1.1
theorem vn_ch {z : Str} (h : vn z = true) {c : Nat} (hc : c ∈ chars z) : 97 ≤ c ∧ c ≤ 122 := by
  unfold vn at h
  simp only [Bool.and_eq_true, List.all_eq_true] at h
  have := h.2 c hc
  unfold lcB at this
  simpa using this
theorem vn_of {z : Str} (h1 : 1 ≤ z.length) (h2 : z.length ≤ 8) (h : ∀ c ∈ chars z, 97 ≤ c ∧ c ≤ 122) : vn z = true := by
  unfold vn
  simp only [Bool.and_eq_true, decide_eq_true_eq, List.all_eq_true]
  refine ⟨⟨h1, h2⟩, fun c hc => ?_⟩
  unfold lcB
  simpa using h c hc
/-- in order, each once -/
def Srt (L l : List Str) : Prop := L.Pairwise NbA.leS ∧ L.Nodup ∧ ∀ k, k ∈ L ↔ k ∈ l
theorem leS_anti {a b : Str} (h1 : NbA.leS a b) (h2 : NbA.leS b a) : a = b := by
  unfold NbA.leS at h1 h2
  rw [ltCps_eq] at h1 h2
  have a1 : ¬ b.cps.toList < a.cps.toList := of_decide_eq_false h1
  have a2 : ¬ a.cps.toList < b.cps.toList := of_decide_eq_false h2
  exact chars_ext (List.le_antisymm (List.not_lt.mp a1) (List.not_lt.mp a2))
theorem Srt.uniq {L L' l l' : List Str} (a : Srt L l) (b : Srt L' l') (h : ∀ k, k ∈ l ↔ k ∈ l') : L = L' := by
  have p : L.Perm L' := (List.perm_ext_iff_of_nodup a.2.1 b.2.1).mpr fun k => (a.2.2 k).trans ((h k).trans (b.2.2 k).symm)
  exact p.eq_of_pairwise (fun x y _ _ h1 h2 => leS_anti h1 h2) a.1 b.1
theorem Srt.len {L l : List Str} (a : Srt L l) : L.length ≤ l.length := by
  have : L ⊆ l := fun x hx => (a.2.2 x).mp hx
  exact (List.nodup_iff_count.mp a.2.1 |> fun _ => a.2.1.length_le_of_subset this)
/-- the codes of " a b c" -/
def blk (L : List Str) : List Nat := (L.map fun x => 32 :: chars x).flatten
theorem join_blk (L : List Str) : chars (Txt.join (Str.ofString "") (L.map fun x => Str.ofString " " ++ x)) = blk L := by
  rw [TL.join_eq]
  have e := TL.tl_join (Str.ofString "") (L.map fun x => Str.ofString " " ++ x)
  refine Eq.trans (show _ = TL.tl _ from rfl) (e.trans ?_)
  have j : ∀ ys : List (List Nat), TL.joinL [] ys = ys.flatten := fun ys => by
    induction ys with
    | nil => rfl
    | cons y ys ih =>
      cases ys with
      | nil => simp [TL.joinL]
      | cons z zs =>
        show y ++ ([] ++ TL.joinL [] (z :: zs)) = _
        rw [ih]
        simp
  show TL.joinL [] _ = _
  rw [j, List.map_map]
  refine congrArg List.flatten (List.map_congr_left fun x _ => ?_)
  show chars (Str.ofString " " ++ x) = 32 :: chars x
  rw [chars_app]
  rfl
theorem blk_len (L : List Str) : (blk L).length = (L.map fun x => x.length + 1).sum := by
  induction L with
  | nil => rfl
  | cons x L ih =>
    show (32 :: chars x ++ blk L).length = _
    rw [List.length_append, ih, List.map_cons, List.sum_cons, List.length_cons, ← chars_len]
theorem sum_le {L : List Str} {m : Nat} (h : ∀ x ∈ L, x.length ≤ m) : (L.map fun x => x.length + 1).sum ≤ L.length * (m + 1) := by
  induction L with
  | nil => simp
  | cons x L ih =>
    rw [List.map_cons, List.sum_cons, List.length_cons, Nat.succ_mul]
    have := h x (by simp)
    have := ih fun y hy => h y (by simp [hy])
    omega
theorem join_bd {L : List Str} (b : ∀ x ∈ L, x.length ≤ 9) (n : L.length ≤ 63) : ((L.map fun x => Str.ofString " " ++ x).map (·.length)).sum ≤ 630 ∧ (Txt.join (Str.ofString "") (L.map fun x => Str.ofString " " ++ x)).length ≤ 630 := by
  have h := sum_le b
  have e : ((L.map fun x => Str.ofString " " ++ x).map (·.length)) = L.map fun x => x.length + 1 := by
    rw [List.map_map]
    refine List.map_congr_left fun x _ => ?_
    show (Str.ofString " " ++ x).length = _
    rw [str_app_len, Nat.add_comm]
    rfl
  rw [e, chars_len, join_blk, blk_len]
  omega
theorem strs_any (l : List Str) (x : Str) : ((l.map PV.str).any fun z => pvEq z (.str x)) = decide (x ∈ l) := by
  induction l with
  | nil => rfl
  | cons y l ih =>
    rw [List.map_cons, List.any_cons, ih]
    show (decide (y = x) || decide (x ∈ l)) = _
    rw [← Bool.decide_or]
    refine decide_eq_decide.mpr ?_
    rw [List.mem_cons]
    exact ⟨fun h => h.imp Eq.symm id, fun h => h.imp Eq.symm id⟩
theorem strs_flB (l : List Str) : (l.map PV.str).all flB = true := by
  rw [List.all_map, List.all_eq_true]
  intro _ _
  rfl
theorem in_strs {x : Str} {v : PV} {l : List Str} {M : MHp} {Q : BV} (h : seqOf M v = some (l.map PV.str)) (q : Q (.bl (decide (x ∈ l))) M) (hv : ∀ z, v ≠ .str z) : cmpR .In (.str x) v M Q := by
  have g : ∃ ys, seqOf M v = some ys ∧ ((flB (.str x) = true ∧ ys.all flB = true) ∨ (lstOf M v = some ys ∧ cln (.str x) = true ∧ clns ys = true ∧ dpt (.str x) ≤ 60 ∧ dpts ys ≤ 60)) ∧ Q (.bl (ys.any fun z => pvEq z (.str x))) M := ⟨_, h, .inl ⟨rfl, strs_flB l⟩, by rw [strs_any]; exact q⟩
  cases v <;> first | exact g | exact absurd rfl (hv _)
theorem notin_strs {x : Str} {v : PV} {l : List Str} {M : MHp} {Q : BV} (h : seqOf M v = some (l.map PV.str)) (q : Q (.bl (!decide (x ∈ l))) M) (hv : ∀ z, v ≠ .str z) : cmpR .NotIn (.str x) v M Q := by
  have g : ∃ ys, seqOf M v = some ys ∧ ((flB (.str x) = true ∧ ys.all flB = true) ∨ (lstOf M v = some ys ∧ cln (.str x) = true ∧ clns ys = true ∧ dpt (.str x) ≤ 60 ∧ dpts ys ≤ 60)) ∧ Q (.bl (!(ys.any fun z => pvEq z (.str x)))) M := ⟨_, h, .inl ⟨rfl, strs_flB l⟩, by rw [strs_any]; exact q⟩
  cases v <;> first | exact g | exact absurd rfl (hv _)
theorem notin_sign {c : Nat} {z : Str} {M : MHp} {Q : BV} (q : Q (.bl (!decide (c ∈ chars z))) M) : cmpR .NotIn (.str ⟨#[c]⟩) (.str z) M Q := by
  show Q (.bl (!(!(Builtin.Str.occurrences z ⟨#[c]⟩ 0 z.length 1).isEmpty))) M
  rw [show (!(Builtin.Str.occurrences z ⟨#[c]⟩ 0 z.length 1).isEmpty) = decide (c ∈ z.cps.toList) from PySem.StrLaws.found_one z c]
  exact q
theorem sset_strs {mu : Bool} {v : PV} {l : List Str} {M : MHp} {Q : BV} (h : seqOf M v = some (l.map PV.str)) (h64 : l.length < 64) (q : ∀ L, Srt L l → newL mu (L.map PV.str) M Q) : ssetR mu v M Q :=
  .inl ⟨l, h, h64, fun zs a b c => q zs ⟨a, b, c⟩⟩
end Nb
namespace Nb
open PySem PySem.Spec L2
open PyProof.Rows hiding St
section
variable {Γ : Gm} {τ : Sl} {M : MHp} {D : BD} {r : Sms} {Q : BV} {Qt : Bool → MHp → Prop} {E : BX}
/-- a loop that looks for the first item that does not pass -/
theorem forW_scan {g : MHp → Prop} {i : Nat} {body : BS} {items : List PV} (p : PV → Bool) (J : Sl → Prop) (stop : PV → Prop) (hg : g M) (h0 : J τ)
    (hs : ∀ pre y post, items = pre ++ y :: post → (∀ x ∈ pre, p x = true) → p y = false → stop y)
    (step : ∀ y ∈ items, ∀ τ, J τ → ∀ N : Sl → MHp → Prop, (p y = true → ∀ τ', J τ' → N τ' M) → (p y = false → stop y) → body (D.lp N) (τ.set i (some y)) M)
    (fin : (∀ x ∈ items, p x = true) → ∀ τ, J τ → D.nx τ M) : forW Γ g [i] body D items τ M := by
  refine forW_inv (fun r τ M1 => M1 = M ∧ J τ ∧ ∃ pre, items = pre ++ r ∧ ∀ x ∈ pre, p x = true) (fun r τ M1 q => q.1 ▸ hg) ?_ ?_ _ _ _ ⟨rfl, h0, [], rfl, fun x hx => by cases hx⟩
  · rintro τ M1 ⟨rfl, hj, pre, e, hp⟩
    rw [List.append_nil] at e
    exact fin (fun x hx => hp x (by rw [← e]; exact hx)) τ hj
  · rintro y r τ M1 N ⟨rfl, hj, pre, e, hp⟩ hN
    have hy : y ∈ items := by rw [e]; simp
    refine step y hy τ hj N (fun q τ' hj' => hN τ' M1 ⟨rfl, hj', pre ++ [y], by rw [e]; simp, fun x hx => ?_⟩) (fun q => hs pre y r e hp q)
    rcases List.mem_append.mp hx with h | h
    · exact hp x h
    · rw [List.mem_singleton.mp h]; exact q
theorem r_star {e : Ex} {es : Exs} {Qs : List PV → MHp → Prop} (h : (wX Γ false e).1 τ M (fun x M1 => ∃ ys, seqOf M1 x = some ys ∧ wXs Γ es τ M1 (fun xs M2 => Qs (ys ++ xs) M2) E) E) : wXs Γ (.star e es) τ M Qs E := h
theorem t_asgA {o e : Ex} {f : Nat} (h : (wX Γ false e).1 τ M (fun y M1 => (wX Γ false o).1 τ M1 (fun x M2 => ∃ a c gs, x = .ref a ∧ M2 a = some (.ins c gs) ∧ Γ.fld c f = true ∧ gs.length < 900 ∧ wSs Γ r D τ (ms M2 a (.ins c (putN f y gs)))) fun c fs M1 => D.ex c fs τ M1) fun c fs M1 => D.ex c fs τ M1) : wSs Γ (.cons (.asgA o f e) r) D τ M := t_cons (by rw [wS]; exact h)
theorem e_fld {a c f : Nat} {gs : List (Nat × PV)} {p : Nat → Nat → List (Nat × PV) → Prop} (m : M a = some (.ins c gs)) (hf : Γ.fld c f = true) (l : gs.length < 900) (h : p a c gs) : ∃ a' c' gs', PV.ref a = .ref a' ∧ M a' = some (.ins c' gs') ∧ Γ.fld c' f = true ∧ gs'.length < 900 ∧ p a' c' gs' := ⟨a, c, gs, rfl, m, hf, l, h⟩
theorem m_joinT {z : Str} {p : Prop} (h : p) : bmT .join (.str z) M ∧ p := ⟨⟨z, rfl⟩, h⟩
theorem m_join {z : Str} {x : PV} {ys : List Str} (h : seqOf M x = some (ys.map PV.str)) (l : (ys.map (·.length)).sum + ys.length * z.length ≤ 16777216) (q : Q (.str (Txt.join z ys)) M) : bmR (.str z) .join [x] M Q := ⟨z, x, ys, rfl, rfl, h, l, q⟩
theorem seqOf_ms {l : PV} {xs : List PV} {a : Addr} {o : MO} (h : seqOf M l = some xs) (n : M a = none) : seqOf (ms M a o) l = some xs := by
  cases l with
  | ref b =>
    have h' : (match M b with | some (.lst xs) => some xs | _ => none) = some xs := h
    have hb : b ≠ a := by
      rintro rfl
      rw [n] at h'
      cases h'
    show (match ms M a o b with | some (.lst xs) => some xs | _ => none) = some xs
    rw [ms_ne hb]
    exact h'
  | _ => exact h
theorem seqOf_ms' {l : PV} {xs : List PV} {a c : Nat} {fs : List (Nat × PV)} {o : MO} (h : seqOf M l = some xs) (n : M a = some (.ins c fs)) : seqOf (ms M a o) l = some xs := by
  cases l with
  | ref b =>
    have h' : (match M b with | some (.lst xs) => some xs | _ => none) = some xs := h
    have hb : b ≠ a := by
      rintro rfl
      rw [n] at h'
      cases h'
    show (match ms M a o b with | some (.lst xs) => some xs | _ => none) = some xs
    rw [ms_ne hb]
    exact h'
  | _ => exact h
theorem b_strs {mu : Bool} {z : Str} (h : Q (.str z) M) : biR Γ mu .str [.str z] M Q := .inr ⟨z, rfl, h⟩
theorem notstr {l : PV} {xs : List PV} (h : seqOf M l = some xs) : ∀ z, l ≠ .str z := by
  rintro z rfl
  cases h
theorem lnk {n m : Nat} {k : Nat} (h : n ≤ k) (hk : k ≤ m) : n ≤ m := Nat.le_trans h hk
end
end Nb

/-! NbQ -/
set_option Elab.async false
set_option linter.all false
set_option maxRecDepth 100000
set_option maxHeartbeats 4000000
/-! NbQ: classes added: how they are made, their own == and str, their methods. -/
namespace Nb
open PySem PySem.Spec L2 L2H NbX He
open PyProof.Rows hiding St
section
variable {D : Dt} {fa : List Nf} {fn : List DefD} {ini : List IniD} {P : Program} {w : World} {K : PySem.W.Frag} {mg : Str → Option Value} {base h : Heap} {j k : Nat} {Γ : Gm} {q : Str} {st : Stmt} {N ps : List Str} {s : Sms} {cI : Nat} {S : BP}
theorem glo_cls (KX : K.In h) (Gn : h.Ns mainGlobals mg) (c : SaysN fa fn ini K) (hfa : ∀ f ∈ D.fa, f ∈ fa) {b : Bool} (hc : D.cls.lookup cI = some b) : mg (D.nm cI) = some (.ref (ga K (D.nm cI))) := by
  have m : Nf.glo (D.nm cI) ∈ D.fa := fa_of 0 rfl (List.mem_flatMap.mpr ⟨(cI, b), mem_of_lookup hc, by simp⟩)
  exact glo_ok KX Gn (x := D.nm cI) (c.fact (f := .glo (D.nm cI)) (hfa _ m))
theorem cls_cls (c : SaysN fa fn ini K) (hfa : ∀ f ∈ D.fa, f ∈ fa) (hc : D.cls.lookup cI = some false) : Cls K (ga K (D.nm cI)) := by
  have m : Nf.cls (D.nm cI) ∈ D.fa := fa_of 0 rfl (List.mem_flatMap.mpr ⟨(cI, false), mem_of_lookup hc, by simp⟩)
  exact (obC_ok (c.fact (hfa _ m))).cl
theorem gm_init (g : GmOk P w K mg base (D.G K) Γ k) (hcd : Γ.cold = true) (KX : K.In h) (Gn : h.Ns mainGlobals mg) (c : SaysN fa fn ini K) (hfa : ∀ f ∈ D.fa, f ∈ fa) (i : Nat) {x : Str} (hi : fn[i]? = some ⟨(x, some "__init__"), "__init__", q, defArgs st, defBody st, defScope st, [], []⟩) (hm : Nf.mkr x ∈ fa) (hn : D.nm cI = x) (hc : D.cls.lookup cI = some false)
    (Sc : FnScope N ps (defScope st)) (bd : ∀ (kV doc pm : Value) (an : Option Addr) (cdv ct : Value) (us : List Value), us.length = ps.length → bindArgs (PySem.W.fnOf "__init__" q (defArgs st) (defBody st) (defScope st) .none kV doc pm an cdv ct) ⟨us, []⟩ = pure (ps.zip us))
    (ag : agSs D.nm N (defScope st) s (defBody st) = true) (hw : ∀ xs M Q E, S xs M Q E → bodyP Γ s N ps.length xs M Q E) : GmOk P w K mg base (D.G K) (Γ.addI cI S) (k + 2) := by
  subst hn
  obtain ⟨fd, F⟩ := c.def_ i hi
  have Fn : Fun K "__init__" q st (ma K (ga K (D.nm cI)) "__init__") fd := fun_of F
  have F2 := FnOk.of (fn_sound Fn Sc g hcd rfl ag) hw
  exact (g.mono (by omega : k ≤ k + 2)).addI hcd (D.cl_of K (by rw [hc]; rfl)) (glo_cls KX Gn c hfa hc) (mkr_ok (c.fact (f := .mkr (D.nm cI)) hm)) (fnR_of F2 (Fn.binds bd)) (Nat.le_refl _)
theorem gm_eqm (g : GmOk P w K mg base (D.G K) Γ k) (hcd : Γ.cold = true) (c : SaysN fa fn ini K) (hfa : ∀ f ∈ D.fa, f ∈ fa) (i : Nat) {x : Str} (hi : fn[i]? = some ⟨(x, some "__eq__"), "__eq__", q, defArgs st, defBody st, defScope st, [], []⟩) (hm : Nf.meth x "__eq__" ∈ fa) (hn : D.nm cI = x) (hc : D.cls.lookup cI = some false)
    (Sc : FnScope N ps (defScope st)) (bd : ∀ (kV doc pm : Value) (an : Option Addr) (cdv ct : Value) (us : List Value), us.length = ps.length → bindArgs (PySem.W.fnOf "__eq__" q (defArgs st) (defBody st) (defScope st) .none kV doc pm an cdv ct) ⟨us, []⟩ = pure (ps.zip us))
    (ag : agSs D.nm N (defScope st) s (defBody st) = true) (hw : ∀ xs M Q E, S xs M Q E → bodyP Γ s N ps.length xs M Q E) : GmOk P w K mg base (D.G K) (Γ.addE cI S) (k + 3) := by
  subst hn
  obtain ⟨fd, F⟩ := c.def_ i hi
  have Fn : Fun K "__eq__" q st (ma K (ga K (D.nm cI)) "__eq__") fd := fun_of F
  have F2 := FnOk.of (fn_sound Fn Sc g hcd rfl ag) hw
  exact (g.mono (by omega : k ≤ k + 3)).addE hcd (D.cl_of K (by rw [hc]; rfl)) (cls_cls c hfa hc) (meth_ok (c.fact (f := .meth (D.nm cI) "__eq__") hm)) (fnR_of F2 (Fn.binds bd)) (by omega)
theorem gm_stm (g : GmOk P w K mg base (D.G K) Γ k) (hcd : Γ.cold = true) (c : SaysN fa fn ini K) (hfa : ∀ f ∈ D.fa, f ∈ fa) (i : Nat) {x : Str} (hi : fn[i]? = some ⟨(x, some "__str__"), "__str__", q, defArgs st, defBody st, defScope st, [], []⟩) (hm : Nf.meth x "__str__" ∈ fa) (hn : D.nm cI = x) (hc : D.cls.lookup cI = some false)
    (Sc : FnScope N ps (defScope st)) (bd : ∀ (kV doc pm : Value) (an : Option Addr) (cdv ct : Value) (us : List Value), us.length = ps.length → bindArgs (PySem.W.fnOf "__str__" q (defArgs st) (defBody st) (defScope st) .none kV doc pm an cdv ct) ⟨us, []⟩ = pure (ps.zip us))
    (ag : agSs D.nm N (defScope st) s (defBody st) = true) (hw : ∀ xs M Q E, S xs M Q E → bodyP Γ s N ps.length xs M Q E) : GmOk P w K mg base (D.G K) (Γ.addT cI S) (k + 3) := by
  subst hn
  obtain ⟨fd, F⟩ := c.def_ i hi
  have Fn : Fun K "__str__" q st (ma K (ga K (D.nm cI)) "__str__") fd := fun_of F
  have F2 := FnOk.of (fn_sound Fn Sc g hcd rfl ag) hw
  exact (g.mono (by omega : k ≤ k + 3)).addT hcd (D.cl_of K (by rw [hc]; rfl)) (cls_cls c hfa hc) (meth_ok (c.fact (f := .meth (D.nm cI) "__str__") hm)) (fnR_of F2 (Fn.binds bd)) (by omega)
theorem gm_met (g : GmOk P w K mg base (D.G K) Γ k) (hcd : Γ.cold = true) (c : SaysN fa fn ini K) (hfa : ∀ f ∈ D.fa, f ∈ fa) (i : Nat) {x m : Str} {n : Nat} (hi : fn[i]? = some ⟨(x, some m), m, q, defArgs st, defBody st, defScope st, [], []⟩) (hm : Nf.meth x m ∈ fa) (hn : D.nm cI = x) (hn2 : D.nm n = m) (hc : D.cls.lookup cI = some false)
    (Sc : FnScope N ps (defScope st)) (bd : ∀ (kV doc pm : Value) (an : Option Addr) (cdv ct : Value) (us : List Value), us.length = ps.length → bindArgs (PySem.W.fnOf m q (defArgs st) (defBody st) (defScope st) .none kV doc pm an cdv ct) ⟨us, []⟩ = pure (ps.zip us))
    (ag : agSs D.nm N (defScope st) s (defBody st) = true) (hw : ∀ xs M Q E, S xs M Q E → bodyP Γ s N ps.length xs M Q E) : GmOk P w K mg base (D.G K) (Γ.addM cI n S) (k + 1) := by
  subst hn hn2
  obtain ⟨fd, F⟩ := c.def_ i hi
  have Fn : Fun K (D.nm n) q st (ma K (ga K (D.nm cI)) (D.nm n)) fd := fun_of F
  have F2 := FnOk.of (fn_sound Fn Sc g hcd rfl ag) hw
  exact (g.mono (by omega : k ≤ k + 1)).addM hcd (D.cl_of K (by rw [hc]; rfl)) (cls_cls c hfa hc) (meth_ok (c.fact (f := .meth (D.nm cI) (D.nm n)) hm)) (Fn.binds bd) F2
end
end Nb

/-! NbC -/
set_option Elab.async false
set_option linter.all false
set_option maxRecDepth 100000
set_option maxHeartbeats 4000000
/-! NbC: methods of own classes whose last line is super().__init__(..); *names. -/
namespace Nb
open PySem PySem.Spec L2 L2H NbX He NdefX
open PyProof.Rows hiding St

/-- pre, then super().__init__(es): the next class's __init__ by the object's class -/
def endsS (Γ : Gm) (sup : Nat → Option BP) (es : Exs) (Q : BV) (E : BX) : BD where
  nx := fun τ M1 => ∃ a d fs T, τ[0]? = some (some (.ref a)) ∧ M1 a = some (.ins d fs) ∧ sup d = some T ∧ wXs Γ es τ M1 (fun ys M2 => T (.ref a :: ys) M2 (fun _ M3 => Q .non M3) E) E
  rt := fun _ _ => False
  bk := fun _ _ => False
  ct := fun _ _ => False
  ex := fun c fs _ M1 => E c fs M1
def bodyS (Γ : Gm) (sup : Nat → Option BP) (pre : Sms) (es : Exs) (N : List Str) (n : Nat) (va : Bool) : BP := fun xs M Q E =>
  ∃ front rest, xs = front ++ rest ∧ front.length = n ∧ (va = false → rest = []) ∧ rest.length ≤ sizeLine ∧ wSs Γ pre (endsS Γ sup es Q E) (startP N (front ++ if va then [.tup rest] else [])) M

/-! ### a body in two parts -/
theorem wp_execs_app {M : Model} {Γ : PySem.Ctx} {env : PySem.Env} {rest : List Stmt} {Q : Flow → Pos → Shared → Prop} {E : Value → Pos → Shared → Prop} : ∀ (pb : List Stmt) (p : Pos) (s : Shared),
    PySem.Sem.wp M Γ (execs pb env) (fun f p' s' => match f with | .next => PySem.Sem.wp M Γ (execs rest env) Q E p' s' | f => Q f p' s') E p s → PySem.Sem.wp M Γ (execs (pb ++ rest) env) Q E p s
  | [], p, s, h => h
  | st :: pb, p, s, h => by
    rw [execs_cons, Sem.wp_bind'] at h
    rw [List.cons_append, execs_cons, Sem.wp_bind']
    refine Sem.wp_mono M Γ _ (fun f p' s' h' => ?_) (fun _ _ _ h' => h') _ _ h
    cases f with
    | next => exact wp_execs_app pb p' s' h'
    | brk => exact h'
    | cont => exact h'
    | ret v => exact h'
theorem wpAt_execs_app {M : Model} {A : Around} {c : Code} {env : PySem.Env} {pb rest : List Stmt} {Q : Flow → Shared → Prop} {E : Value → Shared → Prop} {s : Shared}
    (h : wpAny M A (execs pb env) (fun f s' => match f with | .next => _root_.PySem.wpAt M A c (execs rest env) Q E s' | f => Q f s') E s) : _root_.PySem.wpAt M A c (execs (pb ++ rest) env) Q E s := fun Γ p hc hΓ => by
  refine wp_execs_app pb p s (Sem.wp_mono M Γ _ (fun f p' s' h' => ?_) (fun _ _ _ h' => h') _ _ (h Γ p hΓ))
  cases f with
  | next => exact h' Γ p' hc hΓ
  | brk => exact h'
  | cont => exact h'
  | ret v => exact h'

/-! ### the frame of such a body -/
def cxS (P : Program) (w : World) (K : PySem.W.Frag) (mg : Str → Option Value) (base : Heap) (N : List Str) (qual : Str) (scope : Scope) (f : Addr) (cdv : Value) (cl : List (Str × Addr)) (A : Around) (outer : List PySem.Env) (s : Shared) (H : Hp) (E : XK) (L : Addr) : Cx where
  prog := P
  w := w
  K := K
  mg := mg
  base := base
  A := A.deeper (PySem.W.envX qual scope L f cdv cl)
  N := N
  s_0 := s
  H_0 := H
  env := PySem.W.envX qual scope L f cdv cl
  outer := outer
  stack := PySem.W.envX qual scope L f cdv cl :: outer
  ex := []
  calm := true
  fn := fun _ => false
  pn := []
  xe := fun e s' => wpAny (model P w) (A.deeper (PySem.W.envX qual scope L f cdv cl)) (leaving (PySem.W.envX qual scope L f cdv cl) e) (fun _ s'' => L2.CX P w outer H s E e s'') (fun e' s'' => L2.CX P w outer H s E e' s'') s'
section
variable {P : Program} {w : World} {K : PySem.W.Frag} {mg : Str → Option Value} {base : Heap} {N pv : List Str} {qual : Str} {scope : Scope} {f cc : Addr} {cdv : Value} {A : Around} {outer : List PySem.Env} {s : Shared} {H H1 : Hp} {E : XK} {us : List Value} {vs : List V} {hp1 h₁ : Heap} {tk : Nat}
theorem inv_startS {oC : Obj} {vC : Option Value} (S : NScope N pv ["__class__"] scope) (hd : A.handled = none) (e0 : Env0 P w K mg base A outer s H) (u : Un (frs outer) [] H H1 s.heap hp1) (hok1 : HOk P w H1 hp1) (hsz : s.heap.objs.size ≤ hp1.objs.size) (hl : vs.length = pv.length) (r : Vals vs us)
    (hcc : K.lookup cc = some oC) (hcd : oC.data = .cell vC) (hns : h₁.Ns hp1.objs.size fun y => (pv.zip us).reverse.lookup y) (kp : ∀ b o, hp1.get? b = some o → h₁.get? b = some o) :
    Inv (cxS P w K mg base N qual scope f cdv [("__class__", cc)] A outer s H E hp1.objs.size) [] (L2.start N vs) H1 { s with heap := h₁, toks := tk } := by
  have hpl : pv.length + 1 ≤ N.length := by
    have q := congrArg List.length S.pre
    rw [List.length_take, List.length_append] at q
    have : (["__class__"] : List Str).length = 1 := rfl
    omega
  have noA : ∀ b : Addr, b ∉ (cxS P w K mg base N qual scope f cdv [("__class__", cc)] A outer s H E hp1.objs.size).ex := fun b z => absurd (show b ∈ ([] : List Addr) from z) (by simp)
  have bC : base.get? cc = some oC := e0.mod.kin _ _ hcc
  obtain ⟨sC, nC⟩ := e0.bs _ _ bC
  have fC : cc ∉ frs outer := fun hb => by
    have z := (e0.funs.mem hb).1
    rw [bC] at z
    cases z
  have gC : hp1.get? cc = some oC := u.keep _ _ sC nC fC (by simp)
  have n1 : H1 cc = none := u.free _ _ sC nC (by simp)
  have cl1 : ∀ {y : Str} {c : Addr}, ([(("__class__" : Str), cc)] : List (Str × Addr)).lookup y = some c → y = "__class__" ∧ c = cc := fun {y c} h => by
    rw [List.lookup_cons] at h
    by_cases e : y = ("__class__" : Str)
    · subst e
      simp at h
      exact ⟨rfl, h.symm⟩
    · have e2 : (y == ("__class__" : Str)) = false := by simpa using e
      rw [e2] at h
      cases h
  refine ⟨⟨e0.mod, S.kind, rfl, rfl, hsz, fun x y c h1 h2 => ?_, fun y hy => ?_, fun y c z _ => ?_, fun _ => hd, Around.frames_deeper e0.frames, .inr ⟨rfl, rfl⟩, fun b z => absurd z (noA b), e0.bs, e0.bsz, fun b _ _ => noA b, fun b z => absurd z (noA b), e0.funs, e0.frf⟩,
    rfl, e0.bare, u.trans (Un.kept kp), ⟨_, hns, fun i y v e1 e2 e3 => ?_⟩, fun y c e => ?_, hok1.fresh (Nat.le_refl _), fun y c e => ?_, fun q hq => absurd (show q ∈ ([] : List (Addr × Obj)) ++ [] from hq) (by simp), hok1.kept kp, ?_⟩
  · exact (cl1 h1).1.trans (cl1 h2).1.symm
  · have hy : scope.names.lookup y = some .cell ∨ scope.names.lookup y = some .free := hy
    rcases hy with hy | hy
    · exact absurd rfl (S.nocell _ (PySem.mem_of_lookup hy))
    · have e : y = "__class__" := by simpa using S.free _ (PySem.mem_of_lookup hy) rfl
      subst e
      exact ⟨cc, rfl⟩
  · have z : false = true := z
    cases z
  · have e1 : N[i]? = some y := e1
    have hi : i < vs.length := by
      unfold L2.start at e2
      by_cases hi : i < vs.length
      · exact hi
      · rw [List.getElem?_append_right (by simpa using hi), List.getElem?_replicate] at e2
        split at e2 <;> cases e2
    have ha : vs[i]? = some v := by
      unfold L2.start at e2
      rw [List.getElem?_append_left (by simpa using hi), List.getElem?_map] at e2
      cases e : vs[i]? with
      | none => rw [e] at e2; cases e2
      | some a => rw [e] at e2; cases e2; rfl
    obtain ⟨u2, hu, rv⟩ := r.get ha
    have hq : (pv ++ [("__class__" : Str)])[i]? = some y := by
      rw [← S.pre, List.getElem?_take_of_lt (by show i < pv.length + 1; omega)]
      exact e1
    rw [List.getElem?_append_left (by omega)] at hq
    have ndP : pv.Nodup := by
      have q := S.nd.sublist (List.take_sublist (pv.length + (["__class__"] : List Str).length) N)
      rw [S.pre] at q
      exact (List.nodup_append.mp q).1
    exact ⟨u2, rv, .inl ⟨S.par y (List.mem_of_getElem? hq), zip_look ndP hq hu⟩⟩
  · obtain ⟨_, rfl⟩ := cl1 e
    exact ⟨vC, oC, kp _ _ gC, hcd⟩
  · obtain ⟨_, rfl⟩ := cl1 e
    exact n1
  · unfold L2.start
    show _ = N.length
    rw [List.length_append, List.length_map, List.length_replicate]
    omega
end

/-! ### such a def -/
/-- what the written part says of it: its closure holds the class C -/
structure SupF (prog : Program) (K : PySem.W.Frag) (C f : Addr) (st : Stmt) : Prop where
  top : (prog.main.scope.names.lookup ("super" : Str)).isSome = false
  isC : ∃ o cd, K.lookup C = some o ∧ o.data = .cls cd
  fn : ∃ (oc : Value) (od : Option Addr) (name qual : Str) (kV doc pm : Value) (an : Option Addr) (cda : Addr) (ct : Value) (cc : Addr) (osl : Array (Option Value)),
    K.lookup f = some ⟨oc, od, .func (PySem.W.ksFn name qual (L2.defArgs st) (L2.defBody st) (L2.defScope st) .none kV doc pm an (.ref cda) ct cc), osl⟩ ∧ PySem.W.codeIn K (.ref cda) qual = true ∧
    (∃ ccl cdd vs ccs file tf, K.lookup cda = some ⟨ccl, cdd, .fields vs, ccs⟩ ∧ vs[2]? = some (.str file tf) ∧ ((prog.main.file : Str) == file) = true) ∧
    (∃ cl cld csl, K.lookup cc = some ⟨cl, cld, .cell (some (.ref C)), csl⟩)
/-- the text of it -/
structure SupSt (st : Stmt) (N pv : List Str) (n : Nat) (va : Bool) (pb : List Stmt) (xs : List Expr) : Prop where
  ns : NScope N pv [("__class__" : Str)] (defScope st)
  hd : ∃ ar, ((defArgs st).posonlyargs ++ (defArgs st).args).head? = some ar ∧ pv[0]? = some ar.arg ∧ (ar.arg == ("__debug__" : Str)) = false
  ks : (defScope st).names.lookup ("super" : Str) = some .globalImplicit
  len : pv.length = n + (if va then 1 else 0)
  body : ∃ (p0 p1 p2 p4 p5 : Pos), p2.endLine = p4.line ∧ defBody st = pb ++ [.Expr (.Call (.Attribute (.Call (.Name "super" p0) [] [] p1) "__init__" p2) xs [] p4) p5]
  few : xs.length < 30
  b0 : va = false → ∀ (name qual : Str) (kV doc pm : Value) (an : Option Addr) (cdv ct : Value) (cc : Addr) (us : List Value), us.length = n → bindArgs (PySem.W.ksFn name qual (defArgs st) (defBody st) (defScope st) .none kV doc pm an cdv ct cc) ⟨us, []⟩ = pure (pv.zip us)
  b1 : va = true → ∀ (name qual : Str) (kV doc pm : Value) (an : Option Addr) (cdv ct : Value) (cc : Addr) (us rest : List Value), us.length = n → bindArgs (PySem.W.ksFn name qual (defArgs st) (defBody st) (defScope st) .none kV doc pm an cdv ct cc) ⟨us ++ rest, []⟩ = (newTuple rest >>= fun t => pure (pv.zip (us ++ [t])))
theorem RepVs.split {G : GI} {F : Hp} : ∀ {a b : List PV} {vs : List V}, RepVs G F (a ++ b) vs → ∃ va vb, vs = va ++ vb ∧ RepVs G F a va ∧ RepVs G F b vb
  | [], b, vs, h => ⟨[], vs, rfl, .nil, h⟩
  | x :: a, b, _, .cons r t => by
    obtain ⟨va, vb, rfl, h1, h2⟩ := RepVs.split t
    exact ⟨_ :: va, vb, rfl, .cons r h1, h2⟩
theorem vals_split : ∀ {a b : List V} {us : List Value}, Vals (a ++ b) us → ∃ ua ub, us = ua ++ ub ∧ Vals a ua ∧ Vals b ub
  | [], b, us, h => ⟨[], us, rfl, .nil, h⟩
  | x :: a, b, _, .cons r t => by
    obtain ⟨ua, ub, rfl, h1, h2⟩ := vals_split t
    exact ⟨_ :: ua, ub, rfl, .cons r h1, h2⟩
theorem sup_eq2 {o : Expr} {m : Str} {ap pos : Pos} {xs : List Expr} {env : PySem.Env} (hl : ap.endLine = pos.line) (hn : xs.length < 30) (hp : (backTo pos (starEach xs env)).any (·.1) = false) :
    eval (.Call (.Attribute o m ap) xs [] pos) env = (do
      let ov ← attributeBase o m env (eval o env)
      standAt ap.atName
      let (f, first) ← holding [ov] (getMethod ov m (do return (← importBound o env).getD true))
      callWith pos f first (backTo pos (starEach xs env)) []) := by
  have few : methodCallForm (xs.length + ([] : List Keyword).length) (backTo pos (starEach xs env)) (backToKw pos (keywordEach [] env)) = true := by
    unfold methodCallForm
    rw [all_noStar hp]
    show (true && true && decide (xs.length + 0 + 0 < 30)) = true
    rw [decide_eq_true (by omega)]
    rfl
  show (do
    let ov ← attributeBase o m env (eval o env)
    standAt ap.atName
    methodCall o m ap pos env ov (xs.length + ([] : List Keyword).length) (backTo pos (starEach xs env)) (backToKw pos (keywordEach [] env))) = _
  unfold methodCall
  rw [few]
  have hpos : methodCallPos true o env ap pos = pure pos := by
    unfold methodCallPos
    rw [if_pos (by rw [hl]; simp)]
  rw [hpos]
  rfl
/-- which __init__ comes next, by the object's class -/
def SupOk (P : Program) (w : World) (K : PySem.W.Frag) (mg : Str → Option Value) (base : Heap) (G : GI) (k : Nat) (C : Addr) (sup : Nat → Option BP) : Prop :=
  ∀ d T, sup d = some T → ∃ D f2, G.cl d = some D ∧ PySem.W.mroIn K D (.ref C) = some true ∧ PySem.W.ks_superIn K D C "__init__" = some (some (.ref f2)) ∧ PySem.W.typeIn K (.ref f2) = some (.type "function") ∧ PySem.W.fnIn K f2 = true ∧ FnR P w K mg base (L2.CX P w) k f2 (liftP G T)
section
variable {P : Program} {w : World} {K : PySem.W.Frag} {mg : Str → Option Value} {base : Heap} {G : GI} {Γ : Gm} {k : Nat} {C f : Addr} {st : Stmt} {N pv : List Str} {n : Nat} {va : Bool} {pb : List Stmt} {xs : List Expr} {pre : Sms} {es : Exs} {sup : Nat → Option BP}
/-- the last line -/
theorem sup_line {X : Cx} {W : WX} {qual : Str} {L cda cc : Addr} {kV doc pm : Value} {an : Option Addr} {ct oc : Value} {od : Option Addr} {name : Str} {osl : Array (Option Value)} {vsd : Array Value} {ccl : Value} {cdd : Option Addr} {ccs : Array (Option Value)} {file : Str} {tf : Tok} {cl : Value} {cld : Option Addr} {csl : Array (Option Value)}
    {p0 p1 p2 p4 p5 : Pos} {bd : List Stmt}
    (ck : Cok X G Γ k W) (hcd : Γ.cold = true) (eK : X.K = K) (eE : X.env = PySem.W.envX qual (defScope st) L f (.ref cda) [(("__class__" : Str), cc)]) (S : SupSt st N pv n va pb xs) (eN : X.N = N) (hn0 : 0 < n)
    (top : (X.prog.main.scope.names.lookup ("super" : Str)).isSome = false) (isC : ∃ o cd, K.lookup C = some o ∧ o.data = .cls cd)
    (lk : K.lookup f = some ⟨oc, od, .func (PySem.W.ksFn name qual (defArgs st) (defBody st) (defScope st) .none kV doc pm an (.ref cda) ct cc), osl⟩) (hcda : K.lookup cda = some ⟨ccl, cdd, .fields vsd, ccs⟩) (hvs : vsd[2]? = some (.str file tf)) (hfile : ((X.prog.main.file : Str) == file) = true)
    (hcc : K.lookup cc = some ⟨cl, cld, .cell (some (.ref C)), csl⟩) (hl : p2.endLine = p4.line) (agE_ : agEs G.nm N (defScope st) es xs = true) (pl : es.plain = true) (hs : SupOk X.prog X.w K X.mg X.base G k C sup) (sg : X.mg "super" = none) (ot : PySem.W.nsIn K cStatics "thirdparty.any" = some none)
    {s : Shared} {σ : L2.St} {F H : Hp} {M : MHp} {τ : Sl} {Q : BV} {E : BX} {R : Flow → Shared → Prop} (I : Inv X [] σ H s) (A : At G F M H) (rs : RelS G F τ σ) (xw : ExW G W F M H σ E)
    (go : ∀ F1 M1 H1 s1, Ev F M H F1 M1 H1 → At G F1 M1 H1 → Inv X [] σ H1 s1 → Q .non M1 → R .next s1)
    (h : (endsS Γ sup es Q E).nx τ M) :
    _root_.PySem.wpAt (model X.prog X.w) X.A (.func bd X.env) (execs [.Expr (.Call (.Attribute (.Call (.Name "super" p0) [] [] p1) "__init__" p2) xs [] p4) p5] X.env) R X.xe s := by
  obtain ⟨a, d, fs, T, h0, hM, hsup, hw⟩ := h
  obtain ⟨D, f2, hD, hmro, hsi, hty, hfi, hF⟩ := hs d T hsup
  subst eK eN
  obtain ⟨ar, har, hp0, hdb⟩ := S.hd
  obtain ⟨oC, cdC, hC, hCd⟩ := isC
  have X_ : X.K.In s.heap := I.kIn
  have kindF : X.env.scope.kind = .function := I.ok.kind
  have hint : interactive X.env = false := by simp [interactive, kindF]
  have kd : ∀ y, X.env.kindOf y = (defScope st).names.lookup y := fun y => by rw [eE]; rfl
  -- the object
  obtain ⟨D2, dx, gs, hD2, hHa, rf⟩ := A.mo a _ hM
  rw [hD] at hD2
  cases hD2
  obtain ⟨mA, J, _⟩ := ins_get I.hok hHa
  obtain ⟨odJ, J, _⟩ := J.look
  -- self
  have ar0 : X.N[0]? = some ar.arg := by
    have q := congrArg (fun l : List Str => l[0]?) S.ns.pre
    have lp : 0 < pv.length := by rw [S.len]; omega
    rw [List.getElem?_take_of_lt (by omega), List.getElem?_append_left lp] at q
    exact q.trans hp0
  have locS : (defScope st).names.lookup ar.arg = some .local := S.ns.par _ (List.mem_of_getElem? hp0)
  obtain ⟨v0, hv0, rv0⟩ := rs.at_ 0 _ h0
  cases rv0
  obtain ⟨m, hns, hloc⟩ := I.loc
  obtain ⟨u0, ru0, look0⟩ := hloc 0 ar.arg _ ar0 hv0 (.inl (by rw [eE]; exact locS))
  obtain rfl : u0 = Value.ref a := ru0
  have mself : m ar.arg = some (.ref a) := by
    rcases look0 with ⟨_, q⟩ | ⟨q, _⟩
    · exact q
    · rw [kd, locS] at q
      rcases q with q | q <;> cases q
  have aok : ArgsOk X xs := ArgsOk.of pl agE_
  have nl : NilOk xs (wXs Γ es) := NilOk.of pl agE_
  refine ks_wpAt_execs_cons (ks_wpAt_Expr_any (ks_wpAt_MethodCall ?_ (sup_eq2 hl S.few (aok.pl p4))) hint rfl)
  refine ks_wpAt_super_base (f := f) (cc := cda) (by rw [kd]; exact S.ks) (by rw [kd]; exact S.ns.frk _ (by simp)) (by decide) (by rw [eE]) (X_ _ _ lk) rfl har (by rw [eE]) (X_ _ _ hcda) rfl hvs hfile top ?_
  obtain ⟨mb, hb1, hb2⟩ := I.mod.blt
  refine PySem.W.ks_loadName_global kindF (by rw [kd]; exact S.ks) (Calls.loadGlobal_builtin (by rw [I.ok.glob]; exact I.mod.glob.keeps I.bk) sg (by rw [I.ok.blt]; exact hb1.keeps I.bk) ((hb2 "super" (by decide)).trans (by decide +kernel)) ⟨rfl, ?_⟩)
  refine wpAny_loadName_free kindF (by rw [kd]; exact S.ns.frk _ (by simp)) (by rw [eE]; rfl) ⟨_, X_ _ _ hcc, rfl⟩ ?_
  refine wpAny_loadName_local kindF (by rw [kd]; exact locS) hns mself ?_
  obtain ⟨hp', g, dr, tk, os⟩ := s
  refine ks_wpAny_isType_cls (X_ _ _ hC) hCd ⟨rfl, ?_⟩
  have notC : ∀ c, (PySem.Obj.data _ : Data) ≠ .cls c := fun c z => by
    have := J.no
    unfold PySem.W.notCls at this
    rw [z] at this
    exact Bool.noConfusion this
  refine ks_wpAny_call_super (X_ _ _ hC) hCd J.at_ J.cls notC (PySem.W.looks_mroIn X_ hmro) (fun h₂ so₂ k₂ => ?_)
  have I2 : Inv X [] σ H ⟨h₂, g, dr, tk, os⟩ := I.kept (t' := tk) k₂
  cases hcl : PySem.W.clsIn X.K D with
  | none => unfold PySem.W.ks_superIn at hsi; rw [hcl] at hsi; cases hsi
  | some cd =>
    unfold PySem.W.ks_superIn at hsi
    rw [hcl] at hsi
    obtain ⟨of, hof, hofc⟩ : ∃ of, h₂.get? f2 = some of ∧ of.cls = .type "function" := by
      have ht' : (X.K.lookup f2).map (·.cls) = some (.type "function") := hty
      cases z : X.K.lookup f2 with
      | none => rw [z] at ht'; cases ht'
      | some of => rw [z] at ht'; exact ⟨of, I2.kIn _ _ z, Option.some.inj ht'⟩
    have hne : a ≠ D := PySem.W.ks_ne X_ J hcl
    refine ks_wpAny_getMethod_super so₂ (PySem.W.looks_opaque I2.kIn ot) (l₀ := cd.mro) (fun A Q E s k q => wpAny_bind ((PySem.W.looks_clsIn I2.kIn hcl) A _ E s k (wpAny_pure q))) rfl I2.kIn hsi hof hofc hne (by decide) ?_
    have I3 : Inv X ((h₂.objs.size, PySem.W.methodObj (.ref f2) (.ref a)) :: []) σ H ⟨h₂.push (PySem.W.methodObj (.ref f2) (.ref a)), g, dr, tk + 1, os⟩ := ClX.met_new (s := ⟨h₂, g, dr, tk, os⟩) I2
    have hbq : X.base.get? h₂.objs.size = none := ClX.base_none I2 (Nat.le_refl _)
    have ha : PA X xs (liftA G W (wXs Γ es)) := (sndA es ck (by rw [eE]; exact agE_)).1
    -- the call itself
    have last : ∀ {us : List Value} {s4 : Shared} {vs : List V} {ys : List PV} {F4 H4 : Hp} {M4 : MHp}, Inv X ((h₂.objs.size, PySem.W.methodObj (.ref f2) (.ref a)) :: []) σ H4 s4 → Vals vs us → Ev F M H F4 M4 H4 → At G F4 M4 H4 → RepVs G F4 ys vs → T (.ref a :: ys) M4 (fun _ M3 => Q .non M3) E →
        wpAny (model X.prog X.w) X.A (call (.ref h₂.objs.size) us) (fun _ s5 => _root_.PySem.wpAt (model X.prog X.w) X.A (.func bd X.env) (execs [] X.env) R X.xe s5) X.xe s4 := by
      intro us s4 vs ys F4 H4 M4 I4 rv e4 A4 t4 q4
      refine wpAny_call (PySem.W.method_call (ClX.pin_at I4) (codeAny_mono (hF X.A X.stack s4 H4 (.ref a :: us) (.ref a :: vs) (fun _ H' => ∃ F5 M5, Ev F M H F5 M5 H' ∧ At G F5 M5 H' ∧ Q .non M5) (WE W σ) (ck.rm hcd) I4.env0 (.cons rfl rv) (callP A4 (.cons (.ref a) t4) (fun x F5 M5 H5 v e5 A5 r5 q5 => ⟨F5, M5, e4.trans e5, A5, q5⟩) (xw.on e4) q4)) fun r s5 hq => ?_))
      cases r with
      | error e => exact passAt ck.tk σ _ H4 s4 e s5 I4 hq
      | ok fl =>
        cases fl with
        | ret u =>
          obtain ⟨v, H5, I5, _, F5, M5, e5, A5, q5⟩ := I4.after hq
          exact _root_.PySem.wpAt_of_wpAny (wpAny_execs_nil (go F5 M5 H5 s5 e5 A5 (ClX.unpin I5) q5))
        | next => exact False.elim hq
        | brk => exact False.elim hq
        | cont => exact False.elim hq
    cases xs with
    | nil =>
      refine PySem.W.callWith_M0 (K := X.K) ⟨ClX.pin_at I3, I3.kIn⟩ hfi ?_
      exact last I3 .nil .refl A .nil (nl rfl _ _ _ _ hw)
    | cons e r =>
      have args := ha.run p4 _ _ σ H _ I3 (thenA A rs xw hw (Kn := fun vs H1 => ∃ F1 M1 ys, Ev F M H F1 M1 H1 ∧ At G F1 M1 H1 ∧ RepVs G F1 ys vs ∧ T (.ref a :: ys) M1 (fun _ M3 => Q .non M3) E) fun ys F1 M1 H1 vs e a _ _ r q => ⟨F1, M1, ys, e, a, r, q⟩)
      refine ClX.callwith_cm I3 hbq hfi (thn args fun us s4 ⟨vs, H4, I4, rv, F4, M4, ys, e4, A4, t4, q4⟩ => ⟨⟨ClX.pin_at I4, I4.kIn⟩, last I4 rv e4 A4 t4 q4⟩) (aok.st e r rfl) (aok.tail p4)
/-- such a def keeps what its body wishes -/
theorem fn_soundS (Fx : SupF P K C f st) (S : SupSt st N pv n va pb xs) (hn0 : 0 < n) (g : GmOk P w K mg base G Γ k) (hcd : Γ.cold = true) (her : G.er = none) (agP : agSs G.nm N (defScope st) pre pb = true) (agE_ : agEs G.nm N (defScope st) es xs = true) (pl : es.plain = true)
    (hs : SupOk P w K mg base G k C sup) (sg : mg "super" = none) (ot : PySem.W.nsIn K cStatics "thirdparty.any" = some none) : FnR P w K mg base (L2.CX P w) (k + 1) f (liftP G (bodyS Γ sup pre es N n va)) := by
  intro A outer s H us vs Q E hr e0 r ⟨F, xs0, M, Qb, Eb, At_, t, up, ex, front, rest, e1, hl1, hva, hz, q⟩
  subst e1
  obtain ⟨oc, od, name, qual, kV, doc, pm, an, cda, ct, cc, osl, lk, hcd2, ⟨ccl, cdd, vsd, ccs, file, tf, hcda, hvs, hfile⟩, cl, cld, csl, hcc⟩ := Fx.fn
  obtain ⟨p0, p1, p2, p4, p5, hl, hbody⟩ := S.body
  have KX : K.In s.heap := e0.mod.kin.keeps fun b o e => (e0.bs b o e).1
  have lim : s.heap.NoLimit := e0.mod.nolimit.keeps fun b o e => (e0.bs b o e).1
  obtain ⟨vf, vr, ev, t1, t2⟩ := RepVs.split t
  subst ev
  obtain ⟨uf, ur, eu, r1, r2⟩ := vals_split r
  subst eu
  have lf : uf.length = n := by rw [← r1.length, ← t1.length]; exact hl1
  -- behind the binding
  have fin : ∀ {hp1 : Heap} {tk1 : Nat} {H1 F1 : Hp} {us1 : List Value} {vs1 : List V} {xs1 : List PV}, (∀ b o, s.heap.get? b = some o → hp1.get? b = some o) → Un (frs outer) [] H H1 s.heap hp1 → HOk P w H1 hp1 → s.heap.objs.size ≤ hp1.objs.size → vs1.length = pv.length → Vals vs1 us1 →
      At G F1 M H1 → Ev F M H F1 M H1 → RepVs G F1 xs1 vs1 → wSs Γ pre (endsS Γ sup es Qb Eb) (startP N xs1) M →
      wpAny (model P w) A.in1 (newFunctionEnv (defScope st) mainGlobals [(("__class__" : Str), cc)] (pv.zip us1) (qual ++ ".<locals>.") (some f) (.ref cda) none builtinsNs)
        (fun env s₂ => s₂.heap.NoLimit ∧ codeAny (model P w) A (.func (defBody st) env) (CR (L2.CX P w) outer P w H s Q E) s₂) (fun e s' => CR (L2.CX P w) outer P w H s Q E (.error e) s') { s with heap := hp1, toks := tk1 } := by
    intro hp1 tk1 H1 F1 us1 vs1 xs1 kp1 un1 hok1 hsz hvl rv1 At1 Ev1 tt1 q1
    refine wpAny_newFunctionEnv S.ns.nocell (fun ⟨y, _⟩ hy => S.ns.par y (List.of_mem_zip hy).1) (fun h₁ hns hsb => ⟨(lim.keeps kp1).fresh _ hsb, ?_⟩) S.ns.kind
    have kp : ∀ b o, hp1.get? b = some o → h₁.get? b = some o := fun b o e => hsb.extBut b o (Nat.ne_of_lt (Heap.lt_size e)) (Heap.get?_push_of_some _ e)
    refine ks_codeAny_funcAt ?_
    have I : Inv (cxS P w K mg base N qual (defScope st) f (.ref cda) [(("__class__" : Str), cc)] A outer s H E hp1.objs.size) [] (L2.start N vs1) H1 { s with heap := h₁, toks := tk1 + (pv.zip us1).length } := inv_startS S.ns hr.hd e0 un1 hok1 hsz hvl rv1 hcc rfl hns kp
    have ck : Cok (cxS P w K mg base N qual (defScope st) f (.ref cda) [(("__class__" : Str), cc)] A outer s H E hp1.objs.size) G Γ k (fun cls d _ H => E cls d H) :=
      ⟨g, ⟨(hr.deeper _).dp, (hr.deeper _).un⟩, S.ns.nd, fun _ => ⟨rfl, hr.hd, her⟩, (fun h => by rw [hcd] at h; cases h), takes_of (X := cxS P w K mg base N qual (defScope st) f (.ref cda) [(("__class__" : Str), cc)] A outer s H E hp1.objs.size) (E := E) rfl rfl rfl rfl, passes_of (X := cxS P w K mg base N qual (defScope st) f (.ref cda) [(("__class__" : Str), cc)] A outer s H E hp1.objs.size) rfl⟩
    have bk : Bok (cxS P w K mg base N qual (defScope st) f (.ref cda) [(("__class__" : Str), cc)] A outer s H E hp1.objs.size) := ⟨rfl, rfl, fun x => .inr fun z => absurd rfl (S.ns.nocell _ (PySem.mem_of_lookup z))⟩
    show _root_.PySem.wpAt (model P w) (cxS P w K mg base N qual (defScope st) f (.ref cda) [(("__class__" : Str), cc)] A outer s H E hp1.objs.size).A (.func (defBody st) (cxS P w K mg base N qual (defScope st) f (.ref cda) [(("__class__" : Str), cc)] A outer s H E hp1.objs.size).env) (execs (defBody st) (cxS P w K mg base N qual (defScope st) f (.ref cda) [(("__class__" : Str), cc)] A outer s H E hp1.objs.size).env) _
      (cxS P w K mg base N qual (defScope st) f (.ref cda) [(("__class__" : Str), cc)] A outer s H E hp1.objs.size).xe _
    rw [show execs (defBody st) (cxS P w K mg base N qual (defScope st) f (.ref cda) [(("__class__" : Str), cc)] A outer s H E hp1.objs.size).env = execs (pb ++ [.Expr (.Call (.Attribute (.Call (.Name "super" p0) [] [] p1) "__init__" p2) xs [] p4) p5]) (cxS P w K mg base N qual (defScope st) f (.ref cda) [(("__class__" : Str), cc)] A outer s H E hp1.objs.size).env from by rw [hbody]]
    refine wpAt_execs_app ?_
    refine wpAny_mono ((sndSs pre ck bk agP).run [] _ (L2.start N vs1) H1 { nx := fun σ2 H2 => ∃ F2 M2 τ2, Ev F M H F2 M2 H2 ∧ At G F2 M2 H2 ∧ RelS G F2 τ2 σ2 ∧ (endsS Γ sup es Qb Eb).nx τ2 M2, rt := fun _ _ => False } I
      ⟨F1, _, M, endsS Γ sup es Qb Eb, At1, start_rel tt1, ⟨fun τ1 F2 M2 H2 σ1 e a rs q => ⟨F2, M2, τ1, Ev1.trans e, a, rs, q⟩, fun _ _ _ _ _ _ _ _ z => z.elim, fun _ _ _ _ _ _ _ _ z => z.elim, fun _ _ _ _ _ _ _ _ z => z.elim, fun c fs τ1 F2 M2 H2 σ1 cls d e a rs x q => ex c fs F2 M2 H2 cls d (Ev1.trans e) a x q⟩, q1⟩) (fun fl s3 h3 => ?_) fun e s3 h3 => h3
    cases fl with
    | ret u => obtain ⟨_, _, _, _, _, z⟩ := h3; exact z.elim
    | brk => obtain ⟨_, _, _, z⟩ := h3; exact z.elim
    | cont => obtain ⟨_, _, _, z⟩ := h3; exact z.elim
    | next =>
      obtain ⟨σ3, H3, I3, F3, M3, τ3, e3, A3, rs3, q3⟩ := h3
      refine sup_line ck hcd rfl rfl S rfl hn0 Fx.top Fx.isC lk hcda hvs hfile hcc hl agE_ pl hs sg ot I3 A3 rs3 (fun c fs F4 M4 H4 cls d e4 a4 x4 q4 => ex c fs F4 M4 H4 cls d (e3.trans e4) a4 x4 q4) (fun F4 M4 H4 s4 e4 a4 J q4 => ?_) q3
      exact (show CE outer P w H s Q Value.none s4 from ⟨.non, H4, J.os, J.bare, J.base, J.hok, rfl, up .non F4 M4 H4 .non (e3.trans e4) a4 .non q4⟩)
  refine codeAny_call_function hr.depth (KX _ _ lk) rfl S.ns.co S.ns.gen rfl (PySem.W.codeRec_of KX hcd2) ?_
  cases va with
  | false =>
    have er := hva rfl
    subst er
    cases t2
    cases r2
    rw [List.append_nil, S.b0 rfl _ _ _ _ _ _ _ _ _ uf lf]
    refine wpAny_pure ?_
    exact fin (tk1 := s.toks) (fun _ _ e => e) Un.refl e0.hok (Nat.le_refl _) (by rw [r1.length, lf, S.len]; rfl) r1 At_ .refl t1 (by simpa using q)
  | true =>
    rw [S.b1 rfl _ _ _ _ _ _ _ _ _ uf ur lf]
    have zr : ur.length ≤ sizeLine := by rw [← r2.length, ← t2.length]; exact hz
    refine wpAny_bind (wpAny_newTuple (wpAny_pure ?_) zr)
    have hf : H s.heap.objs.size = none := e0.hok.fresh (Nat.le_refl _)
    obtain ⟨A2, E2⟩ := At_.newF (o := .tup vr) hf
    have kp : ∀ b o, s.heap.get? b = some o → (s.heap.push { cls := .type "tuple", data := .seq ur.toArray }).get? b = some o := fun b o e => Heap.get?_push_of_some _ e
    refine fin (tk1 := s.toks) (hp1 := s.heap.push { cls := .type "tuple", data := .seq ur.toArray }) (H1 := upd H s.heap.objs.size (.tup vr)) (F1 := upd F s.heap.objs.size (.tup vr)) (vs1 := vf ++ [.ref s.heap.objs.size]) (xs1 := front ++ [.tup rest]) kp (Un.laid kp (Nat.le_refl _) hf) (e0.hok.laid kp (Nat.le_refl _) ?_) ?_ ?_ (r1.append (.cons (show RelV (V.ref s.heap.objs.size) (Value.ref s.heap.objs.size) from rfl) .nil)) A2 E2 ((t1.mono E2.sub).append (.cons ?_ .nil)) (by simpa using q)
    · exact ⟨by rw [r2.length]; exact zr, ur, r2, ⟨_, Heap.get?_push_size _ rfl, rfl, _, rfl⟩⟩
    · rw [Heap.size_push]; exact Nat.le_succ _
    · rw [List.length_append, r1.length, lf, S.len]; rfl
    · exact .tup (.inl (.inl upd_same)) (t2.mono E2.sub)
end
end Nb

/-! NbD -/
set_option Elab.async false
set_option linter.all false
set_option maxRecDepth 100000
set_option maxHeartbeats 4000000
/-! NbD: classes over own classes, from the head's facts. -/
namespace Nb
open PySem PySem.Spec L2 L2H NbX He NdefX
open PyProof.Rows hiding St
/-- the arguments of the last line's call -/
def lastArgs : List Stmt → List Expr
  | [] => []
  | [.Expr (.Call _ xs _ _) _] => xs
  | _ :: r => lastArgs r
theorem supF_ok {prog : Program} {K : PySem.W.Frag} {x : Str} {d : IniD} (i : (Nf.sini x prog.main.file).ok K = true) (e : fnX K d.at_ = d.val) (hd : d.at_ = x) (top : (prog.main.scope.names.lookup ("super" : Str)).isSome = false) : SupF prog K (ga K x) (ma K (ga K x) "__init__") d.st := by
  obtain ⟨i1, i2⟩ := and2 i
  refine ⟨top, ?_, ?_⟩
  · unfold PySem.W.clsIn at i2
    split at i2
    · rename_i a b cd sl ho
      exact ⟨_, cd, ho, rfl⟩
    · cases i2
  subst hd
  unfold iniB at i1
  unfold fnX at e
  cases z : K.lookup (ma K (ga K d.at_) "__init__") with
  | none => rw [z] at i1; cases i1
  | some o =>
    obtain ⟨oc, od, dt, osl⟩ := o
    rw [z] at i1 e
    cases dt with
    | func fd =>
      obtain ⟨n1, n2, n3, n4, n5, n6, n7, n8, n9, n10, n11, n12, n13, n14, n15⟩ := fd
      have e2 : (some (n3, n4, n5, n6, n7.map (·.1), n8, n15) : FnX) = some (defArgs d.st, FuncBody.stmts (defBody d.st), defScope d.st, mainGlobals, [("__class__" : Str)], Value.none, builtinsNs) := e
      simp only [Option.some.injEq, Prod.mk.injEq] at e2
      obtain ⟨h1, h2, h3, h4, h5, h6, h7⟩ := e2
      subst h1 h2 h3 h4 h6 h7
      have i1' : cloB K (ga K d.at_) n2 prog.main.file n13 n7 = true := i1
      match n13, n7, i1', h5, z with
      | .ref cda, [(y, cc)], i1', h5, z =>
        obtain ⟨j1, j⟩ := ba i1'
        obtain ⟨j2, j3⟩ := ba j
        have ey : y = ("__class__" : Str) := by simpa using h5
        subst ey
        obtain ⟨ccl, cdd, vs, ccs, tf, hcd, hvs⟩ := fileB_ok j2
        obtain ⟨cl, cld, csl, hcc⟩ := cellB_ok j3
        exact ⟨_, _, n1, n2, n9, n10, n11, n12, cda, n14, cc, _, rfl, j1, ⟨ccl, cdd, vs, ccs, _, tf, hcd, hvs, by simp⟩, cl, cld, csl, hcc⟩
    | _ => cases i1
/-! ### *names bound -/
theorem stand_none : notAStandIn Value.none = pure () := rfl
theorem bind_va1 {fd : FuncData} {pv : List Str} {a b : Arg} {u : Value} {rest : List Value} (h1 : fd.params = ⟨[], [a], some b, [], [], none, []⟩) (h2 : fd.defaults = .none) (hp : pv = [a.arg, b.arg]) : bindArgs fd ⟨[u] ++ rest, []⟩ = (newTuple rest >>= fun t => pure (pv.zip ([u] ++ [t]))) := by
  subst hp
  unfold bindArgs
  rw [h1, h2]
  simp [seqItems?, stand_none]
theorem bind_va2 {fd : FuncData} {pv : List Str} {a a2 b : Arg} {u u2 : Value} {rest : List Value} (h1 : fd.params = ⟨[], [a, a2], some b, [], [], none, []⟩) (h2 : fd.defaults = .none) (hp : pv = [a.arg, a2.arg, b.arg]) (ne : (a2.arg == a.arg) = false) : bindArgs fd ⟨[u, u2] ++ rest, []⟩ = (newTuple rest >>= fun t => pure (pv.zip ([u, u2] ++ [t]))) := by
  subst hp
  have nq : ¬ a2.arg = a.arg := by simpa using ne
  unfold bindArgs
  rw [h1, h2]
  simp [seqItems?, stand_none, List.lookup, ne, nq]
section
variable {D : Dt} {fa : List Nf} {fn : List DefD} {ini : List IniD} {P : Program} {w : World} {K : PySem.W.Frag} {mg : Str → Option Value} {base h : Heap} {j k : Nat} {Γ : Gm} {q : Str} {st : Stmt} {N ps pv : List Str} {s pre : Sms} {es : Exs} {cI n : Nat} {va : Bool} {pb : List Stmt} {xs : List Expr} {S : BP}
/-- an __init__ without super, as a promise -/
theorem fnr_def (g : GmOk P w K mg base (D.G K) Γ k) (hcd : Γ.cold = true) (c : SaysN fa fn ini K) (i : Nat) {x m : Str} (hi : fn[i]? = some ⟨(x, some m), m, q, defArgs st, defBody st, defScope st, [], []⟩)
    (Sc : FnScope N ps (defScope st)) (bd : ∀ (kV doc pm : Value) (an : Option Addr) (cdv ct : Value) (us : List Value), us.length = ps.length → bindArgs (PySem.W.fnOf m q (defArgs st) (defBody st) (defScope st) .none kV doc pm an cdv ct) ⟨us, []⟩ = pure (ps.zip us))
    (ag : agSs D.nm N (defScope st) s (defBody st) = true) (hw : ∀ xs M Q E, S xs M Q E → bodyP Γ s N ps.length xs M Q E) : FnR P w K mg base (L2.CX P w) (k + 1) (ma K (ga K x) m) (liftP (D.G K) S) := by
  obtain ⟨fd, F⟩ := c.def_ i hi
  have Fn : Fun K m q st (ma K (ga K x) m) fd := fun_of F
  exact fnR_of (FnOk.of (fn_sound Fn Sc g hcd rfl ag) hw) (Fn.binds bd)
/-- .. with super -/
theorem fnr_sup (g : GmOk P w K mg base (D.G K) Γ k) (hcd : Γ.cold = true) (KX : K.In h) (Gn : h.Ns mainGlobals mg) (c : SaysN fa fn ini K) (hfa : ∀ f ∈ D.fa, f ∈ fa) (top : (P.main.scope.names.lookup ("super" : Str)).isSome = false) (i : Nat) {x : Str} (hi : ini[i]? = some ⟨x, st⟩) (hm : Nf.sini x P.main.file ∈ fa)
    (T : SupSt st N pv n va pb xs) (hn0 : 0 < n) (agP : agSs D.nm N (defScope st) pre pb = true) (agE_ : agEs D.nm N (defScope st) es xs = true) (pl : es.plain = true) {sup : Nat → Option BP} (hs : SupOk P w K mg base (D.G K) k (ga K x) sup)
    (hw : ∀ xs M Q E, S xs M Q E → bodyS Γ sup pre es N n va xs M Q E) : FnR P w K mg base (L2.CX P w) (k + 1) (ma K (ga K x) "__init__") (liftP (D.G K) S) := by
  have st0 : Nf.stat.ok K = true := c.fact (hfa _ (fa_of 11 rfl (by simp)))
  have sg : mg "super" = none := free_ok KX Gn (x := "super") (c.fact (f := .free "super") (hfa _ (fa_of 11 rfl (by simp))))
  exact (fn_soundS (supF_ok (d := ⟨x, st⟩) (c.fact hm) (c.ini_ i hi) rfl top) T hn0 g hcd rfl agP agE_ pl hs sg (eqO_ok st0)).imp (liftP_imp hw)
/-- which __init__ comes next -/
theorem supOk_of (c : SaysN fa fn ini K) {x y : Str} {T : BP} (ds : List Nat) (h : ∀ d ∈ ds, (D.cls.lookup d).isSome = true ∧ Nf.supr (D.nm d) x y ∈ fa) (F : FnR P w K mg base (L2.CX P w) k (ma K (ga K y) "__init__") (liftP (D.G K) T)) :
    SupOk P w K mg base (D.G K) k (ga K x) (fun d => if d ∈ ds then some T else none) := by
  intro d T' q
  have q : (if d ∈ ds then some T else none) = some T' := q
  split at q
  · rename_i hd
    cases q
    obtain ⟨h1, h2⟩ := h d hd
    obtain ⟨q1, q⟩ := and2 (c.fact h2)
    obtain ⟨q2, q⟩ := and2 q
    obtain ⟨q3, q4⟩ := and2 q
    exact ⟨_, _, D.cl_of K h1, of_decide_eq_true q2, eqO_ok q1, of_decide_eq_true q3, q4, F⟩
  · cases q
/-- a class is made by such an __init__ -/
theorem gm_ini (g : GmOk P w K mg base (D.G K) Γ (j + 1)) (hcd : Γ.cold = true) (KX : K.In h) (Gn : h.Ns mainGlobals mg) (c : SaysN fa fn ini K) (hfa : ∀ f ∈ D.fa, f ∈ fa) {x : Str} (hm : Nf.mkr x ∈ fa) (hn : D.nm cI = x) (hc : D.cls.lookup cI = some false) (F : FnR P w K mg base (L2.CX P w) j (ma K (ga K x) "__init__") (liftP (D.G K) S)) : GmOk P w K mg base (D.G K) (Γ.addI cI S) (j + 1) := by
  subst hn
  exact g.addI hcd (D.cl_of K (by rw [hc]; rfl)) (glo_cls KX Gn c hfa hc) (mkr_ok (c.fact (f := .mkr (D.nm cI)) hm)) F (Nat.le_refl _)
/-- == and str that a class has from another -/
theorem gm_eqI (g : GmOk P w K mg base (D.G K) Γ (j + 2)) (hcd : Γ.cold = true) (c : SaysN fa fn ini K) (hfa : ∀ f ∈ D.fa, f ∈ fa) {x y : Str} (hm : Nf.meth x "__eq__" ∈ fa) (hi : Nf.inh x "__eq__" y ∈ fa) (hn : D.nm cI = x) (hc : D.cls.lookup cI = some false) (F : FnR P w K mg base (L2.CX P w) j (ma K (ga K y) "__eq__") (liftP (D.G K) S)) : GmOk P w K mg base (D.G K) (Γ.addE cI S) (j + 2) := by
  subst hn
  have e := of_decide_eq_true (c.fact hi)
  rw [← e] at F
  exact g.addE hcd (D.cl_of K (by rw [hc]; rfl)) (cls_cls c hfa hc) (meth_ok (c.fact (f := .meth (D.nm cI) "__eq__") hm)) F (Nat.le_refl _)
theorem gm_stI (g : GmOk P w K mg base (D.G K) Γ (j + 2)) (hcd : Γ.cold = true) (c : SaysN fa fn ini K) (hfa : ∀ f ∈ D.fa, f ∈ fa) {x y : Str} (hm : Nf.meth x "__str__" ∈ fa) (hi : Nf.inh x "__str__" y ∈ fa) (hn : D.nm cI = x) (hc : D.cls.lookup cI = some false) (F : FnR P w K mg base (L2.CX P w) j (ma K (ga K y) "__str__") (liftP (D.G K) S)) : GmOk P w K mg base (D.G K) (Γ.addT cI S) (j + 2) := by
  subst hn
  have e := of_decide_eq_true (c.fact hi)
  rw [← e] at F
  exact g.addT hcd (D.cl_of K (by rw [hc]; rfl)) (cls_cls c hfa hc) (meth_ok (c.fact (f := .meth (D.nm cI) "__str__") hm)) F (Nat.le_refl _)
end
end Nb

/-! NbE -/
set_option Elab.async false
set_option linter.all false
set_option maxRecDepth 100000
set_option maxHeartbeats 4000000
/-! NbE: the part of the heap that names reach: for long tops (no list is searched for doubles). -/
namespace Nb
open PySem PySem.Spec L2 L2H NbX He
open PyProof.Rows hiding St
end Nb

/-! NbF -/
set_option Elab.async false
set_option linter.all false
set_option maxRecDepth 100000
set_option maxHeartbeats 4000000
/-! NbF: the steps as instances: one step is one search by the goal's head. -/
namespace Nb
open PySem PySem.Spec L2
open PyProof.Rows hiding St
/-- from the new wish to the old one -/
class Stp (G : Prop) (N : outParam Prop) : Prop where go : N → G
theorem stp_go {G N : Prop} [s : Stp G N] (h : N) : G := s.go h
/-- a slot's value; a thing's content; apartness; a slot set; what the environment has -/
class Slt (τ : Sl) (i : Nat) (x : outParam PV) : Prop where h : τ[i]? = some (some x)
class Mem (M : MHp) (a : Addr) (o : outParam MO) : Prop where h : M a = some o
class NeA (a b : Addr) : Prop where h : a ≠ b
class Cold (Γ : Gm) : Prop where h : Γ.cold = true
class FnIs (Γ : Gm) (n : Nat) (S : outParam BP) : Prop where h : Γ.fn n = some S
class XcIs (Γ : Gm) (c : Nat) (f : outParam Nat) : Prop where h : Γ.xc c = some (some f)
class GlIs (Γ : Gm) (n : Nat) (x : outParam PV) : Prop where h : Γ.gl n = some x
class FldIs (Γ : Gm) (c f : Nat) : Prop where h : Γ.fld c f = true
class Lkp (fs : List (Nat × PV)) (f : Nat) (v : outParam PV) : Prop where h : fs.lookup f = some v
class SetS (τ : Sl) (i : Nat) (x : Option PV) (τ' : outParam Sl) : Prop where h : τ.set i x = τ'
/-- the locals, as a list written out -/
class Nrm (τ : Sl) (τ' : outParam Sl) : Prop where h : τ = τ'
class TyIs (x : PV) (t : outParam String) : Prop where h : ∀ Γ M, tyOf Γ M x = some (.inl t)
class TyB (a b : String) (k : outParam Bool) : Prop where h : tyB a b = some k
instance {x : PV} {τ : Sl} : Slt (some x :: τ) 0 x := ⟨rfl⟩
instance {y : Option PV} {τ : Sl} {i : Nat} {x : PV} [s : Slt τ i x] : Slt (y :: τ) (i + 1) x := ⟨s.h⟩
instance {M : MHp} {a : Addr} {o : MO} : Mem (ms M a o) a o := ⟨ms_same⟩
instance {M : MHp} {a b : Addr} {o u : MO} [n : NeA a b] [m : Mem M a o] : Mem (ms M b u) a o := ⟨(ms_ne n.h).trans m.h⟩
instance {x y : Option PV} {τ : Sl} : SetS (y :: τ) 0 x (x :: τ) := ⟨rfl⟩
instance {x y : Option PV} {τ τ' : Sl} {i : Nat} [s : SetS τ i x τ'] : SetS (y :: τ) (i + 1) x (y :: τ') := ⟨congrArg (y :: ·) s.h⟩
instance {y : Option PV} {τ : Sl} : Nrm (y :: τ) (y :: τ) := ⟨rfl⟩
instance {x : Option PV} {τ τ' τ'' : Sl} {i : Nat} [n : Nrm τ τ'] [s : SetS τ' i x τ''] : Nrm (τ.set i x) τ'' := ⟨by rw [n.h]; exact s.h⟩
instance {f : Nat} {v : PV} {fs : List (Nat × PV)} : Lkp ((f, v) :: fs) f v := ⟨by simp⟩
instance : TyIs .non "NoneType" := ⟨fun _ _ => rfl⟩
instance {b : Bool} : TyIs (.bl b) "bool" := ⟨fun _ _ => rfl⟩
instance {i : Int} : TyIs (.int i) "int" := ⟨fun _ _ => rfl⟩
instance {z : Str} : TyIs (.str z) "str" := ⟨fun _ _ => rfl⟩
instance {xs : List PV} : TyIs (.tup xs) "tuple" := ⟨fun _ _ => rfl⟩
instance {xs : List PV} : TyIs (.lst xs) "list" := ⟨fun _ _ => rfl⟩
instance : TyB "NoneType" "bool" false := ⟨by decide⟩
instance : TyB "NoneType" "int" false := ⟨by decide⟩
instance : TyB "NoneType" "str" false := ⟨by decide⟩
instance : TyB "NoneType" "tuple" false := ⟨by decide⟩
instance : TyB "NoneType" "list" false := ⟨by decide⟩
instance : TyB "bool" "bool" true := ⟨by decide⟩
instance : TyB "bool" "int" true := ⟨by decide⟩
instance : TyB "bool" "str" false := ⟨by decide⟩
instance : TyB "bool" "tuple" false := ⟨by decide⟩
instance : TyB "bool" "list" false := ⟨by decide⟩
instance : TyB "int" "bool" false := ⟨by decide⟩
instance : TyB "int" "int" true := ⟨by decide⟩
instance : TyB "int" "str" false := ⟨by decide⟩
instance : TyB "int" "tuple" false := ⟨by decide⟩
instance : TyB "int" "list" false := ⟨by decide⟩
instance : TyB "str" "bool" false := ⟨by decide⟩
instance : TyB "str" "int" false := ⟨by decide⟩
instance : TyB "str" "str" true := ⟨by decide⟩
instance : TyB "str" "tuple" false := ⟨by decide⟩
instance : TyB "str" "list" false := ⟨by decide⟩
instance : TyB "tuple" "bool" false := ⟨by decide⟩
instance : TyB "tuple" "int" false := ⟨by decide⟩
instance : TyB "tuple" "str" false := ⟨by decide⟩
instance : TyB "tuple" "tuple" true := ⟨by decide⟩
instance : TyB "tuple" "list" false := ⟨by decide⟩
instance : TyB "list" "bool" false := ⟨by decide⟩
instance : TyB "list" "int" false := ⟨by decide⟩
instance : TyB "list" "str" false := ⟨by decide⟩
instance : TyB "list" "tuple" false := ⟨by decide⟩
instance : TyB "list" "list" true := ⟨by decide⟩
section
variable {Γ : Gm} {mu : Bool} {τ : Sl} {M : MHp} {Q : BV} {Qt : Bool → MHp → Prop} {E : BX} {D : BD} {r : Sms}
instance {n : Int}  : Stp ((wX Γ mu (.k (.int n))).1 τ M Q E) (Q (.int n) M) := ⟨r_ki⟩
instance {z : Str}  : Stp ((wX Γ mu (.k (.str z))).1 τ M Q E) (Q (.str z) M) := ⟨r_ks⟩
instance {b : Bool}  : Stp ((wX Γ mu (.k (.bl b))).1 τ M Q E) (Q (.bl b) M) := ⟨r_kb⟩
instance  : Stp ((wX Γ mu (.k .non)).1 τ M Q E) (Q .non M) := ⟨r_kn⟩
instance {op : Operator} {a c : Ex}  : Stp ((wX Γ mu (.bin op a c)).1 τ M Q E) ((wX Γ false a).1 τ M (fun x M1 => (wX Γ false c).1 τ M1 (fun y M2 => binR mu op x y M2 Q) E) E) := ⟨r_bin⟩
instance {op : UnaryOp} {a : Ex}  : Stp ((wX Γ mu (.un op a)).1 τ M Q E) ((wX Γ false a).1 τ M (fun x M1 => unR op x M1 Q) E) := ⟨r_un⟩
instance {op : CmpOp} {a c : Ex}  : Stp ((wX Γ mu (.cmp op a c)).1 τ M Q E) ((wX Γ false a).1 τ M (fun x M1 => (wX Γ false c).1 τ M1 (fun y M2 => cmpR op x y M2 Q) E) E) := ⟨r_cmp⟩
instance {o1 o2 : CmpOp} {a b c : Ex}  : Stp ((wX Γ mu (.chn o1 o2 a b c)).1 τ M Q E) ((wX Γ false a).1 τ M (fun x M1 => (wX Γ false b).1 τ M1 (fun y M2 => cmpR o1 x y M2 fun z M3 => ∃ k, z = .bl k ∧ ((k = true → (wX Γ false c).1 τ M3 (fun w M4 => cmpR o2 y w M4 Q) E) ∧ (k = false → Q (.bl false) M3))) E) E) := ⟨r_chn⟩
instance {es : Exs}  : Stp ((wX Γ mu (.and es)).1 τ M Q E) (wAndV Γ es τ M Q E) := ⟨r_and⟩
instance {es : Exs}  : Stp ((wX Γ mu (.or es)).1 τ M Q E) (wOrV Γ es τ M Q E) := ⟨r_or⟩
instance {t a c : Ex}  : Stp ((wX Γ mu (.ife t a c)).1 τ M Q E) ((wX Γ false t).2 τ M (fun k M1 => (k = true → (wX Γ false a).1 τ M1 Q E) ∧ (k = false → (wX Γ false c).1 τ M1 Q E)) E) := ⟨r_ife⟩
instance {es : Exs}  : Stp ((wX Γ mu (.tup es)).1 τ M Q E) (wXs Γ es τ M (fun xs M1 => xs.length ≤ sizeLine ∧ Q (.tup xs) M1) E) := ⟨r_tup⟩
instance {es : Exs}  : Stp ((wX Γ false (.lst es)).1 τ M Q E) (wXs Γ es τ M (fun xs M1 => xs.length ≤ sizeLine ∧ Q (.lst xs) M1) E) := ⟨r_lst⟩
instance {es : Exs}  : Stp ((wX Γ true (.lst es)).1 τ M Q E) (wXs Γ es τ M (fun xs M1 => xs.length ≤ sizeLine ∧ ∀ a, M1 a = none → Q (.ref a) (ms M1 a (.lst xs))) E) := ⟨r_lstm⟩
instance {a i : Ex}  : Stp ((wX Γ mu (.sub a i)).1 τ M Q E) ((wX Γ false a).1 τ M (fun x M1 => (wX Γ false i).1 τ M1 (fun y M2 => ixR x y M2 Q) E) E) := ⟨r_sub⟩
instance {a : Ex} {lo hi : Exo}  : Stp ((wX Γ mu (.sl a lo hi)).1 τ M Q E) ((wX Γ false a).1 τ M (fun x M1 => wO Γ lo τ M1 (fun l M2 => wO Γ hi τ M2 (fun h M3 => slR mu x l h M3 Q) E) E) E) := ⟨r_sl⟩
instance {a : Ex} {f : Nat}  : Stp ((wX Γ mu (.att a f)).1 τ M Q E) ((wX Γ false a).1 τ M (fun x M1 => attR Γ x f M1 Q) E) := ⟨r_att⟩
instance {o : Ex} {m : Nat} {es : Exs}  : Stp ((wX Γ mu (.met o m es)).1 τ M Q E) ((wX Γ false o).1 τ M (fun x M1 => ∃ c fs S, insOf M1 x = some (c, fs) ∧ fs.lookup m = none ∧ Γ.mt c m = some S ∧ wXs Γ es τ M1 (fun xs M2 => S (x :: xs) M2 Q E) E) E) := ⟨r_met⟩
instance {f : Bf} {es : Exs}  : Stp ((wX Γ mu (.bi f es)).1 τ M Q E) (wXs Γ es τ M (fun xs M1 => biR Γ mu f xs M1 Q) E) := ⟨r_bi⟩
instance {o : Ex} {f : Bm} {es : Exs}  : Stp ((wX Γ mu (.bm o f es)).1 τ M Q E) ((wX Γ false o).1 τ M (fun x M1 => bmT f x M1 ∧ wXs Γ es τ M1 (fun xs M2 => bmR x f xs M2 Q) E) E) := ⟨r_bm⟩
instance {a : Ex} {cs : List Cc}  : Stp ((wX Γ mu (.isi a cs)).1 τ M Q E) ((wX Γ false a).1 τ M (fun x M1 => ∃ t k, tyOf Γ M1 x = some t ∧ cs.all (knC Γ) = true ∧ isiR Γ t cs = some k ∧ Q (.bl k) M1) E) := ⟨r_isi⟩
instance {ne : Bool} {a b : Ex}  : Stp ((wX Γ mu (.oeq ne a b)).1 τ M Q E) ((wX Γ false a).1 τ M (fun x M1 => (wX Γ false b).1 τ M1 (fun y M2 => oeqR Γ ne x y M2 Q) E) E) := ⟨r_oeq⟩
instance {a : Ex}  : Stp ((wX Γ mu (.ostr a)).1 τ M Q E) ((wX Γ false a).1 τ M (fun x M1 => ostR Γ x M1 Q) E) := ⟨r_ostr⟩
instance {e : Ex}  : Stp ((wX Γ mu (.m e)).1 τ M Q E) ((wX Γ true e).1 τ M Q E) := ⟨r_m⟩
instance {e : Ex}  : Stp ((wX Γ mu (.fz e)).1 τ M Q E) ((wX Γ true e).1 τ M (fun x M1 => freezeR x M1 Q) E) := ⟨r_fz⟩
instance {Qs : List PV → MHp → Prop}  : Stp (wXs Γ .nil τ M Qs E) (Qs [] M) := ⟨r_nil⟩
instance {e : Ex} {es : Exs} {Qs : List PV → MHp → Prop}  : Stp (wXs Γ (.cons e es) τ M Qs E) ((wX Γ false e).1 τ M (fun x M1 => wXs Γ es τ M1 (fun xs M2 => Qs (x :: xs) M2) E) E) := ⟨r_cons⟩
instance {Qo : Option Int → MHp → Prop}  : Stp (wO Γ .no τ M Qo E) (Qo none M) := ⟨r_ono⟩
instance {e : Ex} {Qo : Option Int → MHp → Prop}  : Stp (wO Γ (.yes e) τ M Qo E) ((wX Γ false e).1 τ M (fun x M1 => ∃ i, x = .int i ∧ Qo (some i) M1) E) := ⟨r_oyes⟩
instance {e : Ex}  : Stp (wAndV Γ (.cons e .nil) τ M Q E) ((wX Γ false e).1 τ M Q E) := ⟨r_and1⟩
instance {e e2 : Ex} {es : Exs}  : Stp (wAndV Γ (.cons e (.cons e2 es)) τ M Q E) ((wX Γ false e).1 τ M (fun x M1 => ∃ k, x = .bl k ∧ ((k = true → wAndV Γ (.cons e2 es) τ M1 Q E) ∧ (k = false → Q (.bl false) M1))) E) := ⟨r_and2⟩
instance {e : Ex}  : Stp (wOrV Γ (.cons e .nil) τ M Q E) ((wX Γ false e).1 τ M Q E) := ⟨r_or1⟩
instance {e e2 : Ex} {es : Exs}  : Stp (wOrV Γ (.cons e (.cons e2 es)) τ M Q E) ((wX Γ false e).1 τ M (fun x M1 => ∃ k, x = .bl k ∧ ((k = true → Q (.bl true) M1) ∧ (k = false → wOrV Γ (.cons e2 es) τ M1 Q E))) E) := ⟨r_or2⟩
instance {i j : Int}  : Stp (binR mu .Add (.int i) (.int j) M Q) (Q (.int (i + j)) M) := ⟨o_addi⟩
instance {i j : Int}  : Stp (binR mu .Sub (.int i) (.int j) M Q) (Q (.int (i - j)) M) := ⟨o_sub⟩
instance {i : Int}  : Stp (unR .USub (.int i) M Q) (Q (.int (-i)) M) := ⟨o_neg⟩
instance {i j : Int}  : Stp (cmpR .Eq (.int i) (.int j) M Q) (Q (.bl (decide (i = j))) M) := ⟨o_eqi⟩
instance {i j : Str}  : Stp (cmpR .Eq (.str i) (.str j) M Q) (Q (.bl (decide (i = j))) M) := ⟨o_eqs⟩
instance {i j : Bool}  : Stp (cmpR .Eq (.bl i) (.bl j) M Q) (Q (.bl (i == j)) M) := ⟨o_eqb⟩
instance {i j : Int}  : Stp (cmpR .NotEq (.int i) (.int j) M Q) (Q (.bl (!decide (i = j))) M) := ⟨o_nei⟩
instance {i j : Str}  : Stp (cmpR .NotEq (.str i) (.str j) M Q) (Q (.bl (!decide (i = j))) M) := ⟨o_nes⟩
instance {i j : Bool}  : Stp (cmpR .NotEq (.bl i) (.bl j) M Q) (Q (.bl (!(i == j))) M) := ⟨o_neb⟩
instance {i j : Int}  : Stp (cmpR .Lt (.int i) (.int j) M Q) (Q (.bl (decide (i < j))) M) := ⟨o_lt⟩
instance {i j : Int}  : Stp (cmpR .LtE (.int i) (.int j) M Q) (Q (.bl (decide (i ≤ j))) M) := ⟨o_le⟩
instance {i j : Int}  : Stp (cmpR .Gt (.int i) (.int j) M Q) (Q (.bl (decide (j < i))) M) := ⟨o_gt⟩
instance {i j : Int}  : Stp (cmpR .GtE (.int i) (.int j) M Q) (Q (.bl (decide (j ≤ i))) M) := ⟨o_ge⟩
instance {xs : List PV}  : Stp (biR Γ mu .len [.tup xs] M Q) (Q (.int (xs.length : Nat)) M) := ⟨b_lent⟩
instance {xs : List PV}  : Stp (biR Γ mu .len [.lst xs] M Q) (Q (.int (xs.length : Nat)) M) := ⟨b_lenl⟩
instance {xs : List PV}  : Stp (biR Γ mu .len [.kl xs] M Q) (Q (.int (xs.length : Nat)) M) := ⟨b_lenk⟩
instance {i : Int}  : Stp (biR Γ mu .int [.int i] M Q) (Q (.int i) M) := ⟨b_int⟩
instance {xs : List PV}  : Stp (biR Γ mu .list [.kl xs] M Q) (newL mu xs M Q) := ⟨b_listk⟩
instance {xs : List PV}  : Stp (biR Γ mu .list [.tup xs] M Q) (newL mu xs M Q) := ⟨b_listt⟩
instance {xs : List PV}  : Stp (biR Γ mu .list [.lst xs] M Q) (newL mu xs M Q) := ⟨b_listl⟩
instance {xs : List PV}  : Stp (biR Γ mu .tuple [.lst xs] M Q) (Q (.tup xs) M) := ⟨b_tupl⟩
instance {xs : List PV}  : Stp (biR Γ mu .tuple [.tup xs] M Q) (Q (.tup xs) M) := ⟨b_tupt⟩
instance {i : Int}  : Stp (biR Γ mu .abs [.int i] M Q) (Q (.int (if i < 0 then -i else i)) M) := ⟨b_abs⟩
instance {xs : List PV}  : Stp (newL true xs M Q) (∀ a, M a = none → Q (.ref a) (ms M a (.lst xs))) := ⟨n_t⟩
instance {xs : List PV}  : Stp (newL false xs M Q) (Q (.lst xs) M) := ⟨n_f⟩
instance {b : Bool} {p : Bool → Prop}  : Stp (∃ k, PV.bl b = .bl k ∧ p k) (p b) := ⟨e_bl⟩
instance {b : Int} {p : Int → Prop}  : Stp (∃ k, PV.int b = .int k ∧ p k) (p b) := ⟨e_int⟩
instance {A B : Prop}  : Stp ((true = true → A) ∧ (true = false → B)) (A) := ⟨s_t⟩
instance {A B : Prop}  : Stp ((false = true → A) ∧ (false = false → B)) (B) := ⟨s_f⟩
instance {A B : Prop}  : Stp (((!false) = true → A) ∧ ((!false) = false → B)) (A) := ⟨s_t2⟩
instance {A B : Prop}  : Stp (((!true) = true → A) ∧ ((!true) = false → B)) (B) := ⟨s_f2⟩
instance {op : CmpOp} {a c : Ex}  : Stp ((wX Γ mu (.cmp op a c)).2 τ M Qt E) ((wX Γ false a).1 τ M (fun x M1 => (wX Γ false c).1 τ M1 (fun y M2 => cmpR op x y M2 (fun x M1 => ∃ k, x = .bl k ∧ Qt k M1)) E) E) := ⟨q_cmp⟩
instance {o1 o2 : CmpOp} {a b c : Ex}  : Stp ((wX Γ mu (.chn o1 o2 a b c)).2 τ M Qt E) ((wX Γ false (.chn o1 o2 a b c)).1 τ M (fun x M1 => ∃ k, x = .bl k ∧ Qt k M1) E) := ⟨q_chn⟩
instance {a : Ex} {cs : List Cc}  : Stp ((wX Γ mu (.isi a cs)).2 τ M Qt E) ((wX Γ false a).1 τ M (fun x M1 => ∃ t k, tyOf Γ M1 x = some t ∧ cs.all (knC Γ) = true ∧ isiR Γ t cs = some k ∧ Qt k M1) E) := ⟨q_isi⟩
instance {es : Exs}  : Stp ((wX Γ mu (.and es)).2 τ M Qt E) (wAnd Γ es τ M Qt E) := ⟨q_and⟩
instance {es : Exs}  : Stp ((wX Γ mu (.or es)).2 τ M Qt E) (wOr Γ es τ M Qt E) := ⟨q_or⟩
instance {a : Ex}  : Stp ((wX Γ mu (.not a)).2 τ M Qt E) ((wX Γ false a).2 τ M (fun k M1 => Qt (!k) M1) E) := ⟨q_not⟩
instance  : Stp (wAnd Γ .nil τ M Qt E) (Qt true M) := ⟨q_anil⟩
instance {e : Ex} {es : Exs}  : Stp (wAnd Γ (.cons e es) τ M Qt E) ((wX Γ false e).2 τ M (fun k M1 => (k = true → wAnd Γ es τ M1 Qt E) ∧ (k = false → Qt false M1)) E) := ⟨q_acons⟩
instance  : Stp (wOr Γ .nil τ M Qt E) (Qt false M) := ⟨q_onil⟩
instance {e : Ex} {es : Exs}  : Stp (wOr Γ (.cons e es) τ M Qt E) ((wX Γ false e).2 τ M (fun k M1 => (k = true → Qt true M1) ∧ (k = false → wOr Γ es τ M1 Qt E)) E) := ⟨q_ocons⟩
instance {a : Ex}  : Stp ((wX Γ mu (.not a)).1 τ M Q E) ((wX Γ false a).1 τ M (truQ fun k M1 => Q (.bl (!k)) M1) E) := ⟨r_not⟩
instance {i : Nat}  : Stp ((wX Γ mu (.v i)).2 τ M Qt E) ((wX Γ mu (.v i)).1 τ M (truQ Qt) E) := ⟨q_v⟩
instance {c : Ck}  : Stp ((wX Γ mu (.k c)).2 τ M Qt E) ((wX Γ mu (.k c)).1 τ M (truQ Qt) E) := ⟨q_k⟩
instance {a i : Ex}  : Stp ((wX Γ mu (.sub a i)).2 τ M Qt E) ((wX Γ mu (.sub a i)).1 τ M (truQ Qt) E) := ⟨q_sub⟩
instance {n : Nat} {es : Exs}  : Stp ((wX Γ mu (.call n es)).2 τ M Qt E) ((wX Γ mu (.call n es)).1 τ M (truQ Qt) E) := ⟨q_call⟩
instance {o : Ex} {n : Nat} {es : Exs}  : Stp ((wX Γ mu (.met o n es)).2 τ M Qt E) ((wX Γ mu (.met o n es)).1 τ M (truQ Qt) E) := ⟨q_met⟩
instance {a : Ex} {f : Nat}  : Stp ((wX Γ mu (.att a f)).2 τ M Qt E) ((wX Γ mu (.att a f)).1 τ M (truQ Qt) E) := ⟨q_att⟩
instance {op : Operator} {a c : Ex}  : Stp ((wX Γ mu (.bin op a c)).2 τ M Qt E) ((wX Γ mu (.bin op a c)).1 τ M (truQ Qt) E) := ⟨q_bin⟩
instance {b : Bool}  : Stp (truQ Qt (.bl b) M) (Qt b M) := ⟨u_bl⟩
instance {i : Int}  : Stp (truQ Qt (.int i) M) (Qt (i != 0) M) := ⟨u_int⟩
instance  : Stp (truQ Qt .non M) (Qt false M) := ⟨u_non⟩
instance {xs : List PV}  : Stp (truQ Qt (.lst xs) M) (Qt (!xs.isEmpty) M) := ⟨u_lst⟩
instance {xs : List PV}  : Stp (truQ Qt (.tup xs) M) (Qt (!xs.isEmpty) M) := ⟨u_tup⟩
instance {e : Ex} {R : List PV → (MHp → Prop) → MHp → Prop}  : Stp (wI Γ (.val e) τ M R E) ((wX Γ false e).1 τ M (fun x M1 => itemsR x M1 R) E) := ⟨wi_val⟩
instance {c : Ex} {R : List PV → (MHp → Prop) → MHp → Prop}  : Stp (wI Γ (.rng .no c) τ M R E) ((wX Γ false c).1 τ M (fun y M1 => rngR (.int 0) y M1 R) E) := ⟨wi_rng⟩
instance {a c : Ex} {R : List PV → (MHp → Prop) → MHp → Prop}  : Stp (wI Γ (.rng (.yes a) c) τ M R E) ((wX Γ false a).1 τ M (fun x M1 => (wX Γ false c).1 τ M1 (fun y M2 => rngR x y M2 R) E) E) := ⟨wi_rng2⟩
instance {a c : Ex} {R : List PV → (MHp → Prop) → MHp → Prop}  : Stp (wI Γ (.zip a c) τ M R E) ((wX Γ false a).1 τ M (fun x M1 => (wX Γ false c).1 τ M1 (fun y M2 => zipR x y M2 R) E) E) := ⟨wi_zip⟩
instance {a : Ex} {R : List PV → (MHp → Prop) → MHp → Prop}  : Stp (wI Γ (.enu a) τ M R E) ((wX Γ false a).1 τ M (fun x M1 => enuR x M1 R) E) := ⟨wi_enu⟩
instance {a : Ex} {R : List PV → (MHp → Prop) → MHp → Prop}  : Stp (wI Γ (.rvd a) τ M R E) ((wX Γ false a).1 τ M (fun x M1 => rvdR x M1 R) E) := ⟨wi_rvd⟩
instance {xs : List PV} {R : List PV → (MHp → Prop) → MHp → Prop}  : Stp (itemsR (.tup xs) M R) (R xs (fun _ => True) M) := ⟨i_tR⟩
instance {xs : List PV} {R : List PV → (MHp → Prop) → MHp → Prop}  : Stp (itemsR (.lst xs) M R) (R xs (fun _ => True) M) := ⟨i_lR⟩
instance {xs : List PV} {R : List PV → (MHp → Prop) → MHp → Prop}  : Stp (itemsR (.kl xs) M R) (R xs (fun _ => True) M) := ⟨i_kR⟩
instance {z : Str} {R : List PV → (MHp → Prop) → MHp → Prop}  : Stp (itemsR (.str z) M R) (R (z.cps.toList.map fun c => .str ⟨#[c]⟩) (fun _ => True) M) := ⟨i_sR⟩
instance {e : Ex}  : Stp (wSs Γ (.cons (.exp e) r) D τ M) ((wX Γ false e).1 τ M (fun _ M1 => wSs Γ r D τ M1) fun c fs M1 => D.ex c fs τ M1) := ⟨t_exp⟩
instance {i : Nat} {e : Ex}  : Stp (wSs Γ (.cons (.asg i e) r) D τ M) ((wX Γ false e).1 τ M (fun x M1 => wSs Γ r D (τ.set i (some x)) M1) fun c fs M1 => D.ex c fs τ M1) := ⟨t_asg⟩
instance {is : List Nat} {e : Ex}  : Stp (wSs Γ (.cons (.asgT is e) r) D τ M) ((wX Γ false e).1 τ M (fun x M1 => asgT Γ is x τ fun τ1 => wSs Γ r D τ1 M1) fun c fs M1 => D.ex c fs τ M1) := ⟨t_asgT⟩
instance {o i e : Ex}  : Stp (wSs Γ (.cons (.asgS o i e) r) D τ M) ((wX Γ false e).1 τ M (fun y M1 => (wX Γ false o).1 τ M1 (fun x M2 => (wX Γ false i).1 τ M2 (fun z M3 => ∃ a xs k j, x = .ref a ∧ M3 a = some (.lst xs) ∧ z = .int k ∧ ixN xs.length k = some j ∧ wSs Γ r D τ (ms M3 a (.lst (xs.set j y))))
      fun c fs M1 => D.ex c fs τ M1) fun c fs M1 => D.ex c fs τ M1) fun c fs M1 => D.ex c fs τ M1) := ⟨t_asgS⟩
instance {e : Ex}  : Stp (wSs Γ (.cons (.ret e) r) D τ M) ((wX Γ false e).1 τ M (fun x M1 => D.rt x M1) fun c fs M1 => D.ex c fs τ M1) := ⟨t_ret⟩
instance  : Stp (wSs Γ (.cons .retN r) D τ M) (D.rt .non M) := ⟨t_retN⟩
instance {t : Ex} {a b : Sms}  : Stp (wSs Γ (.cons (.ifs t a b) r) D τ M) ((wX Γ false t).2 τ M (fun k M1 => (k = true → wSs Γ a (D.nxt fun τ1 M1 => wSs Γ r D τ1 M1) τ M1) ∧ (k = false → wSs Γ b (D.nxt fun τ1 M1 => wSs Γ r D τ1 M1) τ M1)) fun c fs M1 => D.ex c fs τ M1) := ⟨t_if⟩
instance {k : Sl → MHp → Prop}  : Stp (wSs Γ .nil (D.nxt k) τ M) (k τ M) := ⟨t_nilN⟩
instance {k : Sl → MHp → Prop}  : Stp (wSs Γ .nil (D.lp k) τ M) (k τ M) := ⟨t_nilL⟩
instance {k : Sl → MHp → Prop} {e}  : Stp (wSs Γ .nil (D.xc k e) τ M) (k τ M) := ⟨t_nilX⟩
instance {k : Sl → MHp → Prop}  : Stp (wSs Γ (.cons .cnt r) (D.lp k) τ M) (k τ M) := ⟨t_cntL⟩
instance  : Stp (wSs Γ (.cons .pass r) D τ M) (wSs Γ r D τ M) := ⟨t_pass⟩
instance {o e : Ex} {f : Nat}  : Stp (wSs Γ (.cons (.asgA o f e) r) D τ M) ((wX Γ false e).1 τ M (fun y M1 => (wX Γ false o).1 τ M1 (fun x M2 => ∃ a c gs, x = .ref a ∧ M2 a = some (.ins c gs) ∧ Γ.fld c f = true ∧ gs.length < 900 ∧ wSs Γ r D τ (ms M2 a (.ins c (putN f y gs)))) fun c fs M1 => D.ex c fs τ M1) fun c fs M1 => D.ex c fs τ M1) := ⟨t_asgA⟩
instance   : Stp (cmpR .Is PV.non .non M Q) (Q (.bl true) M) := ⟨is_n⟩
instance   : Stp (cmpR .IsNot PV.non .non M Q) (Q (.bl false) M) := ⟨isn_n⟩
instance {b : Bool}  : Stp (cmpR .Is (.bl b) .non M Q) (Q (.bl false) M) := ⟨is_b⟩
instance {b : Bool}  : Stp (cmpR .IsNot (.bl b) .non M Q) (Q (.bl true) M) := ⟨isn_b⟩
instance {b : Int}  : Stp (cmpR .Is (.int b) .non M Q) (Q (.bl false) M) := ⟨is_i⟩
instance {b : Int}  : Stp (cmpR .IsNot (.int b) .non M Q) (Q (.bl true) M) := ⟨isn_i⟩
instance {b : Str}  : Stp (cmpR .Is (.str b) .non M Q) (Q (.bl false) M) := ⟨is_s⟩
instance {b : Str}  : Stp (cmpR .IsNot (.str b) .non M Q) (Q (.bl true) M) := ⟨isn_s⟩
instance {b : List PV}  : Stp (cmpR .Is (.tup b) .non M Q) (Q (.bl false) M) := ⟨is_t⟩
instance {b : List PV}  : Stp (cmpR .IsNot (.tup b) .non M Q) (Q (.bl true) M) := ⟨isn_t⟩
instance {b : List PV}  : Stp (cmpR .Is (.lst b) .non M Q) (Q (.bl false) M) := ⟨is_l⟩
instance {b : List PV}  : Stp (cmpR .IsNot (.lst b) .non M Q) (Q (.bl true) M) := ⟨isn_l⟩
instance {c : Nat} {b : List (Nat × PV)}  : Stp (cmpR .Is (.obj c b) .non M Q) (Q (.bl false) M) := ⟨is_o⟩
instance {c : Nat} {b : List (Nat × PV)}  : Stp (cmpR .IsNot (.obj c b) .non M Q) (Q (.bl true) M) := ⟨isn_o⟩
instance {c : Nat} {b : List (Nat × PV)}  : Stp (cmpR .Is (.exc c b) .non M Q) (Q (.bl false) M) := ⟨is_x⟩
instance {c : Nat} {b : List (Nat × PV)}  : Stp (cmpR .IsNot (.exc c b) .non M Q) (Q (.bl true) M) := ⟨isn_x⟩
instance {b : Addr}  : Stp (cmpR .Is (.ref b) .non M Q) (Q (.bl false) M) := ⟨is_r⟩
instance {b : Addr}  : Stp (cmpR .IsNot (.ref b) .non M Q) (Q (.bl true) M) := ⟨isn_r⟩
instance {b : List PV}  : Stp (cmpR .Is (.kl b) .non M Q) (Q (.bl false) M) := ⟨is_k⟩
instance {b : List PV}  : Stp (cmpR .IsNot (.kl b) .non M Q) (Q (.bl true) M) := ⟨isn_k⟩
instance {v : PV} {p : PV → Prop}  : Stp (∃ x, [v] = [x] ∧ p x) (p v) := ⟨e_one⟩
instance {k : Sl → MHp → Prop}  : Stp ((D.nxt k).nx τ M) (k τ M) := ⟨d_nx⟩
instance {k : Sl → MHp → Prop}  : Stp ((D.lp k).nx τ M) (k τ M) := ⟨d_nl⟩
instance {k : Sl → MHp → Prop} {x : PV}  : Stp ((D.nxt k).rt x M) (D.rt x M) := ⟨d_rn⟩
instance {k : Sl → MHp → Prop} {x : PV}  : Stp ((D.lp k).rt x M) (D.rt x M) := ⟨d_rl⟩
instance {k : Sl → MHp → Prop} {e} {x : PV}  : Stp ((D.xc k e).rt x M) (D.rt x M) := ⟨d_rx⟩
instance {Q : BV} {E : BX} {x : PV}  : Stp ((endsP Q E).rt x M) (Q x M) := ⟨d_re⟩
instance {Q : BV} {E : BX}  : Stp ((endsP Q E).nx τ M) (Q .non M) := ⟨d_ne⟩
instance {e : Ex} {es : Exs} {Qs : List PV → MHp → Prop}  : Stp (wXs Γ (.star e es) τ M Qs E) ((wX Γ false e).1 τ M (fun x M1 => ∃ ys, seqOf M1 x = some ys ∧ wXs Γ es τ M1 (fun xs M2 => Qs (ys ++ xs) M2) E) E) := ⟨r_star⟩
instance {z : Str} {p : Prop}  : Stp (bmT .join (.str z) M ∧ p) (p) := ⟨m_joinT⟩
instance {mu : Bool} {z : Str}  : Stp (biR Γ mu .str [.str z] M Q) (Q (.str z) M) := ⟨b_strs⟩
instance {i : Nat} {x : PV} [s : Slt τ i x] : Stp ((wX Γ mu (.v i)).1 τ M Q E) (Q x M) := ⟨r_v s.h⟩
instance {i : Nat} {x : PV} [s : GlIs Γ i x] : Stp ((wX Γ mu (.g i)).1 τ M Q E) (Q x M) := ⟨r_g s.h⟩
instance {n : Nat} {es : Exs} {S : BP} [s : FnIs Γ n S] : Stp ((wX Γ mu (.call n es)).1 τ M Q E) (wXs Γ es τ M (fun xs M1 => S xs M1 Q E) E) := ⟨r_call s.h⟩
instance {c : Nat} {es : Exs} {f : Nat} [s : XcIs Γ c f] : Stp ((wX Γ mu (.exn c es)).1 τ M Q E) (wXs Γ es τ M (fun xs M1 => ∃ x, xs = [x] ∧ Q (.exc c [(f, x)]) M1) E) := ⟨r_exn s.h⟩
instance {own tg : List Nat} {e : Ex} {it : It} {ifs : Exo} [c : Cold Γ] : Stp ((wX Γ mu (.lc own e tg it ifs)).1 τ M Q E) (wI Γ it τ M (fun items g M1 => lcW Γ g tg (wF Γ ifs) (wX Γ false e).1 (own.foldr (fun i τ => τ.set i none) τ) (fun xs M2 => newL mu xs M2 Q) items [] M1) E) := ⟨r_lc c.h⟩
instance {a : Ex} [c : Cold Γ] : Stp ((wX Γ mu (.sset a)).1 τ M Q E) ((wX Γ false a).1 τ M (fun x M1 => ssetR mu x M1 Q) E) := ⟨r_sset c.h⟩
instance {a : Ex} [c : Cold Γ] : Stp ((wX Γ mu (.lrv a)).1 τ M Q E) ((wX Γ false a).1 τ M (fun x M1 => ∃ xs, lsOf M1 x = some xs ∧ newL mu xs.reverse M1 Q) E) := ⟨r_lrv c.h⟩
instance {tg : List Nat} {it : It} {b : Sms} [c : Cold Γ] : Stp (wSs Γ (.cons (.fore tg it b) r) D τ M) (wI Γ it τ M (fun items g M1 => forW Γ g tg (wSs Γ b) (D.nxt fun τ1 M1 => wSs Γ r D τ1 M1) items τ M1) fun c fs M1 => D.ex c fs τ M1) := ⟨t_for c.h⟩
instance {c : Nat} {es : Exs} {f : Nat} [k : Cold Γ] [e : XcIs Γ c f] : Stp (wSs Γ (.cons (.rais c es) r) D τ M) (wXs Γ es τ M (fun xs M1 => ∃ x, xs = [x] ∧ D.ex c [(f, x)] τ M1) fun c fs M1 => D.ex c fs τ M1) := ⟨t_rais k.h e.h⟩
instance {a : Addr} {xs : List PV} [m : Mem M a (.lst xs)] : Stp (biR Γ mu .len [.ref a] M Q) (Q (.int (xs.length : Nat)) M) := ⟨b_lenr m.h⟩
instance {a : Addr} {xs : List PV} [m : Mem M a (.lst xs)] : Stp (biR Γ mu .list [.ref a] M Q) (newL mu xs M Q) := ⟨b_listr m.h⟩
instance {a : Addr} {xs : List PV} [m : Mem M a (.lst xs)] : Stp (biR Γ mu .tuple [.ref a] M Q) (Q (.tup xs) M) := ⟨b_tupr m.h⟩
instance {a : Addr} {ys : List PV} {p : Prop} [m : Mem M a (.lst ys)] : Stp (bmT .append (.ref a) M ∧ p) p := ⟨m_appT m.h⟩
instance {a : Addr} {xs : List PV} [m : Mem M a (.lst xs)] : Stp (truQ Qt (.ref a) M) (Qt (!xs.isEmpty) M) := ⟨u_ref m.h⟩
instance {c f : Nat} {fs : List (Nat × PV)} {v : PV} [e : FldIs Γ c f] [l : Lkp fs f v] : Stp (attR Γ (.obj c fs) f M Q) (Q v M) := ⟨at_o e.h l.h⟩
instance {a c f : Nat} {fs : List (Nat × PV)} {v : PV} [m : Mem M a (.ins c fs)] [e : FldIs Γ c f] [l : Lkp fs f v] : Stp (attR Γ (.ref a) f M Q) (Q v M) := ⟨at_r m.h e.h l.h⟩
instance {x : PV} {a b : String} {k : Bool} {q : Bool → Prop} [t : TyIs x a] [h : TyB a b k] : Stp (∃ t k, tyOf Γ M x = some t ∧ [Cc.ty b].all (knC Γ) = true ∧ isiR Γ t [Cc.ty b] = some k ∧ q k) (q k) := ⟨isi_b (t.h Γ M) h.h⟩
/-- the locals are written out when a statement begins -/
instance (priority := 2000) {τ τ' : Sl} {i : Nat} {x : Option PV} {ss : Sms} [n : Nrm (τ.set i x) τ'] : Stp (wSs Γ ss D (τ.set i x) M) (wSs Γ ss D τ' M) := ⟨fun h => by rw [n.h]; exact h⟩
end
end Nb

/-! K13w -/
set_option Elab.async false
set_option linter.all false
set_option maxRecDepth 100000
set_option maxHeartbeats 0

namespace K13
open PySem PySem.Spec L2 Nb
open PyProof.Rows hiding St


/-! valid_name -/
def N_valid_name : List Str := ["name", "letter"]
def ps_valid_name : List Str := ["name"]
def b_valid_name : Sms :=
    (.cons (.ifs (.or (.cons (.not (.isi (.v 0) [(.ty "str")])) (.cons (.not (.chn .LtE .LtE (.k (.int 1)) (.bi .len (.cons (.v 0) .nil)) (.g i_MOST_LETTERS))) .nil))) (.cons (.ret (.k (.bl false)))
    .nil) .nil)
    (.cons (.fore [1] (.val (.v 0)) (.cons (.ifs (.cmp .NotIn (.v 1) (.g i_LETTERS)) (.cons (.ret (.k (.bl false)))
    .nil) .nil)
    .nil))
    (.cons (.ret (.k (.bl true)))
    .nil)))
theorem ag_valid_name : agSs (nmOf nmL) N_valid_name (defScope st_valid_name) b_valid_name (defBody st_valid_name) = true := by decide +kernel
theorem sc_valid_name : FnScope N_valid_name ps_valid_name (defScope st_valid_name) := ⟨rfl, rfl, rfl, by decide +kernel, rfl, by decide +kernel, by decide +kernel⟩
theorem bd_valid_name (x q : Str) (kV doc pm : Value) (an : Option Addr) (cdv ct : Value) (us : List Value) (hl : us.length = ps_valid_name.length) : bindArgs (PySem.W.fnOf x q (defArgs st_valid_name) (defBody st_valid_name) (defScope st_valid_name) .none kV doc pm an cdv ct) ⟨us, []⟩ = pure (ps_valid_name.zip us) := match us, hl with
  | [_], _ => rfl
/-! valid_cell -/
def N_valid_cell : List Str := ["cell"]
def ps_valid_cell : List Str := ["cell"]
def b_valid_cell : Sms :=
    (.cons (.ret (.and (.cons (.isi (.v 0) [(.ty "int")]) (.cons (.not (.isi (.v 0) [(.ty "bool")])) (.cons (.chn .Lt .Lt (.un .USub (.g i_BOUND)) (.v 0) (.g i_BOUND)) .nil)))))
    .nil)
theorem ag_valid_cell : agSs (nmOf nmL) N_valid_cell (defScope st_valid_cell) b_valid_cell (defBody st_valid_cell) = true := by decide +kernel
theorem sc_valid_cell : FnScope N_valid_cell ps_valid_cell (defScope st_valid_cell) := ⟨rfl, rfl, rfl, by decide +kernel, rfl, by decide +kernel, by decide +kernel⟩
theorem bd_valid_cell (x q : Str) (kV doc pm : Value) (an : Option Addr) (cdv ct : Value) (us : List Value) (hl : us.length = ps_valid_cell.length) : bindArgs (PySem.W.fnOf x q (defArgs st_valid_cell) (defBody st_valid_cell) (defScope st_valid_cell) .none kV doc pm an cdv ct) ⟨us, []⟩ = pure (ps_valid_cell.zip us) := match us, hl with
  | [_], _ => rfl
/-! check_names -/
def N_check_names : List Str := ["words", "word", "seen"]
def ps_check_names : List Str := ["words"]
def b_check_names : Sms :=
    (.cons (.fore [1] (.val (.v 0)) (.cons (.ifs (.not (.call i_valid_name (.cons (.v 1) .nil))) (.cons (.rais i_BadName (.cons (.v 1) .nil))
    .nil) .nil)
    .nil))
    (.cons (.asg 2 (.m (.lst .nil)))
    (.cons (.fore [1] (.val (.v 0)) (.cons (.ifs (.cmp .In (.v 1) (.v 2)) (.cons (.rais i_NameTaken (.cons (.v 1) .nil))
    .nil) .nil)
    (.cons (.exp (.bm (.v 2) .append (.cons (.v 1) .nil)))
    .nil)))
    .nil)))
theorem ag_check_names : agSs (nmOf nmL) N_check_names (defScope st_check_names) b_check_names (defBody st_check_names) = true := by decide +kernel
theorem sc_check_names : FnScope N_check_names ps_check_names (defScope st_check_names) := ⟨rfl, rfl, rfl, by decide +kernel, rfl, by decide +kernel, by decide +kernel⟩
theorem bd_check_names (x q : Str) (kV doc pm : Value) (an : Option Addr) (cdv ct : Value) (us : List Value) (hl : us.length = ps_check_names.length) : bindArgs (PySem.W.fnOf x q (defArgs st_check_names) (defBody st_check_names) (defScope st_check_names) .none kV doc pm an cdv ct) ⟨us, []⟩ = pure (ps_check_names.zip us) := match us, hl with
  | [_], _ => rfl
/-! _law_start -/
def N__law_start : List Str := ["script"]
def ps__law_start : List Str := ["script"]
def b__law_start : Sms :=
    (.cons (.ret (.m (.lst (.cons (.bi .list (.cons (.v 0) .nil)) (.cons (.k (.int 0)) (.cons (.k (.int 0)) (.cons (.k (.int 0)) (.cons (.k (.bl false)) .nil))))))))
    .nil)
theorem ag__law_start : agSs (nmOf nmL) N__law_start (defScope st__law_start) b__law_start (defBody st__law_start) = true := by decide +kernel
theorem sc__law_start : FnScope N__law_start ps__law_start (defScope st__law_start) := ⟨rfl, rfl, rfl, by decide +kernel, rfl, by decide +kernel, by decide +kernel⟩
theorem bd__law_start (x q : Str) (kV doc pm : Value) (an : Option Addr) (cdv ct : Value) (us : List Value) (hl : us.length = ps__law_start.length) : bindArgs (PySem.W.fnOf x q (defArgs st__law_start) (defBody st__law_start) (defScope st__law_start) .none kV doc pm an cdv ct) ⟨us, []⟩ = pure (ps__law_start.zip us) := match us, hl with
  | [_], _ => rfl
/-! _law_draw -/
def N__law_draw : List Str := ["state", "limit", "cell", "number"]
def ps__law_draw : List Str := ["state", "limit"]
def b__law_draw : Sms :=
    (.cons (.ifs (.cmp .Eq (.sub (.v 0) (.k (.int 3))) (.k (.int 0))) (.cons (.ifs (.cmp .GtE (.sub (.v 0) (.k (.int 1))) (.bi .len (.cons (.sub (.v 0) (.k (.int 0))) .nil))) (.cons (.ret (.k (.int 0)))
    .nil) .nil)
    (.cons (.asg 2 (.sub (.sub (.v 0) (.k (.int 0))) (.sub (.v 0) (.k (.int 1)))))
    (.cons (.asgS (.v 0) (.k (.int 1)) (.bin .Add (.sub (.v 0) (.k (.int 1))) (.k (.int 1))))
    (.cons (.ifs (.chn .LtE .Lt (.k (.int 0)) (.v 2) (.k (.int 1000))) (.cons (.ret (.bin .Mod (.bi .int (.cons (.v 2) .nil)) (.v 1)))
    .nil) .nil)
    (.cons (.asgS (.v 0) (.k (.int 2)) (.v 2))
    (.cons (.asgS (.v 0) (.k (.int 3)) (.k (.int 6)))
    (.cons (.asgS (.v 0) (.k (.int 4)) (.cmp .GtE (.v 2) (.bin .Pow (.k (.int 10)) (.k (.int 18)))))
    (.cons (.ifs (.sub (.v 0) (.k (.int 4))) (.cons (.asgS (.v 0) (.k (.int 3)) (.k (.int 60)))
    .nil) .nil)
    .nil)))))))) .nil)
    (.cons (.asgS (.v 0) (.k (.int 3)) (.bin .Sub (.sub (.v 0) (.k (.int 3))) (.k (.int 1))))
    (.cons (.asg 3 (.sub (.v 0) (.k (.int 2))))
    (.cons (.ifs (.sub (.v 0) (.k (.int 4))) (.cons (.asgS (.v 0) (.k (.int 2)) (.bin .FloorDiv (.v 3) (.v 1)))
    (.cons (.ifs (.cmp .Eq (.sub (.v 0) (.k (.int 2))) (.k (.int 0))) (.cons (.asgS (.v 0) (.k (.int 3)) (.k (.int 0)))
    .nil) .nil)
    (.cons (.ret (.bin .Mod (.bi .int (.cons (.v 3) .nil)) (.v 1)))
    .nil))) .nil)
    (.cons (.asg 3 (.bin .Mod (.bi .int (.cons (.bin .Add (.bin .Mult (.v 3) (.k (.int 48271))) (.k (.int 11))) .nil)) (.k (.int 2147483647))))
    (.cons (.asgS (.v 0) (.k (.int 2)) (.v 3))
    (.cons (.ret (.bin .Mod (.bin .FloorDiv (.bin .Mod (.bi .int (.cons (.bin .Add (.bin .Mult (.v 3) (.k (.int 69621))) (.k (.int 7))) .nil)) (.k (.int 2147483629))) (.k (.int 8))) (.v 1)))
    .nil)))))))
theorem ag__law_draw : agSs (nmOf nmL) N__law_draw (defScope st__law_draw) b__law_draw (defBody st__law_draw) = true := by decide +kernel
theorem sc__law_draw : FnScope N__law_draw ps__law_draw (defScope st__law_draw) := ⟨rfl, rfl, rfl, by decide +kernel, rfl, by decide +kernel, by decide +kernel⟩
theorem bd__law_draw (x q : Str) (kV doc pm : Value) (an : Option Addr) (cdv ct : Value) (us : List Value) (hl : us.length = ps__law_draw.length) : bindArgs (PySem.W.fnOf x q (defArgs st__law_draw) (defBody st__law_draw) (defScope st__law_draw) .none kV doc pm an cdv ct) ⟨us, []⟩ = pure (ps__law_draw.zip us) := match us, hl with
  | [_, _], _ => rfl
/-! _law_pick -/
def N__law_pick : List Str := ["state", "things"]
def ps__law_pick : List Str := ["state", "things"]
def b__law_pick : Sms :=
    (.cons (.ret (.sub (.v 1) (.call i__law_draw (.cons (.v 0) (.cons (.bi .len (.cons (.v 1) .nil)) .nil)))))
    .nil)
theorem ag__law_pick : agSs (nmOf nmL) N__law_pick (defScope st__law_pick) b__law_pick (defBody st__law_pick) = true := by decide +kernel
theorem sc__law_pick : FnScope N__law_pick ps__law_pick (defScope st__law_pick) := ⟨rfl, rfl, rfl, by decide +kernel, rfl, by decide +kernel, by decide +kernel⟩
theorem bd__law_pick (x q : Str) (kV doc pm : Value) (an : Option Addr) (cdv ct : Value) (us : List Value) (hl : us.length = ps__law_pick.length) : bindArgs (PySem.W.fnOf x q (defArgs st__law_pick) (defBody st__law_pick) (defScope st__law_pick) .none kV doc pm an cdv ct) ⟨us, []⟩ = pure (ps__law_pick.zip us) := match us, hl with
  | [_, _], _ => rfl
/-! _law_names -/
def N__law_names : List Str := ["state", "count", "letters", "start", "step", "mode", "own", "rest", "fill", "names", "k", "size", "place", "letter"]
def ps__law_names : List Str := ["state", "count"]
def b__law_names : Sms :=
    (.cons (.asg 2 (.k (.str "abcdefghijklmnopqrstuvwxyz")))
    (.cons (.asg 3 (.call i__law_draw (.cons (.v 0) (.cons (.k (.int 26)) .nil))))
    (.cons (.asg 4 (.call i__law_pick (.cons (.v 0) (.cons (.lst (.cons (.k (.int 1)) (.cons (.k (.int 3)) (.cons (.k (.int 5)) (.cons (.k (.int 7)) (.cons (.k (.int 9)) (.cons (.k (.int 11)) .nil))))))) .nil))))
    (.cons (.asg 5 (.call i__law_draw (.cons (.v 0) (.cons (.k (.int 64)) .nil))))
    (.cons (.asg 6 (.lc [10] (.sub (.v 2) (.bin .Mod (.bi .int (.cons (.bin .Add (.v 3) (.bin .Mult (.v 10) (.v 4))) .nil)) (.k (.int 26)))) [10] (.rng .no (.v 1)) .no))
    (.cons (.asg 7 (.lc [13] (.v 13) [13] (.val (.v 2)) (.yes (.cmp .NotIn (.v 13) (.v 6)))))
    (.cons (.asg 8 (.sub (.v 7) (.bin .Mod (.bi .int (.cons (.v 5) .nil)) (.bi .len (.cons (.v 7) .nil)))))
    (.cons (.asg 9 (.m (.lst .nil)))
    (.cons (.fore [10] (.rng .no (.v 1)) (.cons (.asg 11 (.k (.int 1)))
    (.cons (.ifs (.cmp .Eq (.bin .Mod (.bi .int (.cons (.v 5) .nil)) (.k (.int 2))) (.k (.int 1))) (.cons (.asg 11 (.bin .Add (.k (.int 1)) (.bin .Mod (.bi .int (.cons (.bin .Add (.bin .FloorDiv (.v 5) (.k (.int 2))) (.bin .Mult (.k (.int 3)) (.v 10))) .nil)) (.k (.int 8)))))
    .nil) .nil)
    (.cons (.asg 12 (.bin .Mod (.bi .int (.cons (.bin .Add (.bin .FloorDiv (.v 5) (.k (.int 4))) (.v 10)) .nil)) (.v 11)))
    (.cons (.exp (.bm (.v 9) .append (.cons (.bin .Add (.bin .Add (.bin .Mult (.v 8) (.v 12)) (.sub (.v 6) (.v 10))) (.bin .Mult (.v 8) (.bin .Sub (.bin .Sub (.v 11) (.k (.int 1))) (.v 12)))) .nil)))
    .nil)))))
    (.cons (.ret (.m (.v 9)))
    .nil))))))))))
theorem ag__law_names : agSs (nmOf nmL) N__law_names (defScope st__law_names) b__law_names (defBody st__law_names) = true := by decide +kernel
theorem sc__law_names : FnScope N__law_names ps__law_names (defScope st__law_names) := ⟨rfl, rfl, rfl, by decide +kernel, rfl, by decide +kernel, by decide +kernel⟩
theorem bd__law_names (x q : Str) (kV doc pm : Value) (an : Option Addr) (cdv ct : Value) (us : List Value) (hl : us.length = ps__law_names.length) : bindArgs (PySem.W.fnOf x q (defArgs st__law_names) (defBody st__law_names) (defScope st__law_names) .none kV doc pm an cdv ct) ⟨us, []⟩ = pure (ps__law_names.zip us) := match us, hl with
  | [_, _], _ => rfl
/-! _law_pool -/
def N__law_pool : List Str := ["state", "code", "base"]
def ps__law_pool : List Str := ["state"]
def b__law_pool : Sms :=
    (.cons (.asg 1 (.call i__law_draw (.cons (.v 0) (.cons (.k (.int 4)) .nil))))
    (.cons (.asg 2 (.call i__law_draw (.cons (.v 0) (.cons (.bin .Sub (.bin .Pow (.k (.int 10)) (.k (.int 18))) (.k (.int 10))) .nil))))
    (.cons (.ifs (.cmp .Eq (.v 1) (.k (.int 0))) (.cons (.ret (.lst (.cons (.k (.int 0)) (.cons (.k (.int 1)) (.cons (.k (.int 2)) (.cons (.k (.int 3)) .nil))))))
    .nil) .nil)
    (.cons (.ifs (.cmp .Eq (.v 1) (.k (.int 1))) (.cons (.ret (.lst (.cons (.v 2) (.cons (.bin .Add (.v 2) (.k (.int 1))) (.cons (.bin .Sub (.bin .Sub (.k (.int 0)) (.v 2)) (.k (.int 2))) (.cons (.bin .Add (.v 2) (.k (.int 9))) .nil))))))
    .nil) .nil)
    (.cons (.ifs (.cmp .Eq (.v 1) (.k (.int 2))) (.cons (.ret (.lst (.cons (.bin .Sub (.k (.int 0)) (.v 2)) (.cons (.bin .Add (.v 2) (.k (.int 2))) (.cons (.k (.int 1)) (.cons (.bin .Sub (.bin .Pow (.k (.int 10)) (.k (.int 18))) (.k (.int 1))) .nil))))))
    .nil) .nil)
    (.cons (.ret (.lst (.cons (.bin .Sub (.bin .Pow (.k (.int 10)) (.k (.int 18))) (.k (.int 1))) (.cons (.bin .Sub (.bin .Sub (.k (.int 0)) (.v 2)) (.k (.int 1))) (.cons (.k (.int 0)) (.cons (.bin .Add (.v 2) (.k (.int 1))) .nil))))))
    .nil))))))
theorem ag__law_pool : agSs (nmOf nmL) N__law_pool (defScope st__law_pool) b__law_pool (defBody st__law_pool) = true := by decide +kernel
theorem sc__law_pool : FnScope N__law_pool ps__law_pool (defScope st__law_pool) := ⟨rfl, rfl, rfl, by decide +kernel, rfl, by decide +kernel, by decide +kernel⟩
theorem bd__law_pool (x q : Str) (kV doc pm : Value) (an : Option Addr) (cdv ct : Value) (us : List Value) (hl : us.length = ps__law_pool.length) : bindArgs (PySem.W.fnOf x q (defArgs st__law_pool) (defBody st__law_pool) (defScope st__law_pool) .none kV doc pm an cdv ct) ⟨us, []⟩ = pure (ps__law_pool.zip us) := match us, hl with
  | [_], _ => rfl
/-! _law_same -/
def N__law_same : List Str := ["actual", "expected", "k"]
def ps__law_same : List Str := ["actual", "expected"]
def b__law_same : Sms :=
    (.cons (.ifs (.cmp .Is (.v 1) (.k .non)) (.cons (.ret (.cmp .Is (.v 0) (.k .non)))
    .nil) .nil)
    (.cons (.ifs (.isi (.v 1) [(.ty "bool")]) (.cons (.ret (.and (.cons (.isi (.v 0) [(.ty "bool")]) (.cons (.cmp .Eq (.v 0) (.v 1)) .nil))))
    .nil) .nil)
    (.cons (.ifs (.isi (.v 1) [(.ty "int")]) (.cons (.ret (.and (.cons (.isi (.v 0) [(.ty "int")]) (.cons (.not (.isi (.v 0) [(.ty "bool")])) (.cons (.cmp .Eq (.v 0) (.v 1)) .nil)))))
    .nil) .nil)
    (.cons (.ifs (.isi (.v 1) [(.ty "str")]) (.cons (.ret (.and (.cons (.isi (.v 0) [(.ty "str")]) (.cons (.cmp .Eq (.v 0) (.v 1)) .nil))))
    .nil) .nil)
    (.cons (.ifs (.and (.cons (.isi (.v 1) [(.ty "tuple")]) (.cons (.not (.isi (.v 0) [(.ty "tuple")])) .nil))) (.cons (.ret (.k (.bl false)))
    .nil) .nil)
    (.cons (.ifs (.and (.cons (.isi (.v 1) [(.ty "list")]) (.cons (.not (.isi (.v 0) [(.ty "list")])) .nil))) (.cons (.ret (.k (.bl false)))
    .nil) .nil)
    (.cons (.ifs (.cmp .NotEq (.bi .len (.cons (.v 0) .nil)) (.bi .len (.cons (.v 1) .nil))) (.cons (.ret (.k (.bl false)))
    .nil) .nil)
    (.cons (.fore [2] (.rng .no (.bi .len (.cons (.v 1) .nil))) (.cons (.ifs (.not (.call i__law_same (.cons (.sub (.v 0) (.v 2)) (.cons (.sub (.v 1) (.v 2)) .nil)))) (.cons (.ret (.k (.bl false)))
    .nil) .nil)
    .nil))
    (.cons (.ret (.k (.bl true)))
    .nil)))))))))
theorem ag__law_same : agSs (nmOf nmL) N__law_same (defScope st__law_same) b__law_same (defBody st__law_same) = true := by decide +kernel
theorem sc__law_same : FnScope N__law_same ps__law_same (defScope st__law_same) := ⟨rfl, rfl, rfl, by decide +kernel, rfl, by decide +kernel, by decide +kernel⟩
theorem bd__law_same (x q : Str) (kV doc pm : Value) (an : Option Addr) (cdv ct : Value) (us : List Value) (hl : us.length = ps__law_same.length) : bindArgs (PySem.W.fnOf x q (defArgs st__law_same) (defBody st__law_same) (defScope st__law_same) .none kV doc pm an cdv ct) ⟨us, []⟩ = pure (ps__law_same.zip us) := match us, hl with
  | [_, _], _ => rfl
/-! _law_told -/
def N__law_told : List Str := ["error"]
def ps__law_told : List Str := ["error"]
def b__law_told : Sms :=
    (.cons (.ifs (.isi (.v 0) [(.own i_BadName)]) (.cons (.ret (.tup (.cons (.k (.str "BadName")) (.cons (.att (.v 0) i_name) .nil))))
    .nil) .nil)
    (.cons (.ifs (.isi (.v 0) [(.own i_NameTaken)]) (.cons (.ret (.tup (.cons (.k (.str "NameTaken")) (.cons (.att (.v 0) i_name) .nil))))
    .nil) .nil)
    (.cons (.ifs (.isi (.v 0) [(.own i_NoPlain)]) (.cons (.ret (.tup (.cons (.k (.str "NoPlain")) (.cons (.att (.v 0) i_name) .nil))))
    .nil) .nil)
    (.cons (.ifs (.isi (.v 0) [(.own i_WrongCell)]) (.cons (.ret (.tup (.cons (.k (.str "WrongCell")) (.cons (.att (.v 0) i_name) .nil))))
    .nil) .nil)
    (.cons (.ret (.tup (.cons (.k (.str "another")) (.cons (.k .non) .nil))))
    .nil)))))
theorem ag__law_told : agSs (nmOf nmL) N__law_told (defScope st__law_told) b__law_told (defBody st__law_told) = true := by decide +kernel
theorem sc__law_told : FnScope N__law_told ps__law_told (defScope st__law_told) := ⟨rfl, rfl, rfl, by decide +kernel, rfl, by decide +kernel, by decide +kernel⟩
theorem bd__law_told (x q : Str) (kV doc pm : Value) (an : Option Addr) (cdv ct : Value) (us : List Value) (hl : us.length = ps__law_told.length) : bindArgs (PySem.W.fnOf x q (defArgs st__law_told) (defBody st__law_told) (defScope st__law_told) .none kV doc pm an cdv ct) ⟨us, []⟩ = pure (ps__law_told.zip us) := match us, hl with
  | [_], _ => rfl
/-! _law_made -/
def N__law_made : List Str := ["sort", "words", "step", "error"]
def ps__law_made : List Str := ["sort", "words"]
def b__law_made : Sms :=
    (.cons (.tri (.cons (.ifs (.cmp .Eq (.v 0) (.k (.str "="))) (.cons (.asg 2 (.new i_Choose (.cons (.sub (.v 1) (.k (.int 0))) (.cons (.sub (.v 1) (.k (.int 1))) (.cons (.sub (.v 1) (.k (.int 2))) (.cons (.sub (.v 1) (.k (.int 3))) .nil))))))
    .nil) (.cons (.ifs (.cmp .Eq (.v 0) (.k (.str "!"))) (.cons (.asg 2 (.new i_Refuse (.cons (.sub (.v 1) (.k (.int 0))) (.cons (.sub (.v 1) (.k (.int 1))) (.cons (.sub (.v 1) (.k (.int 2))) (.cons (.sub (.v 1) (.k (.int 3))) .nil))))))
    .nil) (.cons (.ifs (.cmp .Eq (.v 0) (.k (.str "~"))) (.cons (.asg 2 (.new i_Match (.cons (.sub (.v 1) (.k (.int 0))) (.cons (.sub (.v 1) (.k (.int 1))) .nil))))
    .nil) (.cons (.ifs (.and (.cons (.cmp .Eq (.v 0) (.k (.str "-"))) (.cons (.cmp .Eq (.v 1) (.lst .nil)) .nil))) (.cons (.asg 2 (.new i_Drop .nil))
    .nil) (.cons (.ifs (.cmp .Eq (.v 0) (.k (.str "-"))) (.cons (.asg 2 (.new i_Drop (.cons (.sub (.v 1) (.k (.int 0))) (.cons (.sub (.v 1) (.k (.int 1))) (.cons (.sub (.v 1) (.k (.int 2))) .nil)))))
    .nil) (.cons (.asg 2 (.new i_Prune (.cons (.sub (.v 1) (.k (.int 0))) .nil)))
    .nil))
    .nil))
    .nil))
    .nil))
    .nil))
    .nil) (.cons (some i_NestError) (some 3) (.cons (.ret (.call i__law_told (.cons (.v 3) .nil)))
    .nil) .nil))
    (.cons (.ret (.lst (.cons (.att (.v 2) i_text) (.cons (.ostr (.v 2)) .nil))))
    .nil))
theorem ag__law_made : agSs (nmOf nmL) N__law_made (defScope st__law_made) b__law_made (defBody st__law_made) = true := by decide +kernel
theorem sc__law_made : FnScope N__law_made ps__law_made (defScope st__law_made) := ⟨rfl, rfl, rfl, by decide +kernel, rfl, by decide +kernel, by decide +kernel⟩
theorem bd__law_made (x q : Str) (kV doc pm : Value) (an : Option Addr) (cdv ct : Value) (us : List Value) (hl : us.length = ps__law_made.length) : bindArgs (PySem.W.fnOf x q (defArgs st__law_made) (defBody st__law_made) (defScope st__law_made) .none kV doc pm an cdv ct) ⟨us, []⟩ = pure (ps__law_made.zip us) := match us, hl with
  | [_, _], _ => rfl
/-! _law_twice -/
def N__law_twice : List Str := ["text"]
def ps__law_twice : List Str := ["text"]
def b__law_twice : Sms :=
    (.cons (.ret (.lst (.cons (.v 0) (.cons (.v 0) .nil))))
    .nil)
theorem ag__law_twice : agSs (nmOf nmL) N__law_twice (defScope st__law_twice) b__law_twice (defBody st__law_twice) = true := by decide +kernel
theorem sc__law_twice : FnScope N__law_twice ps__law_twice (defScope st__law_twice) := ⟨rfl, rfl, rfl, by decide +kernel, rfl, by decide +kernel, by decide +kernel⟩
theorem bd__law_twice (x q : Str) (kV doc pm : Value) (an : Option Addr) (cdv ct : Value) (us : List Value) (hl : us.length = ps__law_twice.length) : bindArgs (PySem.W.fnOf x q (defArgs st__law_twice) (defBody st__law_twice) (defScope st__law_twice) .none kV doc pm an cdv ct) ⟨us, []⟩ = pure (ps__law_twice.zip us) := match us, hl with
  | [_], _ => rfl
/-! law -/
def N_law : List Str := ["script", "state", "names", "pool", "cells", "bad", "wrong", "place", "text", "pair", "spoilt", "words", "sort", "one", "other", "told", "steps", "texts", "k", "n", "x"]
def ps_law : List Str := ["script"]
def b_law : Sms :=
    (.cons (.asg 1 (.m (.call i__law_start (.cons (.v 0) .nil))))
    (.cons (.asg 2 (.fz (.call i__law_names (.cons (.v 1) (.cons (.k (.int 12)) .nil)))))
    (.cons (.asg 3 (.call i__law_pool (.cons (.v 1) .nil)))
    (.cons (.asg 4 (.lc [18] (.call i__law_pick (.cons (.v 1) (.cons (.v 3) .nil))) [18] (.rng .no (.k (.int 3))) .no))
    (.cons (.asg 5 (.call i__law_pick (.cons (.v 1) (.cons (.lst (.cons (.k (.str "")) (.cons (.k (.str "aB")) (.cons (.k (.str "a1")) (.cons (.k (.str "abcdefghi")) (.cons (.k (.str "a b")) .nil)))))) .nil))))
    (.cons (.asg 6 (.call i__law_pick (.cons (.v 1) (.cons (.lst (.cons (.bin .Pow (.k (.int 10)) (.k (.int 18))) (.cons (.bin .Sub (.k (.int 0)) (.bin .Pow (.k (.int 10)) (.k (.int 18)))) (.cons (.k (.bl true)) (.cons (.k (.str "5")) (.cons (.k .non) .nil)))))) .nil))))
    (.cons (.asg 7 (.call i__law_draw (.cons (.v 1) (.cons (.k (.int 3)) .nil))))
    (.cons (.asg 8 (.bm (.k (.str ",")) .join (.cons (.lc [20] (.bi .str (.cons (.v 20) .nil)) [20] (.val (.sset (.v 4))) .no) .nil)))
    (.cons (.ifs (.not (.call i__law_same (.cons (.call i__law_made (.cons (.k (.str "=")) (.cons (.bin .Add (.lst (.cons (.sub (.v 2) (.k (.int 0))) .nil)) (.v 4)) .nil))) (.cons (.call i__law_twice (.cons (.bin .Add (.bin .Add (.sub (.v 2) (.k (.int 0))) (.k (.str "="))) (.v 8)) .nil)) .nil)))) (.cons (.ret (.k (.bl false)))
    .nil) .nil)
    (.cons (.ifs (.not (.call i__law_same (.cons (.call i__law_made (.cons (.k (.str "!")) (.cons (.bin .Add (.lst (.cons (.sub (.v 2) (.k (.int 1))) .nil)) (.v 4)) .nil))) (.cons (.call i__law_twice (.cons (.bin .Add (.bin .Add (.sub (.v 2) (.k (.int 1))) (.k (.str "!"))) (.v 8)) .nil)) .nil)))) (.cons (.ret (.k (.bl false)))
    .nil) .nil)
    (.cons (.asg 9 (.bi .sorted (.cons (.sl (.v 2) .no (.yes (.k (.int 2)))) .nil)))
    (.cons (.ifs (.not (.call i__law_same (.cons (.call i__law_made (.cons (.k (.str "~")) (.cons (.sl (.v 2) .no (.yes (.k (.int 2)))) .nil))) (.cons (.call i__law_twice (.cons (.bin .Add (.bin .Add (.sub (.v 9) (.k (.int 0))) (.k (.str "~"))) (.sub (.v 9) (.k (.int 1)))) .nil)) .nil)))) (.cons (.ret (.k (.bl false)))
    .nil) .nil)
    (.cons (.ifs (.not (.call i__law_same (.cons (.call i__law_made (.cons (.k (.str "-")) (.cons (.sl (.v 2) .no (.yes (.k (.int 3)))) .nil))) (.cons (.call i__law_twice (.cons (.bin .Add (.bin .Add (.k (.str "-(")) (.bm (.k (.str " ")) .join (.cons (.bi .sorted (.cons (.sl (.v 2) .no (.yes (.k (.int 3)))) .nil)) .nil))) (.k (.str ")"))) .nil)) .nil)))) (.cons (.ret (.k (.bl false)))
    .nil) .nil)
    (.cons (.ifs (.not (.call i__law_same (.cons (.call i__law_made (.cons (.k (.str "*")) (.cons (.sl (.v 2) .no (.yes (.k (.int 1)))) .nil))) (.cons (.call i__law_twice (.cons (.bin .Add (.sub (.v 2) (.k (.int 0))) (.k (.str "*"))) .nil)) .nil)))) (.cons (.ret (.k (.bl false)))
    .nil) .nil)
    (.cons (.asg 10 (.bin .Add (.bin .Add (.sl (.v 4) .no (.yes (.v 7))) (.lst (.cons (.v 6) .nil))) (.sl (.v 4) (.yes (.bin .Add (.v 7) (.k (.int 1)))) .no)))
    (.cons (.asg 11 (.bin .Add (.bin .Add (.sl (.v 2) .no (.yes (.v 7))) (.lst (.cons (.v 5) .nil))) (.sl (.v 2) (.yes (.bin .Add (.v 7) (.k (.int 1)))) (.yes (.k (.int 3))))))
    (.cons (.fore [12] (.val (.lst (.cons (.k (.str "=")) (.cons (.k (.str "!")) .nil)))) (.cons (.ifs (.not (.call i__law_same (.cons (.call i__law_made (.cons (.v 12) (.cons (.bin .Add (.lst (.cons (.sub (.v 2) (.k (.int 0))) .nil)) (.v 10)) .nil))) (.cons (.tup (.cons (.k (.str "WrongCell")) (.cons (.sub (.v 2) (.k (.int 0))) .nil))) .nil)))) (.cons (.ret (.k (.bl false)))
    .nil) .nil)
    (.cons (.ifs (.not (.call i__law_same (.cons (.call i__law_made (.cons (.v 12) (.cons (.bin .Add (.lst (.cons (.v 5) .nil)) (.v 10)) .nil))) (.cons (.tup (.cons (.k (.str "BadName")) (.cons (.v 5) .nil))) .nil)))) (.cons (.ret (.k (.bl false)))
    .nil) .nil)
    .nil)))
    (.cons (.ifs (.or (.cons (.not (.call i__law_same (.cons (.call i__law_made (.cons (.k (.str "-")) (.cons (.v 11) .nil))) (.cons (.tup (.cons (.k (.str "BadName")) (.cons (.v 5) .nil))) .nil)))) (.cons (.not (.call i__law_same (.cons (.call i__law_made (.cons (.k (.str "-")) (.cons (.lst .nil) .nil))) (.cons (.tup (.cons (.k (.str "NoPlain")) (.cons (.k (.str "")) .nil))) .nil)))) .nil))) (.cons (.ret (.k (.bl false)))
    .nil) .nil)
    (.cons (.ifs (.not (.call i__law_same (.cons (.call i__law_made (.cons (.k (.str "-")) (.cons (.lst (.cons (.sub (.v 2) (.k (.int 0))) (.cons (.sub (.v 2) (.k (.int 0))) (.cons (.v 5) .nil)))) .nil))) (.cons (.tup (.cons (.k (.str "BadName")) (.cons (.v 5) .nil))) .nil)))) (.cons (.ret (.k (.bl false)))
    .nil) .nil)
    (.cons (.ifs (.not (.call i__law_same (.cons (.call i__law_made (.cons (.k (.str "-")) (.cons (.lst (.cons (.sub (.v 2) (.k (.int 0))) (.cons (.sub (.v 2) (.k (.int 1))) (.cons (.sub (.v 2) (.k (.int 1))) .nil)))) .nil))) (.cons (.tup (.cons (.k (.str "NameTaken")) (.cons (.sub (.v 2) (.k (.int 1))) .nil))) .nil)))) (.cons (.ret (.k (.bl false)))
    .nil) .nil)
    (.cons (.ifs (.not (.call i__law_same (.cons (.call i__law_made (.cons (.k (.str "~")) (.cons (.lst (.cons (.sub (.v 2) (.k (.int 0))) (.cons (.sub (.v 2) (.k (.int 0))) .nil))) .nil))) (.cons (.tup (.cons (.k (.str "NameTaken")) (.cons (.sub (.v 2) (.k (.int 0))) .nil))) .nil)))) (.cons (.ret (.k (.bl false)))
    .nil) .nil)
    (.cons (.ifs (.or (.cons (.not (.call i__law_same (.cons (.call i__law_made (.cons (.k (.str "~")) (.cons (.lst (.cons (.sub (.v 2) (.k (.int 0))) (.cons (.v 5) .nil))) .nil))) (.cons (.tup (.cons (.k (.str "BadName")) (.cons (.v 5) .nil))) .nil)))) (.cons (.not (.call i__law_same (.cons (.call i__law_made (.cons (.k (.str "*")) (.cons (.lst (.cons (.v 5) .nil)) .nil))) (.cons (.tup (.cons (.k (.str "BadName")) (.cons (.v 5) .nil))) .nil)))) .nil))) (.cons (.ret (.k (.bl false)))
    .nil) .nil)
    (.cons (.asg 13 (.new i_Choose (.cons (.sub (.v 2) (.k (.int 0))) (.cons (.sub (.v 4) (.k (.int 0))) (.cons (.sub (.v 4) (.k (.int 1))) (.cons (.sub (.v 4) (.k (.int 2))) .nil))))))
    (.cons (.asg 14 (.new i_Drop (.cons (.sub (.v 2) (.k (.int 2))) (.cons (.sub (.v 2) (.k (.int 0))) .nil))))
    (.cons (.asg 15 (.lst (.cons (.att (.v 13) i_column) (.cons (.att (.v 13) i_cells) (.cons (.att (.v 14) i_columns) (.cons (.att (.new i_Match (.cons (.sub (.v 2) (.k (.int 1))) (.cons (.sub (.v 2) (.k (.int 0))) .nil))) i_columns) (.cons (.att (.new i_Prune (.cons (.sub (.v 2) (.k (.int 3))) .nil)) i_name) .nil)))))))
    (.cons (.ifs (.not (.call i__law_same (.cons (.v 15) (.cons (.lst (.cons (.sub (.v 2) (.k (.int 0))) (.cons (.bi .tuple (.cons (.sset (.v 4)) .nil)) (.cons (.bi .tuple (.cons (.bi .sorted (.cons (.lst (.cons (.sub (.v 2) (.k (.int 2))) (.cons (.sub (.v 2) (.k (.int 0))) .nil))) .nil)) .nil)) (.cons (.bi .tuple (.cons (.v 9) .nil)) (.cons (.sub (.v 2) (.k (.int 3))) .nil)))))) .nil)))) (.cons (.ret (.k (.bl false)))
    .nil) .nil)
    (.cons (.ifs (.or (.cons (.not (.isi (.v 13) [(.own i_CellQuestion)])) (.cons (.isi (.v 14) [(.own i_CellQuestion)]) (.cons (.not (.isi (.v 14) [(.own i_Question)])) .nil)))) (.cons (.ret (.k (.bl false)))
    .nil) .nil)
    (.cons (.asg 16 (.lst (.cons (.v 13) (.cons (.new i_Choose (.cons (.sub (.v 2) (.k (.int 0))) (.cons (.sub (.v 4) (.k (.int 0))) .nil))) (.cons (.new i_Choose (.cons (.sub (.v 2) (.k (.int 0))) .nil)) (.cons (.new i_Refuse (.cons (.sub (.v 2) (.k (.int 0))) (.cons (.sub (.v 4) (.k (.int 0))) .nil))) (.cons (.new i_Refuse (.cons (.sub (.v 2) (.k (.int 0))) .nil)) (.cons (.new i_Choose (.cons (.sub (.v 2) (.k (.int 1))) (.cons (.sub (.v 4) (.k (.int 0))) .nil))) .nil))))))))
    (.cons (.asg 16 (.bin .Add (.v 16) (.lst (.cons (.new i_Match (.cons (.sub (.v 2) (.k (.int 0))) (.cons (.sub (.v 2) (.k (.int 1))) .nil))) (.cons (.new i_Match (.cons (.sub (.v 2) (.k (.int 1))) (.cons (.sub (.v 2) (.k (.int 0))) .nil))) (.cons (.new i_Match (.cons (.sub (.v 2) (.k (.int 0))) (.cons (.sub (.v 2) (.k (.int 2))) .nil))) (.cons (.v 14) (.cons (.new i_Drop (.cons (.sub (.v 2) (.k (.int 0))) (.cons (.sub (.v 2) (.k (.int 2))) .nil))) .nil))))))))
    (.cons (.asg 16 (.bin .Add (.v 16) (.lst (.cons (.new i_Drop (.cons (.sub (.v 2) (.k (.int 0))) .nil)) (.cons (.new i_Prune (.cons (.sub (.v 2) (.k (.int 0))) .nil)) (.cons (.new i_Prune (.cons (.sub (.v 2) (.k (.int 1))) .nil)) .nil))))))
    (.cons (.asg 17 (.lst (.cons (.bin .Add (.bin .Add (.sub (.v 2) (.k (.int 0))) (.k (.str "="))) (.v 8)) (.cons (.bin .Add (.bin .Add (.sub (.v 2) (.k (.int 0))) (.k (.str "="))) (.bi .str (.cons (.sub (.v 4) (.k (.int 0))) .nil))) (.cons (.bin .Add (.sub (.v 2) (.k (.int 0))) (.k (.str "="))) (.cons (.bin .Add (.bin .Add (.sub (.v 2) (.k (.int 0))) (.k (.str "!"))) (.bi .str (.cons (.sub (.v 4) (.k (.int 0))) .nil))) (.cons (.bin .Add (.sub (.v 2) (.k (.int 0))) (.k (.str "!"))) (.cons (.bin .Add (.bin .Add (.sub (.v 2) (.k (.int 1))) (.k (.str "="))) (.bi .str (.cons (.sub (.v 4) (.k (.int 0))) .nil))) .nil))))))))
    (.cons (.asg 17 (.bin .Add (.v 17) (.lst (.cons (.bin .Add (.bin .Add (.sub (.v 9) (.k (.int 0))) (.k (.str "~"))) (.sub (.v 9) (.k (.int 1)))) (.cons (.bin .Add (.bin .Add (.sub (.v 9) (.k (.int 0))) (.k (.str "~"))) (.sub (.v 9) (.k (.int 1)))) (.cons (.bm (.k (.str "~")) .join (.cons (.bi .sorted (.cons (.lst (.cons (.sub (.v 2) (.k (.int 0))) (.cons (.sub (.v 2) (.k (.int 2))) .nil))) .nil)) .nil)) .nil))))))
    (.cons (.asg 17 (.bin .Add (.bin .Add (.v 17) (.bin .Mult (.lst (.cons (.bin .Add (.bin .Add (.k (.str "-(")) (.bm (.k (.str " ")) .join (.cons (.bi .sorted (.cons (.lst (.cons (.sub (.v 2) (.k (.int 0))) (.cons (.sub (.v 2) (.k (.int 2))) .nil))) .nil)) .nil))) (.k (.str ")"))) .nil)) (.k (.int 2)))) (.lst (.cons (.bin .Add (.bin .Add (.k (.str "-(")) (.sub (.v 2) (.k (.int 0)))) (.k (.str ")"))) (.cons (.bin .Add (.sub (.v 2) (.k (.int 0))) (.k (.str "*"))) (.cons (.bin .Add (.sub (.v 2) (.k (.int 1))) (.k (.str "*"))) .nil))))))
    (.cons (.fore [18] (.rng .no (.k (.int 14))) (.cons (.fore [19] (.rng .no (.k (.int 14))) (.cons (.ifs (.or (.cons (.not (.call i__law_same (.cons (.oeq false (.sub (.v 16) (.v 18)) (.sub (.v 16) (.v 19))) (.cons (.cmp .Eq (.sub (.v 17) (.v 18)) (.sub (.v 17) (.v 19))) .nil)))) (.cons (.not (.call i__law_same (.cons (.oeq true (.sub (.v 16) (.v 18)) (.sub (.v 16) (.v 19))) (.cons (.cmp .NotEq (.sub (.v 17) (.v 18)) (.sub (.v 17) (.v 19))) .nil)))) .nil))) (.cons (.ret (.k (.bl false)))
    .nil) .nil)
    .nil))
    (.cons (.ifs (.not (.call i__law_same (.cons (.att (.sub (.v 16) (.v 18)) i_text) (.cons (.sub (.v 17) (.v 18)) .nil)))) (.cons (.ret (.k (.bl false)))
    .nil) .nil)
    .nil)))
    (.cons (.ret (.k (.bl true)))
    .nil)))))))))))))))))))))))))))))))))))
theorem ag_law : agSs (nmOf nmL) N_law (defScope st_law) b_law (defBody st_law) = true := by decide +kernel
theorem sc_law : FnScope N_law ps_law (defScope st_law) := ⟨rfl, rfl, rfl, by decide +kernel, rfl, by decide +kernel, by decide +kernel⟩
theorem bd_law (x q : Str) (kV doc pm : Value) (an : Option Addr) (cdv ct : Value) (us : List Value) (hl : us.length = ps_law.length) : bindArgs (PySem.W.fnOf x q (defArgs st_law) (defBody st_law) (defScope st_law) .none kV doc pm an cdv ct) ⟨us, []⟩ = pure (ps_law.zip us) := match us, hl with
  | [_], _ => rfl
/-! Question___init__ -/
def N_Question___init__ : List Str := ["self", "text"]
def ps_Question___init__ : List Str := ["self", "text"]
def b_Question___init__ : Sms :=
    (.cons (.asgA (.v 0) i_text (.v 1))
    .nil)
theorem ag_Question___init__ : agSs (nmOf nmL) N_Question___init__ (defScope st_Question___init__) b_Question___init__ (defBody st_Question___init__) = true := by decide +kernel
theorem sc_Question___init__ : FnScope N_Question___init__ ps_Question___init__ (defScope st_Question___init__) := ⟨rfl, rfl, rfl, by decide +kernel, rfl, by decide +kernel, by decide +kernel⟩
theorem bd_Question___init__ (x q : Str) (kV doc pm : Value) (an : Option Addr) (cdv ct : Value) (us : List Value) (hl : us.length = ps_Question___init__.length) : bindArgs (PySem.W.fnOf x q (defArgs st_Question___init__) (defBody st_Question___init__) (defScope st_Question___init__) .none kV doc pm an cdv ct) ⟨us, []⟩ = pure (ps_Question___init__.zip us) := match us, hl with
  | [_, _], _ => rfl
/-! Question___eq__ -/
def N_Question___eq__ : List Str := ["self", "other"]
def ps_Question___eq__ : List Str := ["self", "other"]
def b_Question___eq__ : Sms :=
    (.cons (.ifs (.not (.isi (.v 1) [(.own i_Question)])) (.cons .nvr
    .nil) .nil)
    (.cons (.ret (.cmp .Eq (.att (.v 0) i_text) (.att (.v 1) i_text)))
    .nil))
theorem ag_Question___eq__ : agSs (nmOf nmL) N_Question___eq__ (defScope st_Question___eq__) b_Question___eq__ (defBody st_Question___eq__) = true := by decide +kernel
theorem sc_Question___eq__ : FnScope N_Question___eq__ ps_Question___eq__ (defScope st_Question___eq__) := ⟨rfl, rfl, rfl, by decide +kernel, rfl, by decide +kernel, by decide +kernel⟩
theorem bd_Question___eq__ (x q : Str) (kV doc pm : Value) (an : Option Addr) (cdv ct : Value) (us : List Value) (hl : us.length = ps_Question___eq__.length) : bindArgs (PySem.W.fnOf x q (defArgs st_Question___eq__) (defBody st_Question___eq__) (defScope st_Question___eq__) .none kV doc pm an cdv ct) ⟨us, []⟩ = pure (ps_Question___eq__.zip us) := match us, hl with
  | [_, _], _ => rfl
/-! Question___str__ -/
def N_Question___str__ : List Str := ["self"]
def ps_Question___str__ : List Str := ["self"]
def b_Question___str__ : Sms :=
    (.cons (.ret (.bi .str (.cons (.att (.v 0) i_text) .nil)))
    .nil)
theorem ag_Question___str__ : agSs (nmOf nmL) N_Question___str__ (defScope st_Question___str__) b_Question___str__ (defBody st_Question___str__) = true := by decide +kernel
theorem sc_Question___str__ : FnScope N_Question___str__ ps_Question___str__ (defScope st_Question___str__) := ⟨rfl, rfl, rfl, by decide +kernel, rfl, by decide +kernel, by decide +kernel⟩
theorem bd_Question___str__ (x q : Str) (kV doc pm : Value) (an : Option Addr) (cdv ct : Value) (us : List Value) (hl : us.length = ps_Question___str__.length) : bindArgs (PySem.W.fnOf x q (defArgs st_Question___str__) (defBody st_Question___str__) (defScope st_Question___str__) .none kV doc pm an cdv ct) ⟨us, []⟩ = pure (ps_Question___str__.zip us) := match us, hl with
  | [_], _ => rfl
/-! BadName -/
theorem xt_BadName : NbX.XSt xs_BadName ["self", "name"] (some "name") :=
  ⟨fun _ _ _ _ _ _ _ _ _ us hl => (match us, hl with
    | [_, _], _ => rfl), ⟨_, rfl, rfl⟩, rfl, by decide +kernel, by decide +kernel, rfl, rfl, rfl, by decide +kernel, by decide +kernel, by decide +kernel, ⟨_, _, _, _, _, _, _, _, _, _, _, _, rfl, rfl⟩⟩
/-! NameTaken -/
theorem xt_NameTaken : NbX.XSt xs_NameTaken ["self", "name"] (some "name") :=
  ⟨fun _ _ _ _ _ _ _ _ _ us hl => (match us, hl with
    | [_, _], _ => rfl), ⟨_, rfl, rfl⟩, rfl, by decide +kernel, by decide +kernel, rfl, rfl, rfl, by decide +kernel, by decide +kernel, by decide +kernel, ⟨_, _, _, _, _, _, _, _, _, _, _, _, rfl, rfl⟩⟩
/-! NoPlain -/
theorem xt_NoPlain : NbX.XSt xs_NoPlain ["self", "name"] (some "name") :=
  ⟨fun _ _ _ _ _ _ _ _ _ us hl => (match us, hl with
    | [_, _], _ => rfl), ⟨_, rfl, rfl⟩, rfl, by decide +kernel, by decide +kernel, rfl, rfl, rfl, by decide +kernel, by decide +kernel, by decide +kernel, ⟨_, _, _, _, _, _, _, _, _, _, _, _, rfl, rfl⟩⟩
/-! WrongCell -/
theorem xt_WrongCell : NbX.XSt xs_WrongCell ["self", "name"] (some "name") :=
  ⟨fun _ _ _ _ _ _ _ _ _ us hl => (match us, hl with
    | [_, _], _ => rfl), ⟨_, rfl, rfl⟩, rfl, by decide +kernel, by decide +kernel, rfl, rfl, rfl, by decide +kernel, by decide +kernel, by decide +kernel, ⟨_, _, _, _, _, _, _, _, _, _, _, _, rfl, rfl⟩⟩
/-! CellQuestion___init__ -/
def N_CellQuestion___init__ : List Str := ["self", "column", "sign", "cells", "__class__", "cell"]
def pv_CellQuestion___init__ : List Str := ["self", "column", "sign", "cells"]
def b_CellQuestion___init__ : Sms :=
    (.cons (.ifs (.not (.call i_valid_name (.cons (.v 1) .nil))) (.cons (.rais i_BadName (.cons (.v 1) .nil))
    .nil) .nil)
    (.cons (.fore [5] (.val (.v 3)) (.cons (.ifs (.not (.call i_valid_cell (.cons (.v 5) .nil))) (.cons (.rais i_WrongCell (.cons (.v 1) .nil))
    .nil) .nil)
    .nil))
    (.cons (.asgA (.v 0) i_column (.v 1))
    (.cons (.asgA (.v 0) i_cells (.bi .tuple (.cons (.sset (.v 3)) .nil)))
    .nil))))
def e_CellQuestion___init__ : Exs :=
    (.cons (.bin .Add (.bin .Add (.v 1) (.v 2)) (.bm (.k (.str ",")) .join (.cons (.lc [5] (.bi .str (.cons (.v 5) .nil)) [5] (.val (.att (.v 0) i_cells)) .no) .nil))) .nil)
abbrev pb_CellQuestion___init__ : List Stmt := (defBody st_CellQuestion___init__).take 4
abbrev xs_CellQuestion___init__ : List Expr := lastArgs (defBody st_CellQuestion___init__)
theorem ag_CellQuestion___init__ : agSs (nmOf nmL) N_CellQuestion___init__ (defScope st_CellQuestion___init__) b_CellQuestion___init__ pb_CellQuestion___init__ = true := by decide +kernel
theorem ae_CellQuestion___init__ : agEs (nmOf nmL) N_CellQuestion___init__ (defScope st_CellQuestion___init__) e_CellQuestion___init__ xs_CellQuestion___init__ = true := by decide +kernel
theorem su_CellQuestion___init__ : SupSt st_CellQuestion___init__ N_CellQuestion___init__ pv_CellQuestion___init__ 4 false pb_CellQuestion___init__ xs_CellQuestion___init__ :=
  ⟨NdefX.nscope_by (by decide +kernel), ⟨_, rfl, rfl, by decide +kernel⟩, by decide +kernel, rfl, ⟨_, _, _, _, _, rfl, rfl⟩, by decide +kernel, fun _ x q kV doc pm an cdv ct cc us hl => (match us, hl with
    | [_, _, _, _], _ => rfl), (fun z => nomatch z)⟩
/-! Choose___init__ -/
def N_Choose___init__ : List Str := ["self", "column", "cells", "__class__"]
def pv_Choose___init__ : List Str := ["self", "column", "cells"]
def b_Choose___init__ : Sms :=
    .nil
def e_Choose___init__ : Exs :=
    (.cons (.v 1) (.cons (.k (.str "=")) (.cons (.v 2) .nil)))
abbrev pb_Choose___init__ : List Stmt := (defBody st_Choose___init__).take 0
abbrev xs_Choose___init__ : List Expr := lastArgs (defBody st_Choose___init__)
theorem ag_Choose___init__ : agSs (nmOf nmL) N_Choose___init__ (defScope st_Choose___init__) b_Choose___init__ pb_Choose___init__ = true := by decide +kernel
theorem ae_Choose___init__ : agEs (nmOf nmL) N_Choose___init__ (defScope st_Choose___init__) e_Choose___init__ xs_Choose___init__ = true := by decide +kernel
theorem su_Choose___init__ : SupSt st_Choose___init__ N_Choose___init__ pv_Choose___init__ 2 true pb_Choose___init__ xs_Choose___init__ :=
  ⟨NdefX.nscope_by (by decide +kernel), ⟨_, rfl, rfl, by decide +kernel⟩, by decide +kernel, rfl, ⟨_, _, _, _, _, rfl, rfl⟩, by decide +kernel, (fun z => nomatch z), fun _ x q kV doc pm an cdv ct cc us rest hl => (match us, hl with
    | [_, _], _ => bind_va2 rfl rfl rfl (by decide +kernel))⟩
/-! Refuse___init__ -/
def N_Refuse___init__ : List Str := ["self", "column", "cells", "__class__"]
def pv_Refuse___init__ : List Str := ["self", "column", "cells"]
def b_Refuse___init__ : Sms :=
    .nil
def e_Refuse___init__ : Exs :=
    (.cons (.v 1) (.cons (.k (.str "!")) (.cons (.v 2) .nil)))
abbrev pb_Refuse___init__ : List Stmt := (defBody st_Refuse___init__).take 0
abbrev xs_Refuse___init__ : List Expr := lastArgs (defBody st_Refuse___init__)
theorem ag_Refuse___init__ : agSs (nmOf nmL) N_Refuse___init__ (defScope st_Refuse___init__) b_Refuse___init__ pb_Refuse___init__ = true := by decide +kernel
theorem ae_Refuse___init__ : agEs (nmOf nmL) N_Refuse___init__ (defScope st_Refuse___init__) e_Refuse___init__ xs_Refuse___init__ = true := by decide +kernel
theorem su_Refuse___init__ : SupSt st_Refuse___init__ N_Refuse___init__ pv_Refuse___init__ 2 true pb_Refuse___init__ xs_Refuse___init__ :=
  ⟨NdefX.nscope_by (by decide +kernel), ⟨_, rfl, rfl, by decide +kernel⟩, by decide +kernel, rfl, ⟨_, _, _, _, _, rfl, rfl⟩, by decide +kernel, (fun z => nomatch z), fun _ x q kV doc pm an cdv ct cc us rest hl => (match us, hl with
    | [_, _], _ => bind_va2 rfl rfl rfl (by decide +kernel))⟩
/-! Match___init__ -/
def N_Match___init__ : List Str := ["self", "one", "other", "__class__"]
def pv_Match___init__ : List Str := ["self", "one", "other"]
def b_Match___init__ : Sms :=
    (.cons (.exp (.call i_check_names (.cons (.lst (.cons (.v 1) (.cons (.v 2) .nil))) .nil)))
    (.cons (.asgA (.v 0) i_columns (.bi .tuple (.cons (.bi .sorted (.cons (.lst (.cons (.v 1) (.cons (.v 2) .nil))) .nil)) .nil)))
    .nil))
def e_Match___init__ : Exs :=
    (.cons (.bin .Add (.bin .Add (.sub (.att (.v 0) i_columns) (.k (.int 0))) (.k (.str "~"))) (.sub (.att (.v 0) i_columns) (.k (.int 1)))) .nil)
abbrev pb_Match___init__ : List Stmt := (defBody st_Match___init__).take 2
abbrev xs_Match___init__ : List Expr := lastArgs (defBody st_Match___init__)
theorem ag_Match___init__ : agSs (nmOf nmL) N_Match___init__ (defScope st_Match___init__) b_Match___init__ pb_Match___init__ = true := by decide +kernel
theorem ae_Match___init__ : agEs (nmOf nmL) N_Match___init__ (defScope st_Match___init__) e_Match___init__ xs_Match___init__ = true := by decide +kernel
theorem su_Match___init__ : SupSt st_Match___init__ N_Match___init__ pv_Match___init__ 3 false pb_Match___init__ xs_Match___init__ :=
  ⟨NdefX.nscope_by (by decide +kernel), ⟨_, rfl, rfl, by decide +kernel⟩, by decide +kernel, rfl, ⟨_, _, _, _, _, rfl, rfl⟩, by decide +kernel, fun _ x q kV doc pm an cdv ct cc us hl => (match us, hl with
    | [_, _, _], _ => rfl), (fun z => nomatch z)⟩
/-! Drop___init__ -/
def N_Drop___init__ : List Str := ["self", "columns", "__class__"]
def pv_Drop___init__ : List Str := ["self", "columns"]
def b_Drop___init__ : Sms :=
    (.cons (.exp (.call i_check_names (.cons (.v 1) .nil)))
    (.cons (.ifs (.not (.v 1)) (.cons (.rais i_NoPlain (.cons (.k (.str "")) .nil))
    .nil) .nil)
    (.cons (.asgA (.v 0) i_columns (.bi .tuple (.cons (.bi .sorted (.cons (.v 1) .nil)) .nil)))
    .nil)))
def e_Drop___init__ : Exs :=
    (.cons (.bin .Add (.bin .Add (.k (.str "-(")) (.bm (.k (.str " ")) .join (.cons (.att (.v 0) i_columns) .nil))) (.k (.str ")"))) .nil)
abbrev pb_Drop___init__ : List Stmt := (defBody st_Drop___init__).take 3
abbrev xs_Drop___init__ : List Expr := lastArgs (defBody st_Drop___init__)
theorem ag_Drop___init__ : agSs (nmOf nmL) N_Drop___init__ (defScope st_Drop___init__) b_Drop___init__ pb_Drop___init__ = true := by decide +kernel
theorem ae_Drop___init__ : agEs (nmOf nmL) N_Drop___init__ (defScope st_Drop___init__) e_Drop___init__ xs_Drop___init__ = true := by decide +kernel
theorem su_Drop___init__ : SupSt st_Drop___init__ N_Drop___init__ pv_Drop___init__ 1 true pb_Drop___init__ xs_Drop___init__ :=
  ⟨NdefX.nscope_by (by decide +kernel), ⟨_, rfl, rfl, by decide +kernel⟩, by decide +kernel, rfl, ⟨_, _, _, _, _, rfl, rfl⟩, by decide +kernel, (fun z => nomatch z), fun _ x q kV doc pm an cdv ct cc us rest hl => (match us, hl with
    | [_], _ => bind_va1 rfl rfl rfl)⟩
/-! Prune___init__ -/
def N_Prune___init__ : List Str := ["self", "name", "__class__"]
def pv_Prune___init__ : List Str := ["self", "name"]
def b_Prune___init__ : Sms :=
    (.cons (.exp (.call i_check_names (.cons (.lst (.cons (.v 1) .nil)) .nil)))
    (.cons (.asgA (.v 0) i_name (.v 1))
    .nil))
def e_Prune___init__ : Exs :=
    (.cons (.bin .Add (.v 1) (.k (.str "*"))) .nil)
abbrev pb_Prune___init__ : List Stmt := (defBody st_Prune___init__).take 2
abbrev xs_Prune___init__ : List Expr := lastArgs (defBody st_Prune___init__)
theorem ag_Prune___init__ : agSs (nmOf nmL) N_Prune___init__ (defScope st_Prune___init__) b_Prune___init__ pb_Prune___init__ = true := by decide +kernel
theorem ae_Prune___init__ : agEs (nmOf nmL) N_Prune___init__ (defScope st_Prune___init__) e_Prune___init__ xs_Prune___init__ = true := by decide +kernel
theorem su_Prune___init__ : SupSt st_Prune___init__ N_Prune___init__ pv_Prune___init__ 2 false pb_Prune___init__ xs_Prune___init__ :=
  ⟨NdefX.nscope_by (by decide +kernel), ⟨_, rfl, rfl, by decide +kernel⟩, by decide +kernel, rfl, ⟨_, _, _, _, _, rfl, rfl⟩, by decide +kernel, fun _ x q kV doc pm an cdv ct cc us hl => (match us, hl with
    | [_, _], _ => rfl), (fun z => nomatch z)⟩
end K13

/-! K13a -/
set_option Elab.async false
set_option linter.all false
set_option maxRecDepth 100000
set_option maxHeartbeats 1000000
namespace K13
open PySem PySem.Spec L2 Nb
open PyProof.Rows hiding St
local macro_rules | `(tactic| walk_at "s") => `(tactic| (first | with_reducible refine stp_go ?_ | ((with_reducible apply r_v); (focus (with_reducible (first | assumption | with_unfolding_all rfl)))) | ((with_reducible apply r_g); (focus (with_reducible (first | assumption | with_unfolding_all rfl)))) | ((with_reducible apply o_addl); (focus (with_reducible (first | assumption | exact Nat.le_of_ble_eq_true rfl)))) | ((with_reducible apply o_addt); (focus (with_reducible (first | assumption | exact Nat.le_of_ble_eq_true rfl)))) | ((with_reducible apply o_ixr); (focus (with_reducible ((repeat (refine (ms_ne (by first | assumption | exact Ne.symm (by assumption))).trans ?_)); first | with_reducible exact ms_same | assumption))); (focus (with_reducible (first | assumption | with_unfolding_all rfl)))) | ((with_reducible apply o_ixt); (focus (with_reducible (first | assumption | with_unfolding_all rfl)))) | ((with_reducible apply o_ixl); (focus (with_reducible (first | assumption | with_unfolding_all rfl)))) | ((with_reducible apply o_ixk); (focus (with_reducible (first | assumption | with_unfolding_all rfl)))) | ((with_reducible apply o_mod); (focus (with_reducible (first | decide | assumption | omega)))) | ((with_reducible apply o_mulr); (focus (with_reducible (first | assumption | omega))); (focus (with_reducible (first | assumption | omega)))) | ((with_reducible apply o_mull); (focus (with_reducible (first | assumption | omega))); (focus (with_reducible (first | assumption | omega)))) | ((with_reducible apply o_divl); (focus (with_reducible (first | assumption | omega))); (focus (with_reducible (first | assumption | omega)))) | ((with_reducible apply o_pow3); (focus (with_reducible (first | assumption | omega))); (focus (with_reducible (first | assumption | omega))); (focus (with_reducible (first | assumption | omega)))) | ((with_reducible apply b_lenr); (focus (with_reducible ((repeat (refine (ms_ne (by first | assumption | exact Ne.symm (by assumption))).trans ?_)); first | with_reducible exact ms_same | assumption)))) | ((with_reducible apply b_listr); (focus (with_reducible ((repeat (refine (ms_ne (by first | assumption | exact Ne.symm (by assumption))).trans ?_)); first | with_reducible exact ms_same | assumption)))) | ((with_reducible apply b_tupr); (focus (with_reducible ((repeat (refine (ms_ne (by first | assumption | exact Ne.symm (by assumption))).trans ?_)); first | with_reducible exact ms_same | assumption)))) | ((with_reducible apply r_call); (focus (with_reducible (assumption)))) | ((with_reducible apply r_new); (focus (with_reducible (assumption)))) | ((with_reducible apply m_appT); (focus (with_reducible ((repeat (refine (ms_ne (by first | assumption | exact Ne.symm (by assumption))).trans ?_)); first | with_reducible exact ms_same | assumption)))) | with_reducible refine q_oeq ?_ | ((with_reducible apply r_exn); (focus (with_reducible (first | assumption | with_unfolding_all rfl)))) | ((with_reducible apply u_ref); (focus (with_reducible ((repeat (refine (ms_ne (by first | assumption | exact Ne.symm (by assumption))).trans ?_)); first | with_reducible exact ms_same | assumption)))) | ((with_reducible apply e_set); (focus (with_reducible ((repeat (refine (ms_ne (by first | assumption | exact Ne.symm (by assumption))).trans ?_)); first | with_reducible exact ms_same | assumption))); (focus (with_reducible (first | assumption | with_unfolding_all rfl)))) | ((with_reducible apply isi_b); (focus (with_reducible (with_unfolding_all rfl))); (focus (with_reducible (first | with_reducible rfl | with_reducible exact tb_NoneType_bool | with_reducible exact tb_NoneType_int | with_reducible exact tb_NoneType_str | with_reducible exact tb_NoneType_tuple | with_reducible exact tb_NoneType_list | with_reducible exact tb_bool_bool | with_reducible exact tb_bool_int | with_reducible exact tb_bool_str | with_reducible exact tb_bool_tuple | with_reducible exact tb_bool_list | with_reducible exact tb_int_bool | with_reducible exact tb_int_int | with_reducible exact tb_int_str | with_reducible exact tb_int_tuple | with_reducible exact tb_int_list | with_reducible exact tb_str_bool | with_reducible exact tb_str_int | with_reducible exact tb_str_str | with_reducible exact tb_str_tuple | with_reducible exact tb_str_list | with_reducible exact tb_tuple_bool | with_reducible exact tb_tuple_int | with_reducible exact tb_tuple_str | with_reducible exact tb_tuple_tuple | with_reducible exact tb_tuple_list | with_reducible exact tb_list_bool | with_reducible exact tb_list_int | with_reducible exact tb_list_str | with_reducible exact tb_list_tuple | with_reducible exact tb_list_list)))) | ((with_reducible apply c_len); (focus (with_reducible (first | assumption | exact Nat.le_of_ble_eq_true rfl)))) | (with_reducible refine t_nil ?_; dsimp only)))
local macro_rules | `(tactic| walk_at "w") => `(tactic| (repeat (first | with_reducible refine stp_go ?_ | ((with_reducible apply r_v); (focus (with_reducible (first | assumption | with_unfolding_all rfl)))) | ((with_reducible apply r_g); (focus (with_reducible (first | assumption | with_unfolding_all rfl)))) | ((with_reducible apply o_addl); (focus (with_reducible (first | assumption | exact Nat.le_of_ble_eq_true rfl)))) | ((with_reducible apply o_addt); (focus (with_reducible (first | assumption | exact Nat.le_of_ble_eq_true rfl)))) | ((with_reducible apply o_ixr); (focus (with_reducible ((repeat (refine (ms_ne (by first | assumption | exact Ne.symm (by assumption))).trans ?_)); first | with_reducible exact ms_same | assumption))); (focus (with_reducible (first | assumption | with_unfolding_all rfl)))) | ((with_reducible apply o_ixt); (focus (with_reducible (first | assumption | with_unfolding_all rfl)))) | ((with_reducible apply o_ixl); (focus (with_reducible (first | assumption | with_unfolding_all rfl)))) | ((with_reducible apply o_ixk); (focus (with_reducible (first | assumption | with_unfolding_all rfl)))) | ((with_reducible apply o_mod); (focus (with_reducible (first | decide | assumption | omega)))) | ((with_reducible apply o_mulr); (focus (with_reducible (first | assumption | omega))); (focus (with_reducible (first | assumption | omega)))) | ((with_reducible apply o_mull); (focus (with_reducible (first | assumption | omega))); (focus (with_reducible (first | assumption | omega)))) | ((with_reducible apply o_divl); (focus (with_reducible (first | assumption | omega))); (focus (with_reducible (first | assumption | omega)))) | ((with_reducible apply o_pow3); (focus (with_reducible (first | assumption | omega))); (focus (with_reducible (first | assumption | omega))); (focus (with_reducible (first | assumption | omega)))) | ((with_reducible apply b_lenr); (focus (with_reducible ((repeat (refine (ms_ne (by first | assumption | exact Ne.symm (by assumption))).trans ?_)); first | with_reducible exact ms_same | assumption)))) | ((with_reducible apply b_listr); (focus (with_reducible ((repeat (refine (ms_ne (by first | assumption | exact Ne.symm (by assumption))).trans ?_)); first | with_reducible exact ms_same | assumption)))) | ((with_reducible apply b_tupr); (focus (with_reducible ((repeat (refine (ms_ne (by first | assumption | exact Ne.symm (by assumption))).trans ?_)); first | with_reducible exact ms_same | assumption)))) | ((with_reducible apply r_call); (focus (with_reducible (assumption)))) | ((with_reducible apply r_new); (focus (with_reducible (assumption)))) | ((with_reducible apply m_appT); (focus (with_reducible ((repeat (refine (ms_ne (by first | assumption | exact Ne.symm (by assumption))).trans ?_)); first | with_reducible exact ms_same | assumption)))) | with_reducible refine q_oeq ?_ | ((with_reducible apply r_exn); (focus (with_reducible (first | assumption | with_unfolding_all rfl)))) | ((with_reducible apply u_ref); (focus (with_reducible ((repeat (refine (ms_ne (by first | assumption | exact Ne.symm (by assumption))).trans ?_)); first | with_reducible exact ms_same | assumption)))) | ((with_reducible apply e_set); (focus (with_reducible ((repeat (refine (ms_ne (by first | assumption | exact Ne.symm (by assumption))).trans ?_)); first | with_reducible exact ms_same | assumption))); (focus (with_reducible (first | assumption | with_unfolding_all rfl)))) | ((with_reducible apply isi_b); (focus (with_reducible (with_unfolding_all rfl))); (focus (with_reducible (first | with_reducible rfl | with_reducible exact tb_NoneType_bool | with_reducible exact tb_NoneType_int | with_reducible exact tb_NoneType_str | with_reducible exact tb_NoneType_tuple | with_reducible exact tb_NoneType_list | with_reducible exact tb_bool_bool | with_reducible exact tb_bool_int | with_reducible exact tb_bool_str | with_reducible exact tb_bool_tuple | with_reducible exact tb_bool_list | with_reducible exact tb_int_bool | with_reducible exact tb_int_int | with_reducible exact tb_int_str | with_reducible exact tb_int_tuple | with_reducible exact tb_int_list | with_reducible exact tb_str_bool | with_reducible exact tb_str_int | with_reducible exact tb_str_str | with_reducible exact tb_str_tuple | with_reducible exact tb_str_list | with_reducible exact tb_tuple_bool | with_reducible exact tb_tuple_int | with_reducible exact tb_tuple_str | with_reducible exact tb_tuple_tuple | with_reducible exact tb_tuple_list | with_reducible exact tb_list_bool | with_reducible exact tb_list_int | with_reducible exact tb_list_str | with_reducible exact tb_list_tuple | with_reducible exact tb_list_list)))) | ((with_reducible apply c_len); (focus (with_reducible (first | assumption | exact Nat.le_of_ble_eq_true rfl)))) | (with_reducible refine t_nil ?_; dsimp only))))
def StL (ns : List Int) (p : Nat) (q n : Int) (b : Bool) : MO := .lst [.lst (ns.map .int), .int p, .int q, .int n, .bl b]
def S_draw : BP := fun xs M Q E => ∃ a lim ns p q n b, xs = [.ref a, .int lim] ∧ 0 < lim ∧ lim < 2 ^ 62 ∧ M a = some (StL ns p q n b) ∧ ∀ r p' q' n' b', 0 ≤ r → r < lim → Q (.int r) (ms M a (StL ns p' q' n' b'))
theorem w_draw {Γ : Gm} : ∀ xs M Q E, S_draw xs M Q E → bodyP Γ b__law_draw N__law_draw 2 xs M Q E := by
  rintro xs M Q E ⟨a, lim, ns, p, q, n, b, rfl, h0, h1, hM, go⟩
  refine ⟨rfl, ?_⟩
  have go2 : ∀ (r : Int) xs, (∃ p' q' n' b', xs = [PV.lst (ns.map .int), .int ((p' : Nat) : Int), .int q', .int n', .bl b']) → 0 ≤ r → r < lim → Q (.int r) (ms M a (.lst xs)) := by
    rintro r xs ⟨p', q', n', b', rfl⟩ h h'
    exact go r p' q' n' b' h h'
  have key : ms M a (StL ns p q n b) = M := by
    funext c
    by_cases e : c = a
    · subst e; rw [ms_same, hM]
    · exact ms_ne e
  unfold b__law_draw startP N__law_draw
  unfold StL at hM key
  dsimp only [List.map, List.length, List.replicate, List.append]
  refine t_mid (fun τ1 M1 => ∃ p q n b c, τ1 = [some (.ref a), some (.int lim), c, none] ∧ M1 = ms M a (StL ns p q n b)) (fun N hN => t_one ?_) ?_
  · walk_at "w"
    refine s_d (fun h => ?_) (fun h => ?_)
    · walk_at "w"
      refine s_d (fun h2 => ?_) (fun h2 => ?_)
      · walk_at "w"
        have := go 0 p q n b (by omega) h0
        rw [show ms M a (StL ns p q n b) = M from key] at this
        exact this
      · have ⟨v, hv⟩ : ∃ v : Int, atI (ns.map PV.int) (p : Int) = some (.int v) := by
          simp only [List.length_map, Int.not_le] at h2
          have hp : p < ns.length := by omega
          refine ⟨ns[p], ?_⟩
          unfold atI ixN
          simp [hp]
        walk_at "w"
        refine s_d (fun h3 => ?_) (fun h3 => ?_)
        · walk_at "w"
          refine s_d (fun h4 => ?_) (fun h4 => ?_)
          · walk_at "w"
            exact go2 _ _ ⟨p + 1, q, n, b, rfl⟩ (Int.emod_nonneg _ (by omega)) (Int.emod_lt_of_pos _ h0)
          · walk_at "w"
            refine s_b (fun h5 => ?_) (fun h5 => ?_)
            · walk_at "w"
              exact hN _ _ ⟨p + 1, v, 60, _, some (.int v), rfl, by simp only [ms_ms]; rfl⟩
            · walk_at "w"
              exact hN _ _ ⟨p + 1, v, 6, _, some (.int v), rfl, by simp only [ms_ms]; rfl⟩
        · walk_at "w"
          refine s_b (fun h5 => ?_) (fun h5 => ?_)
          · walk_at "w"
            exact hN _ _ ⟨p + 1, v, 60, _, some (.int v), rfl, by simp only [ms_ms]; rfl⟩
          · walk_at "w"
            exact hN _ _ ⟨p + 1, v, 6, _, some (.int v), rfl, by simp only [ms_ms]; rfl⟩
    · walk_at "w"
      exact hN _ _ ⟨p, q, n, b, none, rfl, key.symm⟩
  · rintro τ1 M1 ⟨p, q, n, b, c, rfl, rfl⟩
    unfold StL
    walk_at "w"
    refine s_b (fun h5 => ?_) (fun h5 => ?_)
    · walk_at "w"
      refine s_d (fun h6 => ?_) (fun h6 => ?_)
      · walk_at "w"
        show Q _ _
        simp only [ms_ms]
        exact go2 _ _ ⟨p, _, _, _, rfl⟩ (Int.emod_nonneg _ (by omega)) (Int.emod_lt_of_pos _ h0)
      · walk_at "w"
        show Q _ _
        simp only [ms_ms]
        exact go2 _ _ ⟨p, _, _, _, rfl⟩ (Int.emod_nonneg _ (by omega)) (Int.emod_lt_of_pos _ h0)
    · walk_at "w"
      show Q _ _
      simp only [ms_ms]
      exact go2 _ _ ⟨p, _, _, _, rfl⟩ (Int.emod_nonneg _ (by omega)) (Int.emod_lt_of_pos _ h0)
end K13

/-! K13b -/
set_option Elab.async false
set_option linter.all false
set_option maxRecDepth 100000
set_option maxHeartbeats 1000000
namespace K13
open PySem PySem.Spec L2 Nb
open PyProof.Rows hiding St
local macro_rules | `(tactic| walk_at "s") => `(tactic| (first | with_reducible refine stp_go ?_ | ((with_reducible apply r_v); (focus (with_reducible (first | assumption | with_unfolding_all rfl)))) | ((with_reducible apply r_g); (focus (with_reducible (first | assumption | with_unfolding_all rfl)))) | ((with_reducible apply o_addl); (focus (with_reducible (first | assumption | exact Nat.le_of_ble_eq_true rfl)))) | ((with_reducible apply o_addt); (focus (with_reducible (first | assumption | exact Nat.le_of_ble_eq_true rfl)))) | ((with_reducible apply o_ixr); (focus (with_reducible ((repeat (refine (ms_ne (by first | assumption | exact Ne.symm (by assumption))).trans ?_)); first | with_reducible exact ms_same | assumption))); (focus (with_reducible (first | assumption | with_unfolding_all rfl)))) | ((with_reducible apply o_ixt); (focus (with_reducible (first | assumption | with_unfolding_all rfl)))) | ((with_reducible apply o_ixl); (focus (with_reducible (first | assumption | with_unfolding_all rfl)))) | ((with_reducible apply o_ixk); (focus (with_reducible (first | assumption | with_unfolding_all rfl)))) | ((with_reducible apply o_mod); (focus (with_reducible (first | decide | assumption | omega)))) | ((with_reducible apply o_mulr); (focus (with_reducible (first | assumption | omega))); (focus (with_reducible (first | assumption | omega)))) | ((with_reducible apply o_mull); (focus (with_reducible (first | assumption | omega))); (focus (with_reducible (first | assumption | omega)))) | ((with_reducible apply o_divl); (focus (with_reducible (first | assumption | omega))); (focus (with_reducible (first | assumption | omega)))) | ((with_reducible apply o_pow3); (focus (with_reducible (first | assumption | omega))); (focus (with_reducible (first | assumption | omega))); (focus (with_reducible (first | assumption | omega)))) | ((with_reducible apply b_lenr); (focus (with_reducible ((repeat (refine (ms_ne (by first | assumption | exact Ne.symm (by assumption))).trans ?_)); first | with_reducible exact ms_same | assumption)))) | ((with_reducible apply b_listr); (focus (with_reducible ((repeat (refine (ms_ne (by first | assumption | exact Ne.symm (by assumption))).trans ?_)); first | with_reducible exact ms_same | assumption)))) | ((with_reducible apply b_tupr); (focus (with_reducible ((repeat (refine (ms_ne (by first | assumption | exact Ne.symm (by assumption))).trans ?_)); first | with_reducible exact ms_same | assumption)))) | ((with_reducible apply r_call); (focus (with_reducible (assumption)))) | ((with_reducible apply r_new); (focus (with_reducible (assumption)))) | ((with_reducible apply m_appT); (focus (with_reducible ((repeat (refine (ms_ne (by first | assumption | exact Ne.symm (by assumption))).trans ?_)); first | with_reducible exact ms_same | assumption)))) | with_reducible refine q_oeq ?_ | ((with_reducible apply r_exn); (focus (with_reducible (first | assumption | with_unfolding_all rfl)))) | ((with_reducible apply u_ref); (focus (with_reducible ((repeat (refine (ms_ne (by first | assumption | exact Ne.symm (by assumption))).trans ?_)); first | with_reducible exact ms_same | assumption)))) | ((with_reducible apply e_set); (focus (with_reducible ((repeat (refine (ms_ne (by first | assumption | exact Ne.symm (by assumption))).trans ?_)); first | with_reducible exact ms_same | assumption))); (focus (with_reducible (first | assumption | with_unfolding_all rfl)))) | ((with_reducible apply isi_b); (focus (with_reducible (with_unfolding_all rfl))); (focus (with_reducible (first | with_reducible rfl | with_reducible exact tb_NoneType_bool | with_reducible exact tb_NoneType_int | with_reducible exact tb_NoneType_str | with_reducible exact tb_NoneType_tuple | with_reducible exact tb_NoneType_list | with_reducible exact tb_bool_bool | with_reducible exact tb_bool_int | with_reducible exact tb_bool_str | with_reducible exact tb_bool_tuple | with_reducible exact tb_bool_list | with_reducible exact tb_int_bool | with_reducible exact tb_int_int | with_reducible exact tb_int_str | with_reducible exact tb_int_tuple | with_reducible exact tb_int_list | with_reducible exact tb_str_bool | with_reducible exact tb_str_int | with_reducible exact tb_str_str | with_reducible exact tb_str_tuple | with_reducible exact tb_str_list | with_reducible exact tb_tuple_bool | with_reducible exact tb_tuple_int | with_reducible exact tb_tuple_str | with_reducible exact tb_tuple_tuple | with_reducible exact tb_tuple_list | with_reducible exact tb_list_bool | with_reducible exact tb_list_int | with_reducible exact tb_list_str | with_reducible exact tb_list_tuple | with_reducible exact tb_list_list)))) | ((with_reducible apply c_len); (focus (with_reducible (first | assumption | exact Nat.le_of_ble_eq_true rfl)))) | (with_reducible refine t_nil ?_; dsimp only)))
local macro_rules | `(tactic| walk_at "w") => `(tactic| (repeat (first | with_reducible refine stp_go ?_ | ((with_reducible apply r_v); (focus (with_reducible (first | assumption | with_unfolding_all rfl)))) | ((with_reducible apply r_g); (focus (with_reducible (first | assumption | with_unfolding_all rfl)))) | ((with_reducible apply o_addl); (focus (with_reducible (first | assumption | exact Nat.le_of_ble_eq_true rfl)))) | ((with_reducible apply o_addt); (focus (with_reducible (first | assumption | exact Nat.le_of_ble_eq_true rfl)))) | ((with_reducible apply o_ixr); (focus (with_reducible ((repeat (refine (ms_ne (by first | assumption | exact Ne.symm (by assumption))).trans ?_)); first | with_reducible exact ms_same | assumption))); (focus (with_reducible (first | assumption | with_unfolding_all rfl)))) | ((with_reducible apply o_ixt); (focus (with_reducible (first | assumption | with_unfolding_all rfl)))) | ((with_reducible apply o_ixl); (focus (with_reducible (first | assumption | with_unfolding_all rfl)))) | ((with_reducible apply o_ixk); (focus (with_reducible (first | assumption | with_unfolding_all rfl)))) | ((with_reducible apply o_mod); (focus (with_reducible (first | decide | assumption | omega)))) | ((with_reducible apply o_mulr); (focus (with_reducible (first | assumption | omega))); (focus (with_reducible (first | assumption | omega)))) | ((with_reducible apply o_mull); (focus (with_reducible (first | assumption | omega))); (focus (with_reducible (first | assumption | omega)))) | ((with_reducible apply o_divl); (focus (with_reducible (first | assumption | omega))); (focus (with_reducible (first | assumption | omega)))) | ((with_reducible apply o_pow3); (focus (with_reducible (first | assumption | omega))); (focus (with_reducible (first | assumption | omega))); (focus (with_reducible (first | assumption | omega)))) | ((with_reducible apply b_lenr); (focus (with_reducible ((repeat (refine (ms_ne (by first | assumption | exact Ne.symm (by assumption))).trans ?_)); first | with_reducible exact ms_same | assumption)))) | ((with_reducible apply b_listr); (focus (with_reducible ((repeat (refine (ms_ne (by first | assumption | exact Ne.symm (by assumption))).trans ?_)); first | with_reducible exact ms_same | assumption)))) | ((with_reducible apply b_tupr); (focus (with_reducible ((repeat (refine (ms_ne (by first | assumption | exact Ne.symm (by assumption))).trans ?_)); first | with_reducible exact ms_same | assumption)))) | ((with_reducible apply r_call); (focus (with_reducible (assumption)))) | ((with_reducible apply r_new); (focus (with_reducible (assumption)))) | ((with_reducible apply m_appT); (focus (with_reducible ((repeat (refine (ms_ne (by first | assumption | exact Ne.symm (by assumption))).trans ?_)); first | with_reducible exact ms_same | assumption)))) | with_reducible refine q_oeq ?_ | ((with_reducible apply r_exn); (focus (with_reducible (first | assumption | with_unfolding_all rfl)))) | ((with_reducible apply u_ref); (focus (with_reducible ((repeat (refine (ms_ne (by first | assumption | exact Ne.symm (by assumption))).trans ?_)); first | with_reducible exact ms_same | assumption)))) | ((with_reducible apply e_set); (focus (with_reducible ((repeat (refine (ms_ne (by first | assumption | exact Ne.symm (by assumption))).trans ?_)); first | with_reducible exact ms_same | assumption))); (focus (with_reducible (first | assumption | with_unfolding_all rfl)))) | ((with_reducible apply isi_b); (focus (with_reducible (with_unfolding_all rfl))); (focus (with_reducible (first | with_reducible rfl | with_reducible exact tb_NoneType_bool | with_reducible exact tb_NoneType_int | with_reducible exact tb_NoneType_str | with_reducible exact tb_NoneType_tuple | with_reducible exact tb_NoneType_list | with_reducible exact tb_bool_bool | with_reducible exact tb_bool_int | with_reducible exact tb_bool_str | with_reducible exact tb_bool_tuple | with_reducible exact tb_bool_list | with_reducible exact tb_int_bool | with_reducible exact tb_int_int | with_reducible exact tb_int_str | with_reducible exact tb_int_tuple | with_reducible exact tb_int_list | with_reducible exact tb_str_bool | with_reducible exact tb_str_int | with_reducible exact tb_str_str | with_reducible exact tb_str_tuple | with_reducible exact tb_str_list | with_reducible exact tb_tuple_bool | with_reducible exact tb_tuple_int | with_reducible exact tb_tuple_str | with_reducible exact tb_tuple_tuple | with_reducible exact tb_tuple_list | with_reducible exact tb_list_bool | with_reducible exact tb_list_int | with_reducible exact tb_list_str | with_reducible exact tb_list_tuple | with_reducible exact tb_list_list)))) | ((with_reducible apply c_len); (focus (with_reducible (first | assumption | exact Nat.le_of_ble_eq_true rfl)))) | (with_reducible refine t_nil ?_; dsimp only))))
/-! _law_start -/
def S_start : BP := fun xs M Q E => ∃ ns : List Int, xs = [.kl (ns.map .int)] ∧ ∀ r, M r = none → Q (.ref r) (ms M r (StL ns 0 0 0 false))
theorem w_start {Γ : Gm} : ∀ xs M Q E, S_start xs M Q E → bodyP Γ b__law_start N__law_start 1 xs M Q E := by
  rintro xs M Q E ⟨ns, rfl, go⟩
  refine ⟨rfl, ?_⟩
  unfold b__law_start startP N__law_start
  dsimp only [List.map, List.length, List.replicate, List.append]
  walk_at "w"
  intro r hr
  exact go r hr
/-! _law_pick -/
def S_pick : BP := fun xs M Q E => ∃ a ys ns p q n b, xs = [.ref a, .lst ys] ∧ ys ≠ [] ∧ ys.length < 2 ^ 62 ∧ M a = some (StL ns p q n b) ∧ ∀ y p' q' n' b', y ∈ ys → Q y (ms M a (StL ns p' q' n' b'))
theorem w_pick {Γ : Gm} (hd : Γ.fn i__law_draw = some S_draw) : ∀ xs M Q E, S_pick xs M Q E → bodyP Γ b__law_pick N__law_pick 2 xs M Q E := by
  rintro xs M Q E ⟨a, ys, ns, p, q, n, b, rfl, h0, h1, hM, go⟩
  refine ⟨rfl, ?_⟩
  unfold b__law_pick startP N__law_pick
  dsimp only [List.map, List.length, List.replicate, List.append]
  have hl : 0 < ys.length := List.length_pos_iff.mpr h0
  walk_at "w"
  refine ⟨a, _, ns, p, q, n, b, rfl, by omega, by omega, hM, fun r p' q' n' b' hr hr2 => ?_⟩
  have hj : r.toNat < ys.length := by omega
  refine o_ixl (v := ys[r.toNat]) ?_ (go _ p' q' n' b' (List.getElem_mem hj))
  unfold atI ixN
  rw [if_pos hr, if_pos hr2]
  simp [hj]
/-! _law_same: what is the same -/
def okS : Nat → PV → Bool
  | 0, _ => false
  | _ + 1, .non => true
  | _ + 1, .bl _ => true
  | _ + 1, .int _ => true
  | _ + 1, .str _ => true
  | d + 1, .tup xs => xs.all (okS d) && decide (xs.length < 2 ^ 62)
  | d + 1, .lst xs => xs.all (okS d) && decide (xs.length < 2 ^ 62)
  | _ + 1, _ => false
def S_same (d : Nat) : BP := fun xs M Q E => ∃ x, xs = [x, x] ∧ okS d x = true ∧ Q (.bl true) M
theorem atI_nat {α : Type} {xs : List α} {i : Nat} (h : i < xs.length) : atI xs (i : Int) = some xs[i] := by
  unfold atI ixN
  rw [if_pos (by omega), if_pos (by omega)]
  simp [h]
theorem mem_rngL {n : Nat} {y : PV} (h : y ∈ rngL 0 (n : Int)) : ∃ i : Nat, i < n ∧ y = .int i := by
  unfold rngL at h
  simp only [List.mem_map, List.mem_range] at h
  obtain ⟨i, h1, rfl⟩ := h
  refine ⟨i, by omega, by simp⟩
theorem w_same {Γ : Gm} (hc : Γ.cold = true) (d : Nat) : ∀ xs M Q E, S_same (d + 1) xs M Q E → bodyP (Γ.add i__law_same (S_same d)) b__law_same N__law_same 2 xs M Q E := by
  rintro xs M Q E ⟨x, rfl, hx, go⟩
  refine ⟨rfl, ?_⟩
  have hs : (Γ.add i__law_same (S_same d)).fn i__law_same = some (S_same d) := rfl
  have hc2 : (Γ.add i__law_same (S_same d)).cold = true := hc
  generalize Γ.add i__law_same (S_same d) = Γ' at hs hc2
  unfold b__law_same startP N__law_same
  dsimp only [List.map, List.length, List.replicate, List.append]
  cases x with
  | non =>
    walk_at "w"
    exact go
  | bl k =>
    walk_at "w"
    show Q _ _
    rw [beq_self_eq_true]
    exact go
  | int k =>
    walk_at "w"
    show Q _ _
    rw [decide_eq_true rfl]
    exact go
  | str k =>
    walk_at "w"
    show Q _ _
    rw [decide_eq_true rfl]
    exact go
  | tup ys =>
    simp only [okS, Bool.and_eq_true, List.all_eq_true, decide_eq_true_eq] at hx
    obtain ⟨hx1, hx2⟩ := hx
    walk_at "w"
    refine s_n (fun _ => ?_) (fun h => (h rfl).elim)
    walk_at "w"
    refine t_for hc2 ?_
    walk_at "w"
    refine i_rR ⟨by omega, by omega, by omega, by omega⟩ ?_
    refine forW_kp (fun τ => ∃ k, τ = [some (.tup ys), some (.tup ys), k]) trivial _ ⟨_, rfl⟩ ?_ ?_
    · rintro y hy τ ⟨k, rfl⟩ N hN
      obtain ⟨i, hi, rfl⟩ := mem_rngL hy
      have ha := atI_nat hi
      walk_at "w"
      refine ⟨_, rfl, hx1 _ (List.getElem_mem hi), ?_⟩
      walk_at "w"
      exact hN _ ⟨_, rfl⟩
    · rintro τ ⟨k, rfl⟩
      walk_at "w"
      exact go
  | lst ys =>
    simp only [okS, Bool.and_eq_true, List.all_eq_true, decide_eq_true_eq] at hx
    obtain ⟨hx1, hx2⟩ := hx
    walk_at "w"
    refine s_n (fun _ => ?_) (fun h => (h rfl).elim)
    walk_at "w"
    refine t_for hc2 ?_
    walk_at "w"
    refine i_rR ⟨by omega, by omega, by omega, by omega⟩ ?_
    refine forW_kp (fun τ => ∃ k, τ = [some (.lst ys), some (.lst ys), k]) trivial _ ⟨_, rfl⟩ ?_ ?_
    · rintro y hy τ ⟨k, rfl⟩ N hN
      obtain ⟨i, hi, rfl⟩ := mem_rngL hy
      have ha := atI_nat hi
      walk_at "w"
      refine ⟨_, rfl, hx1 _ (List.getElem_mem hi), ?_⟩
      walk_at "w"
      exact hN _ ⟨_, rfl⟩
    · rintro τ ⟨k, rfl⟩
      walk_at "w"
      exact go
  | obj _ _ => cases hx
  | ref _ => cases hx
  | raw _ => cases hx
  | exc _ _ => cases hx
  | kl _ => cases hx
end K13

/-! K13c -/
set_option Elab.async false
set_option linter.all false
set_option maxRecDepth 100000
set_option maxHeartbeats 1000000
namespace K13
open PySem PySem.Spec L2 Nb
open PyProof.Rows hiding St
local macro_rules | `(tactic| walk_at "s") => `(tactic| (first | with_reducible refine stp_go ?_ | ((with_reducible apply r_v); (focus (with_reducible (first | assumption | with_unfolding_all rfl)))) | ((with_reducible apply r_g); (focus (with_reducible (first | assumption | with_unfolding_all rfl)))) | ((with_reducible apply o_addl); (focus (with_reducible (first | assumption | exact Nat.le_of_ble_eq_true rfl)))) | ((with_reducible apply o_addt); (focus (with_reducible (first | assumption | exact Nat.le_of_ble_eq_true rfl)))) | ((with_reducible apply o_ixr); (focus (with_reducible ((repeat (refine (ms_ne (by first | assumption | exact Ne.symm (by assumption))).trans ?_)); first | with_reducible exact ms_same | assumption))); (focus (with_reducible (first | assumption | with_unfolding_all rfl)))) | ((with_reducible apply o_ixt); (focus (with_reducible (first | assumption | with_unfolding_all rfl)))) | ((with_reducible apply o_ixl); (focus (with_reducible (first | assumption | with_unfolding_all rfl)))) | ((with_reducible apply o_ixk); (focus (with_reducible (first | assumption | with_unfolding_all rfl)))) | ((with_reducible apply o_mod); (focus (with_reducible (first | decide | assumption | omega)))) | ((with_reducible apply o_mulr); (focus (with_reducible (first | assumption | omega))); (focus (with_reducible (first | assumption | omega)))) | ((with_reducible apply o_mull); (focus (with_reducible (first | assumption | omega))); (focus (with_reducible (first | assumption | omega)))) | ((with_reducible apply o_divl); (focus (with_reducible (first | assumption | omega))); (focus (with_reducible (first | assumption | omega)))) | ((with_reducible apply o_pow3); (focus (with_reducible (first | assumption | omega))); (focus (with_reducible (first | assumption | omega))); (focus (with_reducible (first | assumption | omega)))) | ((with_reducible apply b_lenr); (focus (with_reducible ((repeat (refine (ms_ne (by first | assumption | exact Ne.symm (by assumption))).trans ?_)); first | with_reducible exact ms_same | assumption)))) | ((with_reducible apply b_listr); (focus (with_reducible ((repeat (refine (ms_ne (by first | assumption | exact Ne.symm (by assumption))).trans ?_)); first | with_reducible exact ms_same | assumption)))) | ((with_reducible apply b_tupr); (focus (with_reducible ((repeat (refine (ms_ne (by first | assumption | exact Ne.symm (by assumption))).trans ?_)); first | with_reducible exact ms_same | assumption)))) | ((with_reducible apply r_call); (focus (with_reducible (assumption)))) | ((with_reducible apply r_new); (focus (with_reducible (assumption)))) | ((with_reducible apply m_appT); (focus (with_reducible ((repeat (refine (ms_ne (by first | assumption | exact Ne.symm (by assumption))).trans ?_)); first | with_reducible exact ms_same | assumption)))) | with_reducible refine q_oeq ?_ | ((with_reducible apply r_exn); (focus (with_reducible (first | assumption | with_unfolding_all rfl)))) | ((with_reducible apply u_ref); (focus (with_reducible ((repeat (refine (ms_ne (by first | assumption | exact Ne.symm (by assumption))).trans ?_)); first | with_reducible exact ms_same | assumption)))) | ((with_reducible apply e_set); (focus (with_reducible ((repeat (refine (ms_ne (by first | assumption | exact Ne.symm (by assumption))).trans ?_)); first | with_reducible exact ms_same | assumption))); (focus (with_reducible (first | assumption | with_unfolding_all rfl)))) | ((with_reducible apply isi_b); (focus (with_reducible (with_unfolding_all rfl))); (focus (with_reducible (first | with_reducible rfl | with_reducible exact tb_NoneType_bool | with_reducible exact tb_NoneType_int | with_reducible exact tb_NoneType_str | with_reducible exact tb_NoneType_tuple | with_reducible exact tb_NoneType_list | with_reducible exact tb_bool_bool | with_reducible exact tb_bool_int | with_reducible exact tb_bool_str | with_reducible exact tb_bool_tuple | with_reducible exact tb_bool_list | with_reducible exact tb_int_bool | with_reducible exact tb_int_int | with_reducible exact tb_int_str | with_reducible exact tb_int_tuple | with_reducible exact tb_int_list | with_reducible exact tb_str_bool | with_reducible exact tb_str_int | with_reducible exact tb_str_str | with_reducible exact tb_str_tuple | with_reducible exact tb_str_list | with_reducible exact tb_tuple_bool | with_reducible exact tb_tuple_int | with_reducible exact tb_tuple_str | with_reducible exact tb_tuple_tuple | with_reducible exact tb_tuple_list | with_reducible exact tb_list_bool | with_reducible exact tb_list_int | with_reducible exact tb_list_str | with_reducible exact tb_list_tuple | with_reducible exact tb_list_list)))) | ((with_reducible apply c_len); (focus (with_reducible (first | assumption | exact Nat.le_of_ble_eq_true rfl)))) | (with_reducible refine t_nil ?_; dsimp only)))
local macro_rules | `(tactic| walk_at "w") => `(tactic| (repeat (first | with_reducible refine stp_go ?_ | ((with_reducible apply r_v); (focus (with_reducible (first | assumption | with_unfolding_all rfl)))) | ((with_reducible apply r_g); (focus (with_reducible (first | assumption | with_unfolding_all rfl)))) | ((with_reducible apply o_addl); (focus (with_reducible (first | assumption | exact Nat.le_of_ble_eq_true rfl)))) | ((with_reducible apply o_addt); (focus (with_reducible (first | assumption | exact Nat.le_of_ble_eq_true rfl)))) | ((with_reducible apply o_ixr); (focus (with_reducible ((repeat (refine (ms_ne (by first | assumption | exact Ne.symm (by assumption))).trans ?_)); first | with_reducible exact ms_same | assumption))); (focus (with_reducible (first | assumption | with_unfolding_all rfl)))) | ((with_reducible apply o_ixt); (focus (with_reducible (first | assumption | with_unfolding_all rfl)))) | ((with_reducible apply o_ixl); (focus (with_reducible (first | assumption | with_unfolding_all rfl)))) | ((with_reducible apply o_ixk); (focus (with_reducible (first | assumption | with_unfolding_all rfl)))) | ((with_reducible apply o_mod); (focus (with_reducible (first | decide | assumption | omega)))) | ((with_reducible apply o_mulr); (focus (with_reducible (first | assumption | omega))); (focus (with_reducible (first | assumption | omega)))) | ((with_reducible apply o_mull); (focus (with_reducible (first | assumption | omega))); (focus (with_reducible (first | assumption | omega)))) | ((with_reducible apply o_divl); (focus (with_reducible (first | assumption | omega))); (focus (with_reducible (first | assumption | omega)))) | ((with_reducible apply o_pow3); (focus (with_reducible (first | assumption | omega))); (focus (with_reducible (first | assumption | omega))); (focus (with_reducible (first | assumption | omega)))) | ((with_reducible apply b_lenr); (focus (with_reducible ((repeat (refine (ms_ne (by first | assumption | exact Ne.symm (by assumption))).trans ?_)); first | with_reducible exact ms_same | assumption)))) | ((with_reducible apply b_listr); (focus (with_reducible ((repeat (refine (ms_ne (by first | assumption | exact Ne.symm (by assumption))).trans ?_)); first | with_reducible exact ms_same | assumption)))) | ((with_reducible apply b_tupr); (focus (with_reducible ((repeat (refine (ms_ne (by first | assumption | exact Ne.symm (by assumption))).trans ?_)); first | with_reducible exact ms_same | assumption)))) | ((with_reducible apply r_call); (focus (with_reducible (assumption)))) | ((with_reducible apply r_new); (focus (with_reducible (assumption)))) | ((with_reducible apply m_appT); (focus (with_reducible ((repeat (refine (ms_ne (by first | assumption | exact Ne.symm (by assumption))).trans ?_)); first | with_reducible exact ms_same | assumption)))) | with_reducible refine q_oeq ?_ | ((with_reducible apply r_exn); (focus (with_reducible (first | assumption | with_unfolding_all rfl)))) | ((with_reducible apply u_ref); (focus (with_reducible ((repeat (refine (ms_ne (by first | assumption | exact Ne.symm (by assumption))).trans ?_)); first | with_reducible exact ms_same | assumption)))) | ((with_reducible apply e_set); (focus (with_reducible ((repeat (refine (ms_ne (by first | assumption | exact Ne.symm (by assumption))).trans ?_)); first | with_reducible exact ms_same | assumption))); (focus (with_reducible (first | assumption | with_unfolding_all rfl)))) | ((with_reducible apply isi_b); (focus (with_reducible (with_unfolding_all rfl))); (focus (with_reducible (first | with_reducible rfl | with_reducible exact tb_NoneType_bool | with_reducible exact tb_NoneType_int | with_reducible exact tb_NoneType_str | with_reducible exact tb_NoneType_tuple | with_reducible exact tb_NoneType_list | with_reducible exact tb_bool_bool | with_reducible exact tb_bool_int | with_reducible exact tb_bool_str | with_reducible exact tb_bool_tuple | with_reducible exact tb_bool_list | with_reducible exact tb_int_bool | with_reducible exact tb_int_int | with_reducible exact tb_int_str | with_reducible exact tb_int_tuple | with_reducible exact tb_int_list | with_reducible exact tb_str_bool | with_reducible exact tb_str_int | with_reducible exact tb_str_str | with_reducible exact tb_str_tuple | with_reducible exact tb_str_list | with_reducible exact tb_tuple_bool | with_reducible exact tb_tuple_int | with_reducible exact tb_tuple_str | with_reducible exact tb_tuple_tuple | with_reducible exact tb_tuple_list | with_reducible exact tb_list_bool | with_reducible exact tb_list_int | with_reducible exact tb_list_str | with_reducible exact tb_list_tuple | with_reducible exact tb_list_list)))) | ((with_reducible apply c_len); (focus (with_reducible (first | assumption | exact Nat.le_of_ble_eq_true rfl)))) | (with_reducible refine t_nil ?_; dsimp only))))
theorem big : 100000 < sizeLine := by rw [sizeLine_eq]; decide
/-! valid_name -/
def abc : Str := "abcdefghijklmnopqrstuvwxyz"
theorem abc_mem {c : Nat} : c ∈ chars abc ↔ 97 ≤ c ∧ c ≤ 122 := by
  have e : chars abc = (List.range 26).map (97 + ·) := by decide
  rw [e, List.mem_map]
  constructor
  · rintro ⟨i, hi, rfl⟩
    have := List.mem_range.mp hi
    omega
  · rintro ⟨h1, h2⟩
    exact ⟨c - 97, List.mem_range.mpr (by omega), by omega⟩
def S_valid : BP := fun xs M Q E => ∃ z : Str, xs = [.str z] ∧ z.length ≤ sizeLine ∧ Q (.bl (vn z)) M
theorem w_valid {Γ : Gm} (hc : Γ.cold = true) (hL : Γ.gl i_LETTERS = some (.str abc)) (h8 : Γ.gl i_MOST_LETTERS = some (.int 8)) : ∀ xs M Q E, S_valid xs M Q E → bodyP Γ b_valid_name N_valid_name 1 xs M Q E := by
  rintro xs M Q E ⟨z, rfl, hl, go⟩
  refine ⟨rfl, ?_⟩
  unfold b_valid_name startP N_valid_name
  dsimp only [List.map, List.length, List.replicate, List.append]
  walk_at "w"
  refine b_lens hl ?_
  walk_at "w"
  refine s_d (fun h1 => ?_) (fun h1 => ?_)
  · walk_at "w"
    refine s_n (fun h2 => ?_) (fun h2 => ?_)
    · walk_at "w"
      refine t_for hc ?_
      walk_at "w"
      refine forW_scan (fun v => match v with | .str s => (chars s).all lcB | _ => false) (fun τ => ∃ u, τ = [some (.str z), u]) (fun _ => Q (.bl false) M) trivial ⟨_, rfl⟩ ?_ ?_ ?_
      · rintro pre y post e hp hy
        have hm : y ∈ (chars z).map (fun c => PV.str ⟨#[c]⟩) := by
          show y ∈ (z.cps.toList.map fun c => PV.str ⟨#[c]⟩)
          rw [e]; simp
        obtain ⟨c, hcm, rfl⟩ := List.mem_map.mp hm
        have : vn z = false := by
          cases q : vn z with
          | false => rfl
          | true =>
            have := vn_ch q hcm
            have hb : ((chars ⟨#[c]⟩).all lcB) = false := hy
            have h3 : lcB c = false := by simpa [chars] using hb
            unfold lcB at h3
            rw [decide_eq_true this.1, decide_eq_true this.2] at h3
            cases h3
        rw [this] at go
        exact go
      · rintro y hy τ ⟨u, rfl⟩ N hN hS
        obtain ⟨c, hcm, rfl⟩ := List.mem_map.mp hy
        have e : ((chars ⟨#[c]⟩).all lcB) = lcB c := by simp [chars]
        walk_at "w"
        refine notin_sign ?_
        walk_at "w"
        refine s_n (fun h => ?_) (fun h => ?_)
        · have h3 := abc_mem.mp h
          walk_at "w"
          refine hN ?_ _ ⟨_, rfl⟩
          show ((chars ⟨#[c]⟩).all lcB) = true
          rw [e]
          unfold lcB
          rw [decide_eq_true h3.1, decide_eq_true h3.2]
          rfl
        · walk_at "w"
          refine hS ?_
          show ((chars ⟨#[c]⟩).all lcB) = false
          rw [e]
          cases q : lcB c with
          | false => rfl
          | true =>
            unfold lcB at q
            simp only [Bool.and_eq_true, decide_eq_true_eq] at q
            exact absurd (abc_mem.mpr q) h
      · rintro hall τ ⟨u, rfl⟩
        walk_at "w"
        have : vn z = true := by
          refine vn_of (by omega) (by omega) fun c hcm => ?_
          have h3 : ((chars ⟨#[c]⟩).all lcB) = true := hall (.str ⟨#[c]⟩) (List.mem_map.mpr ⟨c, hcm, rfl⟩)
          have h4 : lcB c = true := by simpa [chars] using h3
          unfold lcB at h4
          simpa using h4
        rw [this] at go
        exact go
    · walk_at "w"
      have : vn z = false := by
        cases q : vn z with
        | false => rfl
        | true => have := vn_len q; omega
      rw [this] at go
      exact go
  · walk_at "w"
    have : vn z = false := by
      cases q : vn z with
      | false => rfl
      | true => have := vn_ne q; omega
    rw [this] at go
    exact go
end K13

/-! K13d -/
set_option Elab.async false
set_option linter.all false
set_option maxRecDepth 100000
set_option maxHeartbeats 1000000
namespace K13
open PySem PySem.Spec L2 Nb
open PyProof.Rows hiding St
local macro_rules | `(tactic| walk_at "s") => `(tactic| (first | with_reducible refine stp_go ?_ | ((with_reducible apply r_v); (focus (with_reducible (first | assumption | with_unfolding_all rfl)))) | ((with_reducible apply r_g); (focus (with_reducible (first | assumption | with_unfolding_all rfl)))) | ((with_reducible apply o_addl); (focus (with_reducible (first | assumption | exact Nat.le_of_ble_eq_true rfl)))) | ((with_reducible apply o_addt); (focus (with_reducible (first | assumption | exact Nat.le_of_ble_eq_true rfl)))) | ((with_reducible apply o_ixr); (focus (with_reducible ((repeat (refine (ms_ne (by first | assumption | exact Ne.symm (by assumption))).trans ?_)); first | with_reducible exact ms_same | assumption))); (focus (with_reducible (first | assumption | with_unfolding_all rfl)))) | ((with_reducible apply o_ixt); (focus (with_reducible (first | assumption | with_unfolding_all rfl)))) | ((with_reducible apply o_ixl); (focus (with_reducible (first | assumption | with_unfolding_all rfl)))) | ((with_reducible apply o_ixk); (focus (with_reducible (first | assumption | with_unfolding_all rfl)))) | ((with_reducible apply o_mod); (focus (with_reducible (first | decide | assumption | omega)))) | ((with_reducible apply o_mulr); (focus (with_reducible (first | assumption | omega))); (focus (with_reducible (first | assumption | omega)))) | ((with_reducible apply o_mull); (focus (with_reducible (first | assumption | omega))); (focus (with_reducible (first | assumption | omega)))) | ((with_reducible apply o_divl); (focus (with_reducible (first | assumption | omega))); (focus (with_reducible (first | assumption | omega)))) | ((with_reducible apply o_pow3); (focus (with_reducible (first | assumption | omega))); (focus (with_reducible (first | assumption | omega))); (focus (with_reducible (first | assumption | omega)))) | ((with_reducible apply b_lenr); (focus (with_reducible ((repeat (refine (ms_ne (by first | assumption | exact Ne.symm (by assumption))).trans ?_)); first | with_reducible exact ms_same | assumption)))) | ((with_reducible apply b_listr); (focus (with_reducible ((repeat (refine (ms_ne (by first | assumption | exact Ne.symm (by assumption))).trans ?_)); first | with_reducible exact ms_same | assumption)))) | ((with_reducible apply b_tupr); (focus (with_reducible ((repeat (refine (ms_ne (by first | assumption | exact Ne.symm (by assumption))).trans ?_)); first | with_reducible exact ms_same | assumption)))) | ((with_reducible apply r_call); (focus (with_reducible (assumption)))) | ((with_reducible apply r_new); (focus (with_reducible (assumption)))) | ((with_reducible apply m_appT); (focus (with_reducible ((repeat (refine (ms_ne (by first | assumption | exact Ne.symm (by assumption))).trans ?_)); first | with_reducible exact ms_same | assumption)))) | with_reducible refine q_oeq ?_ | ((with_reducible apply r_exn); (focus (with_reducible (first | assumption | with_unfolding_all rfl)))) | ((with_reducible apply u_ref); (focus (with_reducible ((repeat (refine (ms_ne (by first | assumption | exact Ne.symm (by assumption))).trans ?_)); first | with_reducible exact ms_same | assumption)))) | ((with_reducible apply e_set); (focus (with_reducible ((repeat (refine (ms_ne (by first | assumption | exact Ne.symm (by assumption))).trans ?_)); first | with_reducible exact ms_same | assumption))); (focus (with_reducible (first | assumption | with_unfolding_all rfl)))) | ((with_reducible apply isi_b); (focus (with_reducible (with_unfolding_all rfl))); (focus (with_reducible (first | with_reducible rfl | with_reducible exact tb_NoneType_bool | with_reducible exact tb_NoneType_int | with_reducible exact tb_NoneType_str | with_reducible exact tb_NoneType_tuple | with_reducible exact tb_NoneType_list | with_reducible exact tb_bool_bool | with_reducible exact tb_bool_int | with_reducible exact tb_bool_str | with_reducible exact tb_bool_tuple | with_reducible exact tb_bool_list | with_reducible exact tb_int_bool | with_reducible exact tb_int_int | with_reducible exact tb_int_str | with_reducible exact tb_int_tuple | with_reducible exact tb_int_list | with_reducible exact tb_str_bool | with_reducible exact tb_str_int | with_reducible exact tb_str_str | with_reducible exact tb_str_tuple | with_reducible exact tb_str_list | with_reducible exact tb_tuple_bool | with_reducible exact tb_tuple_int | with_reducible exact tb_tuple_str | with_reducible exact tb_tuple_tuple | with_reducible exact tb_tuple_list | with_reducible exact tb_list_bool | with_reducible exact tb_list_int | with_reducible exact tb_list_str | with_reducible exact tb_list_tuple | with_reducible exact tb_list_list)))) | ((with_reducible apply c_len); (focus (with_reducible (first | assumption | exact Nat.le_of_ble_eq_true rfl)))) | (with_reducible refine t_nil ?_; dsimp only)))
local macro_rules | `(tactic| walk_at "w") => `(tactic| (repeat (first | with_reducible refine stp_go ?_ | ((with_reducible apply r_v); (focus (with_reducible (first | assumption | with_unfolding_all rfl)))) | ((with_reducible apply r_g); (focus (with_reducible (first | assumption | with_unfolding_all rfl)))) | ((with_reducible apply o_addl); (focus (with_reducible (first | assumption | exact Nat.le_of_ble_eq_true rfl)))) | ((with_reducible apply o_addt); (focus (with_reducible (first | assumption | exact Nat.le_of_ble_eq_true rfl)))) | ((with_reducible apply o_ixr); (focus (with_reducible ((repeat (refine (ms_ne (by first | assumption | exact Ne.symm (by assumption))).trans ?_)); first | with_reducible exact ms_same | assumption))); (focus (with_reducible (first | assumption | with_unfolding_all rfl)))) | ((with_reducible apply o_ixt); (focus (with_reducible (first | assumption | with_unfolding_all rfl)))) | ((with_reducible apply o_ixl); (focus (with_reducible (first | assumption | with_unfolding_all rfl)))) | ((with_reducible apply o_ixk); (focus (with_reducible (first | assumption | with_unfolding_all rfl)))) | ((with_reducible apply o_mod); (focus (with_reducible (first | decide | assumption | omega)))) | ((with_reducible apply o_mulr); (focus (with_reducible (first | assumption | omega))); (focus (with_reducible (first | assumption | omega)))) | ((with_reducible apply o_mull); (focus (with_reducible (first | assumption | omega))); (focus (with_reducible (first | assumption | omega)))) | ((with_reducible apply o_divl); (focus (with_reducible (first | assumption | omega))); (focus (with_reducible (first | assumption | omega)))) | ((with_reducible apply o_pow3); (focus (with_reducible (first | assumption | omega))); (focus (with_reducible (first | assumption | omega))); (focus (with_reducible (first | assumption | omega)))) | ((with_reducible apply b_lenr); (focus (with_reducible ((repeat (refine (ms_ne (by first | assumption | exact Ne.symm (by assumption))).trans ?_)); first | with_reducible exact ms_same | assumption)))) | ((with_reducible apply b_listr); (focus (with_reducible ((repeat (refine (ms_ne (by first | assumption | exact Ne.symm (by assumption))).trans ?_)); first | with_reducible exact ms_same | assumption)))) | ((with_reducible apply b_tupr); (focus (with_reducible ((repeat (refine (ms_ne (by first | assumption | exact Ne.symm (by assumption))).trans ?_)); first | with_reducible exact ms_same | assumption)))) | ((with_reducible apply r_call); (focus (with_reducible (assumption)))) | ((with_reducible apply r_new); (focus (with_reducible (assumption)))) | ((with_reducible apply m_appT); (focus (with_reducible ((repeat (refine (ms_ne (by first | assumption | exact Ne.symm (by assumption))).trans ?_)); first | with_reducible exact ms_same | assumption)))) | with_reducible refine q_oeq ?_ | ((with_reducible apply r_exn); (focus (with_reducible (first | assumption | with_unfolding_all rfl)))) | ((with_reducible apply u_ref); (focus (with_reducible ((repeat (refine (ms_ne (by first | assumption | exact Ne.symm (by assumption))).trans ?_)); first | with_reducible exact ms_same | assumption)))) | ((with_reducible apply e_set); (focus (with_reducible ((repeat (refine (ms_ne (by first | assumption | exact Ne.symm (by assumption))).trans ?_)); first | with_reducible exact ms_same | assumption))); (focus (with_reducible (first | assumption | with_unfolding_all rfl)))) | ((with_reducible apply isi_b); (focus (with_reducible (with_unfolding_all rfl))); (focus (with_reducible (first | with_reducible rfl | with_reducible exact tb_NoneType_bool | with_reducible exact tb_NoneType_int | with_reducible exact tb_NoneType_str | with_reducible exact tb_NoneType_tuple | with_reducible exact tb_NoneType_list | with_reducible exact tb_bool_bool | with_reducible exact tb_bool_int | with_reducible exact tb_bool_str | with_reducible exact tb_bool_tuple | with_reducible exact tb_bool_list | with_reducible exact tb_int_bool | with_reducible exact tb_int_int | with_reducible exact tb_int_str | with_reducible exact tb_int_tuple | with_reducible exact tb_int_list | with_reducible exact tb_str_bool | with_reducible exact tb_str_int | with_reducible exact tb_str_str | with_reducible exact tb_str_tuple | with_reducible exact tb_str_list | with_reducible exact tb_tuple_bool | with_reducible exact tb_tuple_int | with_reducible exact tb_tuple_str | with_reducible exact tb_tuple_tuple | with_reducible exact tb_tuple_list | with_reducible exact tb_list_bool | with_reducible exact tb_list_int | with_reducible exact tb_list_str | with_reducible exact tb_list_tuple | with_reducible exact tb_list_list)))) | ((with_reducible apply c_len); (focus (with_reducible (first | assumption | exact Nat.le_of_ble_eq_true rfl)))) | (with_reducible refine t_nil ?_; dsimp only))))
def Ext (M M' : MHp) : Prop := ∀ b o, M b = some o → M' b = some o
theorem Ext.refl {M : MHp} : Ext M M := fun _ _ h => h
theorem Ext.new {M : MHp} {r : Addr} {o : MO} (h : M r = none) : Ext M (ms M r o) := fun b u e => by
  rw [ms_ne (fun z => by rw [z, h] at e; cases e)]
  exact e
theorem Ext.trans {M M1 M2 : MHp} (a : Ext M M1) (b : Ext M1 M2) : Ext M M2 := fun c o h => b c o (a c o h)
/-! valid_cell -/
def cellB : PV → Bool
  | .int i => decide (-1000000000000000000 < i) && decide (i < 1000000000000000000)
  | _ => false
def vOk (x : PV) : Prop := (∃ i, x = .int i) ∨ (∃ b, x = .bl b) ∨ (∃ z : Str, x = .str z) ∨ x = .non
def S_vcell : BP := fun xs M Q E => ∃ x, xs = [x] ∧ vOk x ∧ Q (.bl (cellB x)) M
theorem w_vcell {Γ : Gm} (hB : Γ.gl i_BOUND = some (.int 1000000000000000000)) : ∀ xs M Q E, S_vcell xs M Q E → bodyP Γ b_valid_cell N_valid_cell 1 xs M Q E := by
  rintro xs M Q E ⟨x, rfl, hx, go⟩
  refine ⟨rfl, ?_⟩
  unfold b_valid_cell startP N_valid_cell
  dsimp only [List.map, List.length, List.replicate, List.append]
  rcases hx with ⟨i, rfl⟩ | ⟨b, rfl⟩ | ⟨z, rfl⟩ | rfl
  · walk_at "w"
    refine s_d (fun h1 => ?_) (fun h1 => ?_)
    · walk_at "w"
      have e : cellB (.int i) = decide (i < 1000000000000000000) := by
        show (decide (-1000000000000000000 < i) && decide (i < 1000000000000000000)) = _
        rw [decide_eq_true h1]
        rfl
      rw [e] at go
      exact go
    · walk_at "w"
      have e : cellB (.int i) = false := by
        show (decide (-1000000000000000000 < i) && decide (i < 1000000000000000000)) = _
        rw [decide_eq_false h1]
        rfl
      rw [e] at go
      exact go
  · walk_at "w"
    exact go
  · walk_at "w"
    exact go
  · walk_at "w"
    exact go
/-! check_names -/
def dupOf : List Str → List Str → Option Str
  | _, [] => none
  | seen, x :: r => if x ∈ seen then some x else dupOf (seen ++ [x]) r
def nmErr (l : List Str) : Option (Nat × Str) := match l.find? fun x => !vn x with
  | some x => some (i_BadName, x)
  | none => (dupOf [] l).map fun x => (i_NameTaken, x)
def S_check : BP := fun xs M Q E => ∃ v, ∃ l : List Str, xs = [v] ∧ (v = .tup (l.map .str) ∨ v = .lst (l.map .str)) ∧ l.length < 60 ∧ (∀ x ∈ l, x.length ≤ 9) ∧
  match nmErr l with
  | some (c, x) => ∀ M', Ext M M' → E c [(i_name, .str x)] M'
  | none => ∀ M', Ext M M' → Q .non M'
structure CheckG (Γ : Gm) : Prop where
  cold : Γ.cold = true
  va : Γ.fn i_valid_name = some S_valid
  xn : ∀ c ∈ [i_BadName, i_NameTaken, i_WrongCell], Γ.xc c = some (some i_name)
theorem items_of {v : PV} {ys : List PV} {M : MHp} {R : List PV → (MHp → Prop) → MHp → Prop} (h : v = .tup ys ∨ v = .lst ys) (q : R ys (fun _ => True) M) : itemsR v M R := by
  rcases h with rfl | rfl
  · exact i_tR q
  · exact i_lR q
theorem w_check {Γ : Gm} (g : CheckG Γ) : ∀ xs M Q E, S_check xs M Q E → bodyP Γ b_check_names N_check_names 1 xs M Q E := by
  rintro xs M Q E ⟨v, l, rfl, hv, hl, bl, go⟩
  have hb := big
  have hva := g.va
  have cd := g.cold
  have x1 := g.xn i_BadName (by decide)
  have x2 := g.xn i_NameTaken (by decide)
  refine ⟨rfl, ?_⟩
  unfold b_check_names startP N_check_names
  dsimp only [List.map, List.length, List.replicate, List.append]
  refine t_for cd ?_
  walk_at "w"
  refine items_of hv ?_
  refine forW_scan (fun y => match y with | .str s => vn s | _ => false) (fun τ => ∃ u, τ = [some v, u, none]) (fun y => match y with | .str s => E i_BadName [(i_name, .str s)] M | _ => False) trivial ⟨_, rfl⟩ ?_ ?_ ?_
  · rintro pre y post e hp hy
    obtain ⟨l1, l2, e1, rfl, e3⟩ := List.map_eq_append_iff.mp e
    cases l2 with
    | nil => cases e3
    | cons s l2 =>
      rw [List.map_cons] at e3
      simp only [List.cons.injEq] at e3
      obtain ⟨rfl, _⟩ := e3
      have hf : l.find? (fun x => !vn x) = some s := by
        rw [e1, List.find?_append]
        have n1 : l1.find? (fun x => !vn x) = none := by
          rw [List.find?_eq_none]
          intro x hx
          have : vn x = true := hp (.str x) (List.mem_map.mpr ⟨x, hx, rfl⟩)
          rw [this]
          decide
        have hs : vn s = false := hy
        rw [n1, List.find?_cons, hs]
        rfl
      unfold nmErr at go
      rw [hf] at go
      exact go M .refl
  · rintro y hy τ ⟨u, rfl⟩ N hN hS
    obtain ⟨s, hs, rfl⟩ := List.mem_map.mp hy
    have bs := bl s hs
    walk_at "w"
    refine ⟨_, rfl, by omega, ?_⟩
    walk_at "w"
    refine s_nb (fun hq => ?_) (fun hq => ?_)
    · walk_at "w"
      exact hN hq _ ⟨_, rfl⟩
    · walk_at "w"
      refine t_rais cd x1 ?_
      walk_at "w"
      exact hS hq
  · rintro hall τ ⟨u, rfl⟩
    have hf : l.find? (fun x => !vn x) = none := by
      rw [List.find?_eq_none]
      intro x hx
      have : vn x = true := hall (.str x) (List.mem_map.mpr ⟨x, hx, rfl⟩)
      rw [this]
      decide
    unfold nmErr at go
    rw [hf] at go
    dsimp only at go
    walk_at "w"
    intro r hr
    walk_at "w"
    refine t_for cd ?_
    walk_at "w"
    refine items_of hv ?_
    refine forW_inv (fun it τ M1 => ∃ pre suf u, l = pre ++ suf ∧ it = suf.map PV.str ∧ τ = [some v, u, some (.ref r)] ∧ M1 = ms M r (.lst (pre.map PV.str)) ∧ dupOf [] l = dupOf pre suf) (fun _ _ _ _ => trivial) ?_ ?_ _ _ _ ⟨[], l, _, rfl, rfl, rfl, rfl, rfl⟩
    · rintro τ M1 ⟨pre, suf, u, e1, e2, rfl, rfl, e3⟩
      have : suf = [] := by simpa using e2.symm
      subst this
      rw [e3] at go
      walk_at "w"
      exact go _ (Ext.new hr)
    · rintro y it τ M1 N ⟨pre, suf, u, e1, e2, rfl, rfl, e3⟩ hN
      cases suf with
      | nil => cases e2
      | cons x suf =>
        rw [List.map_cons] at e2
        simp only [List.cons.injEq] at e2
        obtain ⟨rfl, rfl⟩ := e2
        have lp : pre.length < 60 := by
          have := congrArg List.length e1
          rw [List.length_append] at this
          omega
        walk_at "w"
        refine in_strs (l := pre) (show seqOf (ms M r (.lst (pre.map PV.str))) (.ref r) = some (pre.map PV.str) from by simp only [seqOf, lstOf, ms_same]) ?_ (fun z q => by cases q)
        walk_at "w"
        refine s_d (fun hq => ?_) (fun hq => ?_)
        · walk_at "w"
          refine t_rais cd x2 ?_
          walk_at "w"
          rw [e3] at go
          unfold dupOf at go
          rw [if_pos hq] at go
          exact go _ (Ext.new hr)
        · walk_at "w"
          refine m_app ms_same (by rw [List.length_map]; omega) ?_
          walk_at "w"
          refine hN _ _ ⟨pre ++ [x], suf, _, by rw [e1]; simp, rfl, rfl, by rw [ms_ms, List.map_append]; rfl, ?_⟩
          rw [e3]
          conv => lhs; unfold dupOf
          rw [if_neg hq]
/-! _law_told: where an error is at hand -/
def nmV (c : Nat) : PV := if c = i_BadName then .str "BadName" else if c = i_NameTaken then .str "NameTaken" else if c = i_NoPlain then .str "NoPlain" else .str "WrongCell"
def xs4 : List Nat := [i_BadName, i_NameTaken, i_NoPlain, i_WrongCell]
def S_told : BP := fun xs M Q E => ∃ c v, xs = [.exc c [(i_name, v)]] ∧ c ∈ xs4 ∧ Q (.tup [nmV c, v]) M
structure ToldG (Γ : Gm) : Prop where
  kd : ∀ c ∈ xs4, Γ.kd c = true
  isa : ∀ c ∈ xs4, ∀ d ∈ xs4, Γ.isa c d = some (decide (c = d))
  xf : ∀ c ∈ xs4, Γ.xfl c i_name = true
theorem w_told {Γ : Gm} (h : ToldG Γ) : ∀ xs M Q E, S_told xs M Q E → bodyP Γ b__law_told N__law_told 1 xs M Q E := by
  rintro xs M Q E ⟨c, v, rfl, hc, go⟩
  refine ⟨rfl, ?_⟩
  unfold b__law_told startP N__law_told
  dsimp only [List.map, List.length, List.replicate, List.append]
  have k4 : ∀ d ∈ xs4, (Γ.isa d d).isSome = true := fun d hd => by rw [h.isa d hd d hd]; rfl
  have isa := fun d hd => h.isa c hc d hd
  have i1 := isa i_BadName (by decide)
  have i2 := isa i_NameTaken (by decide)
  have i3 := isa i_NoPlain (by decide)
  have i4 := isa i_WrongCell (by decide)
  have j1 := k4 i_BadName (by decide)
  have j2 := k4 i_NameTaken (by decide)
  have j3 := k4 i_NoPlain (by decide)
  have j4 := k4 i_WrongCell (by decide)
  have kd := h.kd c hc
  have xf := h.xf c hc
  have hc' : c = i_BadName ∨ c = i_NameTaken ∨ c = i_NoPlain ∨ c = i_WrongCell := by simpa [xs4] using hc
  rcases hc' with rfl | rfl | rfl | rfl
  · replace i1 : Γ.isa i_BadName i_BadName = some true := i1
    walk_at "w"
    refine isi_o kd j1 i1 ?_
    walk_at "w"
    refine at_x xf rfl ?_
    walk_at "w"
    exact go
  · replace i1 : Γ.isa i_NameTaken i_BadName = some false := i1
    replace i2 : Γ.isa i_NameTaken i_NameTaken = some true := i2
    walk_at "w"
    refine isi_o kd j1 i1 ?_
    walk_at "w"
    refine isi_o kd j2 i2 ?_
    walk_at "w"
    refine at_x xf rfl ?_
    walk_at "w"
    exact go
  · replace i1 : Γ.isa i_NoPlain i_BadName = some false := i1
    replace i2 : Γ.isa i_NoPlain i_NameTaken = some false := i2
    replace i3 : Γ.isa i_NoPlain i_NoPlain = some true := i3
    walk_at "w"
    refine isi_o kd j1 i1 ?_
    walk_at "w"
    refine isi_o kd j2 i2 ?_
    walk_at "w"
    refine isi_o kd j3 i3 ?_
    walk_at "w"
    refine at_x xf rfl ?_
    walk_at "w"
    exact go
  · replace i1 : Γ.isa i_WrongCell i_BadName = some false := i1
    replace i2 : Γ.isa i_WrongCell i_NameTaken = some false := i2
    replace i3 : Γ.isa i_WrongCell i_NoPlain = some false := i3
    replace i4 : Γ.isa i_WrongCell i_WrongCell = some true := i4
    walk_at "w"
    refine isi_o kd j1 i1 ?_
    walk_at "w"
    refine isi_o kd j2 i2 ?_
    walk_at "w"
    refine isi_o kd j3 i3 ?_
    walk_at "w"
    refine isi_o kd j4 i4 ?_
    walk_at "w"
    refine at_x xf rfl ?_
    walk_at "w"
    exact go
end K13

/-! K13e -/
set_option Elab.async false
set_option linter.all false
set_option maxRecDepth 100000
set_option maxHeartbeats 1000000
namespace K13
open PySem PySem.Spec L2 Nb
open PyProof.Rows hiding St
local macro_rules | `(tactic| walk_at "s") => `(tactic| (first | with_reducible refine stp_go ?_ | ((with_reducible apply r_v); (focus (with_reducible (first | assumption | with_unfolding_all rfl)))) | ((with_reducible apply r_g); (focus (with_reducible (first | assumption | with_unfolding_all rfl)))) | ((with_reducible apply o_addl); (focus (with_reducible (first | assumption | exact Nat.le_of_ble_eq_true rfl)))) | ((with_reducible apply o_addt); (focus (with_reducible (first | assumption | exact Nat.le_of_ble_eq_true rfl)))) | ((with_reducible apply o_ixr); (focus (with_reducible ((repeat (refine (ms_ne (by first | assumption | exact Ne.symm (by assumption))).trans ?_)); first | with_reducible exact ms_same | assumption))); (focus (with_reducible (first | assumption | with_unfolding_all rfl)))) | ((with_reducible apply o_ixt); (focus (with_reducible (first | assumption | with_unfolding_all rfl)))) | ((with_reducible apply o_ixl); (focus (with_reducible (first | assumption | with_unfolding_all rfl)))) | ((with_reducible apply o_ixk); (focus (with_reducible (first | assumption | with_unfolding_all rfl)))) | ((with_reducible apply o_mod); (focus (with_reducible (first | decide | assumption | omega)))) | ((with_reducible apply o_mulr); (focus (with_reducible (first | assumption | omega))); (focus (with_reducible (first | assumption | omega)))) | ((with_reducible apply o_mull); (focus (with_reducible (first | assumption | omega))); (focus (with_reducible (first | assumption | omega)))) | ((with_reducible apply o_divl); (focus (with_reducible (first | assumption | omega))); (focus (with_reducible (first | assumption | omega)))) | ((with_reducible apply o_pow3); (focus (with_reducible (first | assumption | omega))); (focus (with_reducible (first | assumption | omega))); (focus (with_reducible (first | assumption | omega)))) | ((with_reducible apply b_lenr); (focus (with_reducible ((repeat (refine (ms_ne (by first | assumption | exact Ne.symm (by assumption))).trans ?_)); first | with_reducible exact ms_same | assumption)))) | ((with_reducible apply b_listr); (focus (with_reducible ((repeat (refine (ms_ne (by first | assumption | exact Ne.symm (by assumption))).trans ?_)); first | with_reducible exact ms_same | assumption)))) | ((with_reducible apply b_tupr); (focus (with_reducible ((repeat (refine (ms_ne (by first | assumption | exact Ne.symm (by assumption))).trans ?_)); first | with_reducible exact ms_same | assumption)))) | ((with_reducible apply r_call); (focus (with_reducible (assumption)))) | ((with_reducible apply r_new); (focus (with_reducible (assumption)))) | ((with_reducible apply m_appT); (focus (with_reducible ((repeat (refine (ms_ne (by first | assumption | exact Ne.symm (by assumption))).trans ?_)); first | with_reducible exact ms_same | assumption)))) | with_reducible refine q_oeq ?_ | ((with_reducible apply r_exn); (focus (with_reducible (first | assumption | with_unfolding_all rfl)))) | ((with_reducible apply u_ref); (focus (with_reducible ((repeat (refine (ms_ne (by first | assumption | exact Ne.symm (by assumption))).trans ?_)); first | with_reducible exact ms_same | assumption)))) | ((with_reducible apply e_set); (focus (with_reducible ((repeat (refine (ms_ne (by first | assumption | exact Ne.symm (by assumption))).trans ?_)); first | with_reducible exact ms_same | assumption))); (focus (with_reducible (first | assumption | with_unfolding_all rfl)))) | ((with_reducible apply isi_b); (focus (with_reducible (with_unfolding_all rfl))); (focus (with_reducible (first | with_reducible rfl | with_reducible exact tb_NoneType_bool | with_reducible exact tb_NoneType_int | with_reducible exact tb_NoneType_str | with_reducible exact tb_NoneType_tuple | with_reducible exact tb_NoneType_list | with_reducible exact tb_bool_bool | with_reducible exact tb_bool_int | with_reducible exact tb_bool_str | with_reducible exact tb_bool_tuple | with_reducible exact tb_bool_list | with_reducible exact tb_int_bool | with_reducible exact tb_int_int | with_reducible exact tb_int_str | with_reducible exact tb_int_tuple | with_reducible exact tb_int_list | with_reducible exact tb_str_bool | with_reducible exact tb_str_int | with_reducible exact tb_str_str | with_reducible exact tb_str_tuple | with_reducible exact tb_str_list | with_reducible exact tb_tuple_bool | with_reducible exact tb_tuple_int | with_reducible exact tb_tuple_str | with_reducible exact tb_tuple_tuple | with_reducible exact tb_tuple_list | with_reducible exact tb_list_bool | with_reducible exact tb_list_int | with_reducible exact tb_list_str | with_reducible exact tb_list_tuple | with_reducible exact tb_list_list)))) | ((with_reducible apply c_len); (focus (with_reducible (first | assumption | exact Nat.le_of_ble_eq_true rfl)))) | (with_reducible refine t_nil ?_; dsimp only)))
local macro_rules | `(tactic| walk_at "w") => `(tactic| (repeat (first | with_reducible refine stp_go ?_ | ((with_reducible apply r_v); (focus (with_reducible (first | assumption | with_unfolding_all rfl)))) | ((with_reducible apply r_g); (focus (with_reducible (first | assumption | with_unfolding_all rfl)))) | ((with_reducible apply o_addl); (focus (with_reducible (first | assumption | exact Nat.le_of_ble_eq_true rfl)))) | ((with_reducible apply o_addt); (focus (with_reducible (first | assumption | exact Nat.le_of_ble_eq_true rfl)))) | ((with_reducible apply o_ixr); (focus (with_reducible ((repeat (refine (ms_ne (by first | assumption | exact Ne.symm (by assumption))).trans ?_)); first | with_reducible exact ms_same | assumption))); (focus (with_reducible (first | assumption | with_unfolding_all rfl)))) | ((with_reducible apply o_ixt); (focus (with_reducible (first | assumption | with_unfolding_all rfl)))) | ((with_reducible apply o_ixl); (focus (with_reducible (first | assumption | with_unfolding_all rfl)))) | ((with_reducible apply o_ixk); (focus (with_reducible (first | assumption | with_unfolding_all rfl)))) | ((with_reducible apply o_mod); (focus (with_reducible (first | decide | assumption | omega)))) | ((with_reducible apply o_mulr); (focus (with_reducible (first | assumption | omega))); (focus (with_reducible (first | assumption | omega)))) | ((with_reducible apply o_mull); (focus (with_reducible (first | assumption | omega))); (focus (with_reducible (first | assumption | omega)))) | ((with_reducible apply o_divl); (focus (with_reducible (first | assumption | omega))); (focus (with_reducible (first | assumption | omega)))) | ((with_reducible apply o_pow3); (focus (with_reducible (first | assumption | omega))); (focus (with_reducible (first | assumption | omega))); (focus (with_reducible (first | assumption | omega)))) | ((with_reducible apply b_lenr); (focus (with_reducible ((repeat (refine (ms_ne (by first | assumption | exact Ne.symm (by assumption))).trans ?_)); first | with_reducible exact ms_same | assumption)))) | ((with_reducible apply b_listr); (focus (with_reducible ((repeat (refine (ms_ne (by first | assumption | exact Ne.symm (by assumption))).trans ?_)); first | with_reducible exact ms_same | assumption)))) | ((with_reducible apply b_tupr); (focus (with_reducible ((repeat (refine (ms_ne (by first | assumption | exact Ne.symm (by assumption))).trans ?_)); first | with_reducible exact ms_same | assumption)))) | ((with_reducible apply r_call); (focus (with_reducible (assumption)))) | ((with_reducible apply r_new); (focus (with_reducible (assumption)))) | ((with_reducible apply m_appT); (focus (with_reducible ((repeat (refine (ms_ne (by first | assumption | exact Ne.symm (by assumption))).trans ?_)); first | with_reducible exact ms_same | assumption)))) | with_reducible refine q_oeq ?_ | ((with_reducible apply r_exn); (focus (with_reducible (first | assumption | with_unfolding_all rfl)))) | ((with_reducible apply u_ref); (focus (with_reducible ((repeat (refine (ms_ne (by first | assumption | exact Ne.symm (by assumption))).trans ?_)); first | with_reducible exact ms_same | assumption)))) | ((with_reducible apply e_set); (focus (with_reducible ((repeat (refine (ms_ne (by first | assumption | exact Ne.symm (by assumption))).trans ?_)); first | with_reducible exact ms_same | assumption))); (focus (with_reducible (first | assumption | with_unfolding_all rfl)))) | ((with_reducible apply isi_b); (focus (with_reducible (with_unfolding_all rfl))); (focus (with_reducible (first | with_reducible rfl | with_reducible exact tb_NoneType_bool | with_reducible exact tb_NoneType_int | with_reducible exact tb_NoneType_str | with_reducible exact tb_NoneType_tuple | with_reducible exact tb_NoneType_list | with_reducible exact tb_bool_bool | with_reducible exact tb_bool_int | with_reducible exact tb_bool_str | with_reducible exact tb_bool_tuple | with_reducible exact tb_bool_list | with_reducible exact tb_int_bool | with_reducible exact tb_int_int | with_reducible exact tb_int_str | with_reducible exact tb_int_tuple | with_reducible exact tb_int_list | with_reducible exact tb_str_bool | with_reducible exact tb_str_int | with_reducible exact tb_str_str | with_reducible exact tb_str_tuple | with_reducible exact tb_str_list | with_reducible exact tb_tuple_bool | with_reducible exact tb_tuple_int | with_reducible exact tb_tuple_str | with_reducible exact tb_tuple_tuple | with_reducible exact tb_tuple_list | with_reducible exact tb_list_bool | with_reducible exact tb_list_int | with_reducible exact tb_list_str | with_reducible exact tb_list_tuple | with_reducible exact tb_list_list)))) | ((with_reducible apply c_len); (focus (with_reducible (first | assumption | exact Nat.le_of_ble_eq_true rfl)))) | (with_reducible refine t_nil ?_; dsimp only))))
def insts : List Nat := [i_Choose, i_Refuse, i_Match, i_Drop, i_Prune]
/-! Question.__init__ -/
def S_qinit : BP := fun xs M Q E => ∃ a c fs, ∃ t : Str, xs = [.ref a, .str t] ∧ c ∈ insts ∧ M a = some (.ins c fs) ∧ fs.length < 900 ∧ Q .non (ms M a (.ins c (putN i_text (.str t) fs)))
theorem w_qinit {Γ : Gm} (fl : ∀ c ∈ insts, Γ.fld c i_text = true) : ∀ xs M Q E, S_qinit xs M Q E → bodyP Γ b_Question___init__ N_Question___init__ 2 xs M Q E := by
  rintro xs M Q E ⟨a, c, fs, t, rfl, hc, hM, hl, go⟩
  refine ⟨rfl, ?_⟩
  unfold b_Question___init__ startP N_Question___init__
  dsimp only [List.map, List.length, List.replicate, List.append]
  have f1 := fl c hc
  walk_at "w"
  refine e_fld hM f1 hl ?_
  walk_at "w"
  exact go
/-! == and str -/
def txO (fs : List (Nat × PV)) (t : Str) : Prop := fs.lookup i_text = some (.str t)
def S_eq : BP := fun xs M Q E => ∃ c d fs gs, ∃ t u : Str, xs = [.obj c fs, .obj d gs] ∧ c ∈ insts ∧ d ∈ insts ∧ txO fs t ∧ txO gs u ∧ Q (.bl (decide (t = u))) M
theorem w_eq {Γ : Gm} (kd : ∀ c ∈ insts, Γ.kd c = false) (iq : (Γ.isa i_Question i_Question).isSome = true) (ia : ∀ c ∈ insts, Γ.isa c i_Question = some true) (fl : ∀ c ∈ insts, Γ.fld c i_text = true) : ∀ xs M Q E, S_eq xs M Q E → bodyP Γ b_Question___eq__ N_Question___eq__ 2 xs M Q E := by
  rintro xs M Q E ⟨c, d, fs, gs, t, u, rfl, hc, hd, h1, h2, go⟩
  refine ⟨rfl, ?_⟩
  unfold b_Question___eq__ startP N_Question___eq__
  dsimp only [List.map, List.length, List.replicate, List.append]
  have a1 := ia d hd
  have k1 := kd d hd
  walk_at "w"
  refine isi_ob k1 iq a1 ?_
  walk_at "w"
  refine at_o (fl c hc) h1 ?_
  walk_at "w"
  refine at_o (fl d hd) h2 ?_
  walk_at "w"
  exact go
def S_str : BP := fun xs M Q E => ∃ c fs, ∃ t : Str, xs = [.obj c fs] ∧ c ∈ insts ∧ txO fs t ∧ Q (.str t) M
theorem w_str {Γ : Gm} (fl : ∀ c ∈ insts, Γ.fld c i_text = true) : ∀ xs M Q E, S_str xs M Q E → bodyP Γ b_Question___str__ N_Question___str__ 1 xs M Q E := by
  rintro xs M Q E ⟨c, fs, t, rfl, hc, h1, go⟩
  refine ⟨rfl, ?_⟩
  unfold b_Question___str__ startP N_Question___str__
  dsimp only [List.map, List.length, List.replicate, List.append]
  walk_at "w"
  refine at_o (fl c hc) h1 ?_
  walk_at "w"
  walk_at "w"
  exact go
/-! CellQuestion.__init__ -/
def SrtI (L : List Int) (cs : List PV) : Prop := L.Pairwise (· < ·) ∧ ∀ k, k ∈ L ↔ PV.int k ∈ cs
def decS (i : Int) : Str := Str.ofString (toString i)
def cqT (col sg : Str) (L : List Int) : Str := (col ++ sg) ++ Txt.join (Str.ofString ",") (L.map decS)
def cqF (col sg : Str) (L : List Int) : List (Nat × PV) := [(i_column, .str col), (i_cells, .tup (L.map .int)), (i_text, .str (cqT col sg L))]
theorem decS_len {i : Int} (h1 : -1000000000000000000 < i) (h2 : i < 1000000000000000000) : (decS i).length ≤ 19 := by
  unfold decS
  cases i with
  | ofNat n =>
    have := toString_length_le (v := (n : Int)) (by omega) (k := 18) (by decide) (by have : (n : Int) < 1000000000000000000 := h2; omega)
    exact Nat.le_trans this (by decide)
  | negSucc n =>
    have := toString_length_le (v := ((n + 1 : Nat) : Int)) (by omega) (k := 18) (by decide) (by omega)
    have e : toString (Int.negSucc n) = "-" ++ toString ((n + 1 : Nat) : Int) := rfl
    rw [e]
    rw [PySem.ofString_length] at this ⊢
    rw [String.length_append]
    have : ("-" : String).length = 1 := rfl
    omega
theorem log_ok {i : Int} (h1 : -1000000000000000000 < i) (h2 : i < 1000000000000000000) : i.natAbs.log2 < 1920 := by
  by_cases h : i.natAbs = 0
  · rw [h]; decide
  · exact (Nat.log2_lt h).mpr (Nat.lt_of_lt_of_le (show i.natAbs < 2 ^ 60 by omega) (Nat.pow_le_pow_right (by decide) (by decide)))
theorem joinL_len {s : List Nat} : ∀ ys : List (List Nat), (TL.joinL s ys).length ≤ (ys.map (·.length)).sum + ys.length * s.length
  | [] => by simp [TL.joinL]
  | [y] => by simp [TL.joinL]
  | y :: z :: zs => by
    have ih := joinL_len (s := s) (z :: zs)
    show (y ++ (s ++ TL.joinL s (z :: zs))).length ≤ _
    rw [List.length_append, List.length_append, List.map_cons, List.sum_cons, List.length_cons, Nat.succ_mul]
    omega
theorem join_len (s : Str) (ys : List Str) : (Txt.join s ys).length ≤ (ys.map (·.length)).sum + ys.length * s.length := by
  have e : chars (Txt.join s ys) = TL.joinL (chars s) (ys.map chars) := by
    rw [TL.join_eq]
    exact Eq.trans (show _ = TL.tl _ from rfl) (TL.tl_join s ys)
  have := joinL_len (s := chars s) (ys.map chars)
  rw [chars_len, e]
  rw [List.map_map, List.length_map, ← chars_len] at this
  have e2 : ys.map ((fun l : List Nat => l.length) ∘ chars) = ys.map (·.length) := List.map_congr_left fun x _ => (chars_len x).symm
  rw [e2] at this
  exact this
def S_cinit : BP := fun xs M Q E => ∃ a c cs, ∃ col sg : Str, xs = [.ref a, .str col, .str sg, .tup cs] ∧ c ∈ [i_Choose, i_Refuse] ∧ M a = some (.ins c []) ∧ col.length ≤ 9 ∧ sg.length = 1 ∧ cs.length < 60 ∧ (∀ x ∈ cs, vOk x) ∧
  if vn col = false then E i_BadName [(i_name, .str col)] M else if cs.all cellB = false then E i_WrongCell [(i_name, .str col)] M else ∀ L, SrtI L cs → Q .non (ms M a (.ins c (cqF col sg L)))
structure CinG (Γ : Gm) : Prop where
  cold : Γ.cold = true
  va : Γ.fn i_valid_name = some S_valid
  vc : Γ.fn i_valid_cell = some S_vcell
  xn : ∀ c ∈ [i_BadName, i_NameTaken, i_WrongCell], Γ.xc c = some (some i_name)
  fl : ∀ c ∈ [i_Choose, i_Refuse], ∀ f ∈ [i_column, i_cells, i_text], Γ.fld c f = true
theorem ints_of : ∀ {cs : List PV}, cs.all cellB = true → ∃ ys : List Int, cs = ys.map PV.int ∧ ∀ y ∈ ys, -1000000000000000000 < y ∧ y < 1000000000000000000
  | [], _ => ⟨[], rfl, fun _ h => by cases h⟩
  | x :: cs, h => by
    rw [List.all_cons, Bool.and_eq_true] at h
    obtain ⟨ys, e, hy⟩ := ints_of h.2
    cases x with
    | int i =>
      have q : (decide (-1000000000000000000 < i) && decide (i < 1000000000000000000)) = true := h.1
      simp only [Bool.and_eq_true, decide_eq_true_eq] at q
      exact ⟨i :: ys, by rw [e]; rfl, fun y hm => (List.mem_cons.mp hm).elim (fun z => by rw [z]; exact q) (hy y)⟩
    | _ => cases h.1
theorem sum_dec {L : List Int} (h : ∀ y ∈ L, -1000000000000000000 < y ∧ y < 1000000000000000000) : ((L.map decS).map (·.length)).sum ≤ L.length * 19 := by
  induction L with
  | nil => simp
  | cons y L ih =>
    have := ih fun z hz => h z (List.mem_cons_of_mem _ hz)
    have b := decS_len (h y List.mem_cons_self).1 (h y List.mem_cons_self).2
    simp only [List.map_cons, List.sum_cons, List.length_cons]
    omega
theorem pw_len {L ys : List Int} (h : L.Pairwise (· < ·)) (m : ∀ k, k ∈ L → k ∈ ys) : L.length ≤ ys.length := by
  have nd : L.Nodup := h.imp fun a => Int.ne_of_lt a
  exact nd.length_le_of_subset m
theorem w_cinit {Γ : Gm} (g : CinG Γ) : ∀ xs M Q E, S_cinit xs M Q E → bodyS Γ (fun d => if d ∈ [i_Choose, i_Refuse] then some S_qinit else none) b_CellQuestion___init__ e_CellQuestion___init__ N_CellQuestion___init__ 4 false xs M Q E := by
  rintro xs M Q E ⟨a, c, cs, col, sg, rfl, hc, hM, hl1, hl2, hl3, hv, go⟩
  have hb := big
  have hva := g.va
  have hvc := g.vc
  have cd := g.cold
  have x1 := g.xn i_BadName (by decide)
  have x3 := g.xn i_WrongCell (by decide)
  have fl := g.fl c hc
  have hci : c ∈ insts := by
    simp only [List.mem_cons, List.not_mem_nil, or_false] at hc
    rcases hc with rfl | rfl <;> decide
  refine ⟨[.ref a, .str col, .str sg, .tup cs], [], rfl, rfl, fun _ => rfl, Nat.zero_le _, ?_⟩
  unfold b_CellQuestion___init__ startP N_CellQuestion___init__
  simp only [Bool.false_eq_true, if_false, List.append_nil]
  dsimp only [List.map, List.length, List.replicate, List.append]
  walk_at "w"
  refine ⟨_, rfl, by omega, ?_⟩
  walk_at "w"
  refine s_nb (fun hq => ?_) (fun hq => ?_)
  rotate_left
  · walk_at "w"
    refine t_rais cd x1 ?_
    walk_at "w"
    rw [if_pos hq] at go
    exact go
  rw [if_neg (by rw [hq]; decide)] at go
  walk_at "w"
  refine t_for cd ?_
  walk_at "w"
  refine forW_scan cellB (fun τ => ∃ u, τ = [some (.ref a), some (.str col), some (.str sg), some (.tup cs), none, u]) (fun y => E i_WrongCell [(i_name, .str col)] M) trivial ⟨_, rfl⟩ ?_ ?_ ?_
  · rintro pre y post e hp hy
    have : cs.all cellB = false := by
      rw [e, List.all_append, List.all_cons, hy]
      simp
    rw [if_pos this] at go
    exact go
  · rintro y hy τ ⟨u, rfl⟩ N hN hS
    walk_at "w"
    refine ⟨_, rfl, hv y hy, ?_⟩
    walk_at "w"
    refine s_nb (fun hq => ?_) (fun hq => ?_)
    · walk_at "w"
      exact hN hq _ ⟨_, rfl⟩
    · walk_at "w"
      refine t_rais cd x3 ?_
      walk_at "w"
      exact hS hq
  · rintro hall τ ⟨u, rfl⟩
    have ha : cs.all cellB = true := List.all_eq_true.mpr hall
    rw [if_neg (by rw [ha]; decide)] at go
    obtain ⟨ys, rfl, hy⟩ := ints_of ha
    rw [List.length_map] at hl3
    walk_at "w"
    refine e_fld hM (fl _ (by decide)) (Nat.le_of_ble_eq_true rfl) ?_
    refine t_asgA (r_bi (r_cons (r_sset cd (r_v rfl (.inr ⟨ys, rfl, by omega, fun L hL1 hL2 => n_f (r_nil (b_tupl ?_))⟩)))))
    have hS : SrtI L (ys.map PV.int) := ⟨hL1, fun k => (hL2 k).trans ⟨fun h => List.mem_map.mpr ⟨k, h, rfl⟩, fun h => by
      obtain ⟨z, hz, e⟩ := List.mem_map.mp h
      cases e
      exact hz⟩⟩
    have bL : ∀ y ∈ L, -1000000000000000000 < y ∧ y < 1000000000000000000 := fun y h => hy y ((hL2 y).mp h)
    have lL : L.length < 60 := by
      have := pw_len hL1 fun k h => (hL2 k).mp h
      omega
    walk_at "w"
    refine e_fld ms_same (fl _ (by decide)) (Nat.le_of_ble_eq_true rfl) ?_
    refine t_nil ?_
    refine ⟨a, c, _, S_qinit, rfl, ms_same, by show (if c ∈ _ then _ else _) = _; rw [if_pos hc], ?_⟩
    unfold e_CellQuestion___init__
    walk_at "w"
    refine o_adds (by omega) ?_
    walk_at "w"
    walk_at "w"
    refine r_lc cd ?_
    walk_at "w"
    refine at_r ms_same (fl _ (by decide)) rfl ?_
    walk_at "w"
    refine lcW_map (fun y => match y with | .int i => .str (decS i) | _ => .non) trivial (by rw [List.length_map]; omega) ?_ ?_
    · intro y hy N hN
      obtain ⟨i, hi, rfl⟩ := List.mem_map.mp hy
      have := bL i hi
      walk_at "w"
      refine .inl ⟨i, rfl, ?_, ?_⟩
      · exact log_ok this.1 this.2
      · exact hN
    have sd := sum_dec bL
    have l1 : (Str.ofString ",").length = 1 := rfl
    walk_at "w"
    refine m_join (ys := L.map decS) (by show some _ = some _; rw [List.map_map, List.map_map]; rfl) (by rw [l1, List.length_map]; omega) ?_
    walk_at "w"
    refine o_adds ?_ ?_
    · have := join_len (Str.ofString ",") (L.map decS)
      rw [l1, List.length_map] at this
      rw [str_app_len]
      omega
    walk_at "w"
    refine ⟨a, c, _, _, rfl, hci, ms_same, Nat.le_of_ble_eq_true rfl, ?_⟩
    simp only [ms_ms]
    exact go L hS
end K13

/-! K13g -/
set_option Elab.async false
set_option linter.all false
set_option maxRecDepth 100000
set_option maxHeartbeats 1000000
namespace K13
open PySem PySem.Spec L2 Nb
open PyProof.Rows hiding St
local macro_rules | `(tactic| walk_at "s") => `(tactic| (first | with_reducible refine stp_go ?_ | ((with_reducible apply r_v); (focus (with_reducible (first | assumption | with_unfolding_all rfl)))) | ((with_reducible apply r_g); (focus (with_reducible (first | assumption | with_unfolding_all rfl)))) | ((with_reducible apply o_addl); (focus (with_reducible (first | assumption | exact Nat.le_of_ble_eq_true rfl)))) | ((with_reducible apply o_addt); (focus (with_reducible (first | assumption | exact Nat.le_of_ble_eq_true rfl)))) | ((with_reducible apply o_ixr); (focus (with_reducible ((repeat (refine (ms_ne (by first | assumption | exact Ne.symm (by assumption))).trans ?_)); first | with_reducible exact ms_same | assumption))); (focus (with_reducible (first | assumption | with_unfolding_all rfl)))) | ((with_reducible apply o_ixt); (focus (with_reducible (first | assumption | with_unfolding_all rfl)))) | ((with_reducible apply o_ixl); (focus (with_reducible (first | assumption | with_unfolding_all rfl)))) | ((with_reducible apply o_ixk); (focus (with_reducible (first | assumption | with_unfolding_all rfl)))) | ((with_reducible apply o_mod); (focus (with_reducible (first | decide | assumption | omega)))) | ((with_reducible apply o_mulr); (focus (with_reducible (first | assumption | omega))); (focus (with_reducible (first | assumption | omega)))) | ((with_reducible apply o_mull); (focus (with_reducible (first | assumption | omega))); (focus (with_reducible (first | assumption | omega)))) | ((with_reducible apply o_divl); (focus (with_reducible (first | assumption | omega))); (focus (with_reducible (first | assumption | omega)))) | ((with_reducible apply o_pow3); (focus (with_reducible (first | assumption | omega))); (focus (with_reducible (first | assumption | omega))); (focus (with_reducible (first | assumption | omega)))) | ((with_reducible apply b_lenr); (focus (with_reducible ((repeat (refine (ms_ne (by first | assumption | exact Ne.symm (by assumption))).trans ?_)); first | with_reducible exact ms_same | assumption)))) | ((with_reducible apply b_listr); (focus (with_reducible ((repeat (refine (ms_ne (by first | assumption | exact Ne.symm (by assumption))).trans ?_)); first | with_reducible exact ms_same | assumption)))) | ((with_reducible apply b_tupr); (focus (with_reducible ((repeat (refine (ms_ne (by first | assumption | exact Ne.symm (by assumption))).trans ?_)); first | with_reducible exact ms_same | assumption)))) | ((with_reducible apply r_call); (focus (with_reducible (assumption)))) | ((with_reducible apply r_new); (focus (with_reducible (assumption)))) | ((with_reducible apply m_appT); (focus (with_reducible ((repeat (refine (ms_ne (by first | assumption | exact Ne.symm (by assumption))).trans ?_)); first | with_reducible exact ms_same | assumption)))) | with_reducible refine q_oeq ?_ | ((with_reducible apply r_exn); (focus (with_reducible (first | assumption | with_unfolding_all rfl)))) | ((with_reducible apply u_ref); (focus (with_reducible ((repeat (refine (ms_ne (by first | assumption | exact Ne.symm (by assumption))).trans ?_)); first | with_reducible exact ms_same | assumption)))) | ((with_reducible apply e_set); (focus (with_reducible ((repeat (refine (ms_ne (by first | assumption | exact Ne.symm (by assumption))).trans ?_)); first | with_reducible exact ms_same | assumption))); (focus (with_reducible (first | assumption | with_unfolding_all rfl)))) | ((with_reducible apply isi_b); (focus (with_reducible (with_unfolding_all rfl))); (focus (with_reducible (first | with_reducible rfl | with_reducible exact tb_NoneType_bool | with_reducible exact tb_NoneType_int | with_reducible exact tb_NoneType_str | with_reducible exact tb_NoneType_tuple | with_reducible exact tb_NoneType_list | with_reducible exact tb_bool_bool | with_reducible exact tb_bool_int | with_reducible exact tb_bool_str | with_reducible exact tb_bool_tuple | with_reducible exact tb_bool_list | with_reducible exact tb_int_bool | with_reducible exact tb_int_int | with_reducible exact tb_int_str | with_reducible exact tb_int_tuple | with_reducible exact tb_int_list | with_reducible exact tb_str_bool | with_reducible exact tb_str_int | with_reducible exact tb_str_str | with_reducible exact tb_str_tuple | with_reducible exact tb_str_list | with_reducible exact tb_tuple_bool | with_reducible exact tb_tuple_int | with_reducible exact tb_tuple_str | with_reducible exact tb_tuple_tuple | with_reducible exact tb_tuple_list | with_reducible exact tb_list_bool | with_reducible exact tb_list_int | with_reducible exact tb_list_str | with_reducible exact tb_list_tuple | with_reducible exact tb_list_list)))) | ((with_reducible apply c_len); (focus (with_reducible (first | assumption | exact Nat.le_of_ble_eq_true rfl)))) | (with_reducible refine t_nil ?_; dsimp only)))
local macro_rules | `(tactic| walk_at "w") => `(tactic| (repeat (first | with_reducible refine stp_go ?_ | ((with_reducible apply r_v); (focus (with_reducible (first | assumption | with_unfolding_all rfl)))) | ((with_reducible apply r_g); (focus (with_reducible (first | assumption | with_unfolding_all rfl)))) | ((with_reducible apply o_addl); (focus (with_reducible (first | assumption | exact Nat.le_of_ble_eq_true rfl)))) | ((with_reducible apply o_addt); (focus (with_reducible (first | assumption | exact Nat.le_of_ble_eq_true rfl)))) | ((with_reducible apply o_ixr); (focus (with_reducible ((repeat (refine (ms_ne (by first | assumption | exact Ne.symm (by assumption))).trans ?_)); first | with_reducible exact ms_same | assumption))); (focus (with_reducible (first | assumption | with_unfolding_all rfl)))) | ((with_reducible apply o_ixt); (focus (with_reducible (first | assumption | with_unfolding_all rfl)))) | ((with_reducible apply o_ixl); (focus (with_reducible (first | assumption | with_unfolding_all rfl)))) | ((with_reducible apply o_ixk); (focus (with_reducible (first | assumption | with_unfolding_all rfl)))) | ((with_reducible apply o_mod); (focus (with_reducible (first | decide | assumption | omega)))) | ((with_reducible apply o_mulr); (focus (with_reducible (first | assumption | omega))); (focus (with_reducible (first | assumption | omega)))) | ((with_reducible apply o_mull); (focus (with_reducible (first | assumption | omega))); (focus (with_reducible (first | assumption | omega)))) | ((with_reducible apply o_divl); (focus (with_reducible (first | assumption | omega))); (focus (with_reducible (first | assumption | omega)))) | ((with_reducible apply o_pow3); (focus (with_reducible (first | assumption | omega))); (focus (with_reducible (first | assumption | omega))); (focus (with_reducible (first | assumption | omega)))) | ((with_reducible apply b_lenr); (focus (with_reducible ((repeat (refine (ms_ne (by first | assumption | exact Ne.symm (by assumption))).trans ?_)); first | with_reducible exact ms_same | assumption)))) | ((with_reducible apply b_listr); (focus (with_reducible ((repeat (refine (ms_ne (by first | assumption | exact Ne.symm (by assumption))).trans ?_)); first | with_reducible exact ms_same | assumption)))) | ((with_reducible apply b_tupr); (focus (with_reducible ((repeat (refine (ms_ne (by first | assumption | exact Ne.symm (by assumption))).trans ?_)); first | with_reducible exact ms_same | assumption)))) | ((with_reducible apply r_call); (focus (with_reducible (assumption)))) | ((with_reducible apply r_new); (focus (with_reducible (assumption)))) | ((with_reducible apply m_appT); (focus (with_reducible ((repeat (refine (ms_ne (by first | assumption | exact Ne.symm (by assumption))).trans ?_)); first | with_reducible exact ms_same | assumption)))) | with_reducible refine q_oeq ?_ | ((with_reducible apply r_exn); (focus (with_reducible (first | assumption | with_unfolding_all rfl)))) | ((with_reducible apply u_ref); (focus (with_reducible ((repeat (refine (ms_ne (by first | assumption | exact Ne.symm (by assumption))).trans ?_)); first | with_reducible exact ms_same | assumption)))) | ((with_reducible apply e_set); (focus (with_reducible ((repeat (refine (ms_ne (by first | assumption | exact Ne.symm (by assumption))).trans ?_)); first | with_reducible exact ms_same | assumption))); (focus (with_reducible (first | assumption | with_unfolding_all rfl)))) | ((with_reducible apply isi_b); (focus (with_reducible (with_unfolding_all rfl))); (focus (with_reducible (first | with_reducible rfl | with_reducible exact tb_NoneType_bool | with_reducible exact tb_NoneType_int | with_reducible exact tb_NoneType_str | with_reducible exact tb_NoneType_tuple | with_reducible exact tb_NoneType_list | with_reducible exact tb_bool_bool | with_reducible exact tb_bool_int | with_reducible exact tb_bool_str | with_reducible exact tb_bool_tuple | with_reducible exact tb_bool_list | with_reducible exact tb_int_bool | with_reducible exact tb_int_int | with_reducible exact tb_int_str | with_reducible exact tb_int_tuple | with_reducible exact tb_int_list | with_reducible exact tb_str_bool | with_reducible exact tb_str_int | with_reducible exact tb_str_str | with_reducible exact tb_str_tuple | with_reducible exact tb_str_list | with_reducible exact tb_tuple_bool | with_reducible exact tb_tuple_int | with_reducible exact tb_tuple_str | with_reducible exact tb_tuple_tuple | with_reducible exact tb_tuple_list | with_reducible exact tb_list_bool | with_reducible exact tb_list_int | with_reducible exact tb_list_str | with_reducible exact tb_list_tuple | with_reducible exact tb_list_list)))) | ((with_reducible apply c_len); (focus (with_reducible (first | assumption | exact Nat.le_of_ble_eq_true rfl)))) | (with_reducible refine t_nil ?_; dsimp only))))
/-! Choose, Refuse -/
def S_cq (c : Nat) (sg : Str) : BP := fun xs M Q E => ∃ a cs, ∃ col : Str, xs = .ref a :: .str col :: cs ∧ M a = some (.ins c []) ∧ col.length ≤ 9 ∧ cs.length < 60 ∧ (∀ x ∈ cs, vOk x) ∧
  if vn col = false then E i_BadName [(i_name, .str col)] M else if cs.all cellB = false then E i_WrongCell [(i_name, .str col)] M else ∀ L, SrtI L cs → Q .non (ms M a (.ins c (cqF col sg L)))
theorem w_choose {Γ : Gm} : ∀ xs M Q E, S_cq i_Choose (Str.ofString "=") xs M Q E → bodyS Γ (fun d => if d ∈ [i_Choose] then some S_cinit else none) b_Choose___init__ e_Choose___init__ N_Choose___init__ 2 true xs M Q E := by
  rintro xs M Q E ⟨a, cs, col, rfl, hM, hl1, hl3, hv, go⟩
  have hb := big
  refine ⟨[.ref a, .str col], cs, rfl, rfl, (fun z => nomatch z), by omega, ?_⟩
  unfold b_Choose___init__ startP N_Choose___init__
  simp only [if_true]
  dsimp only [List.map, List.length, List.replicate, List.append]
  refine t_nil ?_
  refine ⟨a, i_Choose, [], S_cinit, rfl, hM, rfl, ?_⟩
  unfold e_Choose___init__
  walk_at "w"
  exact ⟨a, i_Choose, cs, col, _, rfl, by decide, hM, hl1, rfl, hl3, hv, go⟩
theorem w_refuse {Γ : Gm} : ∀ xs M Q E, S_cq i_Refuse (Str.ofString "!") xs M Q E → bodyS Γ (fun d => if d ∈ [i_Refuse] then some S_cinit else none) b_Refuse___init__ e_Refuse___init__ N_Refuse___init__ 2 true xs M Q E := by
  rintro xs M Q E ⟨a, cs, col, rfl, hM, hl1, hl3, hv, go⟩
  have hb := big
  refine ⟨[.ref a, .str col], cs, rfl, rfl, (fun z => nomatch z), by omega, ?_⟩
  unfold b_Refuse___init__ startP N_Refuse___init__
  simp only [if_true]
  dsimp only [List.map, List.length, List.replicate, List.append]
  refine t_nil ?_
  refine ⟨a, i_Refuse, [], S_cinit, rfl, hM, rfl, ?_⟩
  unfold e_Refuse___init__
  walk_at "w"
  exact ⟨a, i_Refuse, cs, col, _, rfl, by decide, hM, hl1, rfl, hl3, hv, go⟩
/-! Match -/
def SrtP (L l : List Str) : Prop := L.Perm l ∧ L.Pairwise NbA.leS
def mtT : List Str → Str
  | [x, y] => (x ++ Str.ofString "~") ++ y
  | _ => Str.ofString ""
def mtF (L : List Str) : List (Nat × PV) := [(i_columns, .tup (L.map .str)), (i_text, .str (mtT L))]
structure MtG (Γ : Gm) : Prop where
  cold : Γ.cold = true
  ck : Γ.fn i_check_names = some S_check
  xn : Γ.xc i_NoPlain = some (some i_name)
  fl : ∀ c ∈ [i_Match, i_Drop], ∀ f ∈ [i_columns, i_text], Γ.fld c f = true
  fp : ∀ f ∈ [i_name, i_text], Γ.fld i_Prune f = true
def S_match : BP := fun xs M Q E => ∃ a, ∃ x y : Str, xs = [.ref a, .str x, .str y] ∧ M a = some (.ins i_Match []) ∧ x.length ≤ 9 ∧ y.length ≤ 9 ∧
  match nmErr [x, y] with
  | some (c, z) => ∀ M', Ext M M' → E c [(i_name, .str z)] M'
  | none => ∀ M' L, Ext M M' → SrtP L [x, y] → Q .non (ms M' a (.ins i_Match (mtF L)))
theorem w_match {Γ : Gm} (g : MtG Γ) : ∀ xs M Q E, S_match xs M Q E → bodyS Γ (fun d => if d ∈ [i_Match] then some S_qinit else none) b_Match___init__ e_Match___init__ N_Match___init__ 3 false xs M Q E := by
  rintro xs M Q E ⟨a, x, y, rfl, hM, hl1, hl2, go⟩
  have hb := big
  have cd := g.cold
  have hck := g.ck
  have fl := g.fl i_Match (by decide)
  refine ⟨[.ref a, .str x, .str y], [], rfl, rfl, fun _ => rfl, Nat.zero_le _, ?_⟩
  unfold b_Match___init__ startP N_Match___init__
  simp only [Bool.false_eq_true, if_false, List.append_nil]
  dsimp only [List.map, List.length, List.replicate, List.append]
  walk_at "w"
  refine ⟨_, [x, y], rfl, .inr rfl, (by show 2 < 60; decide), (by
    intro z hz
    simp only [List.mem_cons, List.not_mem_nil, or_false] at hz
    rcases hz with rfl | rfl <;> assumption), ?_⟩
  cases hn : nmErr [x, y] with
  | some p =>
    rw [hn] at go
    exact go
  | none =>
    rw [hn] at go
    dsimp only at go ⊢
    intro M' hx
    have hM' := hx _ _ hM
    walk_at "w"
    refine ⟨_, rfl, .inl ⟨[x, y], rfl, (by show 2 < 64; decide), fun L hp hs => ?_⟩⟩
    refine n_f ?_
    walk_at "w"
    refine e_fld hM' (fl _ (by decide)) (Nat.le_of_ble_eq_true rfl) ?_
    obtain ⟨u, v, rfl⟩ : ∃ u v, L = [u, v] := by
      have := hp.length_eq
      match L, this with
      | [u, v], _ => exact ⟨u, v, rfl⟩
    have bu : u.length ≤ 9 := by
      have := hp.mem_iff.mp (show u ∈ [u, v] by simp)
      simp only [List.mem_cons, List.not_mem_nil, or_false] at this
      rcases this with rfl | rfl <;> assumption
    have bv : v.length ≤ 9 := by
      have := hp.mem_iff.mp (show v ∈ [u, v] by simp)
      simp only [List.mem_cons, List.not_mem_nil, or_false] at this
      rcases this with rfl | rfl <;> assumption
    have l1 : (Str.ofString "~").length = 1 := rfl
    refine t_nil ?_
    refine ⟨a, i_Match, _, S_qinit, rfl, ms_same, rfl, ?_⟩
    unfold e_Match___init__
    walk_at "w"
    refine at_r ms_same (fl _ (by decide)) rfl ?_
    walk_at "w"
    refine o_adds (by omega) ?_
    walk_at "w"
    refine at_r ms_same (fl _ (by decide)) rfl ?_
    walk_at "w"
    refine o_adds (by rw [str_app_len]; omega) ?_
    walk_at "w"
    refine ⟨a, i_Match, _, _, rfl, by decide, ms_same, Nat.le_of_ble_eq_true rfl, ?_⟩
    simp only [ms_ms]
    exact go M' [u, v] hx ⟨hp, hs⟩
/-! Drop -/
def drT (L : List Str) : Str := (Str.ofString "-(" ++ Txt.join (Str.ofString " ") L) ++ Str.ofString ")"
def drF (L : List Str) : List (Nat × PV) := [(i_columns, .tup (L.map .str)), (i_text, .str (drT L))]
def S_drop : BP := fun xs M Q E => ∃ a, ∃ l : List Str, xs = .ref a :: l.map .str ∧ M a = some (.ins i_Drop []) ∧ l.length < 60 ∧ (∀ x ∈ l, x.length ≤ 9) ∧
  match nmErr l with
  | some (c, z) => ∀ M', Ext M M' → E c [(i_name, .str z)] M'
  | none => if l = [] then ∀ M', Ext M M' → E i_NoPlain [(i_name, .str (Str.ofString ""))] M' else ∀ M' L, Ext M M' → SrtP L l → Q .non (ms M' a (.ins i_Drop (drF L)))
theorem sum9 {L : List Str} (h : ∀ x ∈ L, x.length ≤ 9) : (L.map (·.length)).sum ≤ L.length * 9 := by
  induction L with
  | nil => simp
  | cons x L ih =>
    have := h x (by simp)
    have := ih fun y hy => h y (by simp [hy])
    simp only [List.map_cons, List.sum_cons, List.length_cons]
    omega
theorem w_drop {Γ : Gm} (g : MtG Γ) : ∀ xs M Q E, S_drop xs M Q E → bodyS Γ (fun d => if d ∈ [i_Drop] then some S_qinit else none) b_Drop___init__ e_Drop___init__ N_Drop___init__ 1 true xs M Q E := by
  rintro xs M Q E ⟨a, l, rfl, hM, hl, bl, go⟩
  have hb := big
  have cd := g.cold
  have hck := g.ck
  have xn := g.xn
  have fl := g.fl i_Drop (by decide)
  refine ⟨[.ref a], l.map .str, rfl, rfl, (fun z => nomatch z), by rw [List.length_map]; omega, ?_⟩
  unfold b_Drop___init__ startP N_Drop___init__
  simp only [if_true]
  dsimp only [List.map, List.length, List.replicate, List.append]
  walk_at "w"
  refine ⟨_, l, rfl, .inl rfl, hl, bl, ?_⟩
  cases hn : nmErr l with
  | some p =>
    rw [hn] at go
    exact go
  | none =>
    rw [hn] at go
    dsimp only at go ⊢
    intro M' hx
    have hM' := hx _ _ hM
    walk_at "w"
    by_cases h0 : l = []
    · rw [if_pos h0] at go
      subst h0
      refine s_t2 ?_
      walk_at "w"
      refine t_rais cd xn ?_
      walk_at "w"
      exact go M' hx
    rw [if_neg h0] at go
    have e0 : (List.map PV.str l).isEmpty = false := by
      cases l with
      | nil => exact absurd rfl h0
      | cons _ _ => rfl
    rw [e0]
    refine s_f ?_
    walk_at "w"
    refine ⟨_, rfl, .inl ⟨l, rfl, by omega, fun L hp hs => ?_⟩⟩
    refine n_f ?_
    walk_at "w"
    refine e_fld hM' (fl _ (by decide)) (Nat.le_of_ble_eq_true rfl) ?_
    refine t_nil ?_
    refine ⟨a, i_Drop, _, S_qinit, rfl, ms_same, rfl, ?_⟩
    have bL : ∀ x ∈ L, x.length ≤ 9 := fun x h => bl x (hp.mem_iff.mp h)
    have lL := hp.length_eq
    have sL := sum9 bL
    have jL := join_len (Str.ofString " ") L
    have l1 : (Str.ofString " ").length = 1 := rfl
    have l2 : (Str.ofString "-(").length = 2 := rfl
    have l3 : (Str.ofString ")").length = 1 := rfl
    rw [l1] at jL
    unfold e_Drop___init__
    walk_at "w"
    walk_at "w"
    refine at_r ms_same (fl _ (by decide)) rfl ?_
    walk_at "w"
    refine m_join (ys := L) rfl (by rw [l1]; omega) ?_
    walk_at "w"
    refine o_adds (by omega) ?_
    walk_at "w"
    refine o_adds (by rw [str_app_len]; omega) ?_
    walk_at "w"
    refine ⟨a, i_Drop, _, _, rfl, by decide, ms_same, Nat.le_of_ble_eq_true rfl, ?_⟩
    simp only [ms_ms]
    exact go M' L hx ⟨hp, hs⟩
/-! Prune -/
def prF (x : Str) : List (Nat × PV) := [(i_name, .str x), (i_text, .str (x ++ Str.ofString "*"))]
def S_prune : BP := fun xs M Q E => ∃ a, ∃ x : Str, xs = [.ref a, .str x] ∧ M a = some (.ins i_Prune []) ∧ x.length ≤ 9 ∧
  match nmErr [x] with
  | some (c, z) => ∀ M', Ext M M' → E c [(i_name, .str z)] M'
  | none => ∀ M', Ext M M' → Q .non (ms M' a (.ins i_Prune (prF x)))
theorem w_prune {Γ : Gm} (g : MtG Γ) : ∀ xs M Q E, S_prune xs M Q E → bodyS Γ (fun d => if d ∈ [i_Prune] then some S_qinit else none) b_Prune___init__ e_Prune___init__ N_Prune___init__ 2 false xs M Q E := by
  rintro xs M Q E ⟨a, x, rfl, hM, hl1, go⟩
  have hb := big
  have cd := g.cold
  have hck := g.ck
  have fl := g.fp
  refine ⟨[.ref a, .str x], [], rfl, rfl, fun _ => rfl, Nat.zero_le _, ?_⟩
  unfold b_Prune___init__ startP N_Prune___init__
  simp only [Bool.false_eq_true, if_false, List.append_nil]
  dsimp only [List.map, List.length, List.replicate, List.append]
  walk_at "w"
  refine ⟨_, [x], rfl, .inr rfl, (by show 1 < 60; decide), (by
    intro z hz
    simp only [List.mem_cons, List.not_mem_nil, or_false] at hz
    rcases hz with rfl; assumption), ?_⟩
  cases hn : nmErr [x] with
  | some p =>
    rw [hn] at go
    exact go
  | none =>
    rw [hn] at go
    dsimp only at go ⊢
    intro M' hx
    have hM' := hx _ _ hM
    have l1 : (Str.ofString "*").length = 1 := rfl
    walk_at "w"
    refine e_fld hM' (fl _ (by decide)) (Nat.le_of_ble_eq_true rfl) ?_
    refine t_nil ?_
    refine ⟨a, i_Prune, _, S_qinit, rfl, ms_same, rfl, ?_⟩
    unfold e_Prune___init__
    walk_at "w"
    refine o_adds (by omega) ?_
    walk_at "w"
    refine ⟨a, i_Prune, _, _, rfl, by decide, ms_same, Nat.le_of_ble_eq_true rfl, ?_⟩
    simp only [ms_ms]
    exact go M' hx
end K13

/-! K13i -/
set_option Elab.async false
set_option linter.all false
set_option maxRecDepth 100000
set_option maxHeartbeats 1000000
namespace K13
open PySem PySem.Spec L2 Nb
open PyProof.Rows hiding St
local macro_rules | `(tactic| walk_at "s") => `(tactic| (first | with_reducible refine stp_go ?_ | ((with_reducible apply r_v); (focus (with_reducible (first | assumption | with_unfolding_all rfl)))) | ((with_reducible apply r_g); (focus (with_reducible (first | assumption | with_unfolding_all rfl)))) | ((with_reducible apply o_addl); (focus (with_reducible (first | assumption | exact Nat.le_of_ble_eq_true rfl)))) | ((with_reducible apply o_addt); (focus (with_reducible (first | assumption | exact Nat.le_of_ble_eq_true rfl)))) | ((with_reducible apply o_ixr); (focus (with_reducible ((repeat (refine (ms_ne (by first | assumption | exact Ne.symm (by assumption))).trans ?_)); first | with_reducible exact ms_same | assumption))); (focus (with_reducible (first | assumption | with_unfolding_all rfl)))) | ((with_reducible apply o_ixt); (focus (with_reducible (first | assumption | with_unfolding_all rfl)))) | ((with_reducible apply o_ixl); (focus (with_reducible (first | assumption | with_unfolding_all rfl)))) | ((with_reducible apply o_ixk); (focus (with_reducible (first | assumption | with_unfolding_all rfl)))) | ((with_reducible apply o_mod); (focus (with_reducible (first | decide | assumption | omega)))) | ((with_reducible apply o_mulr); (focus (with_reducible (first | assumption | omega))); (focus (with_reducible (first | assumption | omega)))) | ((with_reducible apply o_mull); (focus (with_reducible (first | assumption | omega))); (focus (with_reducible (first | assumption | omega)))) | ((with_reducible apply o_divl); (focus (with_reducible (first | assumption | omega))); (focus (with_reducible (first | assumption | omega)))) | ((with_reducible apply o_pow3); (focus (with_reducible (first | assumption | omega))); (focus (with_reducible (first | assumption | omega))); (focus (with_reducible (first | assumption | omega)))) | ((with_reducible apply b_lenr); (focus (with_reducible ((repeat (refine (ms_ne (by first | assumption | exact Ne.symm (by assumption))).trans ?_)); first | with_reducible exact ms_same | assumption)))) | ((with_reducible apply b_listr); (focus (with_reducible ((repeat (refine (ms_ne (by first | assumption | exact Ne.symm (by assumption))).trans ?_)); first | with_reducible exact ms_same | assumption)))) | ((with_reducible apply b_tupr); (focus (with_reducible ((repeat (refine (ms_ne (by first | assumption | exact Ne.symm (by assumption))).trans ?_)); first | with_reducible exact ms_same | assumption)))) | ((with_reducible apply r_call); (focus (with_reducible (assumption)))) | ((with_reducible apply r_new); (focus (with_reducible (assumption)))) | ((with_reducible apply m_appT); (focus (with_reducible ((repeat (refine (ms_ne (by first | assumption | exact Ne.symm (by assumption))).trans ?_)); first | with_reducible exact ms_same | assumption)))) | with_reducible refine q_oeq ?_ | ((with_reducible apply r_exn); (focus (with_reducible (first | assumption | with_unfolding_all rfl)))) | ((with_reducible apply u_ref); (focus (with_reducible ((repeat (refine (ms_ne (by first | assumption | exact Ne.symm (by assumption))).trans ?_)); first | with_reducible exact ms_same | assumption)))) | ((with_reducible apply e_set); (focus (with_reducible ((repeat (refine (ms_ne (by first | assumption | exact Ne.symm (by assumption))).trans ?_)); first | with_reducible exact ms_same | assumption))); (focus (with_reducible (first | assumption | with_unfolding_all rfl)))) | ((with_reducible apply isi_b); (focus (with_reducible (with_unfolding_all rfl))); (focus (with_reducible (first | with_reducible rfl | with_reducible exact tb_NoneType_bool | with_reducible exact tb_NoneType_int | with_reducible exact tb_NoneType_str | with_reducible exact tb_NoneType_tuple | with_reducible exact tb_NoneType_list | with_reducible exact tb_bool_bool | with_reducible exact tb_bool_int | with_reducible exact tb_bool_str | with_reducible exact tb_bool_tuple | with_reducible exact tb_bool_list | with_reducible exact tb_int_bool | with_reducible exact tb_int_int | with_reducible exact tb_int_str | with_reducible exact tb_int_tuple | with_reducible exact tb_int_list | with_reducible exact tb_str_bool | with_reducible exact tb_str_int | with_reducible exact tb_str_str | with_reducible exact tb_str_tuple | with_reducible exact tb_str_list | with_reducible exact tb_tuple_bool | with_reducible exact tb_tuple_int | with_reducible exact tb_tuple_str | with_reducible exact tb_tuple_tuple | with_reducible exact tb_tuple_list | with_reducible exact tb_list_bool | with_reducible exact tb_list_int | with_reducible exact tb_list_str | with_reducible exact tb_list_tuple | with_reducible exact tb_list_list)))) | ((with_reducible apply c_len); (focus (with_reducible (first | assumption | exact Nat.le_of_ble_eq_true rfl)))) | (with_reducible refine t_nil ?_; dsimp only)))
local macro_rules | `(tactic| walk_at "w") => `(tactic| (repeat (first | with_reducible refine stp_go ?_ | ((with_reducible apply r_v); (focus (with_reducible (first | assumption | with_unfolding_all rfl)))) | ((with_reducible apply r_g); (focus (with_reducible (first | assumption | with_unfolding_all rfl)))) | ((with_reducible apply o_addl); (focus (with_reducible (first | assumption | exact Nat.le_of_ble_eq_true rfl)))) | ((with_reducible apply o_addt); (focus (with_reducible (first | assumption | exact Nat.le_of_ble_eq_true rfl)))) | ((with_reducible apply o_ixr); (focus (with_reducible ((repeat (refine (ms_ne (by first | assumption | exact Ne.symm (by assumption))).trans ?_)); first | with_reducible exact ms_same | assumption))); (focus (with_reducible (first | assumption | with_unfolding_all rfl)))) | ((with_reducible apply o_ixt); (focus (with_reducible (first | assumption | with_unfolding_all rfl)))) | ((with_reducible apply o_ixl); (focus (with_reducible (first | assumption | with_unfolding_all rfl)))) | ((with_reducible apply o_ixk); (focus (with_reducible (first | assumption | with_unfolding_all rfl)))) | ((with_reducible apply o_mod); (focus (with_reducible (first | decide | assumption | omega)))) | ((with_reducible apply o_mulr); (focus (with_reducible (first | assumption | omega))); (focus (with_reducible (first | assumption | omega)))) | ((with_reducible apply o_mull); (focus (with_reducible (first | assumption | omega))); (focus (with_reducible (first | assumption | omega)))) | ((with_reducible apply o_divl); (focus (with_reducible (first | assumption | omega))); (focus (with_reducible (first | assumption | omega)))) | ((with_reducible apply o_pow3); (focus (with_reducible (first | assumption | omega))); (focus (with_reducible (first | assumption | omega))); (focus (with_reducible (first | assumption | omega)))) | ((with_reducible apply b_lenr); (focus (with_reducible ((repeat (refine (ms_ne (by first | assumption | exact Ne.symm (by assumption))).trans ?_)); first | with_reducible exact ms_same | assumption)))) | ((with_reducible apply b_listr); (focus (with_reducible ((repeat (refine (ms_ne (by first | assumption | exact Ne.symm (by assumption))).trans ?_)); first | with_reducible exact ms_same | assumption)))) | ((with_reducible apply b_tupr); (focus (with_reducible ((repeat (refine (ms_ne (by first | assumption | exact Ne.symm (by assumption))).trans ?_)); first | with_reducible exact ms_same | assumption)))) | ((with_reducible apply r_call); (focus (with_reducible (assumption)))) | ((with_reducible apply r_new); (focus (with_reducible (assumption)))) | ((with_reducible apply m_appT); (focus (with_reducible ((repeat (refine (ms_ne (by first | assumption | exact Ne.symm (by assumption))).trans ?_)); first | with_reducible exact ms_same | assumption)))) | with_reducible refine q_oeq ?_ | ((with_reducible apply r_exn); (focus (with_reducible (first | assumption | with_unfolding_all rfl)))) | ((with_reducible apply u_ref); (focus (with_reducible ((repeat (refine (ms_ne (by first | assumption | exact Ne.symm (by assumption))).trans ?_)); first | with_reducible exact ms_same | assumption)))) | ((with_reducible apply e_set); (focus (with_reducible ((repeat (refine (ms_ne (by first | assumption | exact Ne.symm (by assumption))).trans ?_)); first | with_reducible exact ms_same | assumption))); (focus (with_reducible (first | assumption | with_unfolding_all rfl)))) | ((with_reducible apply isi_b); (focus (with_reducible (with_unfolding_all rfl))); (focus (with_reducible (first | with_reducible rfl | with_reducible exact tb_NoneType_bool | with_reducible exact tb_NoneType_int | with_reducible exact tb_NoneType_str | with_reducible exact tb_NoneType_tuple | with_reducible exact tb_NoneType_list | with_reducible exact tb_bool_bool | with_reducible exact tb_bool_int | with_reducible exact tb_bool_str | with_reducible exact tb_bool_tuple | with_reducible exact tb_bool_list | with_reducible exact tb_int_bool | with_reducible exact tb_int_int | with_reducible exact tb_int_str | with_reducible exact tb_int_tuple | with_reducible exact tb_int_list | with_reducible exact tb_str_bool | with_reducible exact tb_str_int | with_reducible exact tb_str_str | with_reducible exact tb_str_tuple | with_reducible exact tb_str_list | with_reducible exact tb_tuple_bool | with_reducible exact tb_tuple_int | with_reducible exact tb_tuple_str | with_reducible exact tb_tuple_tuple | with_reducible exact tb_tuple_list | with_reducible exact tb_list_bool | with_reducible exact tb_list_int | with_reducible exact tb_list_str | with_reducible exact tb_list_tuple | with_reducible exact tb_list_list)))) | ((with_reducible apply c_len); (focus (with_reducible (first | assumption | exact Nat.le_of_ble_eq_true rfl)))) | (with_reducible refine t_nil ?_; dsimp only))))
theorem ext_md {M M1 : MHp} {a : Addr} {o o2 : MO} (h : M a = none) (e : Ext (ms M a o) M1) : Ext M (md M1 a) := fun b u q => by
  have hb : b ≠ a := fun z => by rw [z, h] at q; cases q
  rw [md_ne hb]
  exact e b u (by rw [ms_ne hb]; exact q)
theorem ext_ms {M M1 : MHp} {a : Addr} {o o2 : MO} (h : M a = none) (e : Ext (ms M a o) M1) : Ext M (md (ms M1 a o2) a) := fun b u q => by
  have hb : b ≠ a := fun z => by rw [z, h] at q; cases q
  rw [md_ne hb, ms_ne hb]
  exact e b u (by rw [ms_ne hb]; exact q)
/-! what making a step gives -/
def cqW (c : Nat) (sg col : Str) (cs : List PV) (M : MHp) (Q : BV) (E : BX) : Prop :=
  if vn col = false then ∀ M', Ext M M' → E i_BadName [(i_name, .str col)] M' else if cs.all cellB = false then ∀ M', Ext M M' → E i_WrongCell [(i_name, .str col)] M' else ∀ M' L, Ext M M' → SrtI L cs → Q (.obj c (cqF col sg L)) M'
theorem mk_cq {c : Nat} {sg col : Str} {cs : List PV} {M : MHp} {Q : BV} {E : BX} (h1 : col.length ≤ 9) (h2 : cs.length < 60) (h3 : ∀ x ∈ cs, vOk x) (h : cqW c sg col cs M Q E) : mkR (S_cq c sg) false c (.str col :: cs) M Q E := by
  intro a hM
  refine ⟨a, cs, col, rfl, ms_same, h1, h2, h3, ?_⟩
  unfold cqW at h
  by_cases q1 : vn col = false
  · rw [if_pos q1] at h ⊢
    exact h _ (ext_md (o2 := .lst []) hM .refl)
  · rw [if_neg q1] at h ⊢
    by_cases q2 : cs.all cellB = false
    · rw [if_pos q2] at h ⊢
      exact h _ (ext_md (o2 := .lst []) hM .refl)
    · rw [if_neg q2] at h ⊢
      intro L hL
      refine ⟨rfl, _, ms_same, ?_⟩
      exact h _ L (ext_ms hM .refl) hL
def nmW (l : List Str) (M : MHp) (E : BX) (p : Prop) : Prop := match nmErr l with
  | some (c, z) => ∀ M', Ext M M' → E c [(i_name, .str z)] M'
  | none => p
theorem mk_mt {x y : Str} {M : MHp} {Q : BV} {E : BX} (h1 : x.length ≤ 9) (h2 : y.length ≤ 9) (h : nmW [x, y] M E (∀ M' L, Ext M M' → SrtP L [x, y] → Q (.obj i_Match (mtF L)) M')) : mkR S_match false i_Match [.str x, .str y] M Q E := by
  intro a hM
  refine ⟨a, x, y, rfl, ms_same, h1, h2, ?_⟩
  unfold nmW at h
  cases e : nmErr [x, y] with
  | some p =>
    rw [e] at h
    exact fun M' hx => h _ (ext_md (o2 := .lst []) hM hx)
  | none =>
    rw [e] at h
    intro M' L hx hL
    refine ⟨rfl, _, ms_same, ?_⟩
    exact h _ L (ext_ms hM hx) hL
theorem mk_dr {l : List Str} {M : MHp} {Q : BV} {E : BX} (h1 : l.length < 60) (h2 : ∀ x ∈ l, x.length ≤ 9) (h : nmW l M E (if l = [] then ∀ M', Ext M M' → E i_NoPlain [(i_name, .str (Str.ofString ""))] M' else ∀ M' L, Ext M M' → SrtP L l → Q (.obj i_Drop (drF L)) M')) : mkR S_drop false i_Drop (l.map .str) M Q E := by
  intro a hM
  refine ⟨a, l, rfl, ms_same, h1, h2, ?_⟩
  unfold nmW at h
  cases e : nmErr l with
  | some p =>
    rw [e] at h
    exact fun M' hx => h _ (ext_md (o2 := .lst []) hM hx)
  | none =>
    rw [e] at h
    dsimp only at h ⊢
    by_cases q : l = []
    · rw [if_pos q] at h ⊢
      exact fun M' hx => h _ (ext_md (o2 := .lst []) hM hx)
    · rw [if_neg q] at h ⊢
      intro M' L hx hL
      refine ⟨rfl, _, ms_same, ?_⟩
      exact h _ L (ext_ms hM hx) hL
theorem mk_pr {x : Str} {M : MHp} {Q : BV} {E : BX} (h1 : x.length ≤ 9) (h : nmW [x] M E (∀ M', Ext M M' → Q (.obj i_Prune (prF x)) M')) : mkR S_prune false i_Prune [.str x] M Q E := by
  intro a hM
  refine ⟨a, x, rfl, ms_same, h1, ?_⟩
  unfold nmW at h
  cases e : nmErr [x] with
  | some p =>
    rw [e] at h
    exact fun M' hx => h _ (ext_md (o2 := .lst []) hM hx)
  | none =>
    rw [e] at h
    intro M' hx
    refine ⟨rfl, _, ms_same, ?_⟩
    exact h _ (ext_ms hM hx)
/-! _law_twice -/
def S_twice : BP := fun xs M Q E => ∃ t : Str, xs = [.str t] ∧ Q (.lst [.str t, .str t]) M
theorem w_twice {Γ : Gm} : ∀ xs M Q E, S_twice xs M Q E → bodyP Γ b__law_twice N__law_twice 1 xs M Q E := by
  rintro xs M Q E ⟨t, rfl, go⟩
  refine ⟨rfl, ?_⟩
  unfold b__law_twice startP N__law_twice
  dsimp only [List.map, List.length, List.replicate, List.append]
  have := big
  walk_at "w"
  exact go
/-! _law_pool -/
def S_pool : BP := fun xs M Q E => ∃ a ns p q n b, xs = [.ref a] ∧ M a = some (StL ns p q n b) ∧ ∀ p' q' n' b', ∀ zs : List Int, zs.length = 4 → (∀ z ∈ zs, -1000000000000000000 < z ∧ z < 1000000000000000000) → Q (.lst (zs.map .int)) (ms M a (StL ns p' q' n' b'))
theorem w_pool {Γ : Gm} (hd : Γ.fn i__law_draw = some S_draw) : ∀ xs M Q E, S_pool xs M Q E → bodyP Γ b__law_pool N__law_pool 1 xs M Q E := by
  rintro xs M Q E ⟨a, ns, p, q, n, b, rfl, hM, go⟩
  refine ⟨rfl, ?_⟩
  unfold b__law_pool startP N__law_pool
  dsimp only [List.map, List.length, List.replicate, List.append]
  have := big
  walk_at "w"
  refine ⟨a, _, ns, p, q, n, b, rfl, by decide, by decide, hM, fun r p1 q1 n1 b1 hr hr2 => ?_⟩
  walk_at "w"
  refine ⟨a, _, ns, p1, q1, n1, b1, rfl, by decide, by decide, ms_same, fun c p2 q2 n2 b2 hc hc2 => ?_⟩
  rw [ms_ms]
  have e18 : (10 : Int) ^ (18 : Int).toNat = 1000000000000000000 := by decide
  rw [e18] at hc2
  have fin : ∀ zs : List Int, zs.length = 4 → (∀ z ∈ zs, -1000000000000000000 < z ∧ z < 1000000000000000000) → Q (.lst (zs.map .int)) (ms M a (StL ns p2 q2 n2 b2)) := go p2 q2 n2 b2
  walk_at "w"
  refine s_d (fun h => ?_) (fun h => ?_)
  · walk_at "w"
    exact fin [0, 1, 2, 3] rfl (by decide)
  · walk_at "w"
    refine s_d (fun h => ?_) (fun h => ?_)
    · walk_at "w"
      refine fin [c, c + 1, 0 - c - 2, c + 9] rfl ?_
      intro z hz
      simp only [List.mem_cons, List.not_mem_nil, or_false] at hz
      rcases hz with rfl | rfl | rfl | rfl <;> omega
    · walk_at "w"
      refine s_d (fun h => ?_) (fun h => ?_)
      · walk_at "w"
        rw [e18]
        refine fin [0 - c, c + 2, 1, 1000000000000000000 - 1] rfl ?_
        intro z hz
        simp only [List.mem_cons, List.not_mem_nil, or_false] at hz
        rcases hz with rfl | rfl | rfl | rfl <;> omega
      · walk_at "w"
        rw [e18]
        refine fin [1000000000000000000 - 1, 0 - c - 1, 0, c + 1] rfl ?_
        intro z hz
        simp only [List.mem_cons, List.not_mem_nil, or_false] at hz
        rcases hz with rfl | rfl | rfl | rfl <;> omega
end K13

/-! K13j -/
set_option Elab.async false
set_option linter.all false
set_option maxRecDepth 100000
set_option maxHeartbeats 1000000
namespace K13
open PySem PySem.Spec L2 Nb
open PyProof.Rows hiding St
local macro_rules | `(tactic| walk_at "s") => `(tactic| (first | with_reducible refine stp_go ?_ | ((with_reducible apply r_v); (focus (with_reducible (first | assumption | with_unfolding_all rfl)))) | ((with_reducible apply r_g); (focus (with_reducible (first | assumption | with_unfolding_all rfl)))) | ((with_reducible apply o_addl); (focus (with_reducible (first | assumption | exact Nat.le_of_ble_eq_true rfl)))) | ((with_reducible apply o_addt); (focus (with_reducible (first | assumption | exact Nat.le_of_ble_eq_true rfl)))) | ((with_reducible apply o_ixr); (focus (with_reducible ((repeat (refine (ms_ne (by first | assumption | exact Ne.symm (by assumption))).trans ?_)); first | with_reducible exact ms_same | assumption))); (focus (with_reducible (first | assumption | with_unfolding_all rfl)))) | ((with_reducible apply o_ixt); (focus (with_reducible (first | assumption | with_unfolding_all rfl)))) | ((with_reducible apply o_ixl); (focus (with_reducible (first | assumption | with_unfolding_all rfl)))) | ((with_reducible apply o_ixk); (focus (with_reducible (first | assumption | with_unfolding_all rfl)))) | ((with_reducible apply o_mod); (focus (with_reducible (first | decide | assumption | omega)))) | ((with_reducible apply o_mulr); (focus (with_reducible (first | assumption | omega))); (focus (with_reducible (first | assumption | omega)))) | ((with_reducible apply o_mull); (focus (with_reducible (first | assumption | omega))); (focus (with_reducible (first | assumption | omega)))) | ((with_reducible apply o_divl); (focus (with_reducible (first | assumption | omega))); (focus (with_reducible (first | assumption | omega)))) | ((with_reducible apply o_pow3); (focus (with_reducible (first | assumption | omega))); (focus (with_reducible (first | assumption | omega))); (focus (with_reducible (first | assumption | omega)))) | ((with_reducible apply b_lenr); (focus (with_reducible ((repeat (refine (ms_ne (by first | assumption | exact Ne.symm (by assumption))).trans ?_)); first | with_reducible exact ms_same | assumption)))) | ((with_reducible apply b_listr); (focus (with_reducible ((repeat (refine (ms_ne (by first | assumption | exact Ne.symm (by assumption))).trans ?_)); first | with_reducible exact ms_same | assumption)))) | ((with_reducible apply b_tupr); (focus (with_reducible ((repeat (refine (ms_ne (by first | assumption | exact Ne.symm (by assumption))).trans ?_)); first | with_reducible exact ms_same | assumption)))) | ((with_reducible apply r_call); (focus (with_reducible (assumption)))) | ((with_reducible apply r_new); (focus (with_reducible (assumption)))) | ((with_reducible apply m_appT); (focus (with_reducible ((repeat (refine (ms_ne (by first | assumption | exact Ne.symm (by assumption))).trans ?_)); first | with_reducible exact ms_same | assumption)))) | with_reducible refine q_oeq ?_ | ((with_reducible apply r_exn); (focus (with_reducible (first | assumption | with_unfolding_all rfl)))) | ((with_reducible apply u_ref); (focus (with_reducible ((repeat (refine (ms_ne (by first | assumption | exact Ne.symm (by assumption))).trans ?_)); first | with_reducible exact ms_same | assumption)))) | ((with_reducible apply e_set); (focus (with_reducible ((repeat (refine (ms_ne (by first | assumption | exact Ne.symm (by assumption))).trans ?_)); first | with_reducible exact ms_same | assumption))); (focus (with_reducible (first | assumption | with_unfolding_all rfl)))) | ((with_reducible apply isi_b); (focus (with_reducible (with_unfolding_all rfl))); (focus (with_reducible (first | with_reducible rfl | with_reducible exact tb_NoneType_bool | with_reducible exact tb_NoneType_int | with_reducible exact tb_NoneType_str | with_reducible exact tb_NoneType_tuple | with_reducible exact tb_NoneType_list | with_reducible exact tb_bool_bool | with_reducible exact tb_bool_int | with_reducible exact tb_bool_str | with_reducible exact tb_bool_tuple | with_reducible exact tb_bool_list | with_reducible exact tb_int_bool | with_reducible exact tb_int_int | with_reducible exact tb_int_str | with_reducible exact tb_int_tuple | with_reducible exact tb_int_list | with_reducible exact tb_str_bool | with_reducible exact tb_str_int | with_reducible exact tb_str_str | with_reducible exact tb_str_tuple | with_reducible exact tb_str_list | with_reducible exact tb_tuple_bool | with_reducible exact tb_tuple_int | with_reducible exact tb_tuple_str | with_reducible exact tb_tuple_tuple | with_reducible exact tb_tuple_list | with_reducible exact tb_list_bool | with_reducible exact tb_list_int | with_reducible exact tb_list_str | with_reducible exact tb_list_tuple | with_reducible exact tb_list_list)))) | ((with_reducible apply c_len); (focus (with_reducible (first | assumption | exact Nat.le_of_ble_eq_true rfl)))) | (with_reducible refine t_nil ?_; dsimp only)))
local macro_rules | `(tactic| walk_at "w") => `(tactic| (repeat (first | with_reducible refine stp_go ?_ | ((with_reducible apply r_v); (focus (with_reducible (first | assumption | with_unfolding_all rfl)))) | ((with_reducible apply r_g); (focus (with_reducible (first | assumption | with_unfolding_all rfl)))) | ((with_reducible apply o_addl); (focus (with_reducible (first | assumption | exact Nat.le_of_ble_eq_true rfl)))) | ((with_reducible apply o_addt); (focus (with_reducible (first | assumption | exact Nat.le_of_ble_eq_true rfl)))) | ((with_reducible apply o_ixr); (focus (with_reducible ((repeat (refine (ms_ne (by first | assumption | exact Ne.symm (by assumption))).trans ?_)); first | with_reducible exact ms_same | assumption))); (focus (with_reducible (first | assumption | with_unfolding_all rfl)))) | ((with_reducible apply o_ixt); (focus (with_reducible (first | assumption | with_unfolding_all rfl)))) | ((with_reducible apply o_ixl); (focus (with_reducible (first | assumption | with_unfolding_all rfl)))) | ((with_reducible apply o_ixk); (focus (with_reducible (first | assumption | with_unfolding_all rfl)))) | ((with_reducible apply o_mod); (focus (with_reducible (first | decide | assumption | omega)))) | ((with_reducible apply o_mulr); (focus (with_reducible (first | assumption | omega))); (focus (with_reducible (first | assumption | omega)))) | ((with_reducible apply o_mull); (focus (with_reducible (first | assumption | omega))); (focus (with_reducible (first | assumption | omega)))) | ((with_reducible apply o_divl); (focus (with_reducible (first | assumption | omega))); (focus (with_reducible (first | assumption | omega)))) | ((with_reducible apply o_pow3); (focus (with_reducible (first | assumption | omega))); (focus (with_reducible (first | assumption | omega))); (focus (with_reducible (first | assumption | omega)))) | ((with_reducible apply b_lenr); (focus (with_reducible ((repeat (refine (ms_ne (by first | assumption | exact Ne.symm (by assumption))).trans ?_)); first | with_reducible exact ms_same | assumption)))) | ((with_reducible apply b_listr); (focus (with_reducible ((repeat (refine (ms_ne (by first | assumption | exact Ne.symm (by assumption))).trans ?_)); first | with_reducible exact ms_same | assumption)))) | ((with_reducible apply b_tupr); (focus (with_reducible ((repeat (refine (ms_ne (by first | assumption | exact Ne.symm (by assumption))).trans ?_)); first | with_reducible exact ms_same | assumption)))) | ((with_reducible apply r_call); (focus (with_reducible (assumption)))) | ((with_reducible apply r_new); (focus (with_reducible (assumption)))) | ((with_reducible apply m_appT); (focus (with_reducible ((repeat (refine (ms_ne (by first | assumption | exact Ne.symm (by assumption))).trans ?_)); first | with_reducible exact ms_same | assumption)))) | with_reducible refine q_oeq ?_ | ((with_reducible apply r_exn); (focus (with_reducible (first | assumption | with_unfolding_all rfl)))) | ((with_reducible apply u_ref); (focus (with_reducible ((repeat (refine (ms_ne (by first | assumption | exact Ne.symm (by assumption))).trans ?_)); first | with_reducible exact ms_same | assumption)))) | ((with_reducible apply e_set); (focus (with_reducible ((repeat (refine (ms_ne (by first | assumption | exact Ne.symm (by assumption))).trans ?_)); first | with_reducible exact ms_same | assumption))); (focus (with_reducible (first | assumption | with_unfolding_all rfl)))) | ((with_reducible apply isi_b); (focus (with_reducible (with_unfolding_all rfl))); (focus (with_reducible (first | with_reducible rfl | with_reducible exact tb_NoneType_bool | with_reducible exact tb_NoneType_int | with_reducible exact tb_NoneType_str | with_reducible exact tb_NoneType_tuple | with_reducible exact tb_NoneType_list | with_reducible exact tb_bool_bool | with_reducible exact tb_bool_int | with_reducible exact tb_bool_str | with_reducible exact tb_bool_tuple | with_reducible exact tb_bool_list | with_reducible exact tb_int_bool | with_reducible exact tb_int_int | with_reducible exact tb_int_str | with_reducible exact tb_int_tuple | with_reducible exact tb_int_list | with_reducible exact tb_str_bool | with_reducible exact tb_str_int | with_reducible exact tb_str_str | with_reducible exact tb_str_tuple | with_reducible exact tb_str_list | with_reducible exact tb_tuple_bool | with_reducible exact tb_tuple_int | with_reducible exact tb_tuple_str | with_reducible exact tb_tuple_tuple | with_reducible exact tb_tuple_list | with_reducible exact tb_list_bool | with_reducible exact tb_list_int | with_reducible exact tb_list_str | with_reducible exact tb_list_tuple | with_reducible exact tb_list_list)))) | ((with_reducible apply c_len); (focus (with_reducible (first | assumption | exact Nat.le_of_ble_eq_true rfl)))) | (with_reducible refine t_nil ?_; dsimp only))))
/-! _law_made -/
def errV (c : Nat) (x : Str) : PV := .tup [nmV c, .str x]
def two (t : Str) : PV := .lst [.str t, .str t]
/-- what is told of a step, by its sort and words -/
def madeW (s : Str) (ws : List PV) (G : PV → Prop) : Prop :=
  (∃ col cs, (s = Str.ofString "=" ∨ s = Str.ofString "!") ∧ ws = .str col :: cs ∧ cs.length = 3 ∧ col.length ≤ 9 ∧ (∀ x ∈ cs, vOk x) ∧
    if vn col = false then G (errV i_BadName col) else if cs.all cellB = false then G (errV i_WrongCell col) else ∀ L, SrtI L cs → G (two (cqT col s L))) ∨
  (∃ x y, s = Str.ofString "~" ∧ ws = [.str x, .str y] ∧ x.length ≤ 9 ∧ y.length ≤ 9 ∧ match nmErr [x, y] with
    | some (c, z) => G (errV c z)
    | none => ∀ L, SrtP L [x, y] → G (two (mtT L))) ∨
  (s = Str.ofString "-" ∧ ws = [] ∧ G (errV i_NoPlain (Str.ofString ""))) ∨
  (∃ x y z, s = Str.ofString "-" ∧ ws = [.str x, .str y, .str z] ∧ (∀ u ∈ [x, y, z], u.length ≤ 9 ∧ PyData.strOk u = true) ∧ match nmErr [x, y, z] with
    | some (c, u) => G (errV c u)
    | none => ∀ L, SrtP L [x, y, z] → G (two (drT L))) ∨
  (∃ x, s = Str.ofString "*" ∧ ws = [.str x] ∧ x.length ≤ 9 ∧ match nmErr [x] with
    | some (c, u) => G (errV c u)
    | none => G (two (x ++ Str.ofString "*")))
def S_made : BP := fun xs M Q E => ∃ s ws, xs = [.str s, .lst ws] ∧ madeW s ws fun v => ∀ M', Ext M M' → Q v M'
structure MadeG (Γ : Gm) : Prop where
  cold : Γ.cold = true
  i1 : Γ.ini i_Choose = some (S_cq i_Choose (Str.ofString "="))
  i2 : Γ.ini i_Refuse = some (S_cq i_Refuse (Str.ofString "!"))
  i3 : Γ.ini i_Match = some S_match
  i4 : Γ.ini i_Drop = some S_drop
  i5 : Γ.ini i_Prune = some S_prune
  told : Γ.hfn i__law_told = some S_told
  ex : (∀ c ∈ xs4, Γ.exm c i_NestError = some true) ∧ Γ.exm i_NestError i_NestError = some true
  fl : ∀ c ∈ insts, Γ.fld c i_text = true
  st : ∀ c ∈ insts, Γ.stm c = some S_str
theorem nmErr_c {l : List Str} {c : Nat} {x : Str} (e : nmErr l = some (c, x)) : c ∈ xs4 := by
  unfold nmErr at e
  split at e
  · cases e; decide
  · cases h : dupOf [] l with
    | none => rw [h] at e; cases e
    | some y => rw [h] at e; cases e; decide
theorem nmV_noX {c : Nat} {z : Str} : noX (errV c z) = true := by
  unfold errV nmV
  split
  · rfl
  · split
    · rfl
    · split <;> rfl
theorem eq_nil0 {M : MHp} {Q : BV} (q : Q (.bl true) M) : cmpR .Eq (.lst []) (.lst []) M Q := ⟨rfl, rfl, Nat.le_of_ble_eq_true rfl, Nat.le_of_ble_eq_true rfl, q⟩
theorem eq_nil1 {x : PV} {r : List PV} {M : MHp} {Q : BV} (h : clns (x :: r) = true) (d : dpts (x :: r) ≤ 59) (q : Q (.bl false) M) : cmpR .Eq (.lst (x :: r)) (.lst []) M Q := ⟨h, rfl, by show dpts (x :: r) + 1 ≤ 60; omega, Nat.le_of_ble_eq_true rfl, q⟩
theorem w_made {Γ : Gm} (g : MadeG Γ) : ∀ xs M Q E, S_made xs M Q E → bodyP Γ b__law_made N__law_made 2 xs M Q E := by
  rintro xs M Q E ⟨s, ws, rfl, go⟩
  have hb := big
  have cd := g.cold
  have i1 := g.i1
  have i2 := g.i2
  have i3 := g.i3
  have i4 := g.i4
  have i5 := g.i5
  refine ⟨rfl, ?_⟩
  unfold b__law_made startP N__law_made
  dsimp only [List.map, List.length, List.replicate, List.append]
  have kn : (Γ.exm i_NestError i_NestError).isSome = true := by rw [g.ex.2]; rfl
  have hh : Γ.hot.fn i__law_told = some S_told := g.told
  -- an error is told
  have err : ∀ c z M' (K : Sl → MHp → Prop), c ∈ xs4 → Q (errV c z) M' → wHs Γ (.cons (some i_NestError) (some 3) (.cons (.ret (.call i__law_told (.cons (.v 3) .nil))) .nil) .nil) ((endsP Q E).nxt K) c [(i_name, .str z)] [some (.str s), some (.lst ws), none, none] M' := by
    intro c z M' K hc q
    refine ⟨true, g.ex.1 c hc, fun _ => ?_, fun z => by cases z⟩
    walk_at "w"
    refine ⟨c, _, rfl, hc, ?_⟩
    exact ⟨nmV_noX, q⟩
  have nmE : ∀ {l : List Str} {M1 : MHp} {K : Sl → MHp → Prop} {p : Prop}, (match nmErr l with
      | some (c, u) => ∀ M', Ext M M' → Q (errV c u) M'
      | none => p) → nmW l M (fun c fs M' => wHs Γ (.cons (some i_NestError) (some 3) (.cons (.ret (.call i__law_told (.cons (.v 3) .nil))) .nil) .nil) ((endsP Q E).nxt K) c fs [some (.str s), some (.lst ws), none, none] M') p := by
    intro l M1 K p h
    unfold nmW
    cases e : nmErr l with
    | none => rw [e] at h; exact h
    | some cz =>
      obtain ⟨c, z⟩ := cz
      rw [e] at h
      exact fun M' hx => err c z M' K (nmErr_c e) (h M' hx)
  refine t_try cd (by simp only [knH, knO, kn, Bool.and_self]) ?_
  rcases go with ⟨col, cs, hs, rfl, hl3, hl, hv, go⟩ | ⟨x, y, rfl, rfl, h1, h2, go⟩ | ⟨rfl, rfl, go⟩ | ⟨x, y, z, rfl, rfl, h1, go⟩ | ⟨x, rfl, rfl, h1, go⟩
  · obtain ⟨p, q, r, rfl⟩ : ∃ p q r, cs = [p, q, r] := by
      match cs, hl3 with
      | [p, q, r], _ => exact ⟨p, q, r, rfl⟩
    rcases hs with rfl | rfl
    · walk_at "w"
      refine s_d (fun _ => ?_) (fun h => (h rfl).elim)
      walk_at "w"
      refine mk_cq hl (by show 3 < 60; decide) hv ?_
      unfold cqW
      by_cases q1 : vn col = false
      · rw [if_pos q1] at go ⊢
        exact fun M' hx => err _ _ M' _ (by decide) (go M' hx)
      · rw [if_neg q1] at go ⊢
        by_cases q2 : List.all [p, q, r] cellB = false
        · rw [if_pos q2] at go ⊢
          exact fun M' hx => err _ _ M' _ (by decide) (go M' hx)
        · rw [if_neg q2] at go ⊢
          intro M' L hx hL
          walk_at "w"
          refine at_o (g.fl i_Choose (by decide)) rfl ?_
          walk_at "w"
          refine ⟨i_Choose, _, S_str, rfl, g.st i_Choose (by decide), i_Choose, _, _, rfl, by decide, rfl, _, rfl, ?_⟩
          walk_at "w"
          exact (go L hL M' hx)
    · walk_at "w"
      refine s_d (fun h => absurd h (by decide)) (fun _ => ?_)
      walk_at "w"
      refine s_d (fun _ => ?_) (fun h => (h rfl).elim)
      walk_at "w"
      refine mk_cq hl (by show 3 < 60; decide) hv ?_
      unfold cqW
      by_cases q1 : vn col = false
      · rw [if_pos q1] at go ⊢
        exact fun M' hx => err _ _ M' _ (by decide) (go M' hx)
      · rw [if_neg q1] at go ⊢
        by_cases q2 : List.all [p, q, r] cellB = false
        · rw [if_pos q2] at go ⊢
          exact fun M' hx => err _ _ M' _ (by decide) (go M' hx)
        · rw [if_neg q2] at go ⊢
          intro M' L hx hL
          walk_at "w"
          refine at_o (g.fl i_Refuse (by decide)) rfl ?_
          walk_at "w"
          refine ⟨i_Refuse, _, S_str, rfl, g.st i_Refuse (by decide), i_Refuse, _, _, rfl, by decide, rfl, _, rfl, ?_⟩
          walk_at "w"
          exact (go L hL M' hx)
  · walk_at "w"
    refine s_d (fun h => absurd h (by decide)) (fun _ => ?_)
    walk_at "w"
    refine s_d (fun h => absurd h (by decide)) (fun _ => ?_)
    walk_at "w"
    refine s_d (fun _ => ?_) (fun h => (h rfl).elim)
    walk_at "w"
    refine mk_mt h1 h2 (nmE (M1 := M) ?_)
    cases e : nmErr [x, y] with
    | some cz => rw [e] at go; exact go
    | none =>
      rw [e] at go
      dsimp only at go ⊢
      intro M' L hx hL
      walk_at "w"
      refine at_o (g.fl i_Match (by decide)) rfl ?_
      walk_at "w"
      refine ⟨i_Match, _, S_str, rfl, g.st i_Match (by decide), i_Match, _, _, rfl, by decide, rfl, _, rfl, ?_⟩
      walk_at "w"
      exact (go L hL M' hx)
  · walk_at "w"
    refine s_d (fun h => absurd h (by decide)) (fun _ => ?_)
    walk_at "w"
    refine s_d (fun h => absurd h (by decide)) (fun _ => ?_)
    walk_at "w"
    refine s_d (fun h => absurd h (by decide)) (fun _ => ?_)
    walk_at "w"
    refine s_d (fun _ => ?_) (fun h => (h rfl).elim)
    walk_at "w"
    refine eq_nil0 ?_
    walk_at "w"
    refine mk_dr (l := []) (by decide) (fun _ h => by cases h) (nmE (M1 := M) ?_)
    exact fun M' hx => err _ _ M' _ (by decide) (go M' hx)
  · walk_at "w"
    refine s_d (fun h => absurd h (by decide)) (fun _ => ?_)
    walk_at "w"
    refine s_d (fun h => absurd h (by decide)) (fun _ => ?_)
    walk_at "w"
    refine s_d (fun h => absurd h (by decide)) (fun _ => ?_)
    walk_at "w"
    refine s_d (fun _ => ?_) (fun h => (h rfl).elim)
    walk_at "w"
    refine eq_nil1 ?_ (Nat.le_of_ble_eq_true rfl) ?_
    · show (PyData.strOk x && (PyData.strOk y && (PyData.strOk z && true))) = true
      rw [(h1 x (by simp)).2, (h1 y (by simp)).2, (h1 z (by simp)).2]
      rfl
    walk_at "w"
    refine s_d (fun _ => ?_) (fun h => (h rfl).elim)
    walk_at "w"
    refine mk_dr (l := [x, y, z]) (by show 3 < 60; decide) (fun u h => (h1 u h).1) (nmE (M1 := M) ?_)
    cases e : nmErr [x, y, z] with
    | some cz => rw [e] at go; exact go
    | none =>
      rw [e] at go
      dsimp only at go ⊢
      intro M' L hx hL
      walk_at "w"
      refine at_o (g.fl i_Drop (by decide)) rfl ?_
      walk_at "w"
      refine ⟨i_Drop, _, S_str, rfl, g.st i_Drop (by decide), i_Drop, _, _, rfl, by decide, rfl, _, rfl, ?_⟩
      walk_at "w"
      exact (go L hL M' hx)
  · walk_at "w"
    refine s_d (fun h => absurd h (by decide)) (fun _ => ?_)
    walk_at "w"
    refine s_d (fun h => absurd h (by decide)) (fun _ => ?_)
    walk_at "w"
    refine s_d (fun h => absurd h (by decide)) (fun _ => ?_)
    walk_at "w"
    refine s_d (fun h => absurd h (by decide)) (fun _ => ?_)
    walk_at "w"
    refine s_d (fun h => absurd h (by decide)) (fun _ => ?_)
    walk_at "w"
    refine mk_pr h1 (nmE (M1 := M) ?_)
    cases e : nmErr [x] with
    | some cz => rw [e] at go; exact go
    | none =>
      rw [e] at go
      dsimp only at go ⊢
      intro M' hx
      walk_at "w"
      refine at_o (g.fl i_Prune (by decide)) rfl ?_
      walk_at "w"
      refine ⟨i_Prune, _, S_str, rfl, g.st i_Prune (by decide), i_Prune, _, _, rfl, by decide, rfl, _, rfl, ?_⟩
      walk_at "w"
      exact (go M' hx)
end K13

/-! K13n -/
set_option Elab.async false
set_option linter.all false
set_option maxRecDepth 100000
set_option maxHeartbeats 1000000
namespace K13
open PySem PySem.Spec L2 Nb
open PyProof.Rows hiding St
local macro_rules | `(tactic| walk_at "s") => `(tactic| (first | with_reducible refine stp_go ?_ | ((with_reducible apply r_v); (focus (with_reducible (first | assumption | with_unfolding_all rfl)))) | ((with_reducible apply r_g); (focus (with_reducible (first | assumption | with_unfolding_all rfl)))) | ((with_reducible apply o_addl); (focus (with_reducible (first | assumption | exact Nat.le_of_ble_eq_true rfl)))) | ((with_reducible apply o_addt); (focus (with_reducible (first | assumption | exact Nat.le_of_ble_eq_true rfl)))) | ((with_reducible apply o_ixr); (focus (with_reducible ((repeat (refine (ms_ne (by first | assumption | exact Ne.symm (by assumption))).trans ?_)); first | with_reducible exact ms_same | assumption))); (focus (with_reducible (first | assumption | with_unfolding_all rfl)))) | ((with_reducible apply o_ixt); (focus (with_reducible (first | assumption | with_unfolding_all rfl)))) | ((with_reducible apply o_ixl); (focus (with_reducible (first | assumption | with_unfolding_all rfl)))) | ((with_reducible apply o_ixk); (focus (with_reducible (first | assumption | with_unfolding_all rfl)))) | ((with_reducible apply o_mod); (focus (with_reducible (first | decide | assumption | omega)))) | ((with_reducible apply o_mulr); (focus (with_reducible (first | assumption | omega))); (focus (with_reducible (first | assumption | omega)))) | ((with_reducible apply o_mull); (focus (with_reducible (first | assumption | omega))); (focus (with_reducible (first | assumption | omega)))) | ((with_reducible apply o_divl); (focus (with_reducible (first | assumption | omega))); (focus (with_reducible (first | assumption | omega)))) | ((with_reducible apply o_pow3); (focus (with_reducible (first | assumption | omega))); (focus (with_reducible (first | assumption | omega))); (focus (with_reducible (first | assumption | omega)))) | ((with_reducible apply b_lenr); (focus (with_reducible ((repeat (refine (ms_ne (by first | assumption | exact Ne.symm (by assumption))).trans ?_)); first | with_reducible exact ms_same | assumption)))) | ((with_reducible apply b_listr); (focus (with_reducible ((repeat (refine (ms_ne (by first | assumption | exact Ne.symm (by assumption))).trans ?_)); first | with_reducible exact ms_same | assumption)))) | ((with_reducible apply b_tupr); (focus (with_reducible ((repeat (refine (ms_ne (by first | assumption | exact Ne.symm (by assumption))).trans ?_)); first | with_reducible exact ms_same | assumption)))) | ((with_reducible apply r_call); (focus (with_reducible (assumption)))) | ((with_reducible apply r_new); (focus (with_reducible (assumption)))) | ((with_reducible apply m_appT); (focus (with_reducible ((repeat (refine (ms_ne (by first | assumption | exact Ne.symm (by assumption))).trans ?_)); first | with_reducible exact ms_same | assumption)))) | with_reducible refine q_oeq ?_ | ((with_reducible apply r_exn); (focus (with_reducible (first | assumption | with_unfolding_all rfl)))) | ((with_reducible apply u_ref); (focus (with_reducible ((repeat (refine (ms_ne (by first | assumption | exact Ne.symm (by assumption))).trans ?_)); first | with_reducible exact ms_same | assumption)))) | ((with_reducible apply e_set); (focus (with_reducible ((repeat (refine (ms_ne (by first | assumption | exact Ne.symm (by assumption))).trans ?_)); first | with_reducible exact ms_same | assumption))); (focus (with_reducible (first | assumption | with_unfolding_all rfl)))) | ((with_reducible apply isi_b); (focus (with_reducible (with_unfolding_all rfl))); (focus (with_reducible (first | with_reducible rfl | with_reducible exact tb_NoneType_bool | with_reducible exact tb_NoneType_int | with_reducible exact tb_NoneType_str | with_reducible exact tb_NoneType_tuple | with_reducible exact tb_NoneType_list | with_reducible exact tb_bool_bool | with_reducible exact tb_bool_int | with_reducible exact tb_bool_str | with_reducible exact tb_bool_tuple | with_reducible exact tb_bool_list | with_reducible exact tb_int_bool | with_reducible exact tb_int_int | with_reducible exact tb_int_str | with_reducible exact tb_int_tuple | with_reducible exact tb_int_list | with_reducible exact tb_str_bool | with_reducible exact tb_str_int | with_reducible exact tb_str_str | with_reducible exact tb_str_tuple | with_reducible exact tb_str_list | with_reducible exact tb_tuple_bool | with_reducible exact tb_tuple_int | with_reducible exact tb_tuple_str | with_reducible exact tb_tuple_tuple | with_reducible exact tb_tuple_list | with_reducible exact tb_list_bool | with_reducible exact tb_list_int | with_reducible exact tb_list_str | with_reducible exact tb_list_tuple | with_reducible exact tb_list_list)))) | ((with_reducible apply c_len); (focus (with_reducible (first | assumption | exact Nat.le_of_ble_eq_true rfl)))) | (with_reducible refine t_nil ?_; dsimp only)))
local macro_rules | `(tactic| walk_at "w") => `(tactic| (repeat (first | with_reducible refine stp_go ?_ | ((with_reducible apply r_v); (focus (with_reducible (first | assumption | with_unfolding_all rfl)))) | ((with_reducible apply r_g); (focus (with_reducible (first | assumption | with_unfolding_all rfl)))) | ((with_reducible apply o_addl); (focus (with_reducible (first | assumption | exact Nat.le_of_ble_eq_true rfl)))) | ((with_reducible apply o_addt); (focus (with_reducible (first | assumption | exact Nat.le_of_ble_eq_true rfl)))) | ((with_reducible apply o_ixr); (focus (with_reducible ((repeat (refine (ms_ne (by first | assumption | exact Ne.symm (by assumption))).trans ?_)); first | with_reducible exact ms_same | assumption))); (focus (with_reducible (first | assumption | with_unfolding_all rfl)))) | ((with_reducible apply o_ixt); (focus (with_reducible (first | assumption | with_unfolding_all rfl)))) | ((with_reducible apply o_ixl); (focus (with_reducible (first | assumption | with_unfolding_all rfl)))) | ((with_reducible apply o_ixk); (focus (with_reducible (first | assumption | with_unfolding_all rfl)))) | ((with_reducible apply o_mod); (focus (with_reducible (first | decide | assumption | omega)))) | ((with_reducible apply o_mulr); (focus (with_reducible (first | assumption | omega))); (focus (with_reducible (first | assumption | omega)))) | ((with_reducible apply o_mull); (focus (with_reducible (first | assumption | omega))); (focus (with_reducible (first | assumption | omega)))) | ((with_reducible apply o_divl); (focus (with_reducible (first | assumption | omega))); (focus (with_reducible (first | assumption | omega)))) | ((with_reducible apply o_pow3); (focus (with_reducible (first | assumption | omega))); (focus (with_reducible (first | assumption | omega))); (focus (with_reducible (first | assumption | omega)))) | ((with_reducible apply b_lenr); (focus (with_reducible ((repeat (refine (ms_ne (by first | assumption | exact Ne.symm (by assumption))).trans ?_)); first | with_reducible exact ms_same | assumption)))) | ((with_reducible apply b_listr); (focus (with_reducible ((repeat (refine (ms_ne (by first | assumption | exact Ne.symm (by assumption))).trans ?_)); first | with_reducible exact ms_same | assumption)))) | ((with_reducible apply b_tupr); (focus (with_reducible ((repeat (refine (ms_ne (by first | assumption | exact Ne.symm (by assumption))).trans ?_)); first | with_reducible exact ms_same | assumption)))) | ((with_reducible apply r_call); (focus (with_reducible (assumption)))) | ((with_reducible apply r_new); (focus (with_reducible (assumption)))) | ((with_reducible apply m_appT); (focus (with_reducible ((repeat (refine (ms_ne (by first | assumption | exact Ne.symm (by assumption))).trans ?_)); first | with_reducible exact ms_same | assumption)))) | with_reducible refine q_oeq ?_ | ((with_reducible apply r_exn); (focus (with_reducible (first | assumption | with_unfolding_all rfl)))) | ((with_reducible apply u_ref); (focus (with_reducible ((repeat (refine (ms_ne (by first | assumption | exact Ne.symm (by assumption))).trans ?_)); first | with_reducible exact ms_same | assumption)))) | ((with_reducible apply e_set); (focus (with_reducible ((repeat (refine (ms_ne (by first | assumption | exact Ne.symm (by assumption))).trans ?_)); first | with_reducible exact ms_same | assumption))); (focus (with_reducible (first | assumption | with_unfolding_all rfl)))) | ((with_reducible apply isi_b); (focus (with_reducible (with_unfolding_all rfl))); (focus (with_reducible (first | with_reducible rfl | with_reducible exact tb_NoneType_bool | with_reducible exact tb_NoneType_int | with_reducible exact tb_NoneType_str | with_reducible exact tb_NoneType_tuple | with_reducible exact tb_NoneType_list | with_reducible exact tb_bool_bool | with_reducible exact tb_bool_int | with_reducible exact tb_bool_str | with_reducible exact tb_bool_tuple | with_reducible exact tb_bool_list | with_reducible exact tb_int_bool | with_reducible exact tb_int_int | with_reducible exact tb_int_str | with_reducible exact tb_int_tuple | with_reducible exact tb_int_list | with_reducible exact tb_str_bool | with_reducible exact tb_str_int | with_reducible exact tb_str_str | with_reducible exact tb_str_tuple | with_reducible exact tb_str_list | with_reducible exact tb_tuple_bool | with_reducible exact tb_tuple_int | with_reducible exact tb_tuple_str | with_reducible exact tb_tuple_tuple | with_reducible exact tb_tuple_list | with_reducible exact tb_list_bool | with_reducible exact tb_list_int | with_reducible exact tb_list_str | with_reducible exact tb_list_tuple | with_reducible exact tb_list_list)))) | ((with_reducible apply c_len); (focus (with_reducible (first | assumption | exact Nat.le_of_ble_eq_true rfl)))) | (with_reducible refine t_nil ?_; dsimp only))))
def NmOk (c : Nat) (zs : List Str) : Prop := zs.length = c ∧ zs.Nodup ∧ ∀ z ∈ zs, vn z = true
def S_names : BP := fun xs M Q E => ∃ a ns p q n b, ∃ c : Nat, xs = [.ref a, .int (c : Int)] ∧ c < 26 ∧ M a = some (StL ns p q n b) ∧ ∀ r zs p' q' n' b', r ≠ a → M r = none → NmOk c zs → Q (.ref r) (ms (ms M a (StL ns p' q' n' b')) r (.lst (zs.map .str)))
theorem md_gone {M : MHp} {a r : Addr} {s o : MO} (h : r ≠ a) (n : M r = none) : md (ms (ms M a s) r o) r = ms M a s := by
  funext c
  unfold md ms
  by_cases e : c = r
  · subst e; simp [h, n]
  · simp [e]
def one (c : Nat) : Str := ⟨#[c]⟩
def pad (f n : Nat) : Str := ⟨(List.replicate n [f]).flatten.toArray⟩
def nmS (f c p q : Nat) : Str := (pad f p ++ one c) ++ pad f q
theorem abc_at {i : Int} (h0 : 0 ≤ i) (h1 : i < 26) : atI abc.cps.toList i = some (97 + i.toNat) := by
  obtain ⟨n, rfl⟩ := Int.eq_ofNat_of_zero_le h0
  have hn : n < 26 := by omega
  have := (by decide : ∀ n : Nat, n < 26 → atI abc.cps.toList (n : Int) = some (97 + n)) n hn
  exact this
theorem abc_list : abc.cps.toList = (List.range 26).map (97 + ·) := by decide
theorem nmS_list {f c p q : Nat} : (nmS f c p q).cps.toList = List.replicate p f ++ c :: List.replicate q f := by
  have fl : ∀ n, (List.replicate n [f]).flatten = List.replicate n f := fun n => by
    induction n with
    | zero => rfl
    | succ n ih => rw [List.replicate_succ, List.flatten_cons, ih]; rfl
  show ((pad f p).cps ++ (one c).cps ++ (pad f q).cps).toList = _
  simp [pad, one, fl]
theorem nmS_len {f c p q : Nat} : (nmS f c p q).length = p + q + 1 := by
  show (nmS f c p q).cps.size = _
  rw [← Array.length_toList, nmS_list]
  simp; omega
theorem pad_len {f n : Nat} : (⟨(List.replicate n (one f).cps.toList).flatten.toArray⟩ : Str).length = n := by
  have fl : ∀ n, (List.replicate n [f]).flatten = List.replicate n f := fun n => by
    induction n with
    | zero => rfl
    | succ n ih => rw [List.replicate_succ, List.flatten_cons, ih]; rfl
  show ((List.replicate n [f]).flatten.toArray).size = n
  rw [fl]; simp
theorem len_app {a b : Str} : (a ++ b).length = a.length + b.length := by
  show (a.cps ++ b.cps).size = _
  rw [Array.size_append]; rfl
theorem nmS_mem {f c p q x : Nat} (h : x ∈ (nmS f c p q).cps.toList) : x = c ∨ x = f := by
  rw [nmS_list] at h
  simp only [List.mem_append, List.mem_cons, List.mem_replicate] at h
  rcases h with h | h | h
  · exact .inr h.2
  · exact .inl h
  · exact .inr h.2
theorem nmS_own {f c p q : Nat} : c ∈ (nmS f c p q).cps.toList := by
  rw [nmS_list]; simp
/-- the own letters -/
def cd (s t : Int) (i : Nat) : Nat := 97 + ((s + (i : Int) * t) % 26).toNat
theorem cd_inj {s t : Int} (ht : t ∈ ([1, 3, 5, 7, 9, 11] : List Int)) {i j : Nat} (hi : i < 26) (hj : j < 26) (e : cd s t i = cd s t j) : i = j := by
  unfold cd at e
  simp only [List.mem_cons, List.not_mem_nil, or_false] at ht
  rcases ht with rfl | rfl | rfl | rfl | rfl | rfl <;> omega
theorem cd_rng {s t : Int} {i : Nat} : 97 ≤ cd s t i ∧ cd s t i ≤ 122 := by
  unfold cd
  omega
theorem w_names {Γ : Gm} (hc : Γ.cold = true) (hd : Γ.fn i__law_draw = some S_draw) (hp : Γ.fn i__law_pick = some S_pick) : ∀ xs M Q E, S_names xs M Q E → bodyP Γ b__law_names N__law_names 2 xs M Q E := by
  rintro xs M Q E ⟨a, ns, p, q, n, b, c, rfl, hc26, hM, go⟩
  refine ⟨rfl, ?_⟩
  unfold b__law_names startP N__law_names
  dsimp only [List.map, List.length, List.replicate, List.append]
  walk_at "w"
  refine ⟨a, 26, ns, p, q, n, b, rfl, by decide, by decide, hM, fun s p q n b hs0 hs1 => ?_⟩
  walk_at "w"
  refine ⟨a, _, ns, p, q, n, b, rfl, by simp, by decide, ms_same, fun t p q n b ht => ?_⟩
  have ht2 : ∃ t' : Int, t = .int t' ∧ t' ∈ ([1, 3, 5, 7, 9, 11] : List Int) := by
    simp only [List.mem_cons, List.not_mem_nil, or_false] at ht
    rcases ht with rfl | rfl | rfl | rfl | rfl | rfl <;> exact ⟨_, rfl, by decide⟩
  obtain ⟨t, rfl, ht3⟩ := ht2
  walk_at "w"
  refine ⟨a, 64, ns, p, q, n, b, rfl, by decide, by decide, ms_same, fun m p q n b hm0 hm1 => ?_⟩
  simp only [ms_ms]
  walk_at "w"
  refine r_lc hc ?_
  walk_at "w"
  refine i_rR ⟨by decide, by decide, by omega, by omega⟩ ?_
  refine lcW_map (fun v => match v with
    | .int k => .str (one (cd s t k.toNat))
    | _ => .non) trivial (by rw [rngL_nat]; simp only [List.length_map, List.length_range]; exact Nat.le_trans (Nat.le_of_lt hc26) (Nat.le_of_ble_eq_true rfl)) ?_ ?_
  · intro v hv N h
    obtain ⟨k, hk, rfl⟩ := mem_rngL hv
    walk_at "w"
    refine o_ixs (by decide) (abc_at (Int.emod_nonneg _ (by decide)) (Int.emod_lt_of_pos _ (by decide))) ?_
    exact h
  · have eo : ∀ f, f = (fun v : PV => match v with
        | .int k => PV.str (one (cd s t k.toNat))
        | _ => .non) → (rngL 0 (c : Int)).map f = (List.range c).map fun k => .str (one (cd s t k)) := by
      rintro f rfl
      rw [rngL_nat, List.map_map]
      rfl
    rw [eo _ rfl]
    walk_at "w"
    refine r_lc hc ?_
    walk_at "w"
    refine lcW_fil (fun v => !((List.range c).map fun k => PV.str (one (cd s t k))).any fun z => pvEq z v) id trivial (by decide) ?_ ?_ ?_
    · intro y hy Qt h
      obtain ⟨x, hx, rfl⟩ := List.mem_map.mp hy
      refine ⟨_, rfl, _, rfl, _, rfl, .inl ⟨rfl, ?_⟩, _, rfl, h⟩
      simp only [List.all_map, List.all_eq_true, Function.comp_apply]
      intro _ _
      rfl
    · intro y hy _ N h
      walk_at "w"
      exact h
    · rw [List.map_id]
      have hL : ∀ v, v ∈ List.filter (fun v => !(List.map (fun k => PV.str (one (cd s t k))) (List.range c)).any fun z => pvEq z v) (List.map (fun c => PV.str { cps := #[c] }) (Str.ofString "abcdefghijklmnopqrstuvwxyz").cps.toList) ↔ ∃ x, v = .str (one x) ∧ 97 ≤ x ∧ x ≤ 122 ∧ ∀ k, k < c → cd s t k ≠ x := by
        intro v
        rw [List.mem_filter, List.mem_map]
        have e : (Str.ofString "abcdefghijklmnopqrstuvwxyz").cps.toList = (List.range 26).map (97 + ·) := abc_list
        rw [e]
        constructor
        · rintro ⟨⟨x, hx, rfl⟩, h⟩
          obtain ⟨y, hy, rfl⟩ := List.mem_map.mp hx
          have hy2 := List.mem_range.mp hy
          refine ⟨_, rfl, by omega, by omega, fun k hk e => ?_⟩
          simp only [Bool.not_eq_true', List.any_eq_false] at h
          refine h _ (List.mem_map.mpr ⟨k, List.mem_range.mpr hk, rfl⟩) ?_
          rw [e]
          exact decide_eq_true rfl
        · rintro ⟨x, rfl, h1, h2, h3⟩
          refine ⟨⟨x, List.mem_map.mpr ⟨x - 97, List.mem_range.mpr (by omega), by omega⟩, rfl⟩, ?_⟩
          simp only [Bool.not_eq_true', List.any_eq_false]
          intro z hz e
          obtain ⟨k, hk, rfl⟩ := List.mem_map.mp hz
          refine h3 k (List.mem_range.mp hk) ?_
          have e2 : one (cd s t k) = one x := of_decide_eq_true e
          have e3 := congrArg (fun z : Str => z.cps.toList) e2
          simpa [one] using e3
      generalize List.filter (fun v => !(List.map (fun k => PV.str (one (cd s t k))) (List.range c)).any fun z => pvEq z v) (List.map (fun c => PV.str { cps := #[c] }) (Str.ofString "abcdefghijklmnopqrstuvwxyz").cps.toList) = L at hL ⊢
      have hn : (0 : Int) < (L.length : Nat) := by
        have : PV.str (one (cd s t c)) ∈ L := (hL _).mpr ⟨_, rfl, cd_rng.1, cd_rng.2, fun k hk e => by
          have := cd_inj ht3 (by omega) hc26 e
          omega⟩
        have := List.length_pos_of_mem this
        omega
      walk_at "w"
      have hix : (m % (L.length : Nat)).toNat < L.length := by
        have h1 := Int.emod_lt_of_pos m hn
        have h2 := Int.emod_nonneg m (Int.ne_of_gt hn)
        omega
      have hat : atI L (m % (L.length : Nat)) = some L[(m % (L.length : Nat)).toNat] := by
        have h2 := Int.emod_nonneg m (Int.ne_of_gt hn)
        have e : m % (L.length : Nat) = (((m % (L.length : Nat)).toNat : Nat) : Int) := by omega
        exact (congrArg (atI L) e).trans (atI_nat hix)
      obtain ⟨f, hf, f1, f2, f3⟩ := (hL _).mp (List.getElem_mem hix)
      rw [hf] at hat
      refine o_ixl hat ?_
      walk_at "w"
      intro r hr
      have hra : r ≠ a := by
        rintro rfl
        rw [ms_same] at hr
        cases hr
      have hMr : M r = none := by
        rw [ms_ne hra] at hr
        exact hr
      refine t_for hc ?_
      walk_at "w"
      refine i_rR ⟨by decide, by decide, by omega, by omega⟩ ?_
      refine forW_rng (fun j τ M' => ∃ zs : List Str, zs.length = j ∧ zs.Nodup ∧ (∀ z ∈ zs, ∃ k p q, k < j ∧ p + q ≤ 7 ∧ z = nmS f (cd s t k) p q) ∧ (∃ u1 u2 u3, τ = [some (.ref a), some (.int c), some (.str "abcdefghijklmnopqrstuvwxyz"), some (.int s), some (.int t), some (.int m), some (.lst ((List.range c).map fun k => .str (one (cd s t k)))), some (.lst L), some (.str (one f)), some (.ref r), u1, u2, u3, none]) ∧ M' = ms (ms M a (StL ns p q n b)) r (.lst (zs.map .str))) ?_ ?_ ?_
      · exact ⟨[], rfl, List.nodup_nil, (fun z hz => by cases hz), ⟨_, _, _, rfl⟩, rfl⟩
      · rintro j hj τ M' ⟨zs, hz1, hz2, hz3, ⟨u1, u2, u3, rfl⟩, rfl⟩ N hN
        have hown : atI ((List.range c).map fun k => PV.str (one (cd s t k))) (j : Int) = some (.str (one (cd s t j))) := by
          rw [atI_nat (by simpa using hj)]
          simp
        refine t_asg (r_ki ?_)
        refine t_mid (fun τ' M' => ∃ sz : Int, 1 ≤ sz ∧ sz ≤ 8 ∧ τ' = [some (.ref a), some (.int c), some (.str "abcdefghijklmnopqrstuvwxyz"), some (.int s), some (.int t), some (.int m), some (.lst ((List.range c).map fun k => .str (one (cd s t k)))), some (.lst L), some (.str (one f)), some (.ref r), some (.int j), some (.int sz), u3, none] ∧ M' = ms (ms M a (StL ns p q n b)) r (.lst (zs.map .str))) (fun N hN => t_one ?_) ?_
        · walk_at "w"
          refine s_d (fun _ => ?_) (fun _ => ?_)
          · walk_at "w"
            exact hN _ _ ⟨_, by omega, by omega, rfl, rfl⟩
          · walk_at "w"
            exact hN _ _ ⟨_, by omega, by omega, rfl, rfl⟩
        · rintro τ' M' ⟨sz, hs1, hs8, rfl, rfl⟩
          have hsz : 0 < sz := by omega
          walk_at "w"
          have hp0 := Int.emod_nonneg (m / 4 + (j : Int)) (Int.ne_of_gt hsz)
          have hp1 := Int.emod_lt_of_pos (m / 4 + (j : Int)) hsz
          refine o_muls hp0 (by omega) (Nat.le_of_ble_eq_true rfl) ?_
          walk_at "w"
          have hsl : 100 < sizeLine := by rw [sizeLine_eq]; decide
          have h1 : ∀ z, (one z).length = 1 := fun _ => rfl
          refine o_adds (by rw [pad_len, h1]; omega) ?_
          walk_at "w"
          refine o_muls (by omega) (by omega) (Nat.le_of_ble_eq_true rfl) ?_
          refine o_adds (by rw [len_app, pad_len, pad_len, h1]; omega) ?_
          walk_at "w"
          refine m_app ms_same (by rw [List.length_map, hz1]; omega) ?_
          walk_at "w"
          refine hN _ _ ⟨zs ++ [nmS f (cd s t j) ((m / 4 + (j : Int)) % sz).toNat (sz - 1 - (m / 4 + (j : Int)) % sz).toNat], by simp [hz1], ?_, ?_, ⟨_, _, _, rfl⟩, ?_⟩
          · rw [List.nodup_append]
            refine ⟨hz2, by simp, fun z hz z' hz' e => ?_⟩
            rw [List.mem_singleton] at hz'
            subst e
            obtain ⟨k, p', q', hk, _, e⟩ := hz3 z hz
            rw [hz'] at e
            have hk2 : cd s t k ∈ (nmS f (cd s t j) ((m / 4 + (j : Int)) % sz).toNat (sz - 1 - (m / 4 + (j : Int)) % sz).toNat).cps.toList := by
              rw [e]; exact nmS_own
            rcases nmS_mem hk2 with h | h
            · have := cd_inj ht3 (by omega) (by omega) h
              omega
            · exact f3 k (by omega) h
          · intro z hz
            rcases List.mem_append.mp hz with h | h
            · obtain ⟨k, p', q', hk, hpq, e⟩ := hz3 z h
              exact ⟨k, p', q', by omega, hpq, e⟩
            · exact ⟨j, _, _, Nat.lt_succ_self _, by omega, List.mem_singleton.mp h⟩
          · rw [ms_ms, List.map_append]
            rfl
      · rintro τ M' ⟨zs, hz1, hz2, hz3, ⟨u1, u2, u3, rfl⟩, rfl⟩
        walk_at "w"
        refine go r zs p q n b hra hMr ⟨hz1, hz2, fun z hz => ?_⟩
        obtain ⟨k, p, q, hk, hpq, rfl⟩ := hz3 z hz
        refine vn_of (by rw [nmS_len]; omega) (by rw [nmS_len]; omega) fun x hx => ?_
        rcases nmS_mem hx with rfl | rfl
        · exact cd_rng
        · exact ⟨f1, f2⟩
end K13

/-! K13k -/
set_option Elab.async false
set_option linter.all false
set_option maxRecDepth 100000
set_option maxHeartbeats 1000000
namespace K13
open PySem PySem.Spec L2 Nb
open PyProof.Rows hiding St
local macro_rules | `(tactic| walk_at "s") => `(tactic| (first | with_reducible refine stp_go ?_ | ((with_reducible apply r_v); (focus (with_reducible (first | assumption | with_unfolding_all rfl)))) | ((with_reducible apply r_g); (focus (with_reducible (first | assumption | with_unfolding_all rfl)))) | ((with_reducible apply o_addl); (focus (with_reducible (first | assumption | exact Nat.le_of_ble_eq_true rfl)))) | ((with_reducible apply o_addt); (focus (with_reducible (first | assumption | exact Nat.le_of_ble_eq_true rfl)))) | ((with_reducible apply o_ixr); (focus (with_reducible ((repeat (refine (ms_ne (by first | assumption | exact Ne.symm (by assumption))).trans ?_)); first | with_reducible exact ms_same | assumption))); (focus (with_reducible (first | assumption | with_unfolding_all rfl)))) | ((with_reducible apply o_ixt); (focus (with_reducible (first | assumption | with_unfolding_all rfl)))) | ((with_reducible apply o_ixl); (focus (with_reducible (first | assumption | with_unfolding_all rfl)))) | ((with_reducible apply o_ixk); (focus (with_reducible (first | assumption | with_unfolding_all rfl)))) | ((with_reducible apply o_mod); (focus (with_reducible (first | decide | assumption | omega)))) | ((with_reducible apply o_mulr); (focus (with_reducible (first | assumption | omega))); (focus (with_reducible (first | assumption | omega)))) | ((with_reducible apply o_mull); (focus (with_reducible (first | assumption | omega))); (focus (with_reducible (first | assumption | omega)))) | ((with_reducible apply o_divl); (focus (with_reducible (first | assumption | omega))); (focus (with_reducible (first | assumption | omega)))) | ((with_reducible apply o_pow3); (focus (with_reducible (first | assumption | omega))); (focus (with_reducible (first | assumption | omega))); (focus (with_reducible (first | assumption | omega)))) | ((with_reducible apply b_lenr); (focus (with_reducible ((repeat (refine (ms_ne (by first | assumption | exact Ne.symm (by assumption))).trans ?_)); first | with_reducible exact ms_same | assumption)))) | ((with_reducible apply b_listr); (focus (with_reducible ((repeat (refine (ms_ne (by first | assumption | exact Ne.symm (by assumption))).trans ?_)); first | with_reducible exact ms_same | assumption)))) | ((with_reducible apply b_tupr); (focus (with_reducible ((repeat (refine (ms_ne (by first | assumption | exact Ne.symm (by assumption))).trans ?_)); first | with_reducible exact ms_same | assumption)))) | ((with_reducible apply r_call); (focus (with_reducible (assumption)))) | ((with_reducible apply r_new); (focus (with_reducible (assumption)))) | ((with_reducible apply m_appT); (focus (with_reducible ((repeat (refine (ms_ne (by first | assumption | exact Ne.symm (by assumption))).trans ?_)); first | with_reducible exact ms_same | assumption)))) | with_reducible refine q_oeq ?_ | ((with_reducible apply r_exn); (focus (with_reducible (first | assumption | with_unfolding_all rfl)))) | ((with_reducible apply u_ref); (focus (with_reducible ((repeat (refine (ms_ne (by first | assumption | exact Ne.symm (by assumption))).trans ?_)); first | with_reducible exact ms_same | assumption)))) | ((with_reducible apply e_set); (focus (with_reducible ((repeat (refine (ms_ne (by first | assumption | exact Ne.symm (by assumption))).trans ?_)); first | with_reducible exact ms_same | assumption))); (focus (with_reducible (first | assumption | with_unfolding_all rfl)))) | ((with_reducible apply isi_b); (focus (with_reducible (with_unfolding_all rfl))); (focus (with_reducible (first | with_reducible rfl | with_reducible exact tb_NoneType_bool | with_reducible exact tb_NoneType_int | with_reducible exact tb_NoneType_str | with_reducible exact tb_NoneType_tuple | with_reducible exact tb_NoneType_list | with_reducible exact tb_bool_bool | with_reducible exact tb_bool_int | with_reducible exact tb_bool_str | with_reducible exact tb_bool_tuple | with_reducible exact tb_bool_list | with_reducible exact tb_int_bool | with_reducible exact tb_int_int | with_reducible exact tb_int_str | with_reducible exact tb_int_tuple | with_reducible exact tb_int_list | with_reducible exact tb_str_bool | with_reducible exact tb_str_int | with_reducible exact tb_str_str | with_reducible exact tb_str_tuple | with_reducible exact tb_str_list | with_reducible exact tb_tuple_bool | with_reducible exact tb_tuple_int | with_reducible exact tb_tuple_str | with_reducible exact tb_tuple_tuple | with_reducible exact tb_tuple_list | with_reducible exact tb_list_bool | with_reducible exact tb_list_int | with_reducible exact tb_list_str | with_reducible exact tb_list_tuple | with_reducible exact tb_list_list)))) | ((with_reducible apply c_len); (focus (with_reducible (first | assumption | exact Nat.le_of_ble_eq_true rfl)))) | (with_reducible refine t_nil ?_; dsimp only)))
local macro_rules | `(tactic| walk_at "w") => `(tactic| (repeat (first | with_reducible refine stp_go ?_ | ((with_reducible apply r_v); (focus (with_reducible (first | assumption | with_unfolding_all rfl)))) | ((with_reducible apply r_g); (focus (with_reducible (first | assumption | with_unfolding_all rfl)))) | ((with_reducible apply o_addl); (focus (with_reducible (first | assumption | exact Nat.le_of_ble_eq_true rfl)))) | ((with_reducible apply o_addt); (focus (with_reducible (first | assumption | exact Nat.le_of_ble_eq_true rfl)))) | ((with_reducible apply o_ixr); (focus (with_reducible ((repeat (refine (ms_ne (by first | assumption | exact Ne.symm (by assumption))).trans ?_)); first | with_reducible exact ms_same | assumption))); (focus (with_reducible (first | assumption | with_unfolding_all rfl)))) | ((with_reducible apply o_ixt); (focus (with_reducible (first | assumption | with_unfolding_all rfl)))) | ((with_reducible apply o_ixl); (focus (with_reducible (first | assumption | with_unfolding_all rfl)))) | ((with_reducible apply o_ixk); (focus (with_reducible (first | assumption | with_unfolding_all rfl)))) | ((with_reducible apply o_mod); (focus (with_reducible (first | decide | assumption | omega)))) | ((with_reducible apply o_mulr); (focus (with_reducible (first | assumption | omega))); (focus (with_reducible (first | assumption | omega)))) | ((with_reducible apply o_mull); (focus (with_reducible (first | assumption | omega))); (focus (with_reducible (first | assumption | omega)))) | ((with_reducible apply o_divl); (focus (with_reducible (first | assumption | omega))); (focus (with_reducible (first | assumption | omega)))) | ((with_reducible apply o_pow3); (focus (with_reducible (first | assumption | omega))); (focus (with_reducible (first | assumption | omega))); (focus (with_reducible (first | assumption | omega)))) | ((with_reducible apply b_lenr); (focus (with_reducible ((repeat (refine (ms_ne (by first | assumption | exact Ne.symm (by assumption))).trans ?_)); first | with_reducible exact ms_same | assumption)))) | ((with_reducible apply b_listr); (focus (with_reducible ((repeat (refine (ms_ne (by first | assumption | exact Ne.symm (by assumption))).trans ?_)); first | with_reducible exact ms_same | assumption)))) | ((with_reducible apply b_tupr); (focus (with_reducible ((repeat (refine (ms_ne (by first | assumption | exact Ne.symm (by assumption))).trans ?_)); first | with_reducible exact ms_same | assumption)))) | ((with_reducible apply r_call); (focus (with_reducible (assumption)))) | ((with_reducible apply r_new); (focus (with_reducible (assumption)))) | ((with_reducible apply m_appT); (focus (with_reducible ((repeat (refine (ms_ne (by first | assumption | exact Ne.symm (by assumption))).trans ?_)); first | with_reducible exact ms_same | assumption)))) | with_reducible refine q_oeq ?_ | ((with_reducible apply r_exn); (focus (with_reducible (first | assumption | with_unfolding_all rfl)))) | ((with_reducible apply u_ref); (focus (with_reducible ((repeat (refine (ms_ne (by first | assumption | exact Ne.symm (by assumption))).trans ?_)); first | with_reducible exact ms_same | assumption)))) | ((with_reducible apply e_set); (focus (with_reducible ((repeat (refine (ms_ne (by first | assumption | exact Ne.symm (by assumption))).trans ?_)); first | with_reducible exact ms_same | assumption))); (focus (with_reducible (first | assumption | with_unfolding_all rfl)))) | ((with_reducible apply isi_b); (focus (with_reducible (with_unfolding_all rfl))); (focus (with_reducible (first | with_reducible rfl | with_reducible exact tb_NoneType_bool | with_reducible exact tb_NoneType_int | with_reducible exact tb_NoneType_str | with_reducible exact tb_NoneType_tuple | with_reducible exact tb_NoneType_list | with_reducible exact tb_bool_bool | with_reducible exact tb_bool_int | with_reducible exact tb_bool_str | with_reducible exact tb_bool_tuple | with_reducible exact tb_bool_list | with_reducible exact tb_int_bool | with_reducible exact tb_int_int | with_reducible exact tb_int_str | with_reducible exact tb_int_tuple | with_reducible exact tb_int_list | with_reducible exact tb_str_bool | with_reducible exact tb_str_int | with_reducible exact tb_str_str | with_reducible exact tb_str_tuple | with_reducible exact tb_str_list | with_reducible exact tb_tuple_bool | with_reducible exact tb_tuple_int | with_reducible exact tb_tuple_str | with_reducible exact tb_tuple_tuple | with_reducible exact tb_tuple_list | with_reducible exact tb_list_bool | with_reducible exact tb_list_int | with_reducible exact tb_list_str | with_reducible exact tb_list_tuple | with_reducible exact tb_list_list)))) | ((with_reducible apply c_len); (focus (with_reducible (first | assumption | exact Nat.le_of_ble_eq_true rfl)))) | (with_reducible refine t_nil ?_; dsimp only))))
/-! plain lemmas -/
theorem srtI_uniq {L L' : List Int} {cs : List PV} (a : SrtI L cs) (b : SrtI L' cs) : L = L' := by
  have nd : L.Nodup := a.1.imp fun h => Int.ne_of_lt h
  have nd' : L'.Nodup := b.1.imp fun h => Int.ne_of_lt h
  have p : L.Perm L' := (List.perm_ext_iff_of_nodup nd nd').mpr fun k => (a.2 k).trans (b.2 k).symm
  exact p.eq_of_pairwise (fun x y _ _ h1 h2 => absurd (Int.lt_trans h1 h2) (Int.lt_irrefl x)) a.1 b.1
theorem srtP_uniq {L L' l l' : List Str} (a : SrtP L l) (b : SrtP L' l') (h : l.Perm l') : L = L' :=
  ((a.1.trans h).trans b.1.symm).eq_of_pairwise (fun x y _ _ h1 h2 => leS_anti h1 h2) a.2 b.2
theorem nm2 {x y : Str} (hx : vn x = true) (hy : vn y = true) (n : x ≠ y) : nmErr [x, y] = none := by
  unfold nmErr
  simp [hx, hy, dupOf, n, Ne.symm n]
theorem nm3 {x y z : Str} (hx : vn x = true) (hy : vn y = true) (hz : vn z = true) (n1 : x ≠ y) (n2 : x ≠ z) (n3 : y ≠ z) : nmErr [x, y, z] = none := by
  unfold nmErr
  simp [hx, hy, hz, dupOf, n1, n2, n3, Ne.symm n1, Ne.symm n2, Ne.symm n3]
theorem nm1 {x : Str} (hx : vn x = true) : nmErr [x] = none := by
  unfold nmErr
  simp [hx, dupOf]
section
variable {M : MHp} {Q : BV} {E : BX}
theorem made_cq {s z : Str} {cs : List PV} {L : List Int} (hs : s = Str.ofString "=" ∨ s = Str.ofString "!") (h3 : cs.length = 3) (hz : vn z = true) (hv : ∀ x ∈ cs, vOk x) (hc : cs.all cellB = true) (hL : SrtI L cs) (q : ∀ M', Ext M M' → Q (two (cqT z s L)) M') : S_made [.str s, .lst (.str z :: cs)] M Q E := by
  refine ⟨_, _, rfl, .inl ⟨z, cs, hs, rfl, h3, by have := vn_len hz; omega, hv, ?_⟩⟩
  rw [if_neg (by rw [hz]; decide), if_neg (by rw [hc]; decide)]
  intro L' hL'
  rw [srtI_uniq hL' hL]
  exact q
theorem made_wc {s z : Str} {cs : List PV} (hs : s = Str.ofString "=" ∨ s = Str.ofString "!") (h3 : cs.length = 3) (hz : vn z = true) (hv : ∀ x ∈ cs, vOk x) (hc : cs.all cellB = false) (q : ∀ M', Ext M M' → Q (errV i_WrongCell z) M') : S_made [.str s, .lst (.str z :: cs)] M Q E := by
  refine ⟨_, _, rfl, .inl ⟨z, cs, hs, rfl, h3, by have := vn_len hz; omega, hv, ?_⟩⟩
  rw [if_neg (by rw [hz]; decide), if_pos hc]
  exact q
theorem made_bn {s z : Str} {cs : List PV} (hs : s = Str.ofString "=" ∨ s = Str.ofString "!") (h3 : cs.length = 3) (hz : vn z = false) (hl : z.length ≤ 9) (hv : ∀ x ∈ cs, vOk x) (q : ∀ M', Ext M M' → Q (errV i_BadName z) M') : S_made [.str s, .lst (.str z :: cs)] M Q E := by
  refine ⟨_, _, rfl, .inl ⟨z, cs, hs, rfl, h3, hl, hv, ?_⟩⟩
  rw [if_pos hz]
  exact q
theorem made_mt {x y : Str} {L : List Str} (h1 : x.length ≤ 9) (h2 : y.length ≤ 9) (hn : nmErr [x, y] = none) (hL : SrtP L [x, y]) (q : ∀ M', Ext M M' → Q (two (mtT L)) M') : S_made [.str (Str.ofString "~"), .lst [.str x, .str y]] M Q E := by
  refine ⟨_, _, rfl, .inr (.inl ⟨x, y, rfl, rfl, h1, h2, ?_⟩)⟩
  rw [hn]
  intro L' hL'
  rw [srtP_uniq hL' hL (List.Perm.refl _)]
  exact q
theorem made_mtE {x y z : Str} {c : Nat} (h1 : x.length ≤ 9) (h2 : y.length ≤ 9) (hn : nmErr [x, y] = some (c, z)) (q : ∀ M', Ext M M' → Q (errV c z) M') : S_made [.str (Str.ofString "~"), .lst [.str x, .str y]] M Q E := by
  refine ⟨_, _, rfl, .inr (.inl ⟨x, y, rfl, rfl, h1, h2, ?_⟩)⟩
  rw [hn]
  exact q
theorem made_dr0 (q : ∀ M', Ext M M' → Q (errV i_NoPlain (Str.ofString "")) M') : S_made [.str (Str.ofString "-"), .lst []] M Q E := ⟨_, _, rfl, .inr (.inr (.inl ⟨rfl, rfl, q⟩))⟩
theorem made_dr {x y z : Str} {L : List Str} (h : ∀ u ∈ [x, y, z], u.length ≤ 9 ∧ PyData.strOk u = true) (hn : nmErr [x, y, z] = none) (hL : SrtP L [x, y, z]) (q : ∀ M', Ext M M' → Q (two (drT L)) M') : S_made [.str (Str.ofString "-"), .lst [.str x, .str y, .str z]] M Q E := by
  refine ⟨_, _, rfl, .inr (.inr (.inr (.inl ⟨x, y, z, rfl, rfl, h, ?_⟩)))⟩
  rw [hn]
  intro L' hL'
  rw [srtP_uniq hL' hL (List.Perm.refl _)]
  exact q
theorem made_drE {x y z u : Str} {c : Nat} (h : ∀ u ∈ [x, y, z], u.length ≤ 9 ∧ PyData.strOk u = true) (hn : nmErr [x, y, z] = some (c, u)) (q : ∀ M', Ext M M' → Q (errV c u) M') : S_made [.str (Str.ofString "-"), .lst [.str x, .str y, .str z]] M Q E := by
  refine ⟨_, _, rfl, .inr (.inr (.inr (.inl ⟨x, y, z, rfl, rfl, h, ?_⟩)))⟩
  rw [hn]
  exact q
theorem made_pr {x : Str} (hx : vn x = true) (q : ∀ M', Ext M M' → Q (two (x ++ Str.ofString "*")) M') : S_made [.str (Str.ofString "*"), .lst [.str x]] M Q E := by
  refine ⟨_, _, rfl, .inr (.inr (.inr (.inr ⟨x, rfl, rfl, by have := vn_len hx; omega, ?_⟩)))⟩
  rw [nm1 hx]
  exact q
theorem made_prE {x : Str} (hx : vn x = false) (hl : x.length ≤ 9) (q : ∀ M', Ext M M' → Q (errV i_BadName x) M') : S_made [.str (Str.ofString "*"), .lst [.str x]] M Q E := by
  refine ⟨_, _, rfl, .inr (.inr (.inr (.inr ⟨x, rfl, rfl, hl, ?_⟩)))⟩
  have : nmErr [x] = some (i_BadName, x) := by
    unfold nmErr
    simp [hx]
  rw [this]
  exact q
end
theorem strOk_vn {x : Str} (h : vn x = true) : PyData.strOk x = true := by
  unfold PyData.strOk
  rw [← Array.all_toList, List.all_eq_true]
  intro c hc
  have := vn_ch h hc
  exact decide_eq_true (by omega)
/-- what the law's defs promise -/
structure LawG (Γ : Gm) : Prop where
  cold : Γ.cold = true
  start : Γ.fn i__law_start = some S_start
  draw : Γ.fn i__law_draw = some S_draw
  pick : Γ.fn i__law_pick = some S_pick
  names : Γ.fn i__law_names = some S_names
  pool : Γ.fn i__law_pool = some S_pool
  same : Γ.fn i__law_same = some (S_same 4)
  made : Γ.fn i__law_made = some S_made
  twice : Γ.fn i__law_twice = some S_twice
  i1 : Γ.ini i_Choose = some (S_cq i_Choose (Str.ofString "="))
  i2 : Γ.ini i_Refuse = some (S_cq i_Refuse (Str.ofString "!"))
  i3 : Γ.ini i_Match = some S_match
  i4 : Γ.ini i_Drop = some S_drop
  i5 : Γ.ini i_Prune = some S_prune
  fl : ∀ c ∈ [i_Choose, i_Refuse], ∀ f ∈ [i_column, i_cells, i_text], Γ.fld c f = true
  fm : ∀ c ∈ [i_Match, i_Drop], ∀ f ∈ [i_columns, i_text], Γ.fld c f = true
  fp : ∀ f ∈ [i_name, i_text], Γ.fld i_Prune f = true
  kd : ∀ c ∈ insts, Γ.kd c = false
  iaC : Γ.isa i_Choose i_CellQuestion = some true ∧ Γ.isa i_Drop i_CellQuestion = some false ∧ Γ.isa i_Drop i_Question = some true ∧ (Γ.isa i_CellQuestion i_CellQuestion).isSome = true ∧ (Γ.isa i_Question i_Question).isSome = true
  eq : ∀ c ∈ insts, Γ.eqm c = some S_eq
  sib : ∀ c ∈ insts, ∀ d ∈ insts, c = d ∨ Γ.sib c d = true
end K13

/-! K13lc -/
set_option Elab.async false
set_option linter.all false
set_option maxRecDepth 100000
set_option maxHeartbeats 2000000
namespace K13
open PySem PySem.Spec L2 Nb
open PyProof.Rows hiding St
local macro_rules | `(tactic| walk_at "s") => `(tactic| (first | with_reducible refine stp_go ?_ | ((with_reducible apply r_v); (focus (with_reducible (first | assumption | with_unfolding_all rfl)))) | ((with_reducible apply r_g); (focus (with_reducible (first | assumption | with_unfolding_all rfl)))) | ((with_reducible apply o_addl); (focus (with_reducible (first | assumption | exact Nat.le_of_ble_eq_true rfl)))) | ((with_reducible apply o_addt); (focus (with_reducible (first | assumption | exact Nat.le_of_ble_eq_true rfl)))) | ((with_reducible apply o_ixr); (focus (with_reducible ((repeat (refine (ms_ne (by first | assumption | exact Ne.symm (by assumption))).trans ?_)); first | with_reducible exact ms_same | assumption))); (focus (with_reducible (first | assumption | with_unfolding_all rfl)))) | ((with_reducible apply o_ixt); (focus (with_reducible (first | assumption | with_unfolding_all rfl)))) | ((with_reducible apply o_ixl); (focus (with_reducible (first | assumption | with_unfolding_all rfl)))) | ((with_reducible apply o_ixk); (focus (with_reducible (first | assumption | with_unfolding_all rfl)))) | ((with_reducible apply o_mod); (focus (with_reducible (first | decide | assumption | omega)))) | ((with_reducible apply o_mulr); (focus (with_reducible (first | assumption | omega))); (focus (with_reducible (first | assumption | omega)))) | ((with_reducible apply o_mull); (focus (with_reducible (first | assumption | omega))); (focus (with_reducible (first | assumption | omega)))) | ((with_reducible apply o_divl); (focus (with_reducible (first | assumption | omega))); (focus (with_reducible (first | assumption | omega)))) | ((with_reducible apply o_pow3); (focus (with_reducible (first | assumption | omega))); (focus (with_reducible (first | assumption | omega))); (focus (with_reducible (first | assumption | omega)))) | ((with_reducible apply b_lenr); (focus (with_reducible ((repeat (refine (ms_ne (by first | assumption | exact Ne.symm (by assumption))).trans ?_)); first | with_reducible exact ms_same | assumption)))) | ((with_reducible apply b_listr); (focus (with_reducible ((repeat (refine (ms_ne (by first | assumption | exact Ne.symm (by assumption))).trans ?_)); first | with_reducible exact ms_same | assumption)))) | ((with_reducible apply b_tupr); (focus (with_reducible ((repeat (refine (ms_ne (by first | assumption | exact Ne.symm (by assumption))).trans ?_)); first | with_reducible exact ms_same | assumption)))) | ((with_reducible apply r_call); (focus (with_reducible (assumption)))) | ((with_reducible apply r_new); (focus (with_reducible (assumption)))) | ((with_reducible apply m_appT); (focus (with_reducible ((repeat (refine (ms_ne (by first | assumption | exact Ne.symm (by assumption))).trans ?_)); first | with_reducible exact ms_same | assumption)))) | with_reducible refine q_oeq ?_ | ((with_reducible apply r_exn); (focus (with_reducible (first | assumption | with_unfolding_all rfl)))) | ((with_reducible apply u_ref); (focus (with_reducible ((repeat (refine (ms_ne (by first | assumption | exact Ne.symm (by assumption))).trans ?_)); first | with_reducible exact ms_same | assumption)))) | ((with_reducible apply e_set); (focus (with_reducible ((repeat (refine (ms_ne (by first | assumption | exact Ne.symm (by assumption))).trans ?_)); first | with_reducible exact ms_same | assumption))); (focus (with_reducible (first | assumption | with_unfolding_all rfl)))) | ((with_reducible apply isi_b); (focus (with_reducible (with_unfolding_all rfl))); (focus (with_reducible (first | with_reducible rfl | with_reducible exact tb_NoneType_bool | with_reducible exact tb_NoneType_int | with_reducible exact tb_NoneType_str | with_reducible exact tb_NoneType_tuple | with_reducible exact tb_NoneType_list | with_reducible exact tb_bool_bool | with_reducible exact tb_bool_int | with_reducible exact tb_bool_str | with_reducible exact tb_bool_tuple | with_reducible exact tb_bool_list | with_reducible exact tb_int_bool | with_reducible exact tb_int_int | with_reducible exact tb_int_str | with_reducible exact tb_int_tuple | with_reducible exact tb_int_list | with_reducible exact tb_str_bool | with_reducible exact tb_str_int | with_reducible exact tb_str_str | with_reducible exact tb_str_tuple | with_reducible exact tb_str_list | with_reducible exact tb_tuple_bool | with_reducible exact tb_tuple_int | with_reducible exact tb_tuple_str | with_reducible exact tb_tuple_tuple | with_reducible exact tb_tuple_list | with_reducible exact tb_list_bool | with_reducible exact tb_list_int | with_reducible exact tb_list_str | with_reducible exact tb_list_tuple | with_reducible exact tb_list_list)))) | ((with_reducible apply c_len); (focus (with_reducible (first | assumption | exact Nat.le_of_ble_eq_true rfl)))) | (with_reducible refine t_nil ?_; dsimp only)))
local macro_rules | `(tactic| walk_at "w") => `(tactic| (repeat (first | with_reducible refine stp_go ?_ | ((with_reducible apply r_v); (focus (with_reducible (first | assumption | with_unfolding_all rfl)))) | ((with_reducible apply r_g); (focus (with_reducible (first | assumption | with_unfolding_all rfl)))) | ((with_reducible apply o_addl); (focus (with_reducible (first | assumption | exact Nat.le_of_ble_eq_true rfl)))) | ((with_reducible apply o_addt); (focus (with_reducible (first | assumption | exact Nat.le_of_ble_eq_true rfl)))) | ((with_reducible apply o_ixr); (focus (with_reducible ((repeat (refine (ms_ne (by first | assumption | exact Ne.symm (by assumption))).trans ?_)); first | with_reducible exact ms_same | assumption))); (focus (with_reducible (first | assumption | with_unfolding_all rfl)))) | ((with_reducible apply o_ixt); (focus (with_reducible (first | assumption | with_unfolding_all rfl)))) | ((with_reducible apply o_ixl); (focus (with_reducible (first | assumption | with_unfolding_all rfl)))) | ((with_reducible apply o_ixk); (focus (with_reducible (first | assumption | with_unfolding_all rfl)))) | ((with_reducible apply o_mod); (focus (with_reducible (first | decide | assumption | omega)))) | ((with_reducible apply o_mulr); (focus (with_reducible (first | assumption | omega))); (focus (with_reducible (first | assumption | omega)))) | ((with_reducible apply o_mull); (focus (with_reducible (first | assumption | omega))); (focus (with_reducible (first | assumption | omega)))) | ((with_reducible apply o_divl); (focus (with_reducible (first | assumption | omega))); (focus (with_reducible (first | assumption | omega)))) | ((with_reducible apply o_pow3); (focus (with_reducible (first | assumption | omega))); (focus (with_reducible (first | assumption | omega))); (focus (with_reducible (first | assumption | omega)))) | ((with_reducible apply b_lenr); (focus (with_reducible ((repeat (refine (ms_ne (by first | assumption | exact Ne.symm (by assumption))).trans ?_)); first | with_reducible exact ms_same | assumption)))) | ((with_reducible apply b_listr); (focus (with_reducible ((repeat (refine (ms_ne (by first | assumption | exact Ne.symm (by assumption))).trans ?_)); first | with_reducible exact ms_same | assumption)))) | ((with_reducible apply b_tupr); (focus (with_reducible ((repeat (refine (ms_ne (by first | assumption | exact Ne.symm (by assumption))).trans ?_)); first | with_reducible exact ms_same | assumption)))) | ((with_reducible apply r_call); (focus (with_reducible (assumption)))) | ((with_reducible apply r_new); (focus (with_reducible (assumption)))) | ((with_reducible apply m_appT); (focus (with_reducible ((repeat (refine (ms_ne (by first | assumption | exact Ne.symm (by assumption))).trans ?_)); first | with_reducible exact ms_same | assumption)))) | with_reducible refine q_oeq ?_ | ((with_reducible apply r_exn); (focus (with_reducible (first | assumption | with_unfolding_all rfl)))) | ((with_reducible apply u_ref); (focus (with_reducible ((repeat (refine (ms_ne (by first | assumption | exact Ne.symm (by assumption))).trans ?_)); first | with_reducible exact ms_same | assumption)))) | ((with_reducible apply e_set); (focus (with_reducible ((repeat (refine (ms_ne (by first | assumption | exact Ne.symm (by assumption))).trans ?_)); first | with_reducible exact ms_same | assumption))); (focus (with_reducible (first | assumption | with_unfolding_all rfl)))) | ((with_reducible apply isi_b); (focus (with_reducible (with_unfolding_all rfl))); (focus (with_reducible (first | with_reducible rfl | with_reducible exact tb_NoneType_bool | with_reducible exact tb_NoneType_int | with_reducible exact tb_NoneType_str | with_reducible exact tb_NoneType_tuple | with_reducible exact tb_NoneType_list | with_reducible exact tb_bool_bool | with_reducible exact tb_bool_int | with_reducible exact tb_bool_str | with_reducible exact tb_bool_tuple | with_reducible exact tb_bool_list | with_reducible exact tb_int_bool | with_reducible exact tb_int_int | with_reducible exact tb_int_str | with_reducible exact tb_int_tuple | with_reducible exact tb_int_list | with_reducible exact tb_str_bool | with_reducible exact tb_str_int | with_reducible exact tb_str_str | with_reducible exact tb_str_tuple | with_reducible exact tb_str_list | with_reducible exact tb_tuple_bool | with_reducible exact tb_tuple_int | with_reducible exact tb_tuple_str | with_reducible exact tb_tuple_tuple | with_reducible exact tb_tuple_list | with_reducible exact tb_list_bool | with_reducible exact tb_list_int | with_reducible exact tb_list_str | with_reducible exact tb_list_tuple | with_reducible exact tb_list_list)))) | ((with_reducible apply c_len); (focus (with_reducible (first | assumption | exact Nat.le_of_ble_eq_true rfl)))) | (with_reducible refine t_nil ?_; dsimp only))))
def dropS : Nat → Sms → Sms
  | 0, s => s
  | n + 1, .cons _ r => dropS n r
  | _, .nil => .nil
def S_law : BP := fun xs M Q E => ∃ ns : List Int, xs = [.kl (ns.map .int)] ∧ M = (fun _ => none) ∧ ∀ M, Q (.bl true) M
theorem use_same {M : MHp} {Q : BV} {E : BX} {x : PV} (ok : okS 4 x = true) (q : Q (.bl true) M) : S_same 4 [x, x] M Q E := ⟨x, rfl, ok, q⟩
theorem sl_l {M : MHp} {Q : BV} {xs ys : List PV} {lo hi : Option Int} (e : cutP xs lo hi = ys) (q : Q (.lst ys) M) : slR false (.lst xs) lo hi M Q := ⟨xs, rfl, by rw [e]; exact q⟩
theorem srt_l {Γ : Gm} {M : MHp} {Q : BV} {l : List Str} {x : PV} (h : seqOf M x = some (l.map .str)) (h64 : l.length < 64) (q : ∀ L, SrtP L l → Q (.lst (L.map .str)) M) : biR Γ false .sorted [x] M Q := ⟨x, rfl, .inl ⟨l, h, h64, fun L h1 h2 => q L ⟨h1, h2⟩⟩⟩
theorem len9 {z : Str} (h : vn z = true) : z.length ≤ 9 := by have := vn_len h; omega
/-- the drawn names -/
structure Zn (z0 z1 z2 z3 : Str) : Prop where
  v0 : vn z0 = true
  v1 : vn z1 = true
  v2 : vn z2 = true
  v3 : vn z3 = true
  d01 : z0 ≠ z1
  d02 : z0 ≠ z2
  d12 : z1 ≠ z2
abbrev nmL12 (z0 z1 z2 z3 z4 z5 z6 z7 z8 z9 z10 z11 : Str) : PV := .lst [.str z0, .str z1, .str z2, .str z3, .str z4, .str z5, .str z6, .str z7, .str z8, .str z9, .str z10, .str z11]
abbrev ints3 (c0 c1 c2 : Int) : List PV := [.int c0, .int c1, .int c2]
def cOk (c : Int) : Prop := -1000000000000000000 < c ∧ c < 1000000000000000000
def txtL (Ls : List Int) : Str := Txt.join (Str.ofString ",") (Ls.map decS)
theorem okS_two {t : Str} : okS 4 (two t) = true := rfl
theorem okS_err {c : Nat} {x : Str} : okS 4 (errV c x) = true := by
  unfold errV nmV
  split
  · rfl
  · split
    · rfl
    · split <;> rfl
theorem vOk3 {c0 c1 c2 : Int} : ∀ x ∈ ints3 c0 c1 c2, vOk x := by
  intro x hx
  simp only [ints3, List.mem_cons, List.not_mem_nil, or_false] at hx
  rcases hx with rfl | rfl | rfl <;> exact .inl ⟨_, rfl⟩
theorem all3 {c0 c1 c2 : Int} (h0 : cOk c0) (h1 : cOk c1) (h2 : cOk c2) : (ints3 c0 c1 c2).all cellB = true := by
  show ((decide (_ < c0) && decide (c0 < _)) && ((decide (_ < c1) && decide (c1 < _)) && ((decide (_ < c2) && decide (c2 < _)) && true))) = true
  rw [decide_eq_true h0.1, decide_eq_true h0.2, decide_eq_true h1.1, decide_eq_true h1.2, decide_eq_true h2.1, decide_eq_true h2.2]
  rfl
theorem txtL_len {Ls : List Int} {c0 c1 c2 : Int} (h : SrtI Ls (ints3 c0 c1 c2)) (h0 : cOk c0) (h1 : cOk c1) (h2 : cOk c2) : (txtL Ls).length ≤ 60 := by
  have m : ∀ k ∈ Ls, k = c0 ∨ k = c1 ∨ k = c2 := fun k hk => by
    have := (h.2 k).mp hk
    simpa [ints3] using this
  have b : ∀ k ∈ Ls, cOk k := fun k hk => by
    rcases m k hk with rfl | rfl | rfl <;> assumption
  have l3 : Ls.length ≤ 3 := pw_len (ys := [c0, c1, c2]) h.1 fun k hk => by simpa using m k hk
  have s := sum_dec b
  have j := join_len (Str.ofString ",") (Ls.map decS)
  have l1 : (Str.ofString ",").length = 1 := rfl
  rw [l1, List.length_map] at j
  unfold txtL
  omega
end K13

/-! K13lz -/
set_option Elab.async false
set_option linter.all false
set_option maxRecDepth 100000
set_option maxHeartbeats 2000000
set_option pp.maxSteps 600
set_option pp.deepTerms false
namespace K13
open PySem PySem.Spec L2 Nb
open PyProof.Rows hiding St
local macro_rules | `(tactic| walk_at "s") => `(tactic| (first | with_reducible refine stp_go ?_ | ((with_reducible apply r_v); (focus (with_reducible (first | assumption | with_unfolding_all rfl)))) | ((with_reducible apply r_g); (focus (with_reducible (first | assumption | with_unfolding_all rfl)))) | ((with_reducible apply o_addl); (focus (with_reducible (first | assumption | exact Nat.le_of_ble_eq_true rfl)))) | ((with_reducible apply o_addt); (focus (with_reducible (first | assumption | exact Nat.le_of_ble_eq_true rfl)))) | ((with_reducible apply o_ixr); (focus (with_reducible ((repeat (refine (ms_ne (by first | assumption | exact Ne.symm (by assumption))).trans ?_)); first | with_reducible exact ms_same | assumption))); (focus (with_reducible (first | assumption | with_unfolding_all rfl)))) | ((with_reducible apply o_ixt); (focus (with_reducible (first | assumption | with_unfolding_all rfl)))) | ((with_reducible apply o_ixl); (focus (with_reducible (first | assumption | with_unfolding_all rfl)))) | ((with_reducible apply o_ixk); (focus (with_reducible (first | assumption | with_unfolding_all rfl)))) | ((with_reducible apply o_mod); (focus (with_reducible (first | decide | assumption | omega)))) | ((with_reducible apply o_mulr); (focus (with_reducible (first | assumption | omega))); (focus (with_reducible (first | assumption | omega)))) | ((with_reducible apply o_mull); (focus (with_reducible (first | assumption | omega))); (focus (with_reducible (first | assumption | omega)))) | ((with_reducible apply o_divl); (focus (with_reducible (first | assumption | omega))); (focus (with_reducible (first | assumption | omega)))) | ((with_reducible apply o_pow3); (focus (with_reducible (first | assumption | omega))); (focus (with_reducible (first | assumption | omega))); (focus (with_reducible (first | assumption | omega)))) | ((with_reducible apply b_lenr); (focus (with_reducible ((repeat (refine (ms_ne (by first | assumption | exact Ne.symm (by assumption))).trans ?_)); first | with_reducible exact ms_same | assumption)))) | ((with_reducible apply b_listr); (focus (with_reducible ((repeat (refine (ms_ne (by first | assumption | exact Ne.symm (by assumption))).trans ?_)); first | with_reducible exact ms_same | assumption)))) | ((with_reducible apply b_tupr); (focus (with_reducible ((repeat (refine (ms_ne (by first | assumption | exact Ne.symm (by assumption))).trans ?_)); first | with_reducible exact ms_same | assumption)))) | ((with_reducible apply r_call); (focus (with_reducible (assumption)))) | ((with_reducible apply r_new); (focus (with_reducible (assumption)))) | ((with_reducible apply m_appT); (focus (with_reducible ((repeat (refine (ms_ne (by first | assumption | exact Ne.symm (by assumption))).trans ?_)); first | with_reducible exact ms_same | assumption)))) | with_reducible refine q_oeq ?_ | ((with_reducible apply r_exn); (focus (with_reducible (first | assumption | with_unfolding_all rfl)))) | ((with_reducible apply u_ref); (focus (with_reducible ((repeat (refine (ms_ne (by first | assumption | exact Ne.symm (by assumption))).trans ?_)); first | with_reducible exact ms_same | assumption)))) | ((with_reducible apply e_set); (focus (with_reducible ((repeat (refine (ms_ne (by first | assumption | exact Ne.symm (by assumption))).trans ?_)); first | with_reducible exact ms_same | assumption))); (focus (with_reducible (first | assumption | with_unfolding_all rfl)))) | ((with_reducible apply isi_b); (focus (with_reducible (with_unfolding_all rfl))); (focus (with_reducible (first | with_reducible rfl | with_reducible exact tb_NoneType_bool | with_reducible exact tb_NoneType_int | with_reducible exact tb_NoneType_str | with_reducible exact tb_NoneType_tuple | with_reducible exact tb_NoneType_list | with_reducible exact tb_bool_bool | with_reducible exact tb_bool_int | with_reducible exact tb_bool_str | with_reducible exact tb_bool_tuple | with_reducible exact tb_bool_list | with_reducible exact tb_int_bool | with_reducible exact tb_int_int | with_reducible exact tb_int_str | with_reducible exact tb_int_tuple | with_reducible exact tb_int_list | with_reducible exact tb_str_bool | with_reducible exact tb_str_int | with_reducible exact tb_str_str | with_reducible exact tb_str_tuple | with_reducible exact tb_str_list | with_reducible exact tb_tuple_bool | with_reducible exact tb_tuple_int | with_reducible exact tb_tuple_str | with_reducible exact tb_tuple_tuple | with_reducible exact tb_tuple_list | with_reducible exact tb_list_bool | with_reducible exact tb_list_int | with_reducible exact tb_list_str | with_reducible exact tb_list_tuple | with_reducible exact tb_list_list)))) | ((with_reducible apply c_len); (focus (with_reducible (first | assumption | exact Nat.le_of_ble_eq_true rfl)))) | (with_reducible refine t_nil ?_; dsimp only)))
local macro_rules | `(tactic| walk_at "w") => `(tactic| (repeat (first | with_reducible refine stp_go ?_ | ((with_reducible apply r_v); (focus (with_reducible (first | assumption | with_unfolding_all rfl)))) | ((with_reducible apply r_g); (focus (with_reducible (first | assumption | with_unfolding_all rfl)))) | ((with_reducible apply o_addl); (focus (with_reducible (first | assumption | exact Nat.le_of_ble_eq_true rfl)))) | ((with_reducible apply o_addt); (focus (with_reducible (first | assumption | exact Nat.le_of_ble_eq_true rfl)))) | ((with_reducible apply o_ixr); (focus (with_reducible ((repeat (refine (ms_ne (by first | assumption | exact Ne.symm (by assumption))).trans ?_)); first | with_reducible exact ms_same | assumption))); (focus (with_reducible (first | assumption | with_unfolding_all rfl)))) | ((with_reducible apply o_ixt); (focus (with_reducible (first | assumption | with_unfolding_all rfl)))) | ((with_reducible apply o_ixl); (focus (with_reducible (first | assumption | with_unfolding_all rfl)))) | ((with_reducible apply o_ixk); (focus (with_reducible (first | assumption | with_unfolding_all rfl)))) | ((with_reducible apply o_mod); (focus (with_reducible (first | decide | assumption | omega)))) | ((with_reducible apply o_mulr); (focus (with_reducible (first | assumption | omega))); (focus (with_reducible (first | assumption | omega)))) | ((with_reducible apply o_mull); (focus (with_reducible (first | assumption | omega))); (focus (with_reducible (first | assumption | omega)))) | ((with_reducible apply o_divl); (focus (with_reducible (first | assumption | omega))); (focus (with_reducible (first | assumption | omega)))) | ((with_reducible apply o_pow3); (focus (with_reducible (first | assumption | omega))); (focus (with_reducible (first | assumption | omega))); (focus (with_reducible (first | assumption | omega)))) | ((with_reducible apply b_lenr); (focus (with_reducible ((repeat (refine (ms_ne (by first | assumption | exact Ne.symm (by assumption))).trans ?_)); first | with_reducible exact ms_same | assumption)))) | ((with_reducible apply b_listr); (focus (with_reducible ((repeat (refine (ms_ne (by first | assumption | exact Ne.symm (by assumption))).trans ?_)); first | with_reducible exact ms_same | assumption)))) | ((with_reducible apply b_tupr); (focus (with_reducible ((repeat (refine (ms_ne (by first | assumption | exact Ne.symm (by assumption))).trans ?_)); first | with_reducible exact ms_same | assumption)))) | ((with_reducible apply r_call); (focus (with_reducible (assumption)))) | ((with_reducible apply r_new); (focus (with_reducible (assumption)))) | ((with_reducible apply m_appT); (focus (with_reducible ((repeat (refine (ms_ne (by first | assumption | exact Ne.symm (by assumption))).trans ?_)); first | with_reducible exact ms_same | assumption)))) | with_reducible refine q_oeq ?_ | ((with_reducible apply r_exn); (focus (with_reducible (first | assumption | with_unfolding_all rfl)))) | ((with_reducible apply u_ref); (focus (with_reducible ((repeat (refine (ms_ne (by first | assumption | exact Ne.symm (by assumption))).trans ?_)); first | with_reducible exact ms_same | assumption)))) | ((with_reducible apply e_set); (focus (with_reducible ((repeat (refine (ms_ne (by first | assumption | exact Ne.symm (by assumption))).trans ?_)); first | with_reducible exact ms_same | assumption))); (focus (with_reducible (first | assumption | with_unfolding_all rfl)))) | ((with_reducible apply isi_b); (focus (with_reducible (with_unfolding_all rfl))); (focus (with_reducible (first | with_reducible rfl | with_reducible exact tb_NoneType_bool | with_reducible exact tb_NoneType_int | with_reducible exact tb_NoneType_str | with_reducible exact tb_NoneType_tuple | with_reducible exact tb_NoneType_list | with_reducible exact tb_bool_bool | with_reducible exact tb_bool_int | with_reducible exact tb_bool_str | with_reducible exact tb_bool_tuple | with_reducible exact tb_bool_list | with_reducible exact tb_int_bool | with_reducible exact tb_int_int | with_reducible exact tb_int_str | with_reducible exact tb_int_tuple | with_reducible exact tb_int_list | with_reducible exact tb_str_bool | with_reducible exact tb_str_int | with_reducible exact tb_str_str | with_reducible exact tb_str_tuple | with_reducible exact tb_str_list | with_reducible exact tb_tuple_bool | with_reducible exact tb_tuple_int | with_reducible exact tb_tuple_str | with_reducible exact tb_tuple_tuple | with_reducible exact tb_tuple_list | with_reducible exact tb_list_bool | with_reducible exact tb_list_int | with_reducible exact tb_list_str | with_reducible exact tb_list_tuple | with_reducible exact tb_list_list)))) | ((with_reducible apply c_len); (focus (with_reducible (first | assumption | exact Nat.le_of_ble_eq_true rfl)))) | (with_reducible refine t_nil ?_; dsimp only))))
/-- a step: its class, fields, text -/
structure Sp1 where
  c : Nat
  fs : List (Nat × PV)
  t : Str
def Sp1.ok (o : Sp1) : Prop := o.c ∈ insts ∧ txO o.fs o.t
def Sp1.ob (o : Sp1) : PV := .obj o.c o.fs
def Sp1.tx (o : Sp1) : PV := .str o.t
theorem use_oeq {Γ : Gm} (g : LawG Γ) {ne : Bool} {o p : Sp1} (ho : o.ok) (hp : p.ok) {M : MHp} {Q : BV} (q : Q (.bl (decide (o.t = p.t) != ne)) M) : oeqR Γ ne o.ob p.ob M Q :=
  ⟨o.c, p.c, o.fs, p.fs, S_eq, rfl, rfl, g.kd _ ho.1, g.sib _ ho.1 _ hp.1, g.eq _ ho.1, o.c, p.c, o.fs, p.fs, o.t, p.t, rfl, ho.1, hp.1, ho.2, hp.2, _, rfl, q⟩
theorem fl_all {Γ : Gm} (g : LawG Γ) : ∀ c ∈ insts, Γ.fld c i_text = true := by
  intro c hc
  simp only [insts, List.mem_cons, List.not_mem_nil, or_false] at hc
  rcases hc with rfl | rfl | rfl | rfl | rfl
  · exact g.fl _ (by decide) _ (by decide)
  · exact g.fl _ (by decide) _ (by decide)
  · exact g.fm _ (by decide) _ (by decide)
  · exact g.fm _ (by decide) _ (by decide)
  · exact g.fp _ (by decide)
theorem at_map {os : List Sp1} {f : Sp1 → PV} {k : Nat} (h : k < os.length) : atI (os.map f) (k : Int) = some (f os[k]) := by
  have := atI_nat (xs := os.map f) (i := k) (by rw [List.length_map]; exact h)
  rw [this, List.getElem_map]
theorem partD {Γ : Gm} (g : LawG Γ) {os : List Sp1} (h14 : os.length = 14) (hos : ∀ o ∈ os, o.ok) {Q : BV} {E : BX} (go : ∀ M, Q (.bl true) M) {M : MHp} {s0 s1 s2 s3 s4 s5 s6 s7 s8 s9 s10 s11 s12 s13 s14 s15 s18 s19 s20 : Option PV} :
    wSs Γ (dropS 33 b_law) (endsP Q E) [s0, s1, s2, s3, s4, s5, s6, s7, s8, s9, s10, s11, s12, s13, s14, s15, some (.lst (os.map Sp1.ob)), some (.lst (os.map Sp1.tx)), s18, s19, s20] M := by
  unfold b_law
  dsimp only [dropS]
  have cd := g.cold
  have hb := big
  have k1 := g.same
  have fl := fl_all g
  refine t_for cd ?_
  walk_at "w"
  refine i_rR ⟨by decide, by decide, by decide, by decide⟩ ?_
  refine forW_inv (fun it τ M1 => ∃ s18 s19 : Option PV, (∀ y ∈ it, ∃ k : Nat, k < 14 ∧ y = .int k) ∧ τ = [s0, s1, s2, s3, s4, s5, s6, s7, s8, s9, s10, s11, s12, s13, s14, s15, some (.lst (os.map Sp1.ob)), some (.lst (os.map Sp1.tx)), s18, s19, s20]) (fun _ _ _ _ => trivial) ?_ ?_ _ _ _ ⟨_, _, fun y hy => mem_rngL (n := 14) hy, rfl⟩
  · rintro τ M1 ⟨s18, s19, _, rfl⟩
    walk_at "w"
    exact go _
  · rintro y it τ M1 N ⟨s18, s19, hy, rfl⟩ hN
    obtain ⟨k, hk, rfl⟩ := hy y (by simp)
    have hk' : k < os.length := by omega
    have ok_k := hos _ (List.getElem_mem hk')
    have a1 := at_map (f := Sp1.ob) hk'
    have a2 := at_map (f := Sp1.tx) hk'
    refine t_for cd ?_
    walk_at "w"
    refine i_rR ⟨by decide, by decide, by decide, by decide⟩ ?_
    refine forW_inv (fun it τ M1 => ∃ s19 : Option PV, (∀ y ∈ it, ∃ n : Nat, n < 14 ∧ y = .int n) ∧ τ = [s0, s1, s2, s3, s4, s5, s6, s7, s8, s9, s10, s11, s12, s13, s14, s15, some (.lst (os.map Sp1.ob)), some (.lst (os.map Sp1.tx)), some (.int k), s19, s20]) (fun _ _ _ _ => trivial) ?_ ?_ _ _ _ ⟨_, fun y hy => mem_rngL (n := 14) hy, rfl⟩
    · rintro τ M2 ⟨s19, _, rfl⟩
      walk_at "w"
      refine at_o (fl _ ok_k.1) ok_k.2 ?_
      walk_at "w"
      refine use_same (x := .str os[k].t) rfl ?_
      (refine u_bl ?_; refine s_f2 ?_; refine t_nilN ?_)
      exact hN _ _ ⟨_, _, fun y hy' => hy y (List.mem_cons_of_mem _ hy'), rfl⟩
    · rintro y2 it2 τ M2 N2 ⟨s19, hy2, rfl⟩ hN2
      obtain ⟨n, hn, rfl⟩ := hy2 y2 (by simp)
      have hn' : n < os.length := by omega
      have ok_n := hos _ (List.getElem_mem hn')
      have b1 := at_map (f := Sp1.ob) hn'
      have b2 := at_map (f := Sp1.tx) hn'
      walk_at "w"
      refine use_oeq g ok_k ok_n ?_
      have e1 : (decide (os[k].t = os[n].t) != false) = decide (os[k].t = os[n].t) := by cases decide (os[k].t = os[n].t) <;> rfl
      rw [e1]
      walk_at "w"
      refine o_eqs ?_
      walk_at "w"
      refine use_same (x := .bl (decide (os[k].t = os[n].t))) rfl ?_
      refine u_bl ?_
      refine s_f2 ?_
      walk_at "w"
      refine use_oeq g ok_k ok_n ?_
      have e2 : (decide (os[k].t = os[n].t) != true) = !decide (os[k].t = os[n].t) := by cases decide (os[k].t = os[n].t) <;> rfl
      rw [e2]
      walk_at "w"
      refine o_nes ?_
      walk_at "w"
      refine use_same (x := .bl (!decide (os[k].t = os[n].t))) rfl ?_
      refine u_bl ?_
      refine s_f2 ?_
      walk_at "w"
      exact hN2 _ _ ⟨_, fun y hy' => hy2 y (List.mem_cons_of_mem _ hy'), rfl⟩
end K13

/-! K13lx -/
set_option Elab.async false
set_option linter.all false
set_option maxRecDepth 100000
set_option maxHeartbeats 2000000
set_option pp.maxSteps 600
set_option pp.deepTerms false
namespace K13
open PySem PySem.Spec L2 Nb
open PyProof.Rows hiding St
local macro_rules | `(tactic| walk_at "s") => `(tactic| (first | with_reducible refine stp_go ?_ | ((with_reducible apply r_v); (focus (with_reducible (first | assumption | with_unfolding_all rfl)))) | ((with_reducible apply r_g); (focus (with_reducible (first | assumption | with_unfolding_all rfl)))) | ((with_reducible apply o_addl); (focus (with_reducible (first | assumption | exact Nat.le_of_ble_eq_true rfl)))) | ((with_reducible apply o_addt); (focus (with_reducible (first | assumption | exact Nat.le_of_ble_eq_true rfl)))) | ((with_reducible apply o_ixr); (focus (with_reducible ((repeat (refine (ms_ne (by first | assumption | exact Ne.symm (by assumption))).trans ?_)); first | with_reducible exact ms_same | assumption))); (focus (with_reducible (first | assumption | with_unfolding_all rfl)))) | ((with_reducible apply o_ixt); (focus (with_reducible (first | assumption | with_unfolding_all rfl)))) | ((with_reducible apply o_ixl); (focus (with_reducible (first | assumption | with_unfolding_all rfl)))) | ((with_reducible apply o_ixk); (focus (with_reducible (first | assumption | with_unfolding_all rfl)))) | ((with_reducible apply o_mod); (focus (with_reducible (first | decide | assumption | omega)))) | ((with_reducible apply o_mulr); (focus (with_reducible (first | assumption | omega))); (focus (with_reducible (first | assumption | omega)))) | ((with_reducible apply o_mull); (focus (with_reducible (first | assumption | omega))); (focus (with_reducible (first | assumption | omega)))) | ((with_reducible apply o_divl); (focus (with_reducible (first | assumption | omega))); (focus (with_reducible (first | assumption | omega)))) | ((with_reducible apply o_pow3); (focus (with_reducible (first | assumption | omega))); (focus (with_reducible (first | assumption | omega))); (focus (with_reducible (first | assumption | omega)))) | ((with_reducible apply b_lenr); (focus (with_reducible ((repeat (refine (ms_ne (by first | assumption | exact Ne.symm (by assumption))).trans ?_)); first | with_reducible exact ms_same | assumption)))) | ((with_reducible apply b_listr); (focus (with_reducible ((repeat (refine (ms_ne (by first | assumption | exact Ne.symm (by assumption))).trans ?_)); first | with_reducible exact ms_same | assumption)))) | ((with_reducible apply b_tupr); (focus (with_reducible ((repeat (refine (ms_ne (by first | assumption | exact Ne.symm (by assumption))).trans ?_)); first | with_reducible exact ms_same | assumption)))) | ((with_reducible apply r_call); (focus (with_reducible (assumption)))) | ((with_reducible apply r_new); (focus (with_reducible (assumption)))) | ((with_reducible apply m_appT); (focus (with_reducible ((repeat (refine (ms_ne (by first | assumption | exact Ne.symm (by assumption))).trans ?_)); first | with_reducible exact ms_same | assumption)))) | with_reducible refine q_oeq ?_ | ((with_reducible apply r_exn); (focus (with_reducible (first | assumption | with_unfolding_all rfl)))) | ((with_reducible apply u_ref); (focus (with_reducible ((repeat (refine (ms_ne (by first | assumption | exact Ne.symm (by assumption))).trans ?_)); first | with_reducible exact ms_same | assumption)))) | ((with_reducible apply e_set); (focus (with_reducible ((repeat (refine (ms_ne (by first | assumption | exact Ne.symm (by assumption))).trans ?_)); first | with_reducible exact ms_same | assumption))); (focus (with_reducible (first | assumption | with_unfolding_all rfl)))) | ((with_reducible apply isi_b); (focus (with_reducible (with_unfolding_all rfl))); (focus (with_reducible (first | with_reducible rfl | with_reducible exact tb_NoneType_bool | with_reducible exact tb_NoneType_int | with_reducible exact tb_NoneType_str | with_reducible exact tb_NoneType_tuple | with_reducible exact tb_NoneType_list | with_reducible exact tb_bool_bool | with_reducible exact tb_bool_int | with_reducible exact tb_bool_str | with_reducible exact tb_bool_tuple | with_reducible exact tb_bool_list | with_reducible exact tb_int_bool | with_reducible exact tb_int_int | with_reducible exact tb_int_str | with_reducible exact tb_int_tuple | with_reducible exact tb_int_list | with_reducible exact tb_str_bool | with_reducible exact tb_str_int | with_reducible exact tb_str_str | with_reducible exact tb_str_tuple | with_reducible exact tb_str_list | with_reducible exact tb_tuple_bool | with_reducible exact tb_tuple_int | with_reducible exact tb_tuple_str | with_reducible exact tb_tuple_tuple | with_reducible exact tb_tuple_list | with_reducible exact tb_list_bool | with_reducible exact tb_list_int | with_reducible exact tb_list_str | with_reducible exact tb_list_tuple | with_reducible exact tb_list_list)))) | ((with_reducible apply c_len); (focus (with_reducible (first | assumption | exact Nat.le_of_ble_eq_true rfl)))) | (with_reducible refine t_nil ?_; dsimp only)))
local macro_rules | `(tactic| walk_at "w") => `(tactic| (repeat (first | with_reducible refine stp_go ?_ | ((with_reducible apply r_v); (focus (with_reducible (first | assumption | with_unfolding_all rfl)))) | ((with_reducible apply r_g); (focus (with_reducible (first | assumption | with_unfolding_all rfl)))) | ((with_reducible apply o_addl); (focus (with_reducible (first | assumption | exact Nat.le_of_ble_eq_true rfl)))) | ((with_reducible apply o_addt); (focus (with_reducible (first | assumption | exact Nat.le_of_ble_eq_true rfl)))) | ((with_reducible apply o_ixr); (focus (with_reducible ((repeat (refine (ms_ne (by first | assumption | exact Ne.symm (by assumption))).trans ?_)); first | with_reducible exact ms_same | assumption))); (focus (with_reducible (first | assumption | with_unfolding_all rfl)))) | ((with_reducible apply o_ixt); (focus (with_reducible (first | assumption | with_unfolding_all rfl)))) | ((with_reducible apply o_ixl); (focus (with_reducible (first | assumption | with_unfolding_all rfl)))) | ((with_reducible apply o_ixk); (focus (with_reducible (first | assumption | with_unfolding_all rfl)))) | ((with_reducible apply o_mod); (focus (with_reducible (first | decide | assumption | omega)))) | ((with_reducible apply o_mulr); (focus (with_reducible (first | assumption | omega))); (focus (with_reducible (first | assumption | omega)))) | ((with_reducible apply o_mull); (focus (with_reducible (first | assumption | omega))); (focus (with_reducible (first | assumption | omega)))) | ((with_reducible apply o_divl); (focus (with_reducible (first | assumption | omega))); (focus (with_reducible (first | assumption | omega)))) | ((with_reducible apply o_pow3); (focus (with_reducible (first | assumption | omega))); (focus (with_reducible (first | assumption | omega))); (focus (with_reducible (first | assumption | omega)))) | ((with_reducible apply b_lenr); (focus (with_reducible ((repeat (refine (ms_ne (by first | assumption | exact Ne.symm (by assumption))).trans ?_)); first | with_reducible exact ms_same | assumption)))) | ((with_reducible apply b_listr); (focus (with_reducible ((repeat (refine (ms_ne (by first | assumption | exact Ne.symm (by assumption))).trans ?_)); first | with_reducible exact ms_same | assumption)))) | ((with_reducible apply b_tupr); (focus (with_reducible ((repeat (refine (ms_ne (by first | assumption | exact Ne.symm (by assumption))).trans ?_)); first | with_reducible exact ms_same | assumption)))) | ((with_reducible apply r_call); (focus (with_reducible (assumption)))) | ((with_reducible apply r_new); (focus (with_reducible (assumption)))) | ((with_reducible apply m_appT); (focus (with_reducible ((repeat (refine (ms_ne (by first | assumption | exact Ne.symm (by assumption))).trans ?_)); first | with_reducible exact ms_same | assumption)))) | with_reducible refine q_oeq ?_ | ((with_reducible apply r_exn); (focus (with_reducible (first | assumption | with_unfolding_all rfl)))) | ((with_reducible apply u_ref); (focus (with_reducible ((repeat (refine (ms_ne (by first | assumption | exact Ne.symm (by assumption))).trans ?_)); first | with_reducible exact ms_same | assumption)))) | ((with_reducible apply e_set); (focus (with_reducible ((repeat (refine (ms_ne (by first | assumption | exact Ne.symm (by assumption))).trans ?_)); first | with_reducible exact ms_same | assumption))); (focus (with_reducible (first | assumption | with_unfolding_all rfl)))) | ((with_reducible apply isi_b); (focus (with_reducible (with_unfolding_all rfl))); (focus (with_reducible (first | with_reducible rfl | with_reducible exact tb_NoneType_bool | with_reducible exact tb_NoneType_int | with_reducible exact tb_NoneType_str | with_reducible exact tb_NoneType_tuple | with_reducible exact tb_NoneType_list | with_reducible exact tb_bool_bool | with_reducible exact tb_bool_int | with_reducible exact tb_bool_str | with_reducible exact tb_bool_tuple | with_reducible exact tb_bool_list | with_reducible exact tb_int_bool | with_reducible exact tb_int_int | with_reducible exact tb_int_str | with_reducible exact tb_int_tuple | with_reducible exact tb_int_list | with_reducible exact tb_str_bool | with_reducible exact tb_str_int | with_reducible exact tb_str_str | with_reducible exact tb_str_tuple | with_reducible exact tb_str_list | with_reducible exact tb_tuple_bool | with_reducible exact tb_tuple_int | with_reducible exact tb_tuple_str | with_reducible exact tb_tuple_tuple | with_reducible exact tb_tuple_list | with_reducible exact tb_list_bool | with_reducible exact tb_list_int | with_reducible exact tb_list_str | with_reducible exact tb_list_tuple | with_reducible exact tb_list_list)))) | ((with_reducible apply c_len); (focus (with_reducible (first | assumption | exact Nat.le_of_ble_eq_true rfl)))) | (with_reducible refine t_nil ?_; dsimp only))))
theorem new_cq {c : Nat} {sg z : Str} {cs : List PV} {L : List Int} {M : MHp} {Q : BV} {E : BX} (hz : vn z = true) (h2 : cs.length < 60) (h3 : ∀ x ∈ cs, vOk x) (h4 : cs.all cellB = true) (hL : SrtI L cs) (q : ∀ M', Q (.obj c (cqF z sg L)) M') : mkR (S_cq c sg) false c (.str z :: cs) M Q E := by
  refine mk_cq (len9 hz) h2 h3 ?_
  unfold cqW
  rw [if_neg (by rw [hz]; decide), if_neg (by rw [h4]; decide)]
  intro M' L' _ hL'
  rw [srtI_uniq hL' hL]
  exact q M'
theorem new_mt {x y : Str} {M : MHp} {Q : BV} {E : BX} (hx : vn x = true) (hy : vn y = true) (n : x ≠ y) (q : ∀ M' L, SrtP L [x, y] → Q (.obj i_Match (mtF L)) M') : mkR S_match false i_Match [.str x, .str y] M Q E := by
  refine mk_mt (len9 hx) (len9 hy) ?_
  unfold nmW
  rw [nm2 hx hy n]
  exact fun M' L _ hL => q M' L hL
theorem new_dr {l : List Str} {M : MHp} {Q : BV} {E : BX} (h1 : l.length < 60) (h2 : ∀ x ∈ l, x.length ≤ 9) (h3 : nmErr l = none) (h4 : l ≠ []) (q : ∀ M' L, SrtP L l → Q (.obj i_Drop (drF L)) M') : mkR S_drop false i_Drop (l.map .str) M Q E := by
  refine mk_dr h1 h2 ?_
  unfold nmW
  rw [h3]
  dsimp only
  rw [if_neg h4]
  exact fun M' L _ hL => q M' L hL
theorem new_pr {x : Str} {M : MHp} {Q : BV} {E : BX} (hx : vn x = true) (q : ∀ M', Q (.obj i_Prune (prF x)) M') : mkR S_prune false i_Prune [.str x] M Q E := by
  refine mk_pr (len9 hx) ?_
  unfold nmW
  rw [nm1 hx]
  exact fun M' _ => q M'
theorem srt_one {c : Int} : SrtI [c] [.int c] := ⟨List.pairwise_singleton _ _, fun k => by simp⟩
theorem srt_nil : SrtI [] [] := ⟨.nil, fun k => by simp⟩
theorem srtP_one {x : Str} {L : List Str} (h : SrtP L [x]) : L = [x] := List.perm_singleton.mp h.1
theorem joinL_chars (s : Str) (ys : List Str) : chars (Txt.join s ys) = TL.joinL (chars s) (ys.map chars) := by
  rw [TL.join_eq]
  exact Eq.trans (show _ = TL.tl _ from rfl) (TL.tl_join s ys)
theorem join_one (s x : Str) : Txt.join s [x] = x := chars_ext (by rw [joinL_chars]; rfl)
theorem join_nil (s : Str) : Txt.join s [] = Str.ofString "" := chars_ext (by rw [joinL_chars]; rfl)
theorem join_two (s x y : Str) : Txt.join s [x, y] = (x ++ s) ++ y := chars_ext (by
  rw [joinL_chars, chars_app, chars_app]
  show chars x ++ (chars s ++ chars y) = _
  rw [List.append_assoc])
theorem app_nil (x : Str) : x ++ Str.ofString "" = x := chars_ext (by
  rw [chars_app]
  show chars x ++ [] = _
  simp)
theorem cqT_one (z sg : Str) (c : Int) : cqT z sg [c] = (z ++ sg) ++ decS c := by
  unfold cqT
  rw [show [c].map decS = [decS c] from rfl, join_one]
theorem cqT_nil (z sg : Str) : cqT z sg [] = z ++ sg := by
  unfold cqT
  rw [show ([] : List Int).map decS = [] from rfl, join_nil, app_nil]
theorem drT_one (z : Str) : drT [z] = (Str.ofString "-(" ++ z) ++ Str.ofString ")" := by
  unfold drT
  rw [join_one]
theorem mtT_join (L : List Str) (h : L.length = 2) : Txt.join (Str.ofString "~") L = mtT L := by
  match L, h with
  | [x, y], _ => exact join_two _ x y
theorem okS_told {z0 z3 : Str} {Ls : List Int} {Lo Lp : List Str} (h1 : Ls.length < 60) (h2 : Lo.length < 60) (h3 : Lp.length < 60) : okS 4 (.lst [.str z0, .tup (Ls.map .int), .tup (Lo.map .str), .tup (Lp.map .str), .str z3]) = true := by
  have i : (Ls.map PV.int).all (okS 2) = true := by
    rw [List.all_map, List.all_eq_true]
    exact fun _ _ => rfl
  have s : ∀ L : List Str, (L.map PV.str).all (okS 2) = true := fun L => by
    rw [List.all_map, List.all_eq_true]
    exact fun _ _ => rfl
  have t1 : okS 3 (.tup (Ls.map .int)) = true := by
    show ((Ls.map PV.int).all (okS 2) && decide _) = true
    rw [i, decide_eq_true (by rw [List.length_map]; omega)]
    rfl
  have t2 : ∀ L : List Str, L.length < 60 → okS 3 (.tup (L.map .str)) = true := fun L hl => by
    show ((L.map PV.str).all (okS 2) && decide _) = true
    rw [s, decide_eq_true (by rw [List.length_map]; omega)]
    rfl
  show ((true && (okS 3 (.tup (Ls.map .int)) && (okS 3 (.tup (Lo.map .str)) && (okS 3 (.tup (Lp.map .str)) && (true && true))))) && decide _) = true
  rw [t1, t2 Lo h2, t2 Lp h3]
  exact decide_eq_true (by show 5 < 2 ^ 62; decide)
theorem o_mulL {a b : List PV} {M : MHp} {Q : BV} (e : (List.replicate 2 a).flatten = b) (l : a.length * 2 ≤ sizeLine) (q : Q (.lst b) M) : binR false .Mult (.lst a) (.int 2) M Q := ⟨a, rfl, by decide, by decide, l, by
  show Q (.lst (List.replicate 2 a).flatten) M
  rw [e]
  exact q⟩
/-- the fourteen steps -/
def osOf (z0 z1 : Str) (Ls : List Int) (c0 : Int) (u v : Str) (Lo : List Str) : List Sp1 := [
  ⟨i_Choose, cqF z0 (Str.ofString "=") Ls, (z0 ++ Str.ofString "=") ++ txtL Ls⟩,
  ⟨i_Choose, cqF z0 (Str.ofString "=") [c0], (z0 ++ Str.ofString "=") ++ decS c0⟩,
  ⟨i_Choose, cqF z0 (Str.ofString "=") [], z0 ++ Str.ofString "="⟩,
  ⟨i_Refuse, cqF z0 (Str.ofString "!") [c0], (z0 ++ Str.ofString "!") ++ decS c0⟩,
  ⟨i_Refuse, cqF z0 (Str.ofString "!") [], z0 ++ Str.ofString "!"⟩,
  ⟨i_Choose, cqF z1 (Str.ofString "=") [c0], (z1 ++ Str.ofString "=") ++ decS c0⟩,
  ⟨i_Match, mtF [u, v], (u ++ Str.ofString "~") ++ v⟩,
  ⟨i_Match, mtF [u, v], (u ++ Str.ofString "~") ++ v⟩,
  ⟨i_Match, mtF Lo, Txt.join (Str.ofString "~") Lo⟩,
  ⟨i_Drop, drF Lo, drT Lo⟩,
  ⟨i_Drop, drF Lo, drT Lo⟩,
  ⟨i_Drop, drF [z0], (Str.ofString "-(" ++ z0) ++ Str.ofString ")"⟩,
  ⟨i_Prune, prF z0, z0 ++ Str.ofString "*"⟩,
  ⟨i_Prune, prF z1, z1 ++ Str.ofString "*"⟩]
theorem osOf_ok {z0 z1 : Str} {Ls : List Int} {c0 : Int} {u v : Str} {Lo : List Str} (h2 : Lo.length = 2) : ∀ o ∈ osOf z0 z1 Ls c0 u v Lo, o.ok := by
  intro o ho
  simp only [osOf, List.mem_cons, List.not_mem_nil, or_false] at ho
  have mC : i_Choose ∈ insts := by decide
  have mR : i_Refuse ∈ insts := by decide
  have mM : i_Match ∈ insts := by decide
  have mD : i_Drop ∈ insts := by decide
  have mP : i_Prune ∈ insts := by decide
  have cq : ∀ z sg c, txO (cqF z sg [c]) ((z ++ sg) ++ decS c) := fun z sg c => by rw [← cqT_one]; rfl
  have cn : ∀ z sg, txO (cqF z sg []) (z ++ sg) := fun z sg => by rw [← cqT_nil]; rfl
  rcases ho with rfl | rfl | rfl | rfl | rfl | rfl | rfl | rfl | rfl | rfl | rfl | rfl | rfl | rfl
  · exact ⟨mC, rfl⟩
  · exact ⟨mC, cq _ _ _⟩
  · exact ⟨mC, cn _ _⟩
  · exact ⟨mR, cq _ _ _⟩
  · exact ⟨mR, cn _ _⟩
  · exact ⟨mC, cq _ _ _⟩
  · exact ⟨mM, rfl⟩
  · exact ⟨mM, rfl⟩
  · exact ⟨mM, by
      show txO (mtF Lo) (Txt.join (Str.ofString "~") Lo)
      rw [mtT_join Lo h2]
      rfl⟩
  · exact ⟨mD, rfl⟩
  · exact ⟨mD, rfl⟩
  · exact ⟨mD, by
      show txO (drF [z0]) ((Str.ofString "-(" ++ z0) ++ Str.ofString ")")
      rw [← drT_one]
      rfl⟩
  · exact ⟨mP, rfl⟩
  · exact ⟨mP, rfl⟩
theorem partC2 {Γ : Gm} (g : LawG Γ) {z0 z1 z2 z3 z4 z5 z6 z7 z8 z9 z10 z11 : Str} (Z : Zn z0 z1 z2 z3) {c0 c1 c2 : Int} (h0 : cOk c0) {Ls : List Int} (tl : (txtL Ls).length ≤ 60) {u v : Str} (bu : u.length ≤ 9) (bv : v.length ≤ 9) {Lo : List Str} (hLo : SrtP Lo [z0, z2]) {Q : BV} {E : BX} (go : ∀ M, Q (.bl true) M) {M : MHp} {s0 s1 s3 s5 s6 s7 s10 s11 s12 s13 s14 s15 s20 : Option PV} {os : List Sp1} (ho : os = osOf z0 z1 Ls c0 u v Lo) :
    wSs Γ (dropS 30 b_law) (endsP Q E) [s0, s1, some (nmL12 z0 z1 z2 z3 z4 z5 z6 z7 z8 z9 z10 z11), s3, some (.lst (ints3 c0 c1 c2)), s5, s6, s7, some (.str (txtL Ls)), some (.lst [.str u, .str v]), s10, s11, s12, s13, s14, s15, some (.lst (os.map Sp1.ob)), none, none, none, s20] M := by
  unfold b_law
  dsimp only [dropS]
  have cd := g.cold
  have hb := big
  have n0 := len9 Z.v0
  have n1 := len9 Z.v1
  have n2 := len9 Z.v2
  have lo := hLo.1.length_eq
  have mo : ∀ x ∈ Lo, x.length ≤ 9 := fun x hx => by
    have := hLo.1.mem_iff.mp hx
    simp only [List.mem_cons, List.not_mem_nil, or_false] at this
    rcases this with rfl | rfl <;> assumption
  have so := sum9 mo
  have lo2 : Lo.length = 2 := lo
  rw [lo2] at so
  have jo := join_len (Str.ofString " ") Lo
  have l1 : (Str.ofString "=").length = 1 := rfl
  have l2 : (Str.ofString "!").length = 1 := rfl
  have l3 : (Str.ofString "~").length = 1 := rfl
  have l4 : (Str.ofString "-(").length = 2 := rfl
  have l5 : (Str.ofString ")").length = 1 := rfl
  have l6 : (Str.ofString " ").length = 1 := rfl
  have l7 : (Str.ofString "*").length = 1 := rfl
  rw [l6, lo2] at jo
  have dl := decS_len h0.1 h0.2
  walk_at "w"
  refine o_adds (by omega) ?_
  walk_at "w"
  refine o_adds (by rw [str_app_len]; omega) ?_
  walk_at "w"
  refine o_adds (by omega) ?_
  walk_at "w"
  refine .inl ⟨c0, rfl, log_ok h0.1 h0.2, ?_⟩
  walk_at "w"
  refine o_adds (b := decS c0) (by rw [str_app_len]; omega) ?_
  walk_at "w"
  refine o_adds (by omega) ?_
  walk_at "w"
  refine o_adds (by omega) ?_
  walk_at "w"
  refine .inl ⟨c0, rfl, log_ok h0.1 h0.2, ?_⟩
  walk_at "w"
  refine o_adds (b := decS c0) (by rw [str_app_len]; omega) ?_
  walk_at "w"
  refine o_adds (by omega) ?_
  walk_at "w"
  refine o_adds (by omega) ?_
  walk_at "w"
  refine .inl ⟨c0, rfl, log_ok h0.1 h0.2, ?_⟩
  walk_at "w"
  refine o_adds (b := decS c0) (by rw [str_app_len]; omega) ?_
  walk_at "w"
  refine o_adds (by omega) ?_
  walk_at "w"
  refine o_adds (by rw [str_app_len]; omega) ?_
  walk_at "w"
  refine o_adds (by omega) ?_
  walk_at "w"
  refine o_adds (by rw [str_app_len]; omega) ?_
  walk_at "w"
  walk_at "w"
  refine srt_l (l := [z0, z2]) rfl (by show 2 < 64; decide) fun La hLa => ?_
  have ea := srtP_uniq hLa hLo (List.Perm.refl _)
  subst ea
  walk_at "w"
  refine m_join (ys := La) rfl (by rw [l3]; omega) ?_
  walk_at "w"
  walk_at "w"
  refine srt_l (l := [z0, z2]) rfl (by show 2 < 64; decide) fun Lb hLb => ?_
  have eb := srtP_uniq hLb hLa (List.Perm.refl _)
  subst eb
  walk_at "w"
  refine m_join (ys := Lb) rfl (by rw [l6]; omega) ?_
  walk_at "w"
  refine o_adds (by omega) ?_
  walk_at "w"
  refine o_adds (by rw [str_app_len]; omega) ?_
  walk_at "w"
  refine o_mulL (b := [.str (drT Lb), .str (drT Lb)]) rfl (by show 2 ≤ sizeLine; omega) ?_
  walk_at "w"
  refine o_adds (by omega) ?_
  walk_at "w"
  refine o_adds (by rw [str_app_len]; omega) ?_
  walk_at "w"
  refine o_adds (by omega) ?_
  walk_at "w"
  refine o_adds (by omega) ?_
  walk_at "w"
  subst ho
  exact partD g (os := osOf z0 z1 Ls c0 u v Lb) rfl (osOf_ok lo2) go
end K13

/-! K13ly -/
set_option Elab.async false
set_option linter.all false
set_option maxRecDepth 100000
set_option maxHeartbeats 2000000
set_option pp.maxSteps 600
set_option pp.deepTerms false
namespace K13
open PySem PySem.Spec L2 Nb
open PyProof.Rows hiding St
local macro_rules | `(tactic| walk_at "s") => `(tactic| (first | with_reducible refine stp_go ?_ | ((with_reducible apply r_v); (focus (with_reducible (first | assumption | with_unfolding_all rfl)))) | ((with_reducible apply r_g); (focus (with_reducible (first | assumption | with_unfolding_all rfl)))) | ((with_reducible apply o_addl); (focus (with_reducible (first | assumption | exact Nat.le_of_ble_eq_true rfl)))) | ((with_reducible apply o_addt); (focus (with_reducible (first | assumption | exact Nat.le_of_ble_eq_true rfl)))) | ((with_reducible apply o_ixr); (focus (with_reducible ((repeat (refine (ms_ne (by first | assumption | exact Ne.symm (by assumption))).trans ?_)); first | with_reducible exact ms_same | assumption))); (focus (with_reducible (first | assumption | with_unfolding_all rfl)))) | ((with_reducible apply o_ixt); (focus (with_reducible (first | assumption | with_unfolding_all rfl)))) | ((with_reducible apply o_ixl); (focus (with_reducible (first | assumption | with_unfolding_all rfl)))) | ((with_reducible apply o_ixk); (focus (with_reducible (first | assumption | with_unfolding_all rfl)))) | ((with_reducible apply o_mod); (focus (with_reducible (first | decide | assumption | omega)))) | ((with_reducible apply o_mulr); (focus (with_reducible (first | assumption | omega))); (focus (with_reducible (first | assumption | omega)))) | ((with_reducible apply o_mull); (focus (with_reducible (first | assumption | omega))); (focus (with_reducible (first | assumption | omega)))) | ((with_reducible apply o_divl); (focus (with_reducible (first | assumption | omega))); (focus (with_reducible (first | assumption | omega)))) | ((with_reducible apply o_pow3); (focus (with_reducible (first | assumption | omega))); (focus (with_reducible (first | assumption | omega))); (focus (with_reducible (first | assumption | omega)))) | ((with_reducible apply b_lenr); (focus (with_reducible ((repeat (refine (ms_ne (by first | assumption | exact Ne.symm (by assumption))).trans ?_)); first | with_reducible exact ms_same | assumption)))) | ((with_reducible apply b_listr); (focus (with_reducible ((repeat (refine (ms_ne (by first | assumption | exact Ne.symm (by assumption))).trans ?_)); first | with_reducible exact ms_same | assumption)))) | ((with_reducible apply b_tupr); (focus (with_reducible ((repeat (refine (ms_ne (by first | assumption | exact Ne.symm (by assumption))).trans ?_)); first | with_reducible exact ms_same | assumption)))) | ((with_reducible apply r_call); (focus (with_reducible (assumption)))) | ((with_reducible apply r_new); (focus (with_reducible (assumption)))) | ((with_reducible apply m_appT); (focus (with_reducible ((repeat (refine (ms_ne (by first | assumption | exact Ne.symm (by assumption))).trans ?_)); first | with_reducible exact ms_same | assumption)))) | with_reducible refine q_oeq ?_ | ((with_reducible apply r_exn); (focus (with_reducible (first | assumption | with_unfolding_all rfl)))) | ((with_reducible apply u_ref); (focus (with_reducible ((repeat (refine (ms_ne (by first | assumption | exact Ne.symm (by assumption))).trans ?_)); first | with_reducible exact ms_same | assumption)))) | ((with_reducible apply e_set); (focus (with_reducible ((repeat (refine (ms_ne (by first | assumption | exact Ne.symm (by assumption))).trans ?_)); first | with_reducible exact ms_same | assumption))); (focus (with_reducible (first | assumption | with_unfolding_all rfl)))) | ((with_reducible apply isi_b); (focus (with_reducible (with_unfolding_all rfl))); (focus (with_reducible (first | with_reducible rfl | with_reducible exact tb_NoneType_bool | with_reducible exact tb_NoneType_int | with_reducible exact tb_NoneType_str | with_reducible exact tb_NoneType_tuple | with_reducible exact tb_NoneType_list | with_reducible exact tb_bool_bool | with_reducible exact tb_bool_int | with_reducible exact tb_bool_str | with_reducible exact tb_bool_tuple | with_reducible exact tb_bool_list | with_reducible exact tb_int_bool | with_reducible exact tb_int_int | with_reducible exact tb_int_str | with_reducible exact tb_int_tuple | with_reducible exact tb_int_list | with_reducible exact tb_str_bool | with_reducible exact tb_str_int | with_reducible exact tb_str_str | with_reducible exact tb_str_tuple | with_reducible exact tb_str_list | with_reducible exact tb_tuple_bool | with_reducible exact tb_tuple_int | with_reducible exact tb_tuple_str | with_reducible exact tb_tuple_tuple | with_reducible exact tb_tuple_list | with_reducible exact tb_list_bool | with_reducible exact tb_list_int | with_reducible exact tb_list_str | with_reducible exact tb_list_tuple | with_reducible exact tb_list_list)))) | ((with_reducible apply c_len); (focus (with_reducible (first | assumption | exact Nat.le_of_ble_eq_true rfl)))) | (with_reducible refine t_nil ?_; dsimp only)))
local macro_rules | `(tactic| walk_at "w") => `(tactic| (repeat (first | with_reducible refine stp_go ?_ | ((with_reducible apply r_v); (focus (with_reducible (first | assumption | with_unfolding_all rfl)))) | ((with_reducible apply r_g); (focus (with_reducible (first | assumption | with_unfolding_all rfl)))) | ((with_reducible apply o_addl); (focus (with_reducible (first | assumption | exact Nat.le_of_ble_eq_true rfl)))) | ((with_reducible apply o_addt); (focus (with_reducible (first | assumption | exact Nat.le_of_ble_eq_true rfl)))) | ((with_reducible apply o_ixr); (focus (with_reducible ((repeat (refine (ms_ne (by first | assumption | exact Ne.symm (by assumption))).trans ?_)); first | with_reducible exact ms_same | assumption))); (focus (with_reducible (first | assumption | with_unfolding_all rfl)))) | ((with_reducible apply o_ixt); (focus (with_reducible (first | assumption | with_unfolding_all rfl)))) | ((with_reducible apply o_ixl); (focus (with_reducible (first | assumption | with_unfolding_all rfl)))) | ((with_reducible apply o_ixk); (focus (with_reducible (first | assumption | with_unfolding_all rfl)))) | ((with_reducible apply o_mod); (focus (with_reducible (first | decide | assumption | omega)))) | ((with_reducible apply o_mulr); (focus (with_reducible (first | assumption | omega))); (focus (with_reducible (first | assumption | omega)))) | ((with_reducible apply o_mull); (focus (with_reducible (first | assumption | omega))); (focus (with_reducible (first | assumption | omega)))) | ((with_reducible apply o_divl); (focus (with_reducible (first | assumption | omega))); (focus (with_reducible (first | assumption | omega)))) | ((with_reducible apply o_pow3); (focus (with_reducible (first | assumption | omega))); (focus (with_reducible (first | assumption | omega))); (focus (with_reducible (first | assumption | omega)))) | ((with_reducible apply b_lenr); (focus (with_reducible ((repeat (refine (ms_ne (by first | assumption | exact Ne.symm (by assumption))).trans ?_)); first | with_reducible exact ms_same | assumption)))) | ((with_reducible apply b_listr); (focus (with_reducible ((repeat (refine (ms_ne (by first | assumption | exact Ne.symm (by assumption))).trans ?_)); first | with_reducible exact ms_same | assumption)))) | ((with_reducible apply b_tupr); (focus (with_reducible ((repeat (refine (ms_ne (by first | assumption | exact Ne.symm (by assumption))).trans ?_)); first | with_reducible exact ms_same | assumption)))) | ((with_reducible apply r_call); (focus (with_reducible (assumption)))) | ((with_reducible apply r_new); (focus (with_reducible (assumption)))) | ((with_reducible apply m_appT); (focus (with_reducible ((repeat (refine (ms_ne (by first | assumption | exact Ne.symm (by assumption))).trans ?_)); first | with_reducible exact ms_same | assumption)))) | with_reducible refine q_oeq ?_ | ((with_reducible apply r_exn); (focus (with_reducible (first | assumption | with_unfolding_all rfl)))) | ((with_reducible apply u_ref); (focus (with_reducible ((repeat (refine (ms_ne (by first | assumption | exact Ne.symm (by assumption))).trans ?_)); first | with_reducible exact ms_same | assumption)))) | ((with_reducible apply e_set); (focus (with_reducible ((repeat (refine (ms_ne (by first | assumption | exact Ne.symm (by assumption))).trans ?_)); first | with_reducible exact ms_same | assumption))); (focus (with_reducible (first | assumption | with_unfolding_all rfl)))) | ((with_reducible apply isi_b); (focus (with_reducible (with_unfolding_all rfl))); (focus (with_reducible (first | with_reducible rfl | with_reducible exact tb_NoneType_bool | with_reducible exact tb_NoneType_int | with_reducible exact tb_NoneType_str | with_reducible exact tb_NoneType_tuple | with_reducible exact tb_NoneType_list | with_reducible exact tb_bool_bool | with_reducible exact tb_bool_int | with_reducible exact tb_bool_str | with_reducible exact tb_bool_tuple | with_reducible exact tb_bool_list | with_reducible exact tb_int_bool | with_reducible exact tb_int_int | with_reducible exact tb_int_str | with_reducible exact tb_int_tuple | with_reducible exact tb_int_list | with_reducible exact tb_str_bool | with_reducible exact tb_str_int | with_reducible exact tb_str_str | with_reducible exact tb_str_tuple | with_reducible exact tb_str_list | with_reducible exact tb_tuple_bool | with_reducible exact tb_tuple_int | with_reducible exact tb_tuple_str | with_reducible exact tb_tuple_tuple | with_reducible exact tb_tuple_list | with_reducible exact tb_list_bool | with_reducible exact tb_list_int | with_reducible exact tb_list_str | with_reducible exact tb_list_tuple | with_reducible exact tb_list_list)))) | ((with_reducible apply c_len); (focus (with_reducible (first | assumption | exact Nat.le_of_ble_eq_true rfl)))) | (with_reducible refine t_nil ?_; dsimp only))))
theorem partC {Γ : Gm} (g : LawG Γ) {z0 z1 z2 z3 z4 z5 z6 z7 z8 z9 z10 z11 : Str} (Z : Zn z0 z1 z2 z3) {c0 c1 c2 : Int} (h0 : cOk c0) (h1 : cOk c1) (h2 : cOk c2) {Ls : List Int} (hL : SrtI Ls (ints3 c0 c1 c2)) {Lp : List Str} (hP : SrtP Lp [z0, z1]) {Q : BV} {E : BX} (go : ∀ M, Q (.bl true) M) {M : MHp} {s0 s1 s3 s5 s6 s7 s10 s11 s12 s20 : Option PV} :
    wSs Γ (dropS 22 b_law) (endsP Q E) [s0, s1, some (nmL12 z0 z1 z2 z3 z4 z5 z6 z7 z8 z9 z10 z11), s3, some (.lst (ints3 c0 c1 c2)), s5, s6, s7, some (.str (txtL Ls)), some (.lst (Lp.map .str)), s10, s11, s12, none, none, none, none, none, none, none, s20] M := by
  unfold b_law
  dsimp only [dropS]
  have cd := g.cold
  have hb := big
  have k1 := g.same
  have j1 := g.i1
  have j2 := g.i2
  have j3 := g.i3
  have j4 := g.i4
  have j5 := g.i5
  have n0 := len9 Z.v0
  have n1 := len9 Z.v1
  have n2 := len9 Z.v2
  have n3 := len9 Z.v3
  have tl := txtL_len hL h0 h1 h2
  have m3 : ∀ k ∈ Ls, k = c0 ∨ k = c1 ∨ k = c2 := fun k hk => by
    have := (hL.2 k).mp hk
    simpa [ints3] using this
  have ll : Ls.length ≤ 3 := pw_len (ys := [c0, c1, c2]) hL.1 fun k hk => by simpa using m3 k hk
  have lp := hP.1.length_eq
  walk_at "w"
  refine new_cq Z.v0 (by show 3 < 60; decide) vOk3 (all3 h0 h1 h2) hL fun M1 => ?_
  walk_at "w"
  have ld2 : ∀ {x y : Str}, x.length ≤ 9 → y.length ≤ 9 → ∀ u ∈ [x, y], u.length ≤ 9 := by
    intro x y hx hy u hu
    simp only [List.mem_cons, List.not_mem_nil, or_false] at hu
    rcases hu with rfl | rfl <;> assumption
  refine new_dr (l := [z2, z0]) (by show 2 < 60; decide) (ld2 n2 n0) (nm2 Z.v2 Z.v0 (Ne.symm Z.d02)) (by simp) fun M2 Lo hLo => ?_
  have lo := hLo.1.length_eq
  walk_at "w"
  refine at_o (g.fl _ (by decide) _ (by decide)) rfl ?_
  walk_at "w"
  refine at_o (g.fl _ (by decide) _ (by decide)) rfl ?_
  walk_at "w"
  refine at_o (g.fm _ (by decide) _ (by decide)) rfl ?_
  walk_at "w"
  refine new_mt Z.v1 Z.v0 (Ne.symm Z.d01) fun M3 L1 hL1 => ?_
  have e1 := srtP_uniq hL1 hP (List.Perm.swap _ _ _)
  subst e1
  refine at_o (g.fm _ (by decide) _ (by decide)) rfl ?_
  walk_at "w"
  refine new_pr Z.v3 fun M4 => ?_
  refine at_o (g.fp _ (by decide)) rfl ?_
  walk_at "w"
  refine r_sset cd (r_v rfl (.inr ⟨[c0, c1, c2], rfl, (by show 3 < 64; decide), fun Lt hs1 hs2 => n_f ?_⟩))
  have hS : SrtI Lt (ints3 c0 c1 c2) := ⟨hs1, fun k => (hs2 k).trans (by simp)⟩
  have e2 := srtI_uniq hS hL
  subst e2
  walk_at "w"
  refine srt_l (l := [z2, z0]) rfl (by show 2 < 64; decide) fun L2 hL2 => ?_
  have e3 := srtP_uniq hL2 hLo (List.Perm.refl _)
  subst e3
  walk_at "w"
  refine use_same (okS_told (by omega) (by rw [lo]; show 2 < 60; decide) (by rw [lp]; show 2 < 60; decide)) ?_
  (refine u_bl ?_; refine s_f2 ?_; refine t_nilN ?_)
  walk_at "w"
  have kC := g.kd i_Choose (by decide)
  have kD := g.kd i_Drop (by decide)
  obtain ⟨q1, q2, q3, q4, q5⟩ := g.iaC
  refine isi_ob kC q4 q1 ?_
  walk_at "w"
  refine isi_ob kD q4 q2 ?_
  walk_at "w"
  refine isi_ob kD q5 q3 ?_
  walk_at "w"
  obtain ⟨u, v, rfl⟩ : ∃ u v, L1 = [u, v] := by
    match L1, lp with
    | [u, v], _ => exact ⟨u, v, rfl⟩
  have m2 : ∀ x ∈ [u, v], x.length ≤ 9 := fun x hx => ld2 n0 n1 x (hP.1.mem_iff.mp hx)
  have bu := m2 u (by simp)
  have bv := m2 v (by simp)
  have vc : ∀ x ∈ [PV.int c0], vOk x := fun x hx => by
    rw [List.mem_singleton.mp hx]
    exact .inl ⟨_, rfl⟩
  have vn0 : ∀ x ∈ ([] : List PV), vOk x := fun x hx => by cases hx
  have ac : [PV.int c0].all cellB = true := by
    show ((decide (_ < c0) && decide (c0 < _)) && true) = true
    rw [decide_eq_true h0.1, decide_eq_true h0.2]
    rfl
  have l11 : (1 : Nat) < 60 := by decide
  have l00 : (0 : Nat) < 60 := by decide
  refine new_cq Z.v0 l11 vc ac srt_one fun M5 => ?_
  walk_at "w"
  refine new_cq Z.v0 l00 vn0 rfl srt_nil fun M6 => ?_
  walk_at "w"
  refine new_cq Z.v0 l11 vc ac srt_one fun M7 => ?_
  walk_at "w"
  refine new_cq Z.v0 l00 vn0 rfl srt_nil fun M8 => ?_
  walk_at "w"
  refine new_cq Z.v1 l11 vc ac srt_one fun M9 => ?_
  walk_at "w"
  refine new_mt Z.v0 Z.v1 Z.d01 fun M10 La hLa => ?_
  have ea := srtP_uniq hLa hP (List.Perm.refl _)
  subst ea
  walk_at "w"
  refine new_mt Z.v1 Z.v0 (Ne.symm Z.d01) fun M11 La hLa => ?_
  have ea := srtP_uniq hLa hP (List.Perm.swap _ _ _)
  subst ea
  walk_at "w"
  refine new_mt Z.v0 Z.v2 Z.d02 fun M12 Lb hLb => ?_
  have eb := srtP_uniq hLb hL2 (List.Perm.swap _ _ _)
  subst eb
  walk_at "w"
  refine new_dr (l := [z0, z2]) (by show 2 < 60; decide) (ld2 n0 n2) (nm2 Z.v0 Z.v2 Z.d02) (by simp) fun M13 Lc hLc => ?_
  have ec := srtP_uniq hLc hLb (List.Perm.refl _)
  subst ec
  walk_at "w"
  refine new_dr (l := [z0]) (by show 1 < 60; decide) (fun x hx => by rw [List.mem_singleton.mp hx]; exact n0) (nm1 Z.v0) (by simp) fun M14 Ld hLd => ?_
  have ed := srtP_one hLd
  subst ed
  walk_at "w"
  refine new_pr Z.v0 fun M15 => ?_
  walk_at "w"
  refine new_pr Z.v1 fun M16 => ?_
  walk_at "s"
  walk_at "s"
  walk_at "s"
  exact partC2 g Z h0 tl bu bv hLc (os := osOf z0 z1 _ c0 u v _) go rfl
end K13

/-! K13lb -/
set_option Elab.async false
set_option linter.all false
set_option maxRecDepth 100000
set_option maxHeartbeats 2000000
set_option pp.maxSteps 600
set_option pp.deepTerms false
namespace K13
open PySem PySem.Spec L2 Nb
open PyProof.Rows hiding St
local macro_rules | `(tactic| walk_at "s") => `(tactic| (first | with_reducible refine stp_go ?_ | ((with_reducible apply r_v); (focus (with_reducible (first | assumption | with_unfolding_all rfl)))) | ((with_reducible apply r_g); (focus (with_reducible (first | assumption | with_unfolding_all rfl)))) | ((with_reducible apply o_addl); (focus (with_reducible (first | assumption | exact Nat.le_of_ble_eq_true rfl)))) | ((with_reducible apply o_addt); (focus (with_reducible (first | assumption | exact Nat.le_of_ble_eq_true rfl)))) | ((with_reducible apply o_ixr); (focus (with_reducible ((repeat (refine (ms_ne (by first | assumption | exact Ne.symm (by assumption))).trans ?_)); first | with_reducible exact ms_same | assumption))); (focus (with_reducible (first | assumption | with_unfolding_all rfl)))) | ((with_reducible apply o_ixt); (focus (with_reducible (first | assumption | with_unfolding_all rfl)))) | ((with_reducible apply o_ixl); (focus (with_reducible (first | assumption | with_unfolding_all rfl)))) | ((with_reducible apply o_ixk); (focus (with_reducible (first | assumption | with_unfolding_all rfl)))) | ((with_reducible apply o_mod); (focus (with_reducible (first | decide | assumption | omega)))) | ((with_reducible apply o_mulr); (focus (with_reducible (first | assumption | omega))); (focus (with_reducible (first | assumption | omega)))) | ((with_reducible apply o_mull); (focus (with_reducible (first | assumption | omega))); (focus (with_reducible (first | assumption | omega)))) | ((with_reducible apply o_divl); (focus (with_reducible (first | assumption | omega))); (focus (with_reducible (first | assumption | omega)))) | ((with_reducible apply o_pow3); (focus (with_reducible (first | assumption | omega))); (focus (with_reducible (first | assumption | omega))); (focus (with_reducible (first | assumption | omega)))) | ((with_reducible apply b_lenr); (focus (with_reducible ((repeat (refine (ms_ne (by first | assumption | exact Ne.symm (by assumption))).trans ?_)); first | with_reducible exact ms_same | assumption)))) | ((with_reducible apply b_listr); (focus (with_reducible ((repeat (refine (ms_ne (by first | assumption | exact Ne.symm (by assumption))).trans ?_)); first | with_reducible exact ms_same | assumption)))) | ((with_reducible apply b_tupr); (focus (with_reducible ((repeat (refine (ms_ne (by first | assumption | exact Ne.symm (by assumption))).trans ?_)); first | with_reducible exact ms_same | assumption)))) | ((with_reducible apply r_call); (focus (with_reducible (assumption)))) | ((with_reducible apply r_new); (focus (with_reducible (assumption)))) | ((with_reducible apply m_appT); (focus (with_reducible ((repeat (refine (ms_ne (by first | assumption | exact Ne.symm (by assumption))).trans ?_)); first | with_reducible exact ms_same | assumption)))) | with_reducible refine q_oeq ?_ | ((with_reducible apply r_exn); (focus (with_reducible (first | assumption | with_unfolding_all rfl)))) | ((with_reducible apply u_ref); (focus (with_reducible ((repeat (refine (ms_ne (by first | assumption | exact Ne.symm (by assumption))).trans ?_)); first | with_reducible exact ms_same | assumption)))) | ((with_reducible apply e_set); (focus (with_reducible ((repeat (refine (ms_ne (by first | assumption | exact Ne.symm (by assumption))).trans ?_)); first | with_reducible exact ms_same | assumption))); (focus (with_reducible (first | assumption | with_unfolding_all rfl)))) | ((with_reducible apply isi_b); (focus (with_reducible (with_unfolding_all rfl))); (focus (with_reducible (first | with_reducible rfl | with_reducible exact tb_NoneType_bool | with_reducible exact tb_NoneType_int | with_reducible exact tb_NoneType_str | with_reducible exact tb_NoneType_tuple | with_reducible exact tb_NoneType_list | with_reducible exact tb_bool_bool | with_reducible exact tb_bool_int | with_reducible exact tb_bool_str | with_reducible exact tb_bool_tuple | with_reducible exact tb_bool_list | with_reducible exact tb_int_bool | with_reducible exact tb_int_int | with_reducible exact tb_int_str | with_reducible exact tb_int_tuple | with_reducible exact tb_int_list | with_reducible exact tb_str_bool | with_reducible exact tb_str_int | with_reducible exact tb_str_str | with_reducible exact tb_str_tuple | with_reducible exact tb_str_list | with_reducible exact tb_tuple_bool | with_reducible exact tb_tuple_int | with_reducible exact tb_tuple_str | with_reducible exact tb_tuple_tuple | with_reducible exact tb_tuple_list | with_reducible exact tb_list_bool | with_reducible exact tb_list_int | with_reducible exact tb_list_str | with_reducible exact tb_list_tuple | with_reducible exact tb_list_list)))) | ((with_reducible apply c_len); (focus (with_reducible (first | assumption | exact Nat.le_of_ble_eq_true rfl)))) | (with_reducible refine t_nil ?_; dsimp only)))
local macro_rules | `(tactic| walk_at "w") => `(tactic| (repeat (first | with_reducible refine stp_go ?_ | ((with_reducible apply r_v); (focus (with_reducible (first | assumption | with_unfolding_all rfl)))) | ((with_reducible apply r_g); (focus (with_reducible (first | assumption | with_unfolding_all rfl)))) | ((with_reducible apply o_addl); (focus (with_reducible (first | assumption | exact Nat.le_of_ble_eq_true rfl)))) | ((with_reducible apply o_addt); (focus (with_reducible (first | assumption | exact Nat.le_of_ble_eq_true rfl)))) | ((with_reducible apply o_ixr); (focus (with_reducible ((repeat (refine (ms_ne (by first | assumption | exact Ne.symm (by assumption))).trans ?_)); first | with_reducible exact ms_same | assumption))); (focus (with_reducible (first | assumption | with_unfolding_all rfl)))) | ((with_reducible apply o_ixt); (focus (with_reducible (first | assumption | with_unfolding_all rfl)))) | ((with_reducible apply o_ixl); (focus (with_reducible (first | assumption | with_unfolding_all rfl)))) | ((with_reducible apply o_ixk); (focus (with_reducible (first | assumption | with_unfolding_all rfl)))) | ((with_reducible apply o_mod); (focus (with_reducible (first | decide | assumption | omega)))) | ((with_reducible apply o_mulr); (focus (with_reducible (first | assumption | omega))); (focus (with_reducible (first | assumption | omega)))) | ((with_reducible apply o_mull); (focus (with_reducible (first | assumption | omega))); (focus (with_reducible (first | assumption | omega)))) | ((with_reducible apply o_divl); (focus (with_reducible (first | assumption | omega))); (focus (with_reducible (first | assumption | omega)))) | ((with_reducible apply o_pow3); (focus (with_reducible (first | assumption | omega))); (focus (with_reducible (first | assumption | omega))); (focus (with_reducible (first | assumption | omega)))) | ((with_reducible apply b_lenr); (focus (with_reducible ((repeat (refine (ms_ne (by first | assumption | exact Ne.symm (by assumption))).trans ?_)); first | with_reducible exact ms_same | assumption)))) | ((with_reducible apply b_listr); (focus (with_reducible ((repeat (refine (ms_ne (by first | assumption | exact Ne.symm (by assumption))).trans ?_)); first | with_reducible exact ms_same | assumption)))) | ((with_reducible apply b_tupr); (focus (with_reducible ((repeat (refine (ms_ne (by first | assumption | exact Ne.symm (by assumption))).trans ?_)); first | with_reducible exact ms_same | assumption)))) | ((with_reducible apply r_call); (focus (with_reducible (assumption)))) | ((with_reducible apply r_new); (focus (with_reducible (assumption)))) | ((with_reducible apply m_appT); (focus (with_reducible ((repeat (refine (ms_ne (by first | assumption | exact Ne.symm (by assumption))).trans ?_)); first | with_reducible exact ms_same | assumption)))) | with_reducible refine q_oeq ?_ | ((with_reducible apply r_exn); (focus (with_reducible (first | assumption | with_unfolding_all rfl)))) | ((with_reducible apply u_ref); (focus (with_reducible ((repeat (refine (ms_ne (by first | assumption | exact Ne.symm (by assumption))).trans ?_)); first | with_reducible exact ms_same | assumption)))) | ((with_reducible apply e_set); (focus (with_reducible ((repeat (refine (ms_ne (by first | assumption | exact Ne.symm (by assumption))).trans ?_)); first | with_reducible exact ms_same | assumption))); (focus (with_reducible (first | assumption | with_unfolding_all rfl)))) | ((with_reducible apply isi_b); (focus (with_reducible (with_unfolding_all rfl))); (focus (with_reducible (first | with_reducible rfl | with_reducible exact tb_NoneType_bool | with_reducible exact tb_NoneType_int | with_reducible exact tb_NoneType_str | with_reducible exact tb_NoneType_tuple | with_reducible exact tb_NoneType_list | with_reducible exact tb_bool_bool | with_reducible exact tb_bool_int | with_reducible exact tb_bool_str | with_reducible exact tb_bool_tuple | with_reducible exact tb_bool_list | with_reducible exact tb_int_bool | with_reducible exact tb_int_int | with_reducible exact tb_int_str | with_reducible exact tb_int_tuple | with_reducible exact tb_int_list | with_reducible exact tb_str_bool | with_reducible exact tb_str_int | with_reducible exact tb_str_str | with_reducible exact tb_str_tuple | with_reducible exact tb_str_list | with_reducible exact tb_tuple_bool | with_reducible exact tb_tuple_int | with_reducible exact tb_tuple_str | with_reducible exact tb_tuple_tuple | with_reducible exact tb_tuple_list | with_reducible exact tb_list_bool | with_reducible exact tb_list_int | with_reducible exact tb_list_str | with_reducible exact tb_list_tuple | with_reducible exact tb_list_list)))) | ((with_reducible apply c_len); (focus (with_reducible (first | assumption | exact Nat.le_of_ble_eq_true rfl)))) | (with_reducible refine t_nil ?_; dsimp only))))
theorem nm3_bad {x y z b : Str} (h : [x, y, z].find? (fun x => !vn x) = some b) : nmErr [x, y, z] = some (i_BadName, b) := by
  unfold nmErr
  rw [h]
theorem partB2 {Γ : Gm} (g : LawG Γ) {z0 z1 z2 z3 z4 z5 z6 z7 z8 z9 z10 z11 : Str} (Z : Zn z0 z1 z2 z3) {c0 c1 c2 : Int} (h0 : cOk c0) (h1 : cOk c1) (h2 : cOk c2) {Ls : List Int} (hL : SrtI Ls (ints3 c0 c1 c2)) {Lp : List Str} (hP : SrtP Lp [z0, z1])
    {bad : Str} (bv : vn bad = false) (bl : bad.length ≤ 9) (bs : PyData.strOk bad = true) {p q r : PV} (pv : ∀ x ∈ [p, q, r], vOk x) (pc : [p, q, r].all cellB = false) {u v w : Str} (uh : ∀ x ∈ [u, v, w], x.length ≤ 9 ∧ PyData.strOk x = true) (ue : nmErr [u, v, w] = some (i_BadName, bad))
    {Q : BV} {E : BX} (go : ∀ M, Q (.bl true) M) {M : MHp} {s0 s1 s3 s6 s7 s20 : Option PV} :
    wSs Γ (dropS 16 b_law) (endsP Q E) [s0, s1, some (nmL12 z0 z1 z2 z3 z4 z5 z6 z7 z8 z9 z10 z11), s3, some (.lst (ints3 c0 c1 c2)), some (.str bad), s6, s7, some (.str (txtL Ls)), some (.lst (Lp.map .str)), some (.lst [p, q, r]), some (.lst [.str u, .str v, .str w]), none, none, none, none, none, none, none, none, s20] M := by
  unfold b_law
  dsimp only [dropS]
  have cd := g.cold
  have hb := big
  have k1 := g.same
  have k2 := g.made
  have k3 := g.twice
  have n0 := len9 Z.v0
  have n1 := len9 Z.v1
  refine t_for cd ?_
  walk_at "w"
  refine forW_inv (fun it τ M1 => ∃ s12 : Option PV, (∀ y ∈ it, y = .str (Str.ofString "=") ∨ y = .str (Str.ofString "!")) ∧ τ = [s0, s1, some (nmL12 z0 z1 z2 z3 z4 z5 z6 z7 z8 z9 z10 z11), s3, some (.lst (ints3 c0 c1 c2)), some (.str bad), s6, s7, some (.str (txtL Ls)), some (.lst (Lp.map .str)), some (.lst [p, q, r]), some (.lst [.str u, .str v, .str w]), s12, none, none, none, none, none, none, none, s20]) (fun _ _ _ _ => trivial) ?_ ?_ _ _ _ ⟨_, by
    intro y hy
    simp only [List.mem_cons, List.not_mem_nil, or_false] at hy
    exact hy, rfl⟩
  · rintro τ M1 ⟨s12, _, rfl⟩
    walk_at "w"
    refine made_drE uh ue fun M2 x2 => ?_
    walk_at "w"
    refine use_same okS_err ?_
    refine u_bl ?_
    refine s_f2 ?_
    walk_at "w"
    refine made_dr0 fun M3 x3 => ?_
    walk_at "w"
    refine use_same okS_err ?_
    refine u_bl ?_
    refine s_f2 ?_
    walk_at "w"
    have b0 : ∀ u ∈ [z0, z0, bad], u.length ≤ 9 ∧ PyData.strOk u = true := by
      intro u hu
      simp only [List.mem_cons, List.not_mem_nil, or_false] at hu
      rcases hu with rfl | rfl | rfl
      · exact ⟨n0, strOk_vn Z.v0⟩
      · exact ⟨n0, strOk_vn Z.v0⟩
      · exact ⟨bl, bs⟩
    refine made_drE b0 (nm3_bad (by rw [List.find?_cons_of_neg (by simp [Z.v0]), List.find?_cons_of_neg (by simp [Z.v0]), List.find?_cons_of_pos (by simp [bv])])) fun M4 x4 => ?_
    walk_at "w"
    refine use_same okS_err ?_
    (refine u_bl ?_; refine s_f2 ?_; refine t_nilN ?_)
    walk_at "w"
    have b1 : ∀ u ∈ [z0, z1, z1], u.length ≤ 9 ∧ PyData.strOk u = true := by
      intro u hu
      simp only [List.mem_cons, List.not_mem_nil, or_false] at hu
      rcases hu with rfl | rfl | rfl
      · exact ⟨n0, strOk_vn Z.v0⟩
      · exact ⟨n1, strOk_vn Z.v1⟩
      · exact ⟨n1, strOk_vn Z.v1⟩
    refine made_drE (c := i_NameTaken) (u := z1) b1 ?_ fun M5 x5 => ?_
    · unfold nmErr
      simp [Z.v0, Z.v1, dupOf, Ne.symm Z.d01]
    walk_at "w"
    refine use_same (x := errV i_NameTaken z1) okS_err ?_
    (refine u_bl ?_; refine s_f2 ?_; refine t_nilN ?_)
    walk_at "w"
    refine made_mtE (c := i_NameTaken) (z := z0) n0 n0 ?_ fun M6 x6 => ?_
    · unfold nmErr
      simp [Z.v0, dupOf]
    walk_at "w"
    refine use_same (x := errV i_NameTaken z0) okS_err ?_
    (refine u_bl ?_; refine s_f2 ?_; refine t_nilN ?_)
    walk_at "w"
    refine made_mtE (c := i_BadName) (z := bad) n0 bl ?_ fun M7 x7 => ?_
    · unfold nmErr
      simp [Z.v0, bv]
    walk_at "w"
    refine use_same (x := errV i_BadName bad) okS_err ?_
    refine u_bl ?_
    refine s_f2 ?_
    walk_at "w"
    refine made_prE bv bl fun M8 x8 => ?_
    walk_at "w"
    refine use_same (x := errV i_BadName bad) okS_err ?_
    refine u_bl ?_
    refine s_f2 ?_
    walk_at "w"
    exact partC g Z h0 h1 h2 hL hP go
  · rintro y it τ M1 N ⟨s12, hy, rfl⟩ hN
    obtain ⟨s, rfl, hs⟩ : ∃ s, y = .str s ∧ (s = Str.ofString "=" ∨ s = Str.ofString "!") := by
      rcases hy y (by simp) with rfl | rfl
      · exact ⟨_, rfl, .inl rfl⟩
      · exact ⟨_, rfl, .inr rfl⟩
    walk_at "w"
    refine made_wc hs rfl Z.v0 pv pc fun M2 x2 => ?_
    walk_at "w"
    refine use_same okS_err ?_
    (refine u_bl ?_; refine s_f2 ?_; refine t_nilN ?_)
    walk_at "w"
    refine made_bn hs rfl bv bl pv fun M3 x3 => ?_
    walk_at "w"
    refine use_same okS_err ?_
    (refine u_bl ?_; refine s_f2 ?_; refine t_nilN ?_)
    walk_at "w"
    exact hN _ _ ⟨_, fun y hy' => hy y (List.mem_cons_of_mem _ hy'), rfl⟩
/-- the bad names -/
def bads : List Str := [Str.ofString "", Str.ofString "aB", Str.ofString "a1", Str.ofString "abcdefghi", Str.ofString "a b"]
theorem bads_ok : ∀ b ∈ bads, vn b = false ∧ b.length ≤ 9 ∧ PyData.strOk b = true := by decide +kernel
theorem not3 {x y z : PV} (h : cellB x = false ∨ cellB y = false ∨ cellB z = false) : [x, y, z].all cellB = false := by
  rcases h with h | h | h <;> simp [h]
theorem vOk_3 {x y z : PV} (hx : vOk x) (hy : vOk y) (hz : vOk z) : ∀ u ∈ [x, y, z], vOk u := by
  intro u hu
  simp only [List.mem_cons, List.not_mem_nil, or_false] at hu
  rcases hu with rfl | rfl | rfl <;> assumption
theorem sOk3 {x y z : Str} (hx : x.length ≤ 9 ∧ PyData.strOk x = true) (hy : y.length ≤ 9 ∧ PyData.strOk y = true) (hz : z.length ≤ 9 ∧ PyData.strOk z = true) : ∀ u ∈ [x, y, z], u.length ≤ 9 ∧ PyData.strOk u = true := by
  intro u hu
  simp only [List.mem_cons, List.not_mem_nil, or_false] at hu
  rcases hu with rfl | rfl | rfl <;> assumption
theorem made_drA {x y z : Str} {M : MHp} {Q : BV} {E : BX} (h : ∀ u ∈ [x, y, z], u.length ≤ 9 ∧ PyData.strOk u = true) (hn : nmErr [x, y, z] = none) (q : ∀ M' L, Ext M M' → SrtP L [x, y, z] → Q (two (drT L)) M') : S_made [.str (Str.ofString "-"), .lst [.str x, .str y, .str z]] M Q E := by
  refine ⟨_, _, rfl, .inr (.inr (.inr (.inl ⟨x, y, z, rfl, rfl, h, ?_⟩)))⟩
  rw [hn]
  exact fun L hL M' hx => q M' L hx hL
theorem drT_len {L : List Str} (h : ∀ x ∈ L, x.length ≤ 9) (hl : L.length ≤ 3) : (L.map (·.length)).sum ≤ 27 ∧ (Txt.join (Str.ofString " ") L).length ≤ 30 := by
  have s := sum9 h
  have j := join_len (Str.ofString " ") L
  have l6 : (Str.ofString " ").length = 1 := rfl
  rw [l6] at j
  omega
theorem partB1 {Γ : Gm} (g : LawG Γ) {z0 z1 z2 z3 z4 z5 z6 z7 z8 z9 z10 z11 : Str} (Z : Zn z0 z1 z2 z3) {c0 c1 c2 : Int} (h0 : cOk c0) (h1 : cOk c1) (h2 : cOk c2) {Ls : List Int} (hL : SrtI Ls (ints3 c0 c1 c2))
    {bad : Str} (hb5 : bad ∈ bads) {wr : PV} (wv : vOk wr) (wc : cellB wr = false) {pl : Int} (p0 : 0 ≤ pl) (p3 : pl < 3)
    {Q : BV} {E : BX} (go : ∀ M, Q (.bl true) M) {M : MHp} {s0 s1 s3 s20 : Option PV} :
    wSs Γ (dropS 8 b_law) (endsP Q E) [s0, s1, some (nmL12 z0 z1 z2 z3 z4 z5 z6 z7 z8 z9 z10 z11), s3, some (.lst (ints3 c0 c1 c2)), some (.str bad), some wr, some (.int pl), some (.str (txtL Ls)), none, none, none, none, none, none, none, none, none, none, none, s20] M := by
  unfold b_law
  dsimp only [dropS]
  have cd := g.cold
  have hb := big
  have k1 := g.same
  have k2 := g.made
  have k3 := g.twice
  have n0 := len9 Z.v0
  have n1 := len9 Z.v1
  have n2 := len9 Z.v2
  have tl := txtL_len hL h0 h1 h2
  have l1 : (Str.ofString "=").length = 1 := rfl
  have l2 : (Str.ofString "!").length = 1 := rfl
  have l3 : (Str.ofString "~").length = 1 := rfl
  have l4 : (Str.ofString "-(").length = 2 := rfl
  have l5 : (Str.ofString ")").length = 1 := rfl
  have l6 : (Str.ofString " ").length = 1 := rfl
  have l7 : (Str.ofString "*").length = 1 := rfl
  walk_at "w"
  refine made_cq (.inl rfl) rfl Z.v0 vOk3 (all3 h0 h1 h2) hL fun M1 x1 => ?_
  walk_at "w"
  refine o_adds (by omega) ?_
  walk_at "w"
  refine o_adds (by rw [str_app_len]; omega) ?_
  walk_at "w"
  refine ⟨_, rfl, ?_⟩
  walk_at "w"
  refine use_same (x := two (cqT z0 (Str.ofString "=") Ls)) okS_two ?_
  (refine u_bl ?_; refine s_f2 ?_; refine t_nilN ?_)
  walk_at "w"
  refine made_cq (.inr rfl) rfl Z.v1 vOk3 (all3 h0 h1 h2) hL fun M2 x2 => ?_
  walk_at "w"
  refine o_adds (by omega) ?_
  walk_at "w"
  refine o_adds (by rw [str_app_len]; omega) ?_
  walk_at "w"
  refine ⟨_, rfl, ?_⟩
  walk_at "w"
  refine use_same (x := two (cqT z1 (Str.ofString "!") Ls)) okS_two ?_
  (refine u_bl ?_; refine s_f2 ?_; refine t_nilN ?_)
  walk_at "w"
  refine sl_l (ys := [.str z0, .str z1]) rfl ?_
  walk_at "w"
  refine srt_l (l := [z0, z1]) rfl (by show 2 < 64; decide) fun Lp hP => ?_
  obtain ⟨u, v, rfl⟩ : ∃ u v, Lp = [u, v] := by
    have := hP.1.length_eq
    match Lp, this with
    | [u, v], _ => exact ⟨u, v, rfl⟩
  have m2 : ∀ x ∈ [u, v], x.length ≤ 9 := fun x hx => by
    have := hP.1.mem_iff.mp hx
    simp only [List.mem_cons, List.not_mem_nil, or_false] at this
    rcases this with rfl | rfl <;> assumption
  have bu := m2 u (by simp)
  have bv := m2 v (by simp)
  walk_at "w"
  refine sl_l (ys := [.str z0, .str z1]) rfl ?_
  walk_at "w"
  refine made_mt n0 n1 (nm2 Z.v0 Z.v1 Z.d01) hP fun M3 x3 => ?_
  walk_at "w"
  refine o_adds (by omega) ?_
  walk_at "w"
  refine o_adds (by rw [str_app_len]; omega) ?_
  walk_at "w"
  refine ⟨_, rfl, ?_⟩
  walk_at "w"
  refine use_same (x := two (mtT [u, v])) okS_two ?_
  (refine u_bl ?_; refine s_f2 ?_; refine t_nilN ?_)
  walk_at "w"
  refine sl_l (ys := [.str z0, .str z1, .str z2]) rfl ?_
  walk_at "w"
  have y0 : z0.length ≤ 9 ∧ PyData.strOk z0 = true := ⟨n0, strOk_vn Z.v0⟩
  have y1 : z1.length ≤ 9 ∧ PyData.strOk z1 = true := ⟨n1, strOk_vn Z.v1⟩
  have y2 : z2.length ≤ 9 ∧ PyData.strOk z2 = true := ⟨n2, strOk_vn Z.v2⟩
  refine made_drA (sOk3 y0 y1 y2) (nm3 Z.v0 Z.v1 Z.v2 Z.d01 Z.d02 Z.d12) fun M4 L x4 hL3 => ?_
  walk_at "w"
  walk_at "w"
  refine sl_l (ys := [.str z0, .str z1, .str z2]) rfl ?_
  walk_at "w"
  refine srt_l (l := [z0, z1, z2]) rfl (by show 3 < 64; decide) fun L' hL' => ?_
  have eL := srtP_uniq hL' hL3 (List.Perm.refl _)
  subst eL
  have m3 : ∀ x ∈ L', x.length ≤ 9 := fun x hx => (sOk3 y0 y1 y2 x (hL'.1.mem_iff.mp hx)).1
  have e3 : L'.length = 3 := hL'.1.length_eq
  obtain ⟨t1, t2⟩ := drT_len m3 (by omega)
  walk_at "w"
  refine m_join (ys := L') rfl (by rw [l6]; omega) ?_
  walk_at "w"
  refine o_adds (by omega) ?_
  walk_at "w"
  refine o_adds (by rw [str_app_len]; omega) ?_
  walk_at "w"
  refine ⟨_, rfl, ?_⟩
  walk_at "w"
  refine use_same (x := two (drT L')) okS_two ?_
  (refine u_bl ?_; refine s_f2 ?_; refine t_nilN ?_)
  walk_at "w"
  refine sl_l (ys := [.str z0]) rfl ?_
  walk_at "w"
  refine made_pr Z.v0 fun M5 x5 => ?_
  walk_at "w"
  refine o_adds (by omega) ?_
  walk_at "w"
  refine ⟨_, rfl, ?_⟩
  walk_at "w"
  refine use_same (x := two (z0 ++ Str.ofString "*")) okS_two ?_
  (refine u_bl ?_; refine s_f2 ?_; refine t_nilN ?_)
  obtain ⟨bvn, bln, bok⟩ := bads_ok bad hb5
  have i0 : vOk (.int c0) := .inl ⟨_, rfl⟩
  have i1 : vOk (.int c1) := .inl ⟨_, rfl⟩
  have i2 : vOk (.int c2) := .inl ⟨_, rfl⟩
  have p012 : pl = 0 ∨ pl = 1 ∨ pl = 2 := by omega
  rcases p012 with rfl | rfl | rfl
  · walk_at "w"
    refine sl_l (ys := []) rfl ?_
    walk_at "w"
    refine sl_l (ys := [.int c1, .int c2]) rfl ?_
    walk_at "w"
    refine sl_l (ys := []) rfl ?_
    walk_at "w"
    refine sl_l (ys := [.str z1, .str z2]) rfl ?_
    walk_at "w"
    exact partB2 g Z h0 h1 h2 hL hP bvn bln bok (vOk_3 wv i1 i2) (not3 (.inl wc)) (sOk3 ⟨bln, bok⟩ y1 y2) (nm3_bad (by rw [List.find?_cons_of_pos (by simp [bvn])])) go
  · walk_at "w"
    refine sl_l (ys := [.int c0]) rfl ?_
    walk_at "w"
    refine sl_l (ys := [.int c2]) rfl ?_
    walk_at "w"
    refine sl_l (ys := [.str z0]) rfl ?_
    walk_at "w"
    refine sl_l (ys := [.str z2]) rfl ?_
    walk_at "w"
    exact partB2 g Z h0 h1 h2 hL hP bvn bln bok (vOk_3 i0 wv i2) (not3 (.inr (.inl wc))) (sOk3 y0 ⟨bln, bok⟩ y2) (nm3_bad (by rw [List.find?_cons_of_neg (by simp [Z.v0]), List.find?_cons_of_pos (by simp [bvn])])) go
  · walk_at "w"
    refine sl_l (ys := [.int c0, .int c1]) rfl ?_
    walk_at "w"
    refine sl_l (ys := []) rfl ?_
    walk_at "w"
    refine sl_l (ys := [.str z0, .str z1]) rfl ?_
    walk_at "w"
    refine sl_l (ys := []) rfl ?_
    walk_at "w"
    exact partB2 g Z h0 h1 h2 hL hP bvn bln bok (vOk_3 i0 i1 wv) (not3 (.inr (.inr wc))) (sOk3 y0 y1 ⟨bln, bok⟩) (nm3_bad (by rw [List.find?_cons_of_neg (by simp [Z.v0]), List.find?_cons_of_neg (by simp [Z.v1]), List.find?_cons_of_pos (by simp [bvn])])) go
end K13

/-! K13la -/
set_option Elab.async false
set_option linter.all false
set_option maxRecDepth 100000
set_option maxHeartbeats 2000000
set_option pp.maxSteps 600
set_option pp.deepTerms false
namespace K13
open PySem PySem.Spec L2 Nb
open PyProof.Rows hiding St
local macro_rules | `(tactic| walk_at "s") => `(tactic| (first | with_reducible refine stp_go ?_ | ((with_reducible apply r_v); (focus (with_reducible (first | assumption | with_unfolding_all rfl)))) | ((with_reducible apply r_g); (focus (with_reducible (first | assumption | with_unfolding_all rfl)))) | ((with_reducible apply o_addl); (focus (with_reducible (first | assumption | exact Nat.le_of_ble_eq_true rfl)))) | ((with_reducible apply o_addt); (focus (with_reducible (first | assumption | exact Nat.le_of_ble_eq_true rfl)))) | ((with_reducible apply o_ixr); (focus (with_reducible ((repeat (refine (ms_ne (by first | assumption | exact Ne.symm (by assumption))).trans ?_)); first | with_reducible exact ms_same | assumption))); (focus (with_reducible (first | assumption | with_unfolding_all rfl)))) | ((with_reducible apply o_ixt); (focus (with_reducible (first | assumption | with_unfolding_all rfl)))) | ((with_reducible apply o_ixl); (focus (with_reducible (first | assumption | with_unfolding_all rfl)))) | ((with_reducible apply o_ixk); (focus (with_reducible (first | assumption | with_unfolding_all rfl)))) | ((with_reducible apply o_mod); (focus (with_reducible (first | decide | assumption | omega)))) | ((with_reducible apply o_mulr); (focus (with_reducible (first | assumption | omega))); (focus (with_reducible (first | assumption | omega)))) | ((with_reducible apply o_mull); (focus (with_reducible (first | assumption | omega))); (focus (with_reducible (first | assumption | omega)))) | ((with_reducible apply o_divl); (focus (with_reducible (first | assumption | omega))); (focus (with_reducible (first | assumption | omega)))) | ((with_reducible apply o_pow3); (focus (with_reducible (first | assumption | omega))); (focus (with_reducible (first | assumption | omega))); (focus (with_reducible (first | assumption | omega)))) | ((with_reducible apply b_lenr); (focus (with_reducible ((repeat (refine (ms_ne (by first | assumption | exact Ne.symm (by assumption))).trans ?_)); first | with_reducible exact ms_same | assumption)))) | ((with_reducible apply b_listr); (focus (with_reducible ((repeat (refine (ms_ne (by first | assumption | exact Ne.symm (by assumption))).trans ?_)); first | with_reducible exact ms_same | assumption)))) | ((with_reducible apply b_tupr); (focus (with_reducible ((repeat (refine (ms_ne (by first | assumption | exact Ne.symm (by assumption))).trans ?_)); first | with_reducible exact ms_same | assumption)))) | ((with_reducible apply r_call); (focus (with_reducible (assumption)))) | ((with_reducible apply r_new); (focus (with_reducible (assumption)))) | ((with_reducible apply m_appT); (focus (with_reducible ((repeat (refine (ms_ne (by first | assumption | exact Ne.symm (by assumption))).trans ?_)); first | with_reducible exact ms_same | assumption)))) | with_reducible refine q_oeq ?_ | ((with_reducible apply r_exn); (focus (with_reducible (first | assumption | with_unfolding_all rfl)))) | ((with_reducible apply u_ref); (focus (with_reducible ((repeat (refine (ms_ne (by first | assumption | exact Ne.symm (by assumption))).trans ?_)); first | with_reducible exact ms_same | assumption)))) | ((with_reducible apply e_set); (focus (with_reducible ((repeat (refine (ms_ne (by first | assumption | exact Ne.symm (by assumption))).trans ?_)); first | with_reducible exact ms_same | assumption))); (focus (with_reducible (first | assumption | with_unfolding_all rfl)))) | ((with_reducible apply isi_b); (focus (with_reducible (with_unfolding_all rfl))); (focus (with_reducible (first | with_reducible rfl | with_reducible exact tb_NoneType_bool | with_reducible exact tb_NoneType_int | with_reducible exact tb_NoneType_str | with_reducible exact tb_NoneType_tuple | with_reducible exact tb_NoneType_list | with_reducible exact tb_bool_bool | with_reducible exact tb_bool_int | with_reducible exact tb_bool_str | with_reducible exact tb_bool_tuple | with_reducible exact tb_bool_list | with_reducible exact tb_int_bool | with_reducible exact tb_int_int | with_reducible exact tb_int_str | with_reducible exact tb_int_tuple | with_reducible exact tb_int_list | with_reducible exact tb_str_bool | with_reducible exact tb_str_int | with_reducible exact tb_str_str | with_reducible exact tb_str_tuple | with_reducible exact tb_str_list | with_reducible exact tb_tuple_bool | with_reducible exact tb_tuple_int | with_reducible exact tb_tuple_str | with_reducible exact tb_tuple_tuple | with_reducible exact tb_tuple_list | with_reducible exact tb_list_bool | with_reducible exact tb_list_int | with_reducible exact tb_list_str | with_reducible exact tb_list_tuple | with_reducible exact tb_list_list)))) | ((with_reducible apply c_len); (focus (with_reducible (first | assumption | exact Nat.le_of_ble_eq_true rfl)))) | (with_reducible refine t_nil ?_; dsimp only)))
local macro_rules | `(tactic| walk_at "w") => `(tactic| (repeat (first | with_reducible refine stp_go ?_ | ((with_reducible apply r_v); (focus (with_reducible (first | assumption | with_unfolding_all rfl)))) | ((with_reducible apply r_g); (focus (with_reducible (first | assumption | with_unfolding_all rfl)))) | ((with_reducible apply o_addl); (focus (with_reducible (first | assumption | exact Nat.le_of_ble_eq_true rfl)))) | ((with_reducible apply o_addt); (focus (with_reducible (first | assumption | exact Nat.le_of_ble_eq_true rfl)))) | ((with_reducible apply o_ixr); (focus (with_reducible ((repeat (refine (ms_ne (by first | assumption | exact Ne.symm (by assumption))).trans ?_)); first | with_reducible exact ms_same | assumption))); (focus (with_reducible (first | assumption | with_unfolding_all rfl)))) | ((with_reducible apply o_ixt); (focus (with_reducible (first | assumption | with_unfolding_all rfl)))) | ((with_reducible apply o_ixl); (focus (with_reducible (first | assumption | with_unfolding_all rfl)))) | ((with_reducible apply o_ixk); (focus (with_reducible (first | assumption | with_unfolding_all rfl)))) | ((with_reducible apply o_mod); (focus (with_reducible (first | decide | assumption | omega)))) | ((with_reducible apply o_mulr); (focus (with_reducible (first | assumption | omega))); (focus (with_reducible (first | assumption | omega)))) | ((with_reducible apply o_mull); (focus (with_reducible (first | assumption | omega))); (focus (with_reducible (first | assumption | omega)))) | ((with_reducible apply o_divl); (focus (with_reducible (first | assumption | omega))); (focus (with_reducible (first | assumption | omega)))) | ((with_reducible apply o_pow3); (focus (with_reducible (first | assumption | omega))); (focus (with_reducible (first | assumption | omega))); (focus (with_reducible (first | assumption | omega)))) | ((with_reducible apply b_lenr); (focus (with_reducible ((repeat (refine (ms_ne (by first | assumption | exact Ne.symm (by assumption))).trans ?_)); first | with_reducible exact ms_same | assumption)))) | ((with_reducible apply b_listr); (focus (with_reducible ((repeat (refine (ms_ne (by first | assumption | exact Ne.symm (by assumption))).trans ?_)); first | with_reducible exact ms_same | assumption)))) | ((with_reducible apply b_tupr); (focus (with_reducible ((repeat (refine (ms_ne (by first | assumption | exact Ne.symm (by assumption))).trans ?_)); first | with_reducible exact ms_same | assumption)))) | ((with_reducible apply r_call); (focus (with_reducible (assumption)))) | ((with_reducible apply r_new); (focus (with_reducible (assumption)))) | ((with_reducible apply m_appT); (focus (with_reducible ((repeat (refine (ms_ne (by first | assumption | exact Ne.symm (by assumption))).trans ?_)); first | with_reducible exact ms_same | assumption)))) | with_reducible refine q_oeq ?_ | ((with_reducible apply r_exn); (focus (with_reducible (first | assumption | with_unfolding_all rfl)))) | ((with_reducible apply u_ref); (focus (with_reducible ((repeat (refine (ms_ne (by first | assumption | exact Ne.symm (by assumption))).trans ?_)); first | with_reducible exact ms_same | assumption)))) | ((with_reducible apply e_set); (focus (with_reducible ((repeat (refine (ms_ne (by first | assumption | exact Ne.symm (by assumption))).trans ?_)); first | with_reducible exact ms_same | assumption))); (focus (with_reducible (first | assumption | with_unfolding_all rfl)))) | ((with_reducible apply isi_b); (focus (with_reducible (with_unfolding_all rfl))); (focus (with_reducible (first | with_reducible rfl | with_reducible exact tb_NoneType_bool | with_reducible exact tb_NoneType_int | with_reducible exact tb_NoneType_str | with_reducible exact tb_NoneType_tuple | with_reducible exact tb_NoneType_list | with_reducible exact tb_bool_bool | with_reducible exact tb_bool_int | with_reducible exact tb_bool_str | with_reducible exact tb_bool_tuple | with_reducible exact tb_bool_list | with_reducible exact tb_int_bool | with_reducible exact tb_int_int | with_reducible exact tb_int_str | with_reducible exact tb_int_tuple | with_reducible exact tb_int_list | with_reducible exact tb_str_bool | with_reducible exact tb_str_int | with_reducible exact tb_str_str | with_reducible exact tb_str_tuple | with_reducible exact tb_str_list | with_reducible exact tb_tuple_bool | with_reducible exact tb_tuple_int | with_reducible exact tb_tuple_str | with_reducible exact tb_tuple_tuple | with_reducible exact tb_tuple_list | with_reducible exact tb_list_bool | with_reducible exact tb_list_int | with_reducible exact tb_list_str | with_reducible exact tb_list_tuple | with_reducible exact tb_list_list)))) | ((with_reducible apply c_len); (focus (with_reducible (first | assumption | exact Nat.le_of_ble_eq_true rfl)))) | (with_reducible refine t_nil ?_; dsimp only))))
def wrongs : List PV := [.int (10 ^ 18), .int (0 - 10 ^ 18), .bl true, .str (Str.ofString "5"), .non]
theorem w_law {Γ : Gm} (g : LawG Γ) : ∀ xs M Q E, S_law xs M Q E → bodyP Γ b_law N_law 1 xs M Q E := by
  rintro xs M Q E ⟨ns, rfl, rfl, go⟩
  refine ⟨rfl, ?_⟩
  unfold b_law startP N_law
  dsimp only [List.map, List.length, List.replicate, List.append]
  have cd := g.cold
  have hb := big
  have k4 := g.start
  have k5 := g.draw
  have k6 := g.pick
  have k7 := g.names
  have k8 := g.pool
  walk_at "w"
  refine ⟨ns, rfl, fun a _ => ?_⟩
  walk_at "w"
  refine ⟨a, ns, 0, 0, 0, false, 12, rfl, by decide, ms_same, fun r zs p q n b hr hn hz => ?_⟩
  refine f_rl ms_same ?_
  rw [md_gone hr hn, ms_ms]
  obtain ⟨hl, nd, hv⟩ := hz
  match zs, hl, nd, hv with
  | [z0, z1, z2, z3, z4, z5, z6, z7, z8, z9, z10, z11], _, nd, hv =>
  have Z : Zn z0 z1 z2 z3 := by
    refine ⟨hv _ (by simp), hv _ (by simp), hv _ (by simp), hv _ (by simp), ?_, ?_, ?_⟩
    all_goals (simp only [List.nodup_cons, List.mem_cons, List.not_mem_nil, or_false, not_or, not_false_eq_true, List.nodup_nil, and_true] at nd)
    · exact nd.1.1
    · exact nd.1.2.1
    · exact nd.2.1.1
  walk_at "w"
  refine ⟨a, ns, p, q, n, b, rfl, ms_same, fun p q n b ps hp4 hpb => ?_⟩
  simp only [ms_ms]
  refine t_asg ?_
  refine r_lc cd ?_
  walk_at "w"
  refine i_rR ⟨by decide, by decide, by decide, by decide⟩ ?_
  refine lcW_inv (fun it acc M1 => ∃ (L : List Int) (p : Nat) (q n : Int) (b : Bool), acc = L.map PV.int ∧ (∀ x ∈ L, cOk x) ∧ L.length + it.length = 3 ∧ M1 = ms (fun _ => none) a (StL ns p q n b)) (fun _ _ _ _ => trivial) ?_ ?_ _ _ _ ⟨[], p, q, n, b, rfl, (fun _ h => nomatch h), rfl, rfl⟩
  case refine_2 =>
    rintro y it acc M1 N ⟨L, p, q, n, b, rfl, hL, hl, rfl⟩ hN
    refine (And.intro (fun _ => ?_) (fun e => Bool.noConfusion e))
    have lp : (ps.map PV.int).length = 4 := by rw [List.length_map]; exact hp4
    walk_at "w"
    refine ⟨a, ps.map .int, ns, p, q, n, b, rfl, (fun e => by rw [e] at lp; cases lp), by rw [lp]; decide, ms_same, fun y p q n b hy => ?_⟩
    obtain ⟨i, hi, rfl⟩ := List.mem_map.mp hy
    rw [List.length_cons] at hl
    refine ⟨by rw [List.length_map]; omega, hN _ _ ⟨L ++ [i], p, q, n, b, by simp, fun z hz => ?_, by simp; omega, by rw [ms_ms]⟩⟩
    rcases List.mem_append.mp hz with e | e
    · exact hL z e
    · rw [List.mem_singleton.mp e]; exact hpb i hi
  rintro acc M1 ⟨L, p, q, n, b, rfl, hL, hl, rfl⟩
  obtain ⟨c0, c1, c2, rfl⟩ : ∃ c0 c1 c2, L = [c0, c1, c2] := by
    match L, hl with
    | [c0, c1, c2], _ => exact ⟨c0, c1, c2, rfl⟩
  have h0 := hL c0 (by simp)
  have h1 := hL c1 (by simp)
  have h2 := hL c2 (by simp)
  walk_at "w"
  refine ⟨a, _, ns, p, q, n, b, rfl, by simp, Nat.le_of_ble_eq_true rfl, ms_same, fun y p q n b hy => ?_⟩
  obtain ⟨bad, rfl, hbad⟩ : ∃ bad : Str, y = .str bad ∧ bad ∈ bads := by
    have : y ∈ bads.map PV.str := hy
    obtain ⟨x, hx, rfl⟩ := List.mem_map.mp this
    exact ⟨x, rfl, hx⟩
  walk_at "w"
  refine ⟨a, _, ns, p, q, n, b, rfl, by simp, Nat.le_of_ble_eq_true rfl, ms_same, fun wr p q n b hy => ?_⟩
  obtain ⟨wv, wc⟩ : vOk wr ∧ cellB wr = false := by
    simp only [List.mem_cons, List.not_mem_nil, or_false] at hy
    rcases hy with rfl | rfl | rfl | rfl | rfl
    · exact ⟨.inl ⟨_, rfl⟩, by decide⟩
    · exact ⟨.inl ⟨_, rfl⟩, by decide⟩
    · exact ⟨.inr (.inl ⟨_, rfl⟩), rfl⟩
    · exact ⟨.inr (.inr (.inl ⟨_, rfl⟩)), rfl⟩
    · exact ⟨.inr (.inr (.inr rfl)), rfl⟩
  walk_at "w"
  refine ⟨a, _, ns, p, q, n, b, rfl, by decide, by decide, ms_same, fun pl p q n b pl0 pl1 => ?_⟩
  simp only [ms_ms]
  have l1 : (Str.ofString ",").length = 1 := rfl
  walk_at "w"
  walk_at "w"
  refine r_lc cd ?_
  walk_at "w"
  refine r_sset cd (r_v rfl (.inr ⟨[c0, c1, c2], rfl, (by show 3 < 64; decide), fun Ls hs1 hs2 => n_f ?_⟩))
  have hS : SrtI Ls (ints3 c0 c1 c2) := ⟨hs1, fun k => (hs2 k).trans (by simp)⟩
  have bS : ∀ y ∈ Ls, -1000000000000000000 < y ∧ y < 1000000000000000000 := fun y hy => by
    have := (hs2 y).mp hy
    simp only [List.mem_cons, List.not_mem_nil, or_false] at this
    rcases this with rfl | rfl | rfl <;> assumption
  have l3 : Ls.length ≤ 3 := pw_len (ys := [c0, c1, c2]) hs1 fun k hk => (hs2 k).mp hk
  walk_at "w"
  refine lcW_map (fun y => match y with | .int i => .str (decS i) | _ => .non) trivial (by rw [List.length_map]; omega) ?_ ?_
  · intro y hy N hN
    obtain ⟨i, hi, rfl⟩ := List.mem_map.mp hy
    have := bS i hi
    walk_at "w"
    refine .inl ⟨i, rfl, log_ok this.1 this.2, ?_⟩
    exact hN
  have sd := sum_dec bS
  walk_at "w"
  refine m_join (ys := Ls.map decS) (by show some _ = some _; rw [List.map_map, List.map_map]; rfl) (by rw [l1, List.length_map]; omega) ?_
  walk_at "w"
  exact partB1 g Z h0 h1 h2 hS hbad wv wc pl0 pl1 go
end K13

/-! K13f -/
set_option Elab.async false
set_option linter.all false
set_option maxRecDepth 100000
set_option maxHeartbeats 4000000
namespace K13
open PySem PySem.Spec L2 Nb L2H He
open PyProof.Rows hiding St
local macro_rules | `(tactic| walk_at "s") => `(tactic| (first | with_reducible refine stp_go ?_ | ((with_reducible apply r_v); (focus (with_reducible (first | assumption | with_unfolding_all rfl)))) | ((with_reducible apply r_g); (focus (with_reducible (first | assumption | with_unfolding_all rfl)))) | ((with_reducible apply o_addl); (focus (with_reducible (first | assumption | exact Nat.le_of_ble_eq_true rfl)))) | ((with_reducible apply o_addt); (focus (with_reducible (first | assumption | exact Nat.le_of_ble_eq_true rfl)))) | ((with_reducible apply o_ixr); (focus (with_reducible ((repeat (refine (ms_ne (by first | assumption | exact Ne.symm (by assumption))).trans ?_)); first | with_reducible exact ms_same | assumption))); (focus (with_reducible (first | assumption | with_unfolding_all rfl)))) | ((with_reducible apply o_ixt); (focus (with_reducible (first | assumption | with_unfolding_all rfl)))) | ((with_reducible apply o_ixl); (focus (with_reducible (first | assumption | with_unfolding_all rfl)))) | ((with_reducible apply o_ixk); (focus (with_reducible (first | assumption | with_unfolding_all rfl)))) | ((with_reducible apply o_mod); (focus (with_reducible (first | decide | assumption | omega)))) | ((with_reducible apply o_mulr); (focus (with_reducible (first | assumption | omega))); (focus (with_reducible (first | assumption | omega)))) | ((with_reducible apply o_mull); (focus (with_reducible (first | assumption | omega))); (focus (with_reducible (first | assumption | omega)))) | ((with_reducible apply o_divl); (focus (with_reducible (first | assumption | omega))); (focus (with_reducible (first | assumption | omega)))) | ((with_reducible apply o_pow3); (focus (with_reducible (first | assumption | omega))); (focus (with_reducible (first | assumption | omega))); (focus (with_reducible (first | assumption | omega)))) | ((with_reducible apply b_lenr); (focus (with_reducible ((repeat (refine (ms_ne (by first | assumption | exact Ne.symm (by assumption))).trans ?_)); first | with_reducible exact ms_same | assumption)))) | ((with_reducible apply b_listr); (focus (with_reducible ((repeat (refine (ms_ne (by first | assumption | exact Ne.symm (by assumption))).trans ?_)); first | with_reducible exact ms_same | assumption)))) | ((with_reducible apply b_tupr); (focus (with_reducible ((repeat (refine (ms_ne (by first | assumption | exact Ne.symm (by assumption))).trans ?_)); first | with_reducible exact ms_same | assumption)))) | ((with_reducible apply r_call); (focus (with_reducible (assumption)))) | ((with_reducible apply r_new); (focus (with_reducible (assumption)))) | ((with_reducible apply m_appT); (focus (with_reducible ((repeat (refine (ms_ne (by first | assumption | exact Ne.symm (by assumption))).trans ?_)); first | with_reducible exact ms_same | assumption)))) | with_reducible refine q_oeq ?_ | ((with_reducible apply r_exn); (focus (with_reducible (first | assumption | with_unfolding_all rfl)))) | ((with_reducible apply u_ref); (focus (with_reducible ((repeat (refine (ms_ne (by first | assumption | exact Ne.symm (by assumption))).trans ?_)); first | with_reducible exact ms_same | assumption)))) | ((with_reducible apply e_set); (focus (with_reducible ((repeat (refine (ms_ne (by first | assumption | exact Ne.symm (by assumption))).trans ?_)); first | with_reducible exact ms_same | assumption))); (focus (with_reducible (first | assumption | with_unfolding_all rfl)))) | ((with_reducible apply isi_b); (focus (with_reducible (with_unfolding_all rfl))); (focus (with_reducible (first | with_reducible rfl | with_reducible exact tb_NoneType_bool | with_reducible exact tb_NoneType_int | with_reducible exact tb_NoneType_str | with_reducible exact tb_NoneType_tuple | with_reducible exact tb_NoneType_list | with_reducible exact tb_bool_bool | with_reducible exact tb_bool_int | with_reducible exact tb_bool_str | with_reducible exact tb_bool_tuple | with_reducible exact tb_bool_list | with_reducible exact tb_int_bool | with_reducible exact tb_int_int | with_reducible exact tb_int_str | with_reducible exact tb_int_tuple | with_reducible exact tb_int_list | with_reducible exact tb_str_bool | with_reducible exact tb_str_int | with_reducible exact tb_str_str | with_reducible exact tb_str_tuple | with_reducible exact tb_str_list | with_reducible exact tb_tuple_bool | with_reducible exact tb_tuple_int | with_reducible exact tb_tuple_str | with_reducible exact tb_tuple_tuple | with_reducible exact tb_tuple_list | with_reducible exact tb_list_bool | with_reducible exact tb_list_int | with_reducible exact tb_list_str | with_reducible exact tb_list_tuple | with_reducible exact tb_list_list)))) | ((with_reducible apply c_len); (focus (with_reducible (first | assumption | exact Nat.le_of_ble_eq_true rfl)))) | (with_reducible refine t_nil ?_; dsimp only)))
local macro_rules | `(tactic| walk_at "w") => `(tactic| (repeat (first | with_reducible refine stp_go ?_ | ((with_reducible apply r_v); (focus (with_reducible (first | assumption | with_unfolding_all rfl)))) | ((with_reducible apply r_g); (focus (with_reducible (first | assumption | with_unfolding_all rfl)))) | ((with_reducible apply o_addl); (focus (with_reducible (first | assumption | exact Nat.le_of_ble_eq_true rfl)))) | ((with_reducible apply o_addt); (focus (with_reducible (first | assumption | exact Nat.le_of_ble_eq_true rfl)))) | ((with_reducible apply o_ixr); (focus (with_reducible ((repeat (refine (ms_ne (by first | assumption | exact Ne.symm (by assumption))).trans ?_)); first | with_reducible exact ms_same | assumption))); (focus (with_reducible (first | assumption | with_unfolding_all rfl)))) | ((with_reducible apply o_ixt); (focus (with_reducible (first | assumption | with_unfolding_all rfl)))) | ((with_reducible apply o_ixl); (focus (with_reducible (first | assumption | with_unfolding_all rfl)))) | ((with_reducible apply o_ixk); (focus (with_reducible (first | assumption | with_unfolding_all rfl)))) | ((with_reducible apply o_mod); (focus (with_reducible (first | decide | assumption | omega)))) | ((with_reducible apply o_mulr); (focus (with_reducible (first | assumption | omega))); (focus (with_reducible (first | assumption | omega)))) | ((with_reducible apply o_mull); (focus (with_reducible (first | assumption | omega))); (focus (with_reducible (first | assumption | omega)))) | ((with_reducible apply o_divl); (focus (with_reducible (first | assumption | omega))); (focus (with_reducible (first | assumption | omega)))) | ((with_reducible apply o_pow3); (focus (with_reducible (first | assumption | omega))); (focus (with_reducible (first | assumption | omega))); (focus (with_reducible (first | assumption | omega)))) | ((with_reducible apply b_lenr); (focus (with_reducible ((repeat (refine (ms_ne (by first | assumption | exact Ne.symm (by assumption))).trans ?_)); first | with_reducible exact ms_same | assumption)))) | ((with_reducible apply b_listr); (focus (with_reducible ((repeat (refine (ms_ne (by first | assumption | exact Ne.symm (by assumption))).trans ?_)); first | with_reducible exact ms_same | assumption)))) | ((with_reducible apply b_tupr); (focus (with_reducible ((repeat (refine (ms_ne (by first | assumption | exact Ne.symm (by assumption))).trans ?_)); first | with_reducible exact ms_same | assumption)))) | ((with_reducible apply r_call); (focus (with_reducible (assumption)))) | ((with_reducible apply r_new); (focus (with_reducible (assumption)))) | ((with_reducible apply m_appT); (focus (with_reducible ((repeat (refine (ms_ne (by first | assumption | exact Ne.symm (by assumption))).trans ?_)); first | with_reducible exact ms_same | assumption)))) | with_reducible refine q_oeq ?_ | ((with_reducible apply r_exn); (focus (with_reducible (first | assumption | with_unfolding_all rfl)))) | ((with_reducible apply u_ref); (focus (with_reducible ((repeat (refine (ms_ne (by first | assumption | exact Ne.symm (by assumption))).trans ?_)); first | with_reducible exact ms_same | assumption)))) | ((with_reducible apply e_set); (focus (with_reducible ((repeat (refine (ms_ne (by first | assumption | exact Ne.symm (by assumption))).trans ?_)); first | with_reducible exact ms_same | assumption))); (focus (with_reducible (first | assumption | with_unfolding_all rfl)))) | ((with_reducible apply isi_b); (focus (with_reducible (with_unfolding_all rfl))); (focus (with_reducible (first | with_reducible rfl | with_reducible exact tb_NoneType_bool | with_reducible exact tb_NoneType_int | with_reducible exact tb_NoneType_str | with_reducible exact tb_NoneType_tuple | with_reducible exact tb_NoneType_list | with_reducible exact tb_bool_bool | with_reducible exact tb_bool_int | with_reducible exact tb_bool_str | with_reducible exact tb_bool_tuple | with_reducible exact tb_bool_list | with_reducible exact tb_int_bool | with_reducible exact tb_int_int | with_reducible exact tb_int_str | with_reducible exact tb_int_tuple | with_reducible exact tb_int_list | with_reducible exact tb_str_bool | with_reducible exact tb_str_int | with_reducible exact tb_str_str | with_reducible exact tb_str_tuple | with_reducible exact tb_str_list | with_reducible exact tb_tuple_bool | with_reducible exact tb_tuple_int | with_reducible exact tb_tuple_str | with_reducible exact tb_tuple_tuple | with_reducible exact tb_tuple_list | with_reducible exact tb_list_bool | with_reducible exact tb_list_int | with_reducible exact tb_list_str | with_reducible exact tb_list_tuple | with_reducible exact tb_list_list)))) | ((with_reducible apply c_len); (focus (with_reducible (first | assumption | exact Nat.le_of_ble_eq_true rfl)))) | (with_reducible refine t_nil ?_; dsimp only))))
theorem facts_sub : ∀ f ∈ D.fa, f ∈ facts := fun f h => List.mem_append_left _ h
theorem XA : XAll D D.xc inis := .cons rfl xt_BadName (.cons rfl xt_NameTaken (.cons rfl xt_NoPlain (.cons rfl xt_WrongCell .nil)))
theorem all {w : World} {K : PySem.W.Frag} {h : Heap} {mg : Str → Option Value} {f : Addr} (KX : K.In h) (Gn : h.Ns mainGlobals mg) (hmg : mg ("law" : Str) = some (.ref f)) (c : SaysN facts fns inis K) :
    ∃ fd : FuncData, (∀ (s : Shared) (v : Value), BindsTo s fd ⟨[v], []⟩ [("script", v)]) ∧ ∀ base : Heap, FnOk P w K mg base (L2.CX P w) 20 f fd ["script"] (liftP (D.G K) S_law) := by
  obtain ⟨fd, F⟩ := c.def_ (d := ⟨("law", none), "law", "law", defArgs st_law, defBody st_law, defScope st_law, [], []⟩) 12 rfl
  have Fn : Fun K "law" "law" st_law (ga K "law") fd := fun_of F
  have gl : ∀ x : Nf, x ∈ facts.drop D.fa.length → x ∈ facts := fun x hx => List.mem_of_mem_drop hx
  have gl2 : ∀ x : Nf, x ∈ [Nf.glo "valid_name", .glo "valid_cell", .glo "check_names", .glo "_law_start", .glo "_law_draw", .glo "_law_pick", .glo "_law_names", .glo "_law_pool", .glo "_law_same", .glo "_law_told", .glo "_law_made", .glo "_law_twice", .glo "law", .mkr "Choose", .mkr "Refuse", .mkr "Match", .mkr "Drop", .mkr "Prune",
      .sini "CellQuestion" P.main.file, .sini "Choose" P.main.file, .sini "Refuse" P.main.file, .sini "Match" P.main.file, .sini "Drop" P.main.file, .sini "Prune" P.main.file,
      .supr "Choose" "CellQuestion" "Question", .supr "Refuse" "CellQuestion" "Question", .supr "Choose" "Choose" "CellQuestion", .supr "Refuse" "Refuse" "CellQuestion", .supr "Match" "Match" "Question", .supr "Drop" "Drop" "Question", .supr "Prune" "Prune" "Question",
      .meth "Choose" "__eq__", .inh "Choose" "__eq__" "Question", .meth "Choose" "__str__", .inh "Choose" "__str__" "Question", .meth "Refuse" "__eq__", .inh "Refuse" "__eq__" "Question", .meth "Refuse" "__str__", .inh "Refuse" "__str__" "Question",
      .meth "Match" "__eq__", .inh "Match" "__eq__" "Question", .meth "Match" "__str__", .inh "Match" "__str__" "Question", .meth "Drop" "__eq__", .inh "Drop" "__eq__" "Question", .meth "Drop" "__str__", .inh "Drop" "__str__" "Question",
      .meth "Prune" "__eq__", .inh "Prune" "__eq__" "Question", .meth "Prune" "__str__", .inh "Prune" "__str__" "Question"] → x ∈ facts := fun x hx => List.mem_append_right _ (by
        simp only [List.mem_append, List.mem_cons, List.not_mem_nil, or_false] at hx ⊢
        rcases hx with h | h | h | h | h | h | h | h | h | h | h | h | h | h | h | h | h | h | h | h | h | h | h | h | h | h | h | h | h | h | h | h | h | h | h | h | h | h | h | h | h | h | h | h | h | h | h | h | h | h | h <;> subst h <;> simp)
  have e := hmg.symm.trans (glo_ok KX Gn (x := "law") (c.fact (f := .glo "law") (gl2 _ (by simp))))
  cases e
  refine ⟨fd, fun s v => FunD.bindsA (ps := ["script"]) F (bd_law _ _) s [v] rfl, fun base => ?_⟩
  have top : (P.main.scope.names.lookup ("super" : Str)).isSome = false := by decide +kernel
  have xn : ∀ c ∈ [i_BadName, i_NameTaken, i_WrongCell], D.Γ.xc c = some (some i_name) := by decide +kernel
  have fl5 : ∀ c ∈ insts, D.Γ.fld c i_text = true := by decide +kernel
  have fl2 : ∀ c ∈ [i_Choose, i_Refuse], ∀ f ∈ [i_column, i_cells, i_text], D.Γ.fld c f = true := by decide +kernel
  have fm : ∀ c ∈ [i_Match, i_Drop], ∀ f ∈ [i_columns, i_text], D.Γ.fld c f = true := by decide +kernel
  have fp : ∀ f ∈ [i_name, i_text], D.Γ.fld i_Prune f = true := by decide +kernel
  have kd5 : ∀ c ∈ insts, D.Γ.kd c = false := by decide +kernel
  have ia5 : ∀ c ∈ insts, D.Γ.isa c i_Question = some true := by decide +kernel
  have sib5 : ∀ c ∈ insts, ∀ d ∈ insts, c = d ∨ D.Γ.sib c d = true := by decide +kernel
  have g0 := gm_start (base := base) (w := w) (P := P) KX Gn c facts_sub D_ok XA rfl top 0
  have g1 := gm_def (n := i_valid_name) g0 rfl KX Gn c 0 rfl (gl2 _ (by simp)) rfl sc_valid_name (bd_valid_name _ _) ag_valid_name (w_valid rfl rfl rfl)
  have g2 := gm_def (n := i_valid_cell) g1 rfl KX Gn c 1 rfl (gl2 _ (by simp)) rfl sc_valid_cell (bd_valid_cell _ _) ag_valid_cell (w_vcell rfl)
  have g3 := gm_def (n := i_check_names) g2 rfl KX Gn c 2 rfl (gl2 _ (by simp)) rfl sc_check_names (bd_check_names _ _) ag_check_names (w_check ⟨rfl, rfl, xn⟩)
  have g4 := gm_def (n := i__law_start) g3 rfl KX Gn c 3 rfl (gl2 _ (by simp)) rfl sc__law_start (bd__law_start _ _) ag__law_start w_start
  have g5 := gm_def (n := i__law_draw) g4 rfl KX Gn c 4 rfl (gl2 _ (by simp)) rfl sc__law_draw (bd__law_draw _ _) ag__law_draw w_draw
  have g6 := gm_def (n := i__law_pick) g5 rfl KX Gn c 5 rfl (gl2 _ (by simp)) rfl sc__law_pick (bd__law_pick _ _) ag__law_pick (w_pick rfl)
  have g7 := gm_def (n := i__law_names) g6 rfl KX Gn c 6 rfl (gl2 _ (by simp)) rfl sc__law_names (bd__law_names _ _) ag__law_names (w_names rfl rfl rfl)
  have g8 := gm_def (n := i__law_pool) g7 rfl KX Gn c 7 rfl (gl2 _ (by simp)) rfl sc__law_pool (bd__law_pool _ _) ag__law_pool (w_pool rfl)
  have g9 := gm_rec (n := i__law_same) g8 rfl KX Gn c 8 rfl (gl2 _ (by simp)) rfl sc__law_same (bd__law_same _ _) ag__law_same (fun xs M Q E q => by
    obtain ⟨x, _, q, _⟩ := q
    cases q) (fun d => w_same rfl d) 4
  have g10 := gm_defH (n := i__law_told) g9 KX Gn c 9 rfl (gl2 _ (by simp)) rfl sc__law_told (bd__law_told _ _) ag__law_told (w_told ⟨(by decide +kernel : ∀ c ∈ xs4, D.Γ.kd c = true), (by decide +kernel : ∀ c ∈ xs4, ∀ d ∈ xs4, D.Γ.isa c d = some (decide (c = d))), (by decide +kernel : ∀ c ∈ xs4, D.Γ.xfl c i_name = true)⟩)
  have g11 := gm_def (n := i__law_twice) g10 rfl KX Gn c 11 rfl (gl2 _ (by simp)) rfl sc__law_twice (bd__law_twice _ _) ag__law_twice w_twice
  have FQ := fnr_def (S := S_qinit) g11 rfl c 13 rfl sc_Question___init__ (bd_Question___init__ _ _) ag_Question___init__ (w_qinit fl5)
  have FE := fnr_def (S := S_eq) g11 rfl c 14 rfl sc_Question___eq__ (bd_Question___eq__ _ _) ag_Question___eq__ (w_eq kd5 (by decide +kernel : (D.Γ.isa i_Question i_Question).isSome = true) ia5 fl5)
  have FS := fnr_def (S := S_str) g11 rfl c 15 rfl sc_Question___str__ (bd_Question___str__ _ _) ag_Question___str__ (w_str fl5)
  have FC := fnr_sup (S := S_cinit) (g11.mono (Nat.le_succ _)) rfl KX Gn c facts_sub top 4 rfl (gl2 _ (by simp)) su_CellQuestion___init__ (by decide) ag_CellQuestion___init__ ae_CellQuestion___init__ (by decide) (supOk_of c (x := "CellQuestion") [i_Choose, i_Refuse] (by
    intro d hd
    simp only [List.mem_cons, List.not_mem_nil, or_false] at hd
    rcases hd with rfl | rfl
    · exact ⟨by decide +kernel, gl2 (.supr "Choose" "CellQuestion" "Question") (by simp)⟩
    · exact ⟨by decide +kernel, gl2 (.supr "Refuse" "CellQuestion" "Question") (by simp)⟩) FQ) (w_cinit ⟨rfl, rfl, rfl, xn, fl2⟩)
  have F1 := fnr_sup (S := S_cq i_Choose (Str.ofString "=")) ((g11.mono (Nat.le_succ _)).mono (Nat.le_succ _)) rfl KX Gn c facts_sub top 5 rfl (gl2 _ (by simp)) su_Choose___init__ (by decide) ag_Choose___init__ ae_Choose___init__ (by decide) (supOk_of c (x := "Choose") [i_Choose] (by
    intro d hd
    rw [List.mem_singleton.mp hd]
    exact ⟨by decide +kernel, gl2 (.supr "Choose" "Choose" "CellQuestion") (by simp)⟩) FC) w_choose
  have F2 := fnr_sup (S := S_cq i_Refuse (Str.ofString "!")) ((g11.mono (Nat.le_succ _)).mono (Nat.le_succ _)) rfl KX Gn c facts_sub top 6 rfl (gl2 _ (by simp)) su_Refuse___init__ (by decide) ag_Refuse___init__ ae_Refuse___init__ (by decide) (supOk_of c (x := "Refuse") [i_Refuse] (by
    intro d hd
    rw [List.mem_singleton.mp hd]
    exact ⟨by decide +kernel, gl2 (.supr "Refuse" "Refuse" "CellQuestion") (by simp)⟩) FC) w_refuse
  have mt : MtG (((((((((((D.Γ.add i_valid_name S_valid).add i_valid_cell S_vcell).add i_check_names S_check).add i__law_start S_start).add i__law_draw S_draw).add i__law_pick S_pick).add i__law_names S_names).add i__law_pool S_pool).add i__law_same (S_same 4)).addH i__law_told S_told).add i__law_twice S_twice) := ⟨rfl, rfl, rfl, fm, fp⟩
  have F3 := fnr_sup (S := S_match) (g11.mono (Nat.le_succ _)) rfl KX Gn c facts_sub top 7 rfl (gl2 _ (by simp)) su_Match___init__ (by decide) ag_Match___init__ ae_Match___init__ (by decide) (supOk_of c (x := "Match") [i_Match] (by
    intro d hd
    rw [List.mem_singleton.mp hd]
    exact ⟨by decide +kernel, gl2 (.supr "Match" "Match" "Question") (by simp)⟩) FQ) (w_match mt)
  have F4 := fnr_sup (S := S_drop) (g11.mono (Nat.le_succ _)) rfl KX Gn c facts_sub top 8 rfl (gl2 _ (by simp)) su_Drop___init__ (by decide) ag_Drop___init__ ae_Drop___init__ (by decide) (supOk_of c (x := "Drop") [i_Drop] (by
    intro d hd
    rw [List.mem_singleton.mp hd]
    exact ⟨by decide +kernel, gl2 (.supr "Drop" "Drop" "Question") (by simp)⟩) FQ) (w_drop mt)
  have F5 := fnr_sup (S := S_prune) (g11.mono (Nat.le_succ _)) rfl KX Gn c facts_sub top 9 rfl (gl2 _ (by simp)) su_Prune___init__ (by decide) ag_Prune___init__ ae_Prune___init__ (by decide) (supOk_of c (x := "Prune") [i_Prune] (by
    intro d hd
    rw [List.mem_singleton.mp hd]
    exact ⟨by decide +kernel, gl2 (.supr "Prune" "Prune" "Question") (by simp)⟩) FQ) (w_prune mt)
  have g12 := gm_ini (cI := i_Choose) (g11.mono (by omega)) rfl KX Gn c facts_sub (gl2 (.mkr "Choose") (by simp)) rfl rfl F1
  have g13 := gm_ini (cI := i_Refuse) g12 rfl KX Gn c facts_sub (gl2 (.mkr "Refuse") (by simp)) rfl rfl F2
  have g14 := gm_ini (cI := i_Match) g13 rfl KX Gn c facts_sub (gl2 (.mkr "Match") (by simp)) rfl rfl (F3.mono (by omega))
  have g15 := gm_ini (cI := i_Drop) g14 rfl KX Gn c facts_sub (gl2 (.mkr "Drop") (by simp)) rfl rfl (F4.mono (by omega))
  have g16 := gm_ini (cI := i_Prune) g15 rfl KX Gn c facts_sub (gl2 (.mkr "Prune") (by simp)) rfl rfl (F5.mono (by omega))
  have g17 := gm_eqI (cI := i_Choose) (x := "Choose") (y := "Question") g16 rfl c facts_sub (gl2 (.meth "Choose" "__eq__") (by simp)) (gl2 (.inh "Choose" "__eq__" "Question") (by simp)) rfl rfl (FE.mono (by omega))
  have g18 := gm_eqI (cI := i_Refuse) (x := "Refuse") (y := "Question") g17 rfl c facts_sub (gl2 (.meth "Refuse" "__eq__") (by simp)) (gl2 (.inh "Refuse" "__eq__" "Question") (by simp)) rfl rfl (FE.mono (by omega))
  have g19 := gm_eqI (cI := i_Match) (x := "Match") (y := "Question") g18 rfl c facts_sub (gl2 (.meth "Match" "__eq__") (by simp)) (gl2 (.inh "Match" "__eq__" "Question") (by simp)) rfl rfl (FE.mono (by omega))
  have g20 := gm_eqI (cI := i_Drop) (x := "Drop") (y := "Question") g19 rfl c facts_sub (gl2 (.meth "Drop" "__eq__") (by simp)) (gl2 (.inh "Drop" "__eq__" "Question") (by simp)) rfl rfl (FE.mono (by omega))
  have g21 := gm_eqI (cI := i_Prune) (x := "Prune") (y := "Question") g20 rfl c facts_sub (gl2 (.meth "Prune" "__eq__") (by simp)) (gl2 (.inh "Prune" "__eq__" "Question") (by simp)) rfl rfl (FE.mono (by omega))
  have g22 := gm_stI (cI := i_Choose) (x := "Choose") (y := "Question") g21 rfl c facts_sub (gl2 (.meth "Choose" "__str__") (by simp)) (gl2 (.inh "Choose" "__str__" "Question") (by simp)) rfl rfl (FS.mono (by omega))
  have g23 := gm_stI (cI := i_Refuse) (x := "Refuse") (y := "Question") g22 rfl c facts_sub (gl2 (.meth "Refuse" "__str__") (by simp)) (gl2 (.inh "Refuse" "__str__" "Question") (by simp)) rfl rfl (FS.mono (by omega))
  have g24 := gm_stI (cI := i_Match) (x := "Match") (y := "Question") g23 rfl c facts_sub (gl2 (.meth "Match" "__str__") (by simp)) (gl2 (.inh "Match" "__str__" "Question") (by simp)) rfl rfl (FS.mono (by omega))
  have g25 := gm_stI (cI := i_Drop) (x := "Drop") (y := "Question") g24 rfl c facts_sub (gl2 (.meth "Drop" "__str__") (by simp)) (gl2 (.inh "Drop" "__str__" "Question") (by simp)) rfl rfl (FS.mono (by omega))
  have g26 := gm_stI (cI := i_Prune) (x := "Prune") (y := "Question") g25 rfl c facts_sub (gl2 (.meth "Prune" "__str__") (by simp)) (gl2 (.inh "Prune" "__str__" "Question") (by simp)) rfl rfl (FS.mono (by omega))
  have g27 := gm_def (n := i__law_made) g26 rfl KX Gn c 10 rfl (gl2 _ (by simp)) rfl sc__law_made (bd__law_made _ _) ag__law_made (w_made ⟨rfl, rfl, rfl, rfl, rfl, rfl, rfl, ⟨(by decide +kernel : ∀ c ∈ xs4, D.Γ.exm c i_NestError = some true), rfl⟩, fl5, (by
    intro d hd
    simp only [insts, List.mem_cons, List.not_mem_nil, or_false] at hd
    rcases hd with rfl | rfl | rfl | rfl | rfl <;> rfl)⟩)
  exact FnOk.of (fn_sound Fn sc_law g27 rfl rfl ag_law) (w_law ⟨rfl, rfl, rfl, rfl, rfl, rfl, rfl, rfl, rfl, rfl, rfl, rfl, rfl, rfl, fl2, fm, fp, kd5, ⟨by decide +kernel, by decide +kernel, by decide +kernel, by decide +kernel, by decide +kernel⟩, (by
    intro d hd
    simp only [insts, List.mem_cons, List.not_mem_nil, or_false] at hd
    rcases hd with rfl | rfl | rfl | rfl | rfl <;> rfl), sib5⟩)
end K13
open PySem PySem.W PySem.Calls PyProof.Rows
set_option maxRecDepth 100000 in
set_option maxHeartbeats 8000000 in
theorem PySem.Challenge.cw_nestedrules_k13_question_forms_holds : PySem.Challenge.rw_nestedrules_k13_question_forms.Holds := by
  w_on; o_law
  refine HandSHeadRun.head_any (r := OpenLaw.row PySem.Challenge.rw_nestedrules_k13_question_forms) (q := view (OpenLaw.row PySem.Challenge.rw_nestedrules_k13_question_forms).prog [K13.lawAt]) (H := K13.hk) (ob := K13.ob) (M := 60000) (loose := K13.others) (d := HandSHeadRun.topDef (OpenLaw.row PySem.Challenge.rw_nestedrules_k13_question_forms).prog K13.lawAt) (kwd := []) K13.ob_eq
    (by kernel_rfl) (fun s => by kernel_rfl) K13.run (by kernel_rfl) (by kernel_rfl) (by kernel_rfl) (by rfl) (by first | assumption | decide +kernel) (by decide +kernel) ⟨rfl, rfl, rfl, rfl, rfl, by decide +kernel⟩ ?hw ?hc
  case hw => w_witness2
  case hc =>
    refine Nb.walkW (l := PySem.Challenge.rw_nestedrules_k13_question_forms) (n := 63) (k := 20) (x := "script") rfl (by decide) (by kernel_rfl) ⟨rfl, by decide, by decide⟩ ?F
    intro w mg fa h Y G hmg0
    obtain ⟨K, KX, c⟩ := Y
    have hmg : mg ("law" : PySem.Str) = some (.ref fa) := by
      have e : (HandSHeadRun.topDef (OpenLaw.row PySem.Challenge.rw_nestedrules_k13_question_forms).prog K13.lawAt).name = ("law" : PySem.Str) := by kernel_rfl
      rw [← e]
      exact hmg0
    obtain ⟨fd, hb, hF⟩ := K13.all (w := w) KX G hmg c
    exact ⟨K, fd, K13.D.G K, K13.S_law, KX, rfl, hb, fun ns _ => ⟨ns, rfl, rfl, fun _ => rfl⟩, fun base _ _ => hF base⟩
