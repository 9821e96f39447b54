import PyProof.Rows.All
import Wide.All
import OpenK.AllK
import Wide.FinOn
import KE.KStateDown
import Lean
import HandS.ForMost
import HandS.ForExc
import HandS.Evl
import HandS.IsInst
import HandS.Wide
import HandS.Defaults
import HandS.Conv
import HandS.Head0
import HandS.Head1
import HandS.Head2
import HandS.HeadEnd
import HandS.HeadHook1
import HandS.HeadHook2
import HandS.Star
import HandS.Deep
import HandS.Style
import KE.KExcSuper
import HandS.ExcInit
import HandS.ExcField
import HandS.ExcIs
import HandS.HotCalls
import KE.KExcIs
import HandS.Property
import HandS.ForDict
import HandS.Text
import HandS.RaiseMore
import KE.GoesMore
import HandS.Conv
import HandS.IterVal
import HandS.ClsMeth
import HandS.OwnIter
import HandS.CallLocal
import HandS.TupLen
import HandS.DictComp
import HandS.MakeKwOnly
import KE.KDictDisplayH
import PyProof.Rows.StrMul
import PyProof.StrLawsIn
import KE.DataMinMax
import PyProof.Rows.SetFrom
import HandS.SetFor
import HandS.Strs
import HandS.Comp
import KE.KDictCopyH
import KE.KDictOf
import KE.KRevSl
import HandS.TupAny
import KE.KOpsOwn
import HandS.GenList
import OpenK.KMore
import PyProof.Rows.SortShellAny
import HandS.FStr
import PyProof.FString3
import PyProof.Rows.StrIntSpec
import PyProof.StrBlock
import PyProof.Rows.Range3
import PyProof.Conv_bool
import OpenK.KOps
import PyProof.Rows.TupMore
import PySem.Challenge.RW_murmurline_k04_table_truths
set_option Elab.async false
set_option linter.all false
set_option maxRecDepth 100000
set_option maxHeartbeats 4000000

namespace Mu
open PySem PySem.Spec PyProof.Rows L2 He
def neB (K : PySem.W.Frag) (C : Addr) : Bool := decide (PySem.W.findIn K (.ref C) "__ne__" = some (some (.builtin "object.__ne__"))) && decide (PySem.W.subIn K (.ref C) (.type "object") = some true)
abbrev FactB := PySem.W.Frag → Bool
def obsM (fa : List Fa) (ex : List FactB) (fn : List DefD) (K : PySem.W.Frag) : AlD := (((fa.all fun f => f.ok K) && ex.all fun f => f K) && fn.all fun d => d.ok K, fn.map fun d => fnW K d.at_)
def SaysM (fa : List Fa) (ex : List FactB) (fn : List DefD) (K : PySem.W.Frag) : Prop := obsM fa ex fn K = valD fn
abbrev FnS : Type := Option (Str × Str × Arguments × FuncBody × Scope × Addr × List Str × Addr)
def fnS (K : PySem.W.Frag) (p : Str × Option Str) : FnS := match K.lookup (fAd K p) with
  | some ⟨_, _, .func fd, _⟩ => some (fd.name, fd.qualname, fd.params, fd.body, fd.scope, fd.globals, fd.closure.map (·.1), fd.builtins)
  | _ => none
structure DefS where
  at_ : Str × Option Str
  name : Str
  qual : Str
  params : Arguments
  body : List Stmt
  scope : Scope
  cls : Str
  file : Str
def DefS.val (d : DefS) : FnS := some (d.name, d.qual, d.params, .stmts d.body, d.scope, mainGlobals, [("__class__" : Str)], builtinsNs)
def cellB (K : PySem.W.Frag) (cc D : Addr) : Bool := match K.lookup cc with
  | some ⟨_, _, .cell (some (.ref d)), _⟩ => d == D
  | _ => false
def fileB (K : PySem.W.Frag) (cda : Addr) (file : Str) : Bool := match K.lookup cda with
  | some ⟨_, _, .fields vs, _⟩ => (match (vs[2]? : Option Value) with | some (Value.str x _) => x == file | _ => false)
  | _ => false
def supB (K : PySem.W.Frag) (q : Str) (D : Addr) (file : Str) (cl : List (Str × Addr)) (cd : Value) : Bool := match cl, cd with
  | [(_, cc)], .ref cda => PySem.W.codeIn K (.ref cda) q && (cellB K cc D && fileB K cda file)
  | _, _ => false
def DefS.ok (K : PySem.W.Frag) (d : DefS) : Bool := PySem.W.keepIn K (.ref (fAd K d.at_)) && ((PySem.W.clsIn K (ga K d.cls)).isSome && (decide (PySem.W.nsIn K cStatics "thirdparty.any" = some none) && (match K.lookup (fAd K d.at_) with
  | some ⟨_, _, .func fd, _⟩ => decide (fd.defaults = Value.none) && supB K d.qual (ga K d.cls) d.file fd.closure fd.code
  | _ => false)))
abbrev AlS : Type := Bool × List FnW × List FnS
def obsS (fa : List Fa) (ex : List FactB) (fn : List DefD) (sn : List DefS) (K : PySem.W.Frag) : AlS := ((((fa.all fun f => f.ok K) && ex.all fun f => f K) && fn.all fun d => d.ok K) && sn.all fun d => d.ok K, fn.map fun d => fnW K d.at_, sn.map fun d => fnS K d.at_)
def valS (fn : List DefD) (sn : List DefS) : AlS := (true, fn.map DefD.val, sn.map DefS.val)
def SaysS (fa : List Fa) (ex : List FactB) (fn : List DefD) (sn : List DefS) (K : PySem.W.Frag) : Prop := obsS fa ex fn sn K = valS fn sn
def isCB (K : PySem.W.Frag) (C : Addr) : Bool := He.eqO (PySem.W.findIn K (.ref C) "__class__") (some (some (.builtin "object.__class__"))) && (He.eqO (PySem.W.specialIn K (.builtin "object.__class__") "__get__") (some (some (.builtin "getset_descriptor.__get__"))) &&
  (decide (PySem.W.takesIn K (.builtin "object.__class__") = some true) && decide (PySem.W.mroIn K C (.type "object") = some true)))
def oexB (K : PySem.W.Frag) (C : Addr) : Bool := (match K.lookup C with
  | some ⟨.type "type", _, .cls cd, sl⟩ => (match cd.mro, sl.toList with
    | .ref C' :: bm, [_, _, _, _, some (.builtin n), _] => C' == C && (n == "ValueError.__new__" && (!cd.hasDel && (cd.hasDict && PySem.HandSPX.refsVE bm)))
    | _, _ => false)
  | _ => false) && (He.eqO (PySem.W.findIn K (.ref C) "__setattr__") (some (some (.builtin "object.__setattr__"))) && (decide (PySem.W.subIn K (.ref C) (.type "BaseException") = some true) && (decide (PySem.W.typeIn K (.ref C) = some (.type "type")) && PySem.W.keepIn K (.ref C))))
def errB (K : PySem.W.Frag) (C fI : Addr) : Bool := oexB K C && (He.eqO (PySem.W.findIn K (.ref C) "__init__") (some (some (.ref fI))) && (decide (PySem.W.typeIn K (.ref fI) = some (.type "function")) && (decide (PySem.W.mroIn K C (.ref C) = some true) && (He.eqO (PySem.W.ks_superIn K C C "__init__") (some (some (.builtin "ValueError.__init__"))) &&
  (decide (PySem.W.subIn K (.ref C) (.type "ValueError") = some true) && (xfB K C && (He.eqO (PySem.W.findIn K (.ref C) "__class__") (some (some (.builtin "object.__class__"))) && (He.eqO (PySem.W.specialIn K (.builtin "object.__class__") "__get__") (some (some (.builtin "getset_descriptor.__get__"))) &&
  (decide (PySem.W.takesIn K (.builtin "object.__class__") = some true) && decide (PySem.W.mroIn K C (.type "object") = some true))))))))))
def pAd (K : PySem.W.Frag) (c f : Str) (T : String) : Addr := match PySem.W.findIn K (.ref (ga K c)) f with
  | some (some (.ref p)) => (match PySem.W.recIn K p T with
    | some (.ref g :: _) => g
    | _ => 0)
  | _ => 0
structure DefA where
  at_ : PySem.W.Frag → Addr
  name : Str
  qual : Str
  params : Arguments
  body : List Stmt
  scope : Scope
def fnA (K : PySem.W.Frag) (a : Addr) : FnW := match K.lookup a with
  | some ⟨_, _, .func fd, _⟩ => some (fd.name, fd.qualname, fd.params, fd.body, fd.scope, fd.globals, fd.closure, fd.builtins)
  | _ => none
def DefA.val (d : DefA) : FnW := some (d.name, d.qual, d.params, .stmts d.body, d.scope, mainGlobals, [], builtinsNs)
def DefA.ok (K : PySem.W.Frag) (d : DefA) : Bool := PySem.W.keepIn K (.ref (d.at_ K)) && (match K.lookup (d.at_ K) with
  | some ⟨_, _, .func fd, _⟩ => PySem.W.codeIn K fd.code d.qual && (dflB K fd.defaults [] && kwdB K fd.kwdefaults [])
  | _ => false)
abbrev AlP : Type := Bool × List FnW × List FnS × List FnW
def obsP (fa : List Fa) (ex : List FactB) (fn : List DefD) (sn : List DefS) (an : List DefA) (K : PySem.W.Frag) : AlP := (((((fa.all fun f => f.ok K) && ex.all fun f => f K) && fn.all fun d => d.ok K) && sn.all fun d => d.ok K) && an.all fun d => d.ok K, fn.map fun d => fnW K d.at_, sn.map fun d => fnS K d.at_, an.map fun d => fnA K (d.at_ K))
def valP (fn : List DefD) (sn : List DefS) (an : List DefA) : AlP := (true, fn.map DefD.val, sn.map DefS.val, an.map DefA.val)
def SaysP (fa : List Fa) (ex : List FactB) (fn : List DefD) (sn : List DefS) (an : List DefA) (K : PySem.W.Frag) : Prop := obsP fa ex fn sn an K = valP fn sn an
def propB (K : PySem.W.Frag) (C : Addr) (f : Str) (g : Addr) : Bool := match PySem.W.findIn K (.ref C) f with
  | some (some (.ref p)) => eqO (PySem.W.specialIn K (.ref p) "__get__") (some (some (.builtin "property.__get__"))) && (decide (PySem.W.takesIn K (.ref p) = some true) && (match PySem.W.recIn K p "property" with
    | some (.ref g' :: _) => g' == g
    | _ => false))
  | _ => false
def refQ (g : Addr → Option Obj) (a : Addr) : List Addr := match g a with
  | some o => refsD o
  | none => []
def lvA (g : Addr → Option Obj) (nm : List Str) : List Addr := nm.map (ga (frG g [mainGlobals]))
def lvB (g : Addr → Option Obj) (l1 : List Addr) : List Addr := (l1 ++ l1.flatMap (refQ g)).eraseDups
def lvC (g : Addr → Option Obj) (l2 : List Addr) (ds : List (Str × Option Str)) : List Addr := ds.map (fAd (frG g (mainGlobals :: l2)))
def refT (g : Addr → Option Obj) (l : List Addr) : List Addr := l.flatMap (refQ g)
def conT1 (g : Addr → Option Obj) (l2 lc lr : List Addr) : List Addr := mainGlobals :: cStatics :: (l2 ++ (lc ++ (lr ++ refT g lr)))
def conT2 (g : Addr → Option Obj) (l2 lc : List Addr) : List Addr := conT1 g l2 lc (refT g lc)
def conT3 (g : Addr → Option Obj) (ds : List (Str × Option Str)) (l2 : List Addr) : List Addr := conT2 g l2 (lvC g l2 ds)
def conT (nm : List Str) (ds : List (Str × Option Str)) (g : Addr → Option Obj) : List Addr := conT3 g ds (lvB g (lvA g nm))
def hookPT (nm : List Str) (ds : List (Str × Option Str)) (fa : List Fa) (ex : List FactB) (fn : List DefD) (sn : List DefS) (an : List DefA) : PySem.W.Hook where
  α := AlP
  obs := fun s => obsP fa ex fn sn an (frG s.heap.get? (conT nm ds s.heap.get?))
  val := fun _ => valP fn sn an
  says := fun _ h => ∃ K : PySem.W.Frag, K.In h ∧ SaysP fa ex fn sn an K
  of := fun _ _ e => ⟨_, frG_in, e⟩
  keeps := fun _ _ _ ⟨K, hK, c⟩ k => ⟨K, PySem.W.Frag.In.keeps hK k, c⟩
def obsPT (nm : List Str) (ds : List (Str × Option Str)) (fa : List Fa) (ex : List FactB) (fn : List DefD) (sn : List DefS) (an : List DefA) (g : Addr → Option Obj) : AlP := obsP fa ex fn sn an (frG g (conT nm ds g))
theorem obsPT_eq {nm : List Str} {ds : List (Str × Option Str)} {fa : List Fa} {ex : List FactB} {fn : List DefD} {sn : List DefS} {an : List DefA} {g : Addr → Option Obj} {s : Shared} (h : ∀ a, g a = s.heap.get? a) : obsPT nm ds fa ex fn sn an g = (hookPT nm ds fa ex fn sn an).obs s := by
  have e : g = s.heap.get? := funext h
  rw [e] <;> rfl
end Mu

namespace MuL
open PySem PySem.Spec PyProof.Rows L2 He Evl Mu
def top (i : Nat) : Stmt := PySem.Challenge.pw_murmurline_k04_table_truths.main.body.getD i (.Pass ⟨0, 0, 0, 0⟩)
abbrev s_bits : Stmt := top 8
abbrev s_mask_of : Stmt := top 9
abbrev s_masks_of : Stmt := top 10
abbrev s_check_size : Stmt := top 18
abbrev s_Table___init__ : Stmt := inClass (top 24) 1
abbrev s_Table_rows : Stmt := inClass (top 24) 6
abbrev s_check_word : Stmt := top 19
abbrev s_written : Stmt := top 22
abbrev s_Table___len__ : Stmt := inClass (top 24) 15
abbrev s_Table___bool__ : Stmt := inClass (top 24) 16
abbrev s_Table_total : Stmt := inClass (top 24) 9
abbrev s_Table_certain : Stmt := inClass (top 24) 10
abbrev s_Table___str__ : Stmt := inClass (top 24) 17
abbrev s_Table___repr__ : Stmt := inClass (top 24) 18
abbrev s_Table___eq__ : Stmt := inClass (top 24) 19
abbrev s_Table___contains__ : Stmt := inClass (top 24) 13
abbrev s__law_box : Stmt := top 29
abbrev s__law_take : Stmt := top 30
abbrev s__law_words : Stmt := top 31
abbrev s__law_rows : Stmt := top 32
abbrev s__law_far : Stmt := top 33
abbrev s__law_is : Stmt := top 27
abbrev s__law_pairs : Stmt := top 28
abbrev s__law_entry : Stmt := top 34
abbrev s__law_members : Stmt := top 35
abbrev s__law_unlike : Stmt := top 36
abbrev s_law : Stmt := top 37
abbrev s_UnknownWord___init__ : Stmt := inClass (top 5) 0
def d_Table_total : Mu.DefA := ⟨fun K => Mu.pAd K "Table" "total" "property", "total", "Table.total", defArgs s_Table_total, defBody s_Table_total, defScope s_Table_total⟩
def d_Table_certain : Mu.DefA := ⟨fun K => Mu.pAd K "Table" "certain" "property", "certain", "Table.certain", defArgs s_Table_certain, defBody s_Table_certain, defScope s_Table_certain⟩
def d_bits : He.DefD := ⟨("bits", none), "bits", "bits", defArgs s_bits, defBody s_bits, defScope s_bits, [], []⟩
def d_mask_of : He.DefD := ⟨("mask_of", none), "mask_of", "mask_of", defArgs s_mask_of, defBody s_mask_of, defScope s_mask_of, [], []⟩
def d_masks_of : He.DefD := ⟨("masks_of", none), "masks_of", "masks_of", defArgs s_masks_of, defBody s_masks_of, defScope s_masks_of, [], []⟩
def d_check_size : He.DefD := ⟨("check_size", none), "check_size", "check_size", defArgs s_check_size, defBody s_check_size, defScope s_check_size, [], []⟩
def d_Table___init__ : He.DefD := ⟨("Table", some "__init__"), "__init__", "Table.__init__", defArgs s_Table___init__, defBody s_Table___init__, defScope s_Table___init__, [], []⟩
def d_Table_rows : He.DefD := ⟨("Table", some "rows"), "rows", "Table.rows", defArgs s_Table_rows, defBody s_Table_rows, defScope s_Table_rows, [], []⟩
def d_check_word : He.DefD := ⟨("check_word", none), "check_word", "check_word", defArgs s_check_word, defBody s_check_word, defScope s_check_word, [], []⟩
def d_written : He.DefD := ⟨("written", none), "written", "written", defArgs s_written, defBody s_written, defScope s_written, [], []⟩
def d_Table___len__ : He.DefD := ⟨("Table", some "__len__"), "__len__", "Table.__len__", defArgs s_Table___len__, defBody s_Table___len__, defScope s_Table___len__, [], []⟩
def d_Table___bool__ : He.DefD := ⟨("Table", some "__bool__"), "__bool__", "Table.__bool__", defArgs s_Table___bool__, defBody s_Table___bool__, defScope s_Table___bool__, [], []⟩
def d_Table___str__ : He.DefD := ⟨("Table", some "__str__"), "__str__", "Table.__str__", defArgs s_Table___str__, defBody s_Table___str__, defScope s_Table___str__, [], []⟩
def d_Table___repr__ : He.DefD := ⟨("Table", some "__repr__"), "__repr__", "Table.__repr__", defArgs s_Table___repr__, defBody s_Table___repr__, defScope s_Table___repr__, [], []⟩
def d_Table___eq__ : He.DefD := ⟨("Table", some "__eq__"), "__eq__", "Table.__eq__", defArgs s_Table___eq__, defBody s_Table___eq__, defScope s_Table___eq__, [], []⟩
def d_Table___contains__ : He.DefD := ⟨("Table", some "__contains__"), "__contains__", "Table.__contains__", defArgs s_Table___contains__, defBody s_Table___contains__, defScope s_Table___contains__, [], []⟩
def d__law_box : He.DefD := ⟨("_law_box", none), "_law_box", "_law_box", defArgs s__law_box, defBody s__law_box, defScope s__law_box, [], []⟩
def d__law_take : He.DefD := ⟨("_law_take", none), "_law_take", "_law_take", defArgs s__law_take, defBody s__law_take, defScope s__law_take, [], []⟩
def d__law_words : He.DefD := ⟨("_law_words", none), "_law_words", "_law_words", defArgs s__law_words, defBody s__law_words, defScope s__law_words, [], []⟩
def d__law_rows : He.DefD := ⟨("_law_rows", none), "_law_rows", "_law_rows", defArgs s__law_rows, defBody s__law_rows, defScope s__law_rows, [], []⟩
def d__law_far : He.DefD := ⟨("_law_far", none), "_law_far", "_law_far", defArgs s__law_far, defBody s__law_far, defScope s__law_far, [], []⟩
def d__law_is : He.DefD := ⟨("_law_is", none), "_law_is", "_law_is", defArgs s__law_is, defBody s__law_is, defScope s__law_is, [], []⟩
def d__law_pairs : He.DefD := ⟨("_law_pairs", none), "_law_pairs", "_law_pairs", defArgs s__law_pairs, defBody s__law_pairs, defScope s__law_pairs, [], []⟩
def d__law_entry : He.DefD := ⟨("_law_entry", none), "_law_entry", "_law_entry", defArgs s__law_entry, defBody s__law_entry, defScope s__law_entry, [], []⟩
def d__law_members : He.DefD := ⟨("_law_members", none), "_law_members", "_law_members", defArgs s__law_members, defBody s__law_members, defScope s__law_members, [], []⟩
def d__law_unlike : He.DefD := ⟨("_law_unlike", none), "_law_unlike", "_law_unlike", defArgs s__law_unlike, defBody s__law_unlike, defScope s__law_unlike, [], []⟩
def d_law : He.DefD := ⟨("law", none), "law", "law", defArgs s_law, defBody s_law, defScope s_law, [], []⟩
def d_UnknownWord___init__ : Mu.DefS := ⟨("UnknownWord", some "__init__"), "__init__", "UnknownWord.__init__", defArgs s_UnknownWord___init__, defBody s_UnknownWord___init__, defScope s_UnknownWord___init__, "UnknownWord", "/claim/cut.py"⟩
def fa : List He.Fa := [.glo "Table", .cls "Table", .cls "Table", .noat "Table" "size", .noat "Table" "masks", .noat "Table" "cells", .glo "bits", .glo "mask_of", .glo "masks_of", .glo "check_size", .mkr "Table", .meth "Table" "rows", .glo "check_word", .glo "written", .meth "Table" "__len__", .meth "Table" "__bool__", .meth "Table" "__str__", .meth "Table" "__repr__", .meth "Table" "__eq__", .meth "Table" "__contains__", .glo "_law_box", .glo "_law_take", .glo "_law_words", .glo "_law_rows", .glo "_law_far", .glo "_law_is", .glo "_law_pairs", .glo "_law_entry", .glo "_law_members", .glo "_law_unlike", .glo "law", .free "super", .glo "UnknownWord", .free "len", .free "range", .free "tuple", .free "list", .free "int", .free "abs", .free "enumerate", .free "isinstance", .free "bool", .free "str", .free "iter", .free "ValueError", .free "repr", .int "GREATEST_SIZE" 6]
def ex : List Mu.FactB := [(fun K => Mu.isCB K (ga K "Table")), (fun K => PySem.W.selfFirst K (ga K "Table")), (fun K => Mu.propB K (ga K "Table") "total" (Mu.pAd K "Table" "total" "property")), (fun K => Mu.propB K (ga K "Table") "certain" (Mu.pAd K "Table" "certain" "property")), (fun K => Mu.errB K (ga K "UnknownWord") (fAd K ("UnknownWord", some "__init__"))), (fun K => He.eqO (PySem.W.findIn K (.ref (ga K "UnknownWord")) "word") (some none)), (fun K => decide (PySem.W.exmOne K (.ref (ga K "UnknownWord")) (.ref (ga K "UnknownWord")) = some true)), (fun K => decide (PySem.W.kitOne K (.type "list") (.ref (ga K "Table")) = some false)), (fun K => decide (PySem.W.kitOne K (.type "tuple") (.ref (ga K "Table")) = some false)), (fun K => decide (PySem.W.kitOne K (.type "str") (.ref (ga K "Table")) = some false)), (fun K => decide (PySem.W.kitOne K (.type "int") (.ref (ga K "Table")) = some false)), (fun K => decide (PySem.W.kitOne K (.type "NoneType") (.ref (ga K "Table")) = some false)), (fun K => Mu.neB K (ga K "Table"))]
def fn : List He.DefD := [d_bits, d_mask_of, d_masks_of, d_check_size, d_Table___init__, d_Table_rows, d_check_word, d_written, d_Table___len__, d_Table___bool__, d_Table___str__, d_Table___repr__, d_Table___eq__, d_Table___contains__, d__law_box, d__law_take, d__law_words, d__law_rows, d__law_far, d__law_is, d__law_pairs, d__law_entry, d__law_members, d__law_unlike, d_law]
def sn : List Mu.DefS := [d_UnknownWord___init__]
def an : List Mu.DefA := [d_Table_total, d_Table_certain]
end MuL

set_option maxHeartbeats 0
namespace MuL
open PySem PySem.Spec PyProof.Rows L2 He Evl Mu
def nm0 : List Str := ["Table", "bits", "mask_of", "masks_of", "check_size", "check_word", "written", "_law_box", "_law_take", "_law_words", "_law_rows", "_law_far", "_law_is", "_law_pairs", "_law_entry", "_law_members", "_law_unlike", "law", "UnknownWord", "MurmurError"]
def nm : List Str := nm0
def ds0 : List (Str × Option Str) := [("Table", some "__init__"), ("Table", some "rows"), ("Table", some "__len__"), ("Table", some "__bool__"), ("Table", some "__str__"), ("Table", some "__repr__"), ("Table", some "__eq__"), ("Table", some "__contains__"), ("UnknownWord", some "__init__"), ("Table", some "total"), ("Table", some "certain")]
def ds : List (Str × Option Str) := ds0
def loose0 : List Str := ["_wall", "MurmurError", "BadSize", "BadTable", "UnknownWord", "SizeMismatch", "bits", "mask_of", "masks_of", "image", "product", "converse", "greatest_behind", "greatest_ahead", "GREATEST_SIZE", "check_size", "check_word", "check_words", "check_sizes", "written", "table_of_masks", "Table", "product_inside", "_law_is", "_law_pairs", "_law_box", "_law_take", "_law_words", "_law_rows", "_law_far"]
def loose1 : List Str := ["_law_entry", "_law_members", "_law_unlike"]
def loose : List Str := loose0 ++ loose1
abbrev R : PySem.W.OpenRow := PySem.W.OpenLaw.row PySem.Challenge.rw_murmurline_k04_table_truths
abbrev hk : PySem.W.Hook := Mu.hookPT nm ds fa ex fn sn an
def ob (s : PySem.W.SharedT) : Mu.AlP := Mu.obsPT nm ds fa ex fn sn an (HandSHeadRun.getT s)
theorem ob_eq (s : PySem.W.SharedT) : ob s = hk.obs s.abs := Mu.obsPT_eq (HandSHeadRun.getT_eq s)
theorem run (w : World) : HandSHeadRun.RunEq R (PySem.W.view R.prog [37]) hk ob 40000 loose w := by
  intro os
  kernel_rfl
end MuL

set_option maxHeartbeats 4000000
namespace Mu
open PySem L2 Evl

def Mt (o : HO) : Prop := ∀ xs, o ≠ .tup xs
theorem mt_lst {ws : List V} : Mt (.lst ws) := fun _ z => nomatch z
theorem mt_ins {C dx : Addr} {fs : List (Str × V)} : Mt (.ins C dx fs) := fun _ z => nomatch z
structure Gr (G H G2 H2 : Hp) : Prop where
  g : Ex G G2
  h : Ex H H2
  i : Ex G2 H2
  n : ∀ a o, H a = some o → Mt o → G a = none → G2 a = none
theorem Gr.refl {G H : Hp} (e : Ex G H) : Gr G H G H := ⟨Ex.refl _, Ex.refl _, e, fun _ _ _ _ n => n⟩
theorem Gr.trans {G H G2 H2 G3 H3 : Hp} (a : Gr G H G2 H2) (b : Gr G2 H2 G3 H3) : Gr G H G3 H3 :=
  ⟨a.g.trans b.g, a.h.trans b.h, b.i, fun c o q t z => b.n c o (a.h c o q) t (a.n c o q t z)⟩
theorem Gr.more {G H G2 H2 H3 : Hp} (a : Gr G H G2 H2) (e : Ex H2 H3) : Gr G H G2 H3 := ⟨a.g, a.h.trans e, a.i.trans e, a.n⟩
theorem Gr.new {G H : Hp} {p : Addr} {o : HO} (e : Ex G H) (hp : H p = none) : Gr G H (upd G p o) (upd H p o) where
  g := Ex.new (fresh_back e hp)
  h := Ex.new hp
  i := fun a u z => by
    by_cases q : a = p
    · subst q
      rw [upd_same] at z ⊢
      exact z
    · rw [upd_ne q] at z ⊢
      exact e a u z
  n := fun a u z _ y => by rw [upd_ne (ne_of_none z hp)]; exact y
theorem Gr.out {G H : Hp} {p : Addr} {o : HO} (e : Ex G H) (hp : H p = none) : Gr G H G (upd H p o) := (Gr.refl e).more (Ex.new hp)
def un (A B : Hp) : Hp := fun a => match A a with
  | some o => some o
  | none => B a
theorem un_l {A B : Hp} {a : Addr} {o : HO} (h : A a = some o) : un A B a = some o := by unfold un; rw [h]
theorem un_r {A B : Hp} {a : Addr} (h : A a = none) : un A B a = B a := by unfold un; rw [h]
theorem ex_un_l {A B : Hp} : Ex A (un A B) := fun _ _ h => un_l h
theorem ex_un_r {A B H : Hp} (ha : Ex A H) (hb : Ex B H) : Ex B (un A B) := fun a o h => by
  cases q : A a with
  | none => rw [un_r q]; exact h
  | some u =>
    have h1 := ha a u q
    have h2 := hb a o h
    rw [h1] at h2
    rw [un_l q]
    exact h2
theorem un_in {A B H : Hp} (ha : Ex A H) (hb : Ex B H) : Ex (un A B) H := fun a o h => by
  cases q : A a with
  | none => rw [un_r q] at h; exact hb a o h
  | some u => rw [un_l q] at h; exact ha a o (q.trans h)
theorem Gr.up {G G' H G2 H2 : Hp} (e : Ex G G') (e' : Ex G' H) (a : Gr G H G2 H2) : Gr G' H (un G' G2) H2 where
  g := ex_un_l
  h := a.h
  i := un_in (e'.trans a.h) a.i
  n := fun c o q t z => by rw [un_r z]; exact a.n c o q t (fresh_back e z)
theorem Gr.upr {G G' H G2 H2 : Hp} (e' : Ex G' H) (a : Gr G H G2 H2) : Ex G2 (un G' G2) := ex_un_r (e'.trans a.h) a.i

structure Rp where
  p : V → Hp → Prop
  mono : ∀ {v : V} {H H' : Hp}, Ex H H' → p v H → p v H'
abbrev RA (H : Hp) : List V → List Rp → Prop := Paired fun v r => r.p v H
theorem RA.mono {H H' : Hp} (e : Ex H H') : ∀ {vs : List V} {rs : List Rp}, RA H vs rs → RA H' vs rs
  | _, _, .nil => .nil
  | _, _, .cons (b := r) h t => .cons (r.mono e h) (RA.mono e t)
theorem RA.len {H : Hp} {vs : List V} {rs : List Rp} (h : RA H vs rs) : vs.length = rs.length := Paired.length h
theorem RA.get {H : Hp} : ∀ {vs : List V} {rs : List Rp} {i : Nat} {r : Rp}, RA H vs rs → rs[i]? = some r → ∃ v, vs[i]? = some v ∧ r.p v H
  | _, _, _, _, .nil, e => by simp at e
  | _, _, 0, _, .cons h t, e => by simp at e; subst e; exact ⟨_, rfl, h⟩
  | _, _, i + 1, r, .cons h t, e => by
    obtain ⟨v, h1, h2⟩ := RA.get (i := i) (r := r) t (by simpa using e)
    exact ⟨v, by simpa using h1, h2⟩
theorem RA.getV {H : Hp} : ∀ {vs : List V} {rs : List Rp} {i : Nat} {v : V}, RA H vs rs → vs[i]? = some v → ∃ r, rs[i]? = some r ∧ r.p v H
  | _, _, _, _, .nil, e => by simp at e
  | _, _, 0, _, .cons h t, e => by simp at e; subst e; exact ⟨_, rfl, h⟩
  | _, _, i + 1, v, .cons h t, e => by
    obtain ⟨r, h1, h2⟩ := RA.getV (i := i) (v := v) t (by simpa using e)
    exact ⟨r, by simpa using h1, h2⟩
theorem RA.snoc {H : Hp} {vs : List V} {rs : List Rp} {v : V} {r : Rp} (h : RA H vs rs) (q : r.p v H) : RA H (vs ++ [v]) (rs ++ [r]) := Paired.snoc h q
theorem RA.append {H : Hp} : ∀ {vs ws : List V} {rs ss : List Rp}, RA H vs rs → RA H ws ss → RA H (vs ++ ws) (rs ++ ss)
  | _, _, _, _, .nil, q => q
  | _, _, _, _, .cons h t, q => .cons h (RA.append t q)
theorem RA.set {H : Hp} {v : V} {r : Rp} (q : r.p v H) : ∀ {vs : List V} {rs : List Rp} (i : Nat), RA H vs rs → RA H (vs.set i v) (rs.set i r)
  | _, _, _, .nil => .nil
  | _, _, 0, .cons _ t => .cons q t
  | _, _, i + 1, .cons h t => .cons h (RA.set q i t)

def rV (v : V) : Rp := ⟨fun x _ => x = v, fun _ h => h⟩
abbrev rI (i : Int) : Rp := rV (.int i)
abbrev rB (b : Bool) : Rp := rV (.bl b)
abbrev rS (s : Str) : Rp := rV (.str s)
def rL (_K : PySem.W.Frag) (rs : List Rp) : Rp := ⟨fun v H => ∃ a vs, v = .ref a ∧ H a = some (.lst vs) ∧ RA H vs rs, fun e ⟨a, vs, h1, h2, h3⟩ => ⟨a, vs, h1, e _ _ h2, h3.mono e⟩⟩
section
variable (K : PySem.W.Frag)
def rLs (rs : List Rp) : Rp := ⟨fun v H => ∃ a vs, v = .ref a ∧ SqL K H a vs ∧ RA H vs rs, fun e ⟨a, vs, h1, h2, h3⟩ => ⟨a, vs, h1, ex_l e h2, h3.mono e⟩⟩
def rT (rs : List Rp) : Rp := ⟨fun v H => ∃ a vs, v = .ref a ∧ SqT K H a vs ∧ RA H vs rs, fun e ⟨a, vs, h1, h2, h3⟩ => ⟨a, vs, h1, ex_t e h2, h3.mono e⟩⟩
abbrev nI (n : Nat) : Rp := rI (n : Int)
def rLn (l : List Nat) : Rp := rL K (l.map nI)
def rTn (l : List Nat) : Rp := rT K (l.map nI)
def rLL (l : List (List Nat)) : Rp := rL K (l.map (rLn K))
end
theorem ra_nats {H : Hp} : ∀ {l : List Nat}, RA H (l.map fun (n : Nat) => V.int (n : Int)) (l.map nI)
  | [] => .nil
  | _ :: r => .cons rfl (ra_nats (l := r))
theorem ra_nats_eq {H : Hp} : ∀ {l : List Nat} {vs : List V}, RA H vs (l.map nI) → vs = l.map fun (n : Nat) => V.int (n : Int)
  | [], _, .nil => rfl
  | n :: r, _, .cons h t => by
    have e1 := ra_nats_eq (l := r) t
    have e2 : _ = V.int (n : Int) := h
    rw [e1, e2]; rfl

def EvD (te : TE) (σ : L2.St) (G : Hp) (r : Rp) : Prop := ∀ H, Ex G H → ∀ Q : VK, (∀ v G2 H2, Gr G H G2 H2 → r.p v G2 → Q v H2) → te σ H Q
def EvN (te : TE) (σ : L2.St) (G : Hp) (rs : List Rp) : Prop := ∀ H, Ex G H → ∀ Q : VK, (∀ p vs G2 H2, Gr G H G2 H2 → H p = none → G2 p = none → H2 p = some (.lst vs) → RA G2 vs rs → Q (.ref p) H2) → te σ H Q
def EvAD (ta : TA) (σ : L2.St) (G : Hp) (rs : List Rp) : Prop := ∀ H, Ex G H → ∀ Q : List V → Hp → Prop, (∀ vs G2 H2, Gr G H G2 H2 → RA G2 vs rs → Q vs H2) → ta σ H Q
section
variable {σ : L2.St} {G G' : Hp} {te ta tb : TE} {r r1 r2 : Rp} {v w x y z : V} {K : PySem.W.Frag}
theorem EvD.mono (e : Ex G G') (h : EvD te σ G r) : EvD te σ G' r := fun H e' Q q =>
  h H (e.trans e') Q fun v G2 H2 g hp => q v (un G' G2) H2 (g.up e e') (r.mono (g.upr e') hp)
theorem EvN.mono {rs : List Rp} (e : Ex G G') (h : EvN te σ G rs) : EvN te σ G' rs := fun H e' Q q =>
  h H (e.trans e') Q fun p vs G2 H2 g hp gp h2 ra => q p vs (un G' G2) H2 (g.up e e') hp (by rw [un_r (fresh_back e' hp)]; exact gp) h2 (ra.mono (g.upr e'))
theorem EvAD.mono {ta : TA} {rs : List Rp} (e : Ex G G') (h : EvAD ta σ G rs) : EvAD ta σ G' rs := fun H e' Q q =>
  h H (e.trans e') Q fun vs G2 H2 g hp => q vs (un G' G2) H2 (g.up e e') (hp.mono (g.upr e'))
theorem Ev.d (h : Ev te σ G v) : EvD te σ G (rV v) := fun H e Q q => h H e Q fun H2 e2 => q v G H2 ((Gr.refl e).more e2) rfl
theorem EvD.ev (h : EvD te σ G (rV v)) : Ev te σ G v := fun H e Q q => h H e Q fun v' G2 H2 g (hv : v' = v) => by subst hv; exact q H2 g.h
theorem ed_var {i : Nat} (h : σ[i]? = some (some v)) (hr : r.p v G) : EvD (tVar i) σ G r := fun H e Q q => ⟨v, h, q v G H (Gr.refl e) hr⟩
theorem EvN.d {rs : List Rp} (h : EvN te σ G rs) : EvD te σ G (rL K rs) := fun H e Q q => h H e Q fun p vs G2 H2 g hp gp h2 ra => by
  have e2 : Ex (upd G2 p (.lst vs)) H2 := fun a u z => by
    by_cases c : a = p
    · subst c
      rw [upd_same] at z
      rw [h2]; exact z
    · rw [upd_ne c] at z
      exact g.i a u z
  refine q (.ref p) (upd G2 p (.lst vs)) H2 ⟨g.g.trans (Ex.new gp), g.h, e2, fun a u z t y => ?_⟩ ⟨p, vs, rfl, upd_same, ra.mono (Ex.new gp)⟩
  rw [upd_ne (ne_of_none z hp)]
  exact g.n a u z t y
theorem ead_nil : EvAD tNil σ G [] := fun H e Q q => q [] G H (Gr.refl e) .nil
theorem ead_cons {tr : TA} {rs : List Rp} (h : EvD te σ G r) (hr : EvAD tr σ G rs) : EvAD (tCons te tr) σ G (r :: rs) := fun H e Q q =>
  h H e _ fun v G2 H2 g hv => (hr.mono g.g) H2 g.i _ fun vs G3 H3 g3 hvs => q (v :: vs) G3 H3 (g.trans g3) (.cons (r.mono g3.g hv) hvs)
def SpD (sp : Sp) (vs : List V) (G : Hp) (r : Rp) : Prop := ∀ H, Ex G H → ∀ Q : VK, (∀ v G2 H2, Gr G H G2 H2 → r.p v G2 → Q v H2) → ∀ E : XK, sp vs H Q E
def SpN (sp : Sp) (vs : List V) (G : Hp) (rs : List Rp) : Prop := ∀ H, Ex G H → ∀ Q : VK, (∀ p vs G2 H2, Gr G H G2 H2 → H p = none → G2 p = none → H2 p = some (.lst vs) → RA G2 vs rs → Q (.ref p) H2) → ∀ E : XK, sp vs H Q E
theorem ed_call {sp : Sp} {E : XK} {ta : TA} {rs : List Rp} (h : EvAD ta σ G rs) (hs : ∀ vs G2, Ex G G2 → RA G2 vs rs → SpD sp vs G2 r) : EvD (tCall sp [] E ta) σ G r := fun H e Q q =>
  h H e _ fun vs G2 H2 g hv => by
    rw [List.append_nil]
    exact hs vs G2 g.g hv H2 g.i Q (fun v G3 H3 g3 hv3 => q v G3 H3 (g.trans g3) hv3) E
theorem en_call {sp : Sp} {E : XK} {ta : TA} {rs ss : List Rp} (h : EvAD ta σ G rs) (hs : ∀ vs G2, Ex G G2 → RA G2 vs rs → SpN sp vs G2 ss) : EvN (tCall sp [] E ta) σ G ss := fun H e Q q =>
  h H e _ fun vs G2 H2 g hv => by
    rw [List.append_nil]
    exact hs vs G2 g.g hv H2 g.i Q (fun p ws G3 H3 g3 hp gp h3 ra => q p ws G3 H3 (g.trans g3) (fresh_back g.h hp) gp h3 ra) E
theorem ed_op {rr : R2} (ha : EvD ta σ G r1) (hb : EvD tb σ G r2) (hs : ∀ x y G2 H, Ex G G2 → Ex G2 H → r1.p x G2 → r2.p y G2 → ∀ Q : VK, (∀ v G3 H3, Gr G2 H G3 H3 → r.p v G3 → Q v H3) → rr x y H Q) : EvD (tOp rr ta tb) σ G r := fun H e Q q =>
  ha H e _ fun x G2 H2 g hx => (hb.mono g.g) H2 g.i _ fun y G3 H3 g3 hy => hs x y G3 H3 (g.g.trans g3.g) g3.i (r1.mono g3.g hx) hy Q fun v G4 H4 g4 hv => q v G4 H4 ((g.trans g3).trans g4) hv
theorem en_op {rr : R2} {ss : List Rp} (ha : EvD ta σ G r1) (hb : EvD tb σ G r2) (hs : ∀ x y G2 H, Ex G G2 → Ex G2 H → r1.p x G2 → r2.p y G2 → ∀ Q : VK, (∀ p ws G3 H3, Gr G2 H G3 H3 → H p = none → G3 p = none → H3 p = some (.lst ws) → RA G3 ws ss → Q (.ref p) H3) → rr x y H Q) : EvN (tOp rr ta tb) σ G ss := fun H e Q q =>
  ha H e _ fun x G2 H2 g hx => (hb.mono g.g) H2 g.i _ fun y G3 H3 g3 hy => hs x y G3 H3 (g.g.trans g3.g) g3.i (r1.mono g3.g hx) hy Q fun p ws G4 H4 g4 hp gp h4 ra => q p ws G4 H4 ((g.trans g3).trans g4) (fresh_back (g.h.trans g3.h) hp) gp h4 ra
theorem ev_op2 {rr : R2} (ha : EvD ta σ G r1) (hb : EvD tb σ G r2) (hs : ∀ x y H, r1.p x H → r2.p y H → ∀ Q : VK, Q z H → rr x y H Q) : Ev (tOp rr ta tb) σ G z := EvD.ev (ed_op ha hb fun x y G2 H _ e hx hy Q q => hs x y H (r1.mono e hx) (r2.mono e hy) Q (q z G2 H (Gr.refl e) rfl))
theorem ed_ixT {rs : List Rp} {i : Nat} (ha : EvD ta σ G (rT K rs)) (hb : Ev tb σ G (.int (i : Int))) (hi : rs[i]? = some r) : EvD (tOp (rIxT K) ta tb) σ G r :=
  ed_op ha (Ev.d hb) fun x y G2 H _ e hx hy Q q => by
    obtain ⟨a, vs, rfl, h1, h2⟩ := hx
    obtain ⟨v, h3, h4⟩ := h2.get hi
    have hy' : y = .int (i : Int) := hy
    subst hy'
    exact ⟨a, vs, (i : Int), v, rfl, rfl, ex_t e h1, atI_nat h3, q v G2 H (Gr.refl e) h4⟩
theorem ed_ixL {rs : List Rp} {i : Nat} (ha : EvD ta σ G (rL K rs)) (hb : Ev tb σ G (.int (i : Int))) (hi : rs[i]? = some r) : EvD (tOp (rIxL K) ta tb) σ G r :=
  ed_op ha (Ev.d hb) fun x y G2 H _ e hx hy Q q => by
    obtain ⟨a, vs, rfl, h1, h2⟩ := hx
    obtain ⟨v, h3, h4⟩ := h2.get hi
    have hy' : y = .int (i : Int) := hy
    subst hy'
    exact ⟨a, vs, (i : Int), v, rfl, rfl, sq_of (e _ _ h1), atI_nat h3, q v G2 H (Gr.refl e) h4⟩
def rTupO (K : PySem.W.Frag) : List V → Hp → VK → Prop := fun xs H Q => ∃ p ys, xs = [.ref p] ∧ ((SqL K H p ys ∧ ∀ l, H l = none → Q (.ref l) (upd H l (.tup ys))) ∨ (SqT K H p ys ∧ Q (.ref p) H))
theorem ev_lenL {rs : List Rp} {n : Nat} (h : EvD te σ G (rL K rs)) (hn : rs.length = n) : Ev (tCB (rLenS K) (tCons te tNil)) σ G (.int (n : Int)) := fun H e Q q =>
  h H e _ fun v G2 H2 g ⟨a, vs, hv, h1, h2⟩ => by
    subst hv
    refine ⟨a, vs, rfl, Or.inl (sq_of (g.i _ _ h1)), ?_⟩
    rw [h2.len, hn]
    exact q H2 g.h
theorem ev_lenT {rs : List Rp} {n : Nat} (h : EvD te σ G (rT K rs)) (hn : rs.length = n) : Ev (tCB (rLenS K) (tCons te tNil)) σ G (.int (n : Int)) := fun H e Q q =>
  h H e _ fun v G2 H2 g ⟨a, vs, hv, h1, h2⟩ => by
    subst hv
    refine ⟨a, vs, rfl, Or.inr (ex_t g.i h1), ?_⟩
    rw [h2.len, hn]
    exact q H2 g.h
theorem en_listL {rs : List Rp} (h : EvD te σ G (rL K rs)) : EvN (tCB (rListS K) (tCons te tNil)) σ G rs := fun H e Q q =>
  h H e _ fun v G2 H2 g ⟨a, vs, hv, h1, h2⟩ => by
    subst hv
    exact ⟨a, vs, rfl, Or.inl (sq_of (g.i _ _ h1)), fun l hl => q l vs G2 _ (g.more (Ex.new hl)) (fresh_back g.h hl) (fresh_back g.i hl) upd_same h2⟩
theorem en_listT {rs : List Rp} (h : EvD te σ G (rT K rs)) : EvN (tCB (rListS K) (tCons te tNil)) σ G rs := fun H e Q q =>
  h H e _ fun v G2 H2 g ⟨a, vs, hv, h1, h2⟩ => by
    subst hv
    exact ⟨a, vs, rfl, Or.inr (ex_t g.i h1), fun l hl => q l vs G2 _ (g.more (Ex.new hl)) (fresh_back g.h hl) (fresh_back g.i hl) upd_same h2⟩
theorem ed_tupL {rs : List Rp} (h : EvD te σ G (rL K rs)) : EvD (tCB (rTupO K) (tCons te tNil)) σ G (rT K rs) := fun H e Q q =>
  h H e _ fun v G2 H2 g ⟨a, vs, hv, h1, h2⟩ => by
    subst hv
    refine ⟨a, vs, rfl, Or.inl ⟨sq_of (g.i _ _ h1), fun l hl => ?_⟩⟩
    have g3 := Gr.new (o := .tup vs) g.i hl
    exact q (.ref l) _ _ (g.trans g3) ⟨l, vs, rfl, st_of upd_same, h2.mono g3.g⟩
theorem ed_tup {ta : TA} {rs : List Rp} (h : EvAD ta σ G rs) (hl : rs.length ≤ 100000) : EvD (tTup ta) σ G (rT K rs) := fun H e Q q =>
  h H e _ fun vs G2 H2 g hv => ⟨sz_of (by rw [hv.len]; exact hl), fun p hp => by
    have g3 := Gr.new (o := .tup vs) g.i hp
    exact q (.ref p) _ _ (g.trans g3) ⟨p, vs, rfl, st_of upd_same, hv.mono g3.g⟩⟩
theorem en_lst {ta : TA} {rs : List Rp} (h : EvAD ta σ G rs) (hl : rs.length ≤ 100000) : EvN (tLst ta) σ G rs := fun H e Q q =>
  h H e _ fun vs G2 H2 g hv => ⟨sz_of (by rw [hv.len]; exact hl), fun p hp => q p vs G2 _ (g.more (Ex.new hp)) (fresh_back g.h hp) (fresh_back g.i hp) upd_same hv⟩
end

section
variable {σ : L2.St} {G : Hp} {te tl : TE} {t : TT} {K : PySem.W.Frag} {α : Type} {j : Nat} {vs : List Nat}
def Cm (G0 H0 : Hp) (Dl : Addr) (rs : List Rp) (H' : Hp) : Prop := H0 Dl = none ∧ ∃ G' ws, Gr G0 H0 G' H' ∧ G' Dl = none ∧ H' Dl = some (.lst ws) ∧ RA G' ws rs
theorem cm_turn {G0 H0 H' : Hp} {Dl : Addr} {rs : List Rp} {b : Bool} {r : Rp} {σ2 : L2.St} (hz : rs.length < 50000) (p : Cm G0 H0 Dl rs H') (ht : ∀ G1, Ex G0 G1 → Ex G1 H' → EvT t σ2 G1 b) (he : b = true → ∀ G1, Ex G0 G1 → Ex G1 H' → EvD te σ2 G1 r) :
    t σ2 H' fun b H3 => if b = true then te σ2 H3 fun y H4 => ∃ acc, H4 Dl = some (.lst acc) ∧ acc.length < sizeLine ∧ Cm G0 H0 Dl (rs ++ (if true = true then [r] else [])) (upd H4 Dl (.lst (acc ++ [y]))) else Cm G0 H0 Dl rs H3 := by
  obtain ⟨p1, G', ws, g, hG, hD, ra⟩ := p
  refine ht G' g.g g.i H' g.i _ fun H3 e3 => ?_
  cases b with
  | true =>
    show te σ2 H3 fun y H4 => _
    refine he rfl G' g.g g.i H3 (g.i.trans e3) _ fun y G4 H4 g4 hy => ⟨ws, g4.h _ _ (e3 _ _ hD), sz_lt (by rw [ra.len]; omega), p1, G4, ws ++ [y], ?_, g4.n _ _ (e3 _ _ hD) mt_lst hG, upd_same, (ra.mono g4.g).snoc hy⟩
    have q := (g.more e3).trans g4
    exact ⟨q.g, Ex.mut q.h p1, Ex.mut q.i (g4.n _ _ (e3 _ _ hD) mt_lst hG), q.n⟩
  | false =>
    show Cm G0 H0 Dl rs H3
    exact ⟨p1, G', ws, g.more e3, hG, e3 _ _ hD, ra⟩
theorem filter_take_succ {l : List α} {f : α → Bool} {rr : α → Rp} {i : Nat} {a : α} (h : l[i]? = some a) : ((l.take (i + 1)).filter f).map rr = ((l.take i).filter f).map rr ++ (if f a = true then [rr a] else []) := by
  rw [List.take_add_one, h, List.filter_append, List.map_append]
  congr 1
  cases q : f a <;> simp [q]
theorem cm_step {l : List α} {f : α → Bool} {rr : α → Rp} {G0 H0 H' : Hp} {Dl : Addr} {i : Nat} {a : α} {σ2 : L2.St} (h : l[i]? = some a) (hz : l.length ≤ 40000) (p : Cm G0 H0 Dl (((l.take i).filter f).map rr) H')
    (ht : ∀ G1, Ex G0 G1 → Ex G1 H' → EvT t σ2 G1 (f a)) (he : f a = true → ∀ G1, Ex G0 G1 → Ex G1 H' → EvD te σ2 G1 (rr a)) :
    t σ2 H' fun b H3 => if b = true then te σ2 H3 fun y H4 => ∃ acc, H4 Dl = some (.lst acc) ∧ acc.length < sizeLine ∧ Cm G0 H0 Dl (((l.take (i + 1)).filter f).map rr) (upd H4 Dl (.lst (acc ++ [y]))) else Cm G0 H0 Dl (((l.take (i + 1)).filter f).map rr) H3 := by
  rw [filter_take_succ h]
  have hl : (((l.take i).filter f).map rr).length < 50000 := by
    rw [List.length_map]
    have h1 := List.length_filter_le f (l.take i)
    have h2 := List.length_take_le i l
    have h3 : (l.take i).length ≤ l.length := by rw [List.length_take]; omega
    omega
  have z := cm_turn (t := t) (te := te) (r := rr a) (b := f a) hl p ht he
  cases q : f a with
  | true =>
    rw [q] at ht
    obtain ⟨p1, G', ws, g, hG, hD, ra⟩ := p
    refine ht G' g.g g.i H' g.i _ fun H3 e3 => ?_
    show te σ2 H3 fun y H4 => _
    refine he q G' g.g g.i H3 (g.i.trans e3) _ fun y G4 H4 g4 hy => ⟨ws, g4.h _ _ (e3 _ _ hD), sz_lt (by rw [ra.len]; omega), p1, G4, ws ++ [y], ?_, g4.n _ _ (e3 _ _ hD) mt_lst hG, upd_same, (ra.mono g4.g).snoc hy⟩
    have q := (g.more e3).trans g4
    exact ⟨q.g, Ex.mut q.h p1, Ex.mut q.i (g4.n _ _ (e3 _ _ hD) mt_lst hG), q.n⟩
  | false =>
    rw [q] at ht
    obtain ⟨p1, G', ws, g, hG, hD, ra⟩ := p
    refine ht G' g.g g.i H' g.i _ fun H3 e3 => ?_
    show Cm G0 H0 Dl (_ ++ []) H3
    rw [List.append_nil]
    exact ⟨p1, G', ws, g.more e3, hG, e3 _ _ hD, ra⟩
theorem cm_start {G0 H0 : Hp} {Dl : Addr} (e : Ex G0 H0) (h : H0 Dl = none) : Cm G0 H0 Dl [] (upd H0 Dl (.lst [])) := ⟨h, G0, [], Gr.out e h, fresh_back e h, upd_same, .nil⟩
theorem en_lcL (l : List α) (ρ : α → Rp) (f : α → Bool) (rr : α → Rp) (h : EvD tl σ G (rL K (l.map ρ))) (hz : l.length ≤ 40000) (hw : ∀ x, wipe ((wipe σ vs).set j (some x)) vs = wipe σ vs)
    (ht : ∀ a x G1, a ∈ l → Ex G G1 → (ρ a).p x G1 → EvT t ((wipe σ vs).set j (some x)) G1 (f a)) (he : ∀ a x G1, a ∈ l → f a = true → Ex G G1 → (ρ a).p x G1 → EvD te ((wipe σ vs).set j (some x)) G1 (rr a)) :
    EvN (tLc (iList K tl) (gName j) t te vs) σ G ((l.filter f).map rr) := fun H0 e Q q => h H0 e _ fun v G1 H1 g1 ⟨a, xs, hv, h1, h2⟩ => by
  subst hv
  refine ⟨a, rfl, ⟨xs, sq_of (g1.i _ _ h1)⟩, fun Dl hD => lc_list (xs := xs) (fun i H' => Cm G1 H1 Dl (((l.take i).filter f).map rr) H') (cm_start g1.i hD) (fun i H' _ p => ?_) (fun i x H' hi p => ⟨hw x, ?_⟩) (fun H' p => ?_)⟩
  · obtain ⟨_, G', ws, g, _, _, _⟩ := p
    exact sq_of ((g.g.trans g.i) _ _ h1)
  · obtain ⟨r, hr, hx⟩ := h2.getV hi
    rw [List.getElem?_map] at hr
    cases q2 : l[i]? with
    | none => rw [q2] at hr; cases hr
    | some b =>
      rw [q2] at hr
      have hr' : ρ b = r := Option.some.inj hr
      subst hr'
      have hm : b ∈ l := List.mem_of_getElem? q2
      exact cm_step q2 hz p (fun G2 e1 e2 => ht b x G2 hm (g1.g.trans e1) ((ρ b).mono e1 hx)) (fun hf G2 e1 e2 => he b x G2 hm hf (g1.g.trans e1) ((ρ b).mono e1 hx))
  · obtain ⟨p1, G', ws, g, hG, hD', ra⟩ := p
    have el : xs.length = l.length := by rw [h2.len, List.length_map]
    rw [el, List.take_length] at ra
    exact q Dl ws G' H' (g1.trans g) (fresh_back g1.h p1) hG hD' ra
theorem en_lcT (l : List α) (ρ : α → Rp) (f : α → Bool) (rr : α → Rp) (h : EvD tl σ G (rT K (l.map ρ))) (hz : l.length ≤ 40000) (hw : ∀ x, wipe ((wipe σ vs).set j (some x)) vs = wipe σ vs)
    (ht : ∀ a x G1, a ∈ l → Ex G G1 → (ρ a).p x G1 → EvT t ((wipe σ vs).set j (some x)) G1 (f a)) (he : ∀ a x G1, a ∈ l → f a = true → Ex G G1 → (ρ a).p x G1 → EvD te ((wipe σ vs).set j (some x)) G1 (rr a)) :
    EvN (tLc (iTup K tl) (gName j) t te vs) σ G ((l.filter f).map rr) := fun H0 e Q q => h H0 e _ fun v G1 H1 g1 ⟨a, xs, hv, h1, h2⟩ => by
  subst hv
  refine ⟨a, rfl, ⟨xs, ex_t g1.i h1⟩, fun Dl hD => lc_tup (xs := xs) (fun i H' => Cm G1 H1 Dl (((l.take i).filter f).map rr) H') (cm_start g1.i hD) (fun i H' _ p => ?_) (fun i x H' hi p => ⟨hw x, ?_⟩) (fun H' p => ?_)⟩
  · obtain ⟨_, G', ws, g, _, _, _⟩ := p
    exact ex_t (g.g.trans g.i) h1
  · obtain ⟨r, hr, hx⟩ := h2.getV hi
    rw [List.getElem?_map] at hr
    cases q2 : l[i]? with
    | none => rw [q2] at hr; cases hr
    | some b =>
      rw [q2] at hr
      have hr' : ρ b = r := Option.some.inj hr
      subst hr'
      have hm : b ∈ l := List.mem_of_getElem? q2
      exact cm_step q2 hz p (fun G2 e1 e2 => ht b x G2 hm (g1.g.trans e1) ((ρ b).mono e1 hx)) (fun hf G2 e1 e2 => he b x G2 hm hf (g1.g.trans e1) ((ρ b).mono e1 hx))
  · obtain ⟨p1, G', ws, g, hG, hD', ra⟩ := p
    have el : xs.length = l.length := by rw [h2.len, List.length_map]
    rw [el, List.take_length] at ra
    exact q Dl ws G' H' (g1.trans g) (fresh_back g1.h p1) hG hD' ra
theorem range_get {n i : Nat} (h : i < n) : (List.range n)[i]? = some i := by rw [List.getElem?_range h]
theorem en_lcR {ta : TA} (n : Nat) (f : Nat → Bool) (rr : Nat → Rp) (h : EvA ta σ G [.int (n : Int)]) (hz : n ≤ 40000) (hw : ∀ x, wipe ((wipe σ vs).set j (some x)) vs = wipe σ vs)
    (ht : ∀ (a : Nat) G1, a < n → Ex G G1 → EvT t ((wipe σ vs).set j (some (.int (a : Int)))) G1 (f a)) (he : ∀ (a : Nat) G1, a < n → f a = true → Ex G G1 → EvD te ((wipe σ vs).set j (some (.int (a : Int)))) G1 (rr a)) :
    EvN (tLc (iRng1 ta) (gName j) t te vs) σ G (((List.range n).filter f).map rr) := fun H0 e Q q => h H0 e _ fun H1 e1 => by
  refine ⟨(n : Int), rfl, by omega, by omega, fun Dl hD => ?_⟩
  have g1 := (Gr.refl e).more e1
  rw [Int.toNat_natCast]
  refine lc_range (lo := 0) (n := n) (fun i H' => Cm G H1 Dl ((((List.range n).take i).filter f).map rr) H') (cm_start g1.i hD) (fun i H' hi p => ?_) (fun H' p => ?_)
  · have e0 : (0 : Int) + (i : Int) = (i : Int) := Int.zero_add _
    rw [e0]
    exact ⟨hw _, cm_step (range_get hi) (by rw [List.length_range]; exact hz) p (fun G2 e1 e2 => ht i G2 hi e1) (fun hf G2 e1 e2 => he i G2 hi hf e1)⟩
  · obtain ⟨p1, G', ws, g, hG, hD', ra⟩ := p
    have el : (List.range n).length = n := List.length_range
    rw [show (List.range n).take n = List.range n by rw [List.take_of_length_le (by rw [el]; omega)]] at ra
    exact q Dl ws G' H' (g1.trans (⟨g.g, g.h, g.i, g.n⟩ : Gr G H1 G' H')) (fresh_back e1 p1) hG hD' ra
theorem yes_T {b : Bool} (h : b = true) : EvT tYes σ G b := fun H e Q q => by subst h; exact q H (Ex.refl H)
theorem en_is {rs ss : List Rp} (h : EvN te σ G rs) (e : rs = ss) : EvN te σ G ss := e ▸ h
theorem ed_is {r s : Rp} (h : EvD te σ G r) (e : r = s) : EvD te σ G s := e ▸ h
end

section
variable {σ : L2.St} {G H : Hp} {te ta : TE} {t : TT} {K : PySem.W.Frag} {D : Ends} {tu tw : TS} {v : V} {r : Rp} {i : Nat}
theorem s_set (e : Ex G H) (h : Ev te σ G v) (k : ∀ H1, Ex H H1 → D.nx (σ.set i (some v)) H1) : tAsg te (gName i) D σ H := h H e _ fun H1 e1 => k H1 e1
theorem s_setD (e : Ex G H) (h : EvD te σ G r) (k : ∀ v G2 H2, Gr G H G2 H2 → r.p v G2 → D.nx (σ.set i (some v)) H2) : tAsg te (gName i) D σ H := h H e _ k
theorem s_setN {rs : List Rp} (e : Ex G H) (h : EvN te σ G rs) (k : ∀ p vs G2 H2, Gr G H G2 H2 → H p = none → G2 p = none → H2 p = some (.lst vs) → RA G2 vs rs → D.nx (σ.set i (some (.ref p))) H2) : tAsg te (gName i) D σ H := h H e _ k
theorem s_retE (e : Ex G H) (h : Ev te σ G v) (k : ∀ H1, Ex H H1 → D.rt v H1) : tRet te D σ H := h H e _ k
theorem s_retD (e : Ex G H) (h : EvD te σ G r) (k : ∀ v G2 H2, Gr G H G2 H2 → r.p v G2 → D.rt v H2) : tRet te D σ H := h H e _ k
theorem s_retN {rs : List Rp} (e : Ex G H) (h : EvN te σ G rs) (k : ∀ p vs G2 H2, Gr G H G2 H2 → H p = none → G2 p = none → H2 p = some (.lst vs) → RA G2 vs rs → D.rt (.ref p) H2) : tRet te D σ H := h H e _ k
theorem s_ifE {b : Bool} (e : Ex G H) (h : EvT t σ G b) (h1 : b = true → ∀ H1, Ex H H1 → tu D σ H1) (h2 : b = false → ∀ H1, Ex H H1 → tw D σ H1) : tIfS t tu tw D σ H := h H e _ fun H1 e1 => by
  cases b with
  | true =>
    show tu D σ H1
    exact h1 rfl H1 e1
  | false =>
    show tw D σ H1
    exact h2 rfl H1 e1
theorem s_doE (e : Ex G H) (h : Ev te σ G v) (k : ∀ H1, Ex H H1 → D.nx σ H1) : tDrop te D σ H := h H e _ k
end
end Mu

namespace Mu
open PySem PySem.Spec PyProof.Rows L2 Evl
section
variable {X : Cx} {CX : CXT} {k : Nat} {f C : Addr} {fd : FuncData} {ps : List Str} {sp : Sp} {E : XK}
theorem run_fnA {A : Around} {pins : List (Addr × Obj)} {σ : L2.St} {H : Hp} {s : Shared} {Q : VK} {us : List Value} {vs : List V} (hA : A.frames = X.A.frames) (F : FnOk X.prog X.w X.K X.mg X.base CX k f fd ps sp) (hr : Room k A) (hb : Binds X.K fd ps []) (hx : Passes CX X E)
    (I : Inv X pins σ H s) (r : Vals vs us) (h : sp vs H Q E) : wpAny (model X.prog X.w) A (call (.ref f) us) (EP X pins σ Q) X.xe s := by
  have hl : (us ++ []).length = ps.length := by rw [List.append_nil, ← r.length]; exact F.len _ _ _ _ h
  have e := I.env0
  have e0 : Env0 X.prog X.w X.K X.mg X.base A X.stack s H := ⟨by rw [hA]; exact e.frames, e.mod, e.bs, e.bsz, e.funs, e.frf, e.hok, e.bare⟩
  have hbb := hb s us I.kIn hl
  rw [List.append_nil] at hbb
  refine wpAny_call (codeAny_mono (F.run A X.stack s H ⟨us, []⟩ us vs Q E hr e0 hbb r h) fun r s' hq => ?_)
  cases r with
  | error e => exact hx pins σ H s e s' I hq
  | ok fl =>
    cases fl with
    | ret u => exact I.after hq
    | next => exact False.elim hq
    | brk => exact False.elim hq
    | cont => exact False.elim hq
theorem ep_back {pins : List (Addr × Obj)} {σ : L2.St} {Q : VK} {u : Value} {s' : Shared} (h : EP X pins σ Q u s') : PySem.W.CmpBack (EP X pins σ Q) u s' := by
  obtain ⟨v, H', I, r, q⟩ := id h
  cases v with
  | non => cases (show u = Value.none from r); exact h
  | bl b => cases (show u = Value.bool b from r); exact h
  | int i => obtain ⟨t, e⟩ := (show ∃ t, u = Value.int i t from r); subst e; exact h
  | str i => obtain ⟨t, e⟩ := (show ∃ t, u = Value.str i t from r); subst e; exact h
  | byt i => obtain ⟨t, e⟩ := (show ∃ t, u = Value.bytes i t from r); subst e; exact h
  | flt i => obtain ⟨t, e⟩ := (show ∃ t, u = Value.float i t from r); subst e; exact h
  | ref a => cases (show u = Value.ref a from r); exact h
  | ty n => cases (show u = Value.type n from r); exact h
structure Dun (K : PySem.W.Frag) (C : Addr) (m : Str) (f : Addr) : Prop where
  at_ : PySem.W.findIn K (.ref C) m = some (some (.ref f))
  fn : PySem.W.isFn K (.ref f) = true
def rOwn2 (C : Addr) (sp : Sp) (E : XK) : R2 := fun x y H Q => ∃ a b dx fs dy gs, x = .ref a ∧ y = .ref b ∧ H a = some (.ins C dx fs) ∧ H b = some (.ins C dy gs) ∧ sp [.ref a, .ref b] H Q E
theorem cmp_own {op : CmpOp} {m : Str} (hm : (cmpInfo op).2.1 = m) (hop : ∀ a b, compareOp op a b = richCompare op a b) (d : Dun X.K C m f) (F : FnOk X.prog X.w X.K X.mg X.base CX k f fd ps sp) (hr : Room k X.A) (hb : Binds X.K fd ps []) (hx : Passes CX X E) : OpR X (compareOp op) (rOwn2 C sp E) := by
  intro pins s σ H x y u v Q I rx ry h
  obtain ⟨a, b, dx, fs, dy, gs, rfl, rfl, ha, hb', q⟩ := h
  cases rx
  cases ry
  obtain ⟨mA, J, _⟩ := ins_get I.hok ha
  obtain ⟨mB, J', _⟩ := ins_get I.hok hb'
  obtain ⟨od, J, _⟩ := J.look
  obtain ⟨od', J', _⟩ := J'.look
  obtain ⟨m0, hF⟩ := I.fr
  subst hm
  rw [hop]
  refine PySem.W.cmp_K (tb := .ref C) hr.units0 hF I.ok.mod.kin J J'.type (by simp [PySem.W.notFirst]) d.at_ d.fn ?_
  exact wpAny_mono (run_fnA (vs := [.ref a, .ref b]) rfl F hr hb hx I (.cons rfl (.cons rfl .nil)) q) (fun u s' h => ep_back h) (fun _ _ z => z)
def rOwnIn (C : Addr) (neg : Bool) (sp : Sp) (E : XK) : R2 := fun x y H Q => ∃ a dx fs, y = .ref a ∧ H a = some (.ins C dx fs) ∧ sp [.ref a, x] H (fun v H' => ∃ b, v = .bl b ∧ Q (.bl (if neg then !b else b)) H') E
theorem in_own (d : Dun X.K C "__contains__" f) (F : FnOk X.prog X.w X.K X.mg X.base CX k f fd ps sp) (hr : Room k X.A) (hb : Binds X.K fd ps []) (hx : Passes CX X E) : OpR X (compareOp .In) (rOwnIn C false sp E) := by
  intro pins s σ H x y u v Q I rx ry h
  obtain ⟨a, dx, fs, rfl, ha, q⟩ := h
  cases ry
  obtain ⟨mA, J, _⟩ := ins_get I.hok ha
  obtain ⟨od, J, _⟩ := J.look
  obtain ⟨m0, hF⟩ := I.fr
  refine PySem.W.in_K hF I.ok.mod.kin J d.at_ d.fn (wpAny_mono (run_fnA (vs := [.ref a, x]) rfl F hr hb hx I (.cons rfl (.cons rx .nil)) q) (fun w s' h => ?_) (fun _ _ z => z))
  obtain ⟨z, H', I', rz, b, rfl, q'⟩ := h
  cases (show w = Value.bool b from rz)
  exact wpAny_truthy_bool ⟨.bl b, H', I', rfl, q'⟩
end
section
variable {X : Cx} {CX : CXT} {k : Nat} {f C : Addr} {fd : FuncData} {ps : List Str} {sp : Sp} {E : XK} {e fe : Expr} {es : List Expr} {tf : TE} {t : TA} {pos : Pos}
end
section
variable {X : Cx} (K : PySem.W.Frag) {tg l e a b o : Expr} {tl ta tb te to : TE} {f : Str} {pos : Pos}
theorem pi_listK (hl : PE X l tl) (hK : X.K = K := by rfl) : PI X tg l (iList K tl) := hK ▸ pi_list hl
theorem pi_tupK (hl : PE X l tl) (hK : X.K = K := by rfl) : PI X tg l (iTup K tl) := hK ▸ pi_tup hl
theorem ix_listK (hK : X.K = K := by rfl) : IxR X (rIxL K) := hK ▸ ix_list
theorem ix_tupK (hK : X.K = K := by rfl) : IxR X (rIxT K) := hK ▸ ix_tup
theorem pe_fldK (he : PE X e ta) (hb : attributeBase e f X.env (eval e X.env) = eval e X.env := by rfl) (hK : X.K = K := by rfl) : PE X (.Attribute e f pos) (tFld K ta f) := hK ▸ pe_fld he hb
theorem call_lenK (hK : X.K = K := by rfl) : CallR X (.builtin "len") (rLenS K) := hK ▸ call_len_seq
theorem call_tupK (hK : X.K = K := by rfl) : CallR X (.type "tuple") (rTupO K) := hK ▸ call_tuple_of
theorem call_listK (hK : X.K = K := by rfl) : CallR X (.type "list") (rListS K) := hK ▸ call_list_of
theorem call_isiK (hK : X.K = K := by rfl) : CallR X (.builtin "isinstance") (rIsi K) := hK ▸ call_isi
theorem op_inK (hK : X.K = K := by rfl) : OpR X (compareOp .In) (rIn K false) := hK ▸ op_in_seq
theorem op_notInK (hK : X.K = K := by rfl) : OpR X (compareOp .NotIn) (rIn K true) := hK ▸ op_notIn_seq
theorem op_eqK (hu : X.A.units + 64 < cLine) (hK : X.K = K := by rfl) : OpR X (compareOp .Eq) (rEqD K) := hK ▸ op_eqD hu
theorem op_neK (hu : X.A.units + 64 < cLine) (hK : X.K = K := by rfl) : OpR X (compareOp .NotEq) (rNeD K) := hK ▸ op_neD hu
theorem sl_listK (hK : X.K = K := by rfl) : SlR X (rSlL K) := hK ▸ sl_list
end
end Mu

namespace Mu
open PySem PySem.Spec PyProof.Rows L2 He
section
variable {fa : List Fa} {ex : List FactB} {fn : List DefD} {K : PySem.W.Frag}
theorem SaysM.fact (c : SaysM fa ex fn K) (i : Nat) {f : Fa} (h : fa[i]? = some f := by rfl) : f.ok K = true := by
  have c1 := (ba (ba (show (((fa.all fun f => f.ok K) && ex.all fun f => f K) && fn.all fun d => d.ok K) = true from congrArg (fun z : AlD => z.1) c)).1).1
  exact List.all_eq_true.mp c1 f (List.mem_of_getElem? h)
theorem SaysM.exf (c : SaysM fa ex fn K) (i : Nat) {f : FactB} (h : ex[i]? = some f := by rfl) : f K = true := by
  have c1 := (ba (ba (show (((fa.all fun f => f.ok K) && ex.all fun f => f K) && fn.all fun d => d.ok K) = true from congrArg (fun z : AlD => z.1) c)).1).2
  exact List.all_eq_true.mp c1 f (List.mem_of_getElem? h)
theorem SaysM.def_ (c : SaysM fa ex fn K) (i : Nat) {d : DefD} (h : fn[i]? = some d := by rfl) : ∃ fd, FunD K d.name d.qual d.params d.body d.scope (d.dvs K) (d.kws K) (fAd K d.at_) fd := by
  have c2 := (ba (show (((fa.all fun f => f.ok K) && ex.all fun f => f K) && fn.all fun d => d.ok K) = true from congrArg (fun z : AlD => z.1) c)).2
  have e : fn.map (fun d => fnW K d.at_) = fn.map DefD.val := congrArg (fun z : AlD => z.2) c
  have e2 : (fn.map fun d => fnW K d.at_)[i]? = (fn.map DefD.val)[i]? := by rw [e]
  rw [List.getElem?_map, List.getElem?_map, h] at e2
  exact DefD.funD (Option.some.inj e2) (List.all_eq_true.mp c2 d (List.mem_of_getElem? h))
end
end Mu

namespace Mu
open PySem
theorem band_nat (a b : Nat) : Builtin.bitAnd (a : Int) (b : Int) = ((a &&& b : Nat) : Int) := by simp [Builtin.bitAnd]
theorem bor_nat (a b : Nat) : Builtin.bitOr (a : Int) (b : Int) = ((a ||| b : Nat) : Int) := by
  unfold Builtin.bitOr
  have h1 : ¬ (0 : Int) ≤ Builtin.bitNot (a : Int) := by unfold Builtin.bitNot; omega
  have h2 : ¬ (0 : Int) ≤ Builtin.bitNot (b : Int) := by unfold Builtin.bitNot; omega
  have n1 : Builtin.bitNot (Builtin.bitNot (a : Int)) = (a : Int) := by unfold Builtin.bitNot; omega
  have n2 : Builtin.bitNot (Builtin.bitNot (b : Int)) = (b : Int) := by unfold Builtin.bitNot; omega
  have e : Builtin.bitAnd (Builtin.bitNot (a : Int)) (Builtin.bitNot (b : Int)) = Builtin.bitNot (((a ||| b : Nat)) : Int) := by
    unfold Builtin.bitAnd
    rw [decide_eq_false h1, decide_eq_false h2]
    simp [n1, n2]
  rw [e]
  unfold Builtin.bitNot; omega
theorem shl_nat (k : Nat) : (1 : Int) * 2 ^ ((k : Int)).toNat = ((2 ^ k : Nat) : Int) := by
  rw [Int.toNat_natCast, Int.one_mul, Int.natCast_pow]; rfl
theorem shr_nat (n k : Nat) : (n : Int) / 2 ^ ((k : Int)).toNat = ((n / 2 ^ k : Nat) : Int) := by
  rw [Int.toNat_natCast, Int.natCast_ediv, Int.natCast_pow]; rfl
theorem shr1 (n : Nat) : (n : Int) / 2 ^ ((1 : Int)).toNat = ((n / 2 : Nat) : Int) := by
  have := shr_nat n 1
  simpa using this
theorem and1_test (n : Nat) : ((n &&& 1 : Nat) : Int) = 1 ↔ n.testBit 0 = true := by
  rw [Nat.and_one_is_mod, Nat.testBit_zero]
  simp
  omega
theorem shr_test (n k : Nat) : (n / 2 ^ k).testBit 0 = n.testBit k := by
  rw [← Nat.shiftRight_eq_div_pow, Nat.testBit_shiftRight]
  simp
theorem bit_test (n k : Nat) : decide (Builtin.bitAnd ((n : Int) / 2 ^ ((k : Int)).toNat) 1 = 1) = n.testBit k := by
  rw [shr_nat, show (1 : Int) = ((1 : Nat) : Int) from rfl, band_nat]
  rw [Bool.eq_iff_iff, decide_eq_true_iff]
  rw [show ((1 : Nat) : Int) = 1 from rfl, and1_test, shr_test]
theorem lt_pow_of_bits {n k : Nat} (h : ∀ i, n.testBit i = true → i < k) : n < 2 ^ k := by
  refine Nat.lt_pow_two_of_testBit n fun i hi => ?_
  cases q : n.testBit i with
  | false => rfl
  | true => exact absurd (h i q) (Nat.not_lt.mpr hi)
theorem bit_lt {n k i : Nat} (h : n < 2 ^ k) (hi : n.testBit i = true) : i < k := by
  rcases Nat.lt_or_ge i k with q | q
  · exact q
  · rw [Nat.testBit_lt_two_pow (Nat.lt_of_lt_of_le h (Nat.pow_le_pow_right (by decide) q))] at hi
    cases hi
def bitsN (n : Nat) : List Nat := (List.range n).filter n.testBit
theorem bits_more {n k : Nat} (h : n < 2 ^ k) : ∀ d : Nat, (List.range (k + d)).filter n.testBit = (List.range k).filter n.testBit
  | 0 => rfl
  | d + 1 => by
    rw [← Nat.add_assoc, List.range_succ, List.filter_append, bits_more h d]
    have z : n.testBit (k + d) = false := Nat.testBit_lt_two_pow (Nat.lt_of_lt_of_le h (Nat.pow_le_pow_right (by decide) (by omega)))
    simp [z]
theorem bits_eq {n k : Nat} (h : n < 2 ^ k) : (List.range k).filter n.testBit = bitsN n := by
  rcases Nat.le_total k n with q | q
  · have e := bits_more h (n - k)
    rw [show k + (n - k) = n by omega] at e
    exact e.symm
  · have e := bits_more (Nat.lt_two_pow_self (n := n)) (k - n)
    rw [show n + (k - n) = k by omega] at e
    exact e
theorem mem_bits {n i : Nat} : i ∈ bitsN n ↔ n.testBit i = true := by
  unfold bitsN
  rw [List.mem_filter, List.mem_range]
  exact ⟨fun h => h.2, fun h => ⟨bit_lt Nat.lt_two_pow_self h, h⟩⟩
theorem bits_len {n k : Nat} (h : n < 2 ^ k) : (bitsN n).length ≤ k := by
  rw [← bits_eq h]
  have := List.length_filter_le n.testBit (List.range k)
  rw [List.length_range] at this
  exact this
def maskN (l : List Nat) : Nat := l.foldl (fun m w => m ||| 2 ^ w) 0
theorem maskN_from (l : List Nat) : ∀ m i, (l.foldl (fun m w => m ||| 2 ^ w) m).testBit i = (m.testBit i || decide (i ∈ l)) := by
  induction l with
  | nil => intro m i; simp
  | cons w r ih =>
    intro m i
    rw [List.foldl_cons, ih, Nat.testBit_or, Nat.testBit_two_pow]
    simp only [List.mem_cons]
    by_cases h1 : w = i <;> by_cases h2 : i ∈ r <;> simp [h1, h2, eq_comm]
theorem maskN_bit (l : List Nat) (i : Nat) : (maskN l).testBit i = decide (i ∈ l) := by
  unfold maskN
  rw [maskN_from]; simp
theorem maskN_lt {l : List Nat} {k : Nat} (h : ∀ w ∈ l, w < k) : maskN l < 2 ^ k := lt_pow_of_bits fun i hi => by
  rw [maskN_bit] at hi
  exact h i (of_decide_eq_true hi)
theorem maskN_take {l : List Nat} {i : Nat} {w : Nat} (h : l[i]? = some w) : maskN (l.take (i + 1)) = maskN (l.take i) ||| 2 ^ w := by
  unfold maskN
  rw [List.take_add_one, h, List.foldl_append]
  rfl
def bitOf (m : List Nat) (a b : Nat) : Bool := (m.getD a 0).testBit b
structure Wf (n : Nat) (m : List Nat) : Prop where
  len : m.length = n
  lt : ∀ x ∈ m, x < 2 ^ n
theorem Wf.get {n : Nat} {m : List Nat} (h : Wf n m) (a : Nat) : m.getD a 0 < 2 ^ n := by
  rw [List.getD_eq_getElem?_getD]
  cases q : m[a]? with
  | none => exact Nat.two_pow_pos n
  | some x => exact h.lt x (List.mem_of_getElem? q)
theorem Wf.bit {n : Nat} {m : List Nat} (h : Wf n m) {a b : Nat} (q : bitOf m a b = true) : a < n ∧ b < n := by
  refine ⟨?_, bit_lt (h.get a) q⟩
  rcases Nat.lt_or_ge a n with z | z
  · exact z
  · unfold bitOf at q
    rw [List.getD_eq_getElem?_getD, List.getElem?_eq_none (by rw [h.len]; exact z)] at q
    simp at q
end Mu
namespace Mu
theorem maskN_bits (n : Nat) : maskN (bitsN n) = n := Nat.eq_of_testBit_eq fun i => by
  rw [maskN_bit, Bool.eq_iff_iff, decide_eq_true_iff, mem_bits]
end Mu
namespace Mu
def accTo (c : Nat → Bool) (k : Nat) : Nat := (List.range k).foldl (fun m j => if c j then m ||| 2 ^ j else m) 0
theorem accTo_succ (c : Nat → Bool) (k : Nat) : accTo c (k + 1) = if c k = true then accTo c k ||| 2 ^ k else accTo c k := by
  unfold accTo
  rw [List.range_succ, List.foldl_append]
  rfl
theorem accTo_bit (c : Nat → Bool) : ∀ k i, (accTo c k).testBit i = (decide (i < k) && c i)
  | 0, i => by simp [accTo]
  | k + 1, i => by
    rw [accTo_succ]
    have ih := accTo_bit c k i
    by_cases q : c k = true
    · rw [if_pos q, Nat.testBit_or, ih, Nat.testBit_two_pow]
      by_cases z : k = i
      · subst z; simp [q]
      · have : decide (i < k + 1) = decide (i < k) := by
          rw [Bool.eq_iff_iff, decide_eq_true_iff, decide_eq_true_iff]; omega
        rw [this, decide_eq_false z, Bool.or_false]
    · rw [if_neg q, ih]
      by_cases z : k = i
      · subst z
        have : c k = false := by cases y : c k <;> simp_all
        simp [this]
      · have : decide (i < k + 1) = decide (i < k) := by
          rw [Bool.eq_iff_iff, decide_eq_true_iff, decide_eq_true_iff]; omega
        rw [this]
theorem accTo_lt (c : Nat → Bool) (k : Nat) : accTo c k < 2 ^ k := lt_pow_of_bits fun i hi => by
  rw [accTo_bit] at hi
  have := (Bool.and_eq_true_iff.mp hi).1
  exact of_decide_eq_true this
end Mu

namespace Mu
open PySem L2 Evl
def spN (R : List V → Hp → List Rp → Prop) : Sp := fun vs H Q _ => ∃ G rs, Ex G H ∧ R vs G rs ∧ ∀ p ws G2 H2, Gr G H G2 H2 → H p = none → G2 p = none → H2 p = some (.lst ws) → RA G2 ws rs → Q (.ref p) H2
def spD (R : List V → Hp → Rp → Prop) : Sp := fun vs H Q _ => ∃ G r, Ex G H ∧ R vs G r ∧ ∀ v G2 H2, Gr G H G2 H2 → r.p v G2 → Q v H2
theorem SpN.of {R : List V → Hp → List Rp → Prop} {vs : List V} {G : Hp} {rs : List Rp} (h : R vs G rs) : SpN (spN R) vs G rs := fun H e Q q _ => ⟨G, rs, e, h, q⟩
theorem SpD.of {R : List V → Hp → Rp → Prop} {vs : List V} {G : Hp} {r : Rp} (h : R vs G r) : SpD (spD R) vs G r := fun H e Q q _ => ⟨G, r, e, h, q⟩
section
variable {σ : L2.St} {G H : Hp} {te ta tb : TE} {t u : TT} {K : PySem.W.Frag} {D : Ends} {tu tw : TS} {v x y z : V} {r : Rp} {i : Nat}
theorem sq {t1 t2 : TS} (h : t1 { D with nx := t2 D } σ H) : tSeq t1 t2 D σ H := h
theorem nxt (h : D.nx σ H) : tNext D σ H := h
theorem et_cmp {p : Int → Int → Bool} {a b : Int} (ha : Ev ta σ G (.int a)) (hb : Ev tb σ G (.int b)) : EvT (tTest (tOp (rI0 fun i j => .bl (p i j)) ta tb)) σ G (p a b) := et_test (ev_op ha hb rv_I0)
theorem et_eq (ha : Ev ta σ G x) (hb : Ev tb σ G y) (hs : scal x y = true) : EvT (tTest (tOp rEq ta tb)) σ G (decide (x = y)) := et_test (ev_op ha hb (rv_eq hs))
theorem et_ne (ha : Ev ta σ G x) (hb : Ev tb σ G y) (hs : scal x y = true) : EvT (tTest (tOp rNe ta tb)) σ G (!decide (x = y)) := et_test (ev_op ha hb (rv_ne hs))
theorem ev_callD {sp : Sp} {E : XK} {ta : TA} {rs : List Rp} (h : EvAD ta σ G rs) (hs : ∀ vs G2, Ex G G2 → RA G2 vs rs → SpD sp vs G2 (rV v)) : Ev (tCall sp [] E ta) σ G v := EvD.ev (ed_call h hs)
theorem ra1 {G : Hp} {vs : List V} {r : Rp} (h : RA G vs [r]) : ∃ v, vs = [v] ∧ r.p v G := by
  cases h with
  | cons h t => cases t; exact ⟨_, rfl, h⟩
theorem ra2 {G : Hp} {vs : List V} {r r' : Rp} (h : RA G vs [r, r']) : ∃ v w, vs = [v, w] ∧ r.p v G ∧ r'.p w G := by
  cases h with
  | cons h t =>
    obtain ⟨w, e, hw⟩ := ra1 t
    exact ⟨_, w, by rw [e], h, hw⟩
theorem ra3 {G : Hp} {vs : List V} {r r' r'' : Rp} (h : RA G vs [r, r', r'']) : ∃ v w x, vs = [v, w, x] ∧ r.p v G ∧ r'.p w G ∧ r''.p x G := by
  cases h with
  | cons h t =>
    obtain ⟨w, x, e, hw⟩ := ra2 t
    exact ⟨_, w, x, by rw [e], h, hw⟩
end
section
variable {σ : L2.St} {G H : Hp} {tl : TE} {K : PySem.W.Frag} {D : Ends} {tu : TS} {j : Nat} {α : Type} {ta : TA}
theorem s_forL (l : List α) (ρ : α → Rp) (e : Ex G H) (h : EvD tl σ G (rL K (l.map ρ))) (Pv : Hp → Nat → L2.St → Hp → Prop) (h0 : ∀ G1 H1, Gr G H G1 H1 → Pv G1 0 σ H1) (hk : ∀ G1 i σ' H', Pv G1 i σ' H' → Ex G1 H')
    (hs : ∀ G1 i a x σ' H', Ex G G1 → l[i]? = some a → (ρ a).p x G1 → Pv G1 i σ' H' → tu { D with nx := Pv G1 (i + 1), ct := Pv G1 (i + 1), bk := D.nx } (σ'.set j (some x)) H') (hd : ∀ G1 σ' H', Ex G G1 → Pv G1 l.length σ' H' → D.nx σ' H') :
    tFor (iList K tl) (gName j) tu D σ H := h H e _ fun v G1 H1 g1 ⟨a, vs, hv, h1, h2⟩ => by
  subst hv
  have el : vs.length = l.length := by rw [h2.len, List.length_map]
  refine ⟨a, rfl, ⟨vs, sq_of (g1.i _ _ h1)⟩, for_list (xs := vs) (Pv G1) (h0 G1 H1 g1) (fun i σ' H' _ p => sq_of ((hk G1 i σ' H' p) _ _ h1)) (fun i x σ' H' hi p => ?_) (fun σ' H' p => hd G1 σ' H' g1.g (el ▸ p))⟩
  obtain ⟨r, hr, hx⟩ := h2.getV hi
  rw [List.getElem?_map] at hr
  cases q2 : l[i]? with
  | none => rw [q2] at hr; cases hr
  | some b =>
    rw [q2] at hr
    have hr' : ρ b = r := Option.some.inj hr
    subst hr'
    exact hs G1 i b x σ' H' g1.g q2 hx p
theorem s_forR (n : Nat) (e : Ex G H) (h : EvA ta σ G [.int (n : Int)]) (hn : n ≤ 100000) (Pv : Nat → L2.St → Hp → Prop) (h0 : ∀ H1, Ex H H1 → Pv 0 σ H1)
    (hs : ∀ (i : Nat) σ' H', i < n → Pv i σ' H' → tu { D with nx := Pv (i + 1), ct := Pv (i + 1), bk := D.nx } (σ'.set j (some (.int (i : Int)))) H') (hd : ∀ σ' H', Pv n σ' H' → D.nx σ' H') : tFor (iRng1 ta) (gName j) tu D σ H :=
  h H e _ fun H1 e1 => ⟨(n : Int), rfl, by omega, by omega, by
    rw [Int.toNat_natCast]
    refine for_range (lo := 0) (n := n) Pv (h0 H1 e1) (fun i σ' H' hi p => ?_) hd
    rw [Int.zero_add]
    exact hs i σ' H' hi p⟩
theorem s_forE {ta : TA} {j' : Nat} (l : List α) (ρ : α → Rp) (e : Ex G H) (h : EvAD ta σ G [rL K (l.map ρ)]) (Pv : Hp → Nat → L2.St → Hp → Prop) (h0 : ∀ G1 H1, Gr G H G1 H1 → Pv G1 0 σ H1) (hk : ∀ G1 i σ' H', Pv G1 i σ' H' → Ex G1 H')
    (hm : ∀ G1 i σ' H' H'', Pv G1 i σ' H' → Ex H' H'' → Pv G1 i σ' H'')
    (hs : ∀ G1 i a x σ' H', Ex G G1 → l[i]? = some a → (ρ a).p x G1 → Pv G1 i σ' H' → tu { D with nx := Pv G1 (i + 1), ct := Pv G1 (i + 1), bk := D.nx } ((σ'.set j (some (.int (i : Int)))).set j' (some x)) H') (hd : ∀ G1 σ' H', Ex G G1 → Pv G1 l.length σ' H' → D.nx σ' H') :
    tFor (iEnum K ta) (gTup K 2 (gCons (gName j) (gCons (gName j') gNil))) tu D σ H := h H e _ fun ws G1 H1 g1 hw => by
  obtain ⟨v, rfl, a, vs, rfl, h1, h2⟩ := ra1 hw
  have el : vs.length = l.length := by rw [h2.len, List.length_map]
  refine ⟨a, vs, rfl, sq_of (g1.i _ _ h1), fun i m σ' H' => m = vs.length - i ∧ i ≤ vs.length ∧ Pv G1 i σ' H', ⟨vs.length, by simp, Nat.zero_le _, h0 G1 H1 g1⟩, ?_⟩
  rintro i m σ' H' ⟨rfl, hi, p⟩
  have q : SqL K H' a vs := sq_of ((hk G1 i σ' H' p) _ _ h1)
  by_cases hlt : i < vs.length
  · refine .inr ⟨⟨vs, vs[i], q, by simp [hlt]⟩, Pv G1 (i + 1), fun σ2 H2 p' => ⟨vs.length - (i + 1), by omega, rfl, hlt, p'⟩, fun x H2 y => ?_⟩
    obtain ⟨T, x', rfl, hT, rfl, y⟩ := y
    have hx := y vs q
    refine ⟨T, _, rfl, st_of upd_same, rfl, _, _, rfl, _, _, rfl, rfl, ?_⟩
    obtain ⟨r, hr, hx'⟩ := h2.getV hx
    rw [List.getElem?_map] at hr
    cases q2 : l[i]? with
    | none => rw [q2] at hr; cases hr
    | some b =>
      rw [q2] at hr
      have hr' : ρ b = r := Option.some.inj hr
      subst hr'
      exact hs G1 i b x' σ' _ g1.g q2 hx' (hm G1 i σ' H' _ p (Ex.new hT))
  · have e : i = vs.length := by omega
    subst e
    exact .inl ⟨⟨vs, q, Nat.le_refl _⟩, hd G1 σ' H' g1.g (el ▸ p)⟩
end
end Mu

namespace Mu
open PySem L2 Evl
section
variable {σ : L2.St} {G H : Hp} {te tl ta : TE} {t : TT} {K : PySem.W.Frag} {α : Type} {j : Nat} {vs : List Nat}
theorem yes_ite {σ : L2.St} {H : Hp} {A B : Hp → Prop} (h : A H) : tYes σ H (fun b H3 => if b = true then A H3 else B H3) := by
  show (if true = true then A H else B H)
  rw [if_pos rfl]
  exact h
theorem filter_yes {l : List α} {rr : α → Rp} : (l.filter fun _ => true).map rr = l.map rr := by
  congr 1
  exact List.filter_eq_self.mpr fun _ _ => rfl
theorem en_lcL0 (l : List α) (ρ : α → Rp) (rr : α → Rp) (h : EvD tl σ G (rL K (l.map ρ))) (hz : l.length ≤ 40000) (hw : ∀ x, wipe ((wipe σ vs).set j (some x)) vs = wipe σ vs)
    (he : ∀ a x G1, a ∈ l → Ex G G1 → (ρ a).p x G1 → EvD te ((wipe σ vs).set j (some x)) G1 (rr a)) : EvN (tLc (iList K tl) (gName j) tYes te vs) σ G (l.map rr) :=
  en_is (en_lcL l ρ (fun _ => true) rr h hz hw (fun _ _ _ _ _ _ => yes_T rfl) fun a x G1 hm _ e hx => he a x G1 hm e hx) filter_yes
theorem en_lcT0 (l : List α) (ρ : α → Rp) (rr : α → Rp) (h : EvD tl σ G (rT K (l.map ρ))) (hz : l.length ≤ 40000) (hw : ∀ x, wipe ((wipe σ vs).set j (some x)) vs = wipe σ vs)
    (he : ∀ a x G1, a ∈ l → Ex G G1 → (ρ a).p x G1 → EvD te ((wipe σ vs).set j (some x)) G1 (rr a)) : EvN (tLc (iTup K tl) (gName j) tYes te vs) σ G (l.map rr) :=
  en_is (en_lcT l ρ (fun _ => true) rr h hz hw (fun _ _ _ _ _ _ => yes_T rfl) fun a x G1 hm _ e hx => he a x G1 hm e hx) filter_yes
theorem en_lc2R {ta : TA} {te1 tl1 : TE} {j1 : Nat} {vs vs1 : List Nat} (n : Nat) (l : Nat → List α) (ρ : α → Rp) (rr : Nat → α → Rp) (h : EvA ta σ G [.int (n : Int)]) (hz : n ≤ 100) (hz1 : ∀ a, a < n → (l a).length ≤ 100)
    (hw : ∀ x, wipe ((wipe σ vs).set j (some x)) vs = wipe σ vs) (hw1 : ∀ x y, wipe ((wipe ((wipe σ vs).set j (some x)) vs1).set j1 (some y)) vs1 = wipe ((wipe σ vs).set j (some x)) vs1)
    (hl : ∀ (a : Nat) G1, a < n → Ex G G1 → EvD tl1 ((wipe σ vs).set j (some (.int (a : Int)))) G1 (rL K ((l a).map ρ)))
    (he : ∀ (a : Nat) (b : α) x G1, a < n → b ∈ l a → Ex G G1 → (ρ b).p x G1 → EvD te1 ((wipe ((wipe σ vs).set j (some (.int (a : Int)))) vs1).set j1 (some x)) G1 (rr a b)) :
    EvN (tLc2 (iRng1 ta) (gName j) tYes (iList K tl1) (gName j1) tYes te1 vs vs1) σ G ((List.range n).flatMap fun a => (l a).map (rr a)) := fun H0 e Q q => h H0 e _ fun H1 e1 => by
  refine ⟨(n : Int), rfl, by omega, by omega, fun Dl hD => ?_⟩
  have g1 := (Gr.refl e).more e1
  rw [Int.toNat_natCast]
  have hsz : ∀ i, ((List.range i).flatMap fun a => (l a).map (rr a)).length ≤ i * 100 ∨ n < i := fun i => by
    induction i with
    | zero => exact .inl (by simp)
    | succ i ih =>
      rcases ih with ih | ih
      · rcases Nat.lt_or_ge i n with z | z
        · refine .inl ?_
          rw [List.range_succ, List.flatMap_append, List.length_append]
          have := hz1 i z
          rw [List.flatMap_cons, List.flatMap_nil, List.append_nil, List.length_map]
          omega
        · exact .inr (by omega)
      · exact .inr (by omega)
  refine ⟨fun i m H' => m = n - i ∧ i ≤ n ∧ Cm G H1 Dl ((List.range i).flatMap fun a => (l a).map (rr a)) H', ⟨n, by simp, Nat.zero_le _, cm_start g1.i hD⟩, ?_⟩
  rintro i m H' ⟨rfl, hi, p⟩
  by_cases hlt : i < n
  · refine .inr ⟨hlt, fun H' => Cm G H1 Dl ((List.range (i + 1)).flatMap fun a => (l a).map (rr a)) H', fun H2 p' => ⟨n - (i + 1), by omega, rfl, hlt, p'⟩, fun x H2 y => ?_⟩
    obtain ⟨ex, ey⟩ := y
    subst ex ey
    rw [show (0 : Int) + (i : Int) = (i : Int) from Int.zero_add _]
    refine ⟨hw _, ?_⟩
    refine yes_ite ?_
    obtain ⟨p1, G', ws, g, hG, hD', ra⟩ := p
    refine hl i G' hlt g.g _ g.i _ fun v G3 H3 g3 ⟨a, xs, hv, h1, h2⟩ => ?_
    subst hv
    have el : xs.length = (l i).length := by rw [h2.len, List.length_map]
    refine ⟨a, rfl, ⟨xs, sq_of (g3.i _ _ h1)⟩, fun k m' H' => m' = xs.length - k ∧ k ≤ xs.length ∧ Ex G3 H' ∧ Cm G H1 Dl (((List.range i).flatMap fun a => (l a).map (rr a)) ++ ((l i).take k).map (rr i)) H' ∧ ∃ G4 ws, Gr G H1 G4 H' ∧ Ex G3 G4 ∧ G4 Dl = none ∧ H' Dl = some (.lst ws) ∧ RA G4 ws (((List.range i).flatMap fun a => (l a).map (rr a)) ++ ((l i).take k).map (rr i)), ⟨xs.length, by simp, Nat.zero_le _, g3.i, ?_, ?_⟩, ?_⟩
    · rw [List.take_zero, List.map_nil, List.append_nil]
      exact ⟨p1, G3, ws, g.trans g3, g3.n _ _ hD' mt_lst hG, g3.h _ _ hD', ra.mono g3.g⟩
    · rw [List.take_zero, List.map_nil, List.append_nil]
      exact ⟨G3, ws, g.trans g3, Ex.refl _, g3.n _ _ hD' mt_lst hG, g3.h _ _ hD', ra.mono g3.g⟩
    · rintro k m' H5 ⟨rfl, hk, e5, _, G4, ws4, g4, e34, hG4, hD4, ra4⟩
      by_cases hlk : k < xs.length
      · refine .inr ⟨⟨xs, xs[k], sq_of (e5 _ _ h1), by simp [hlk]⟩, fun H' => Ex G3 H' ∧ Cm G H1 Dl (((List.range i).flatMap fun a => (l a).map (rr a)) ++ ((l i).take (k + 1)).map (rr i)) H' ∧ ∃ G4 ws, Gr G H1 G4 H' ∧ Ex G3 G4 ∧ G4 Dl = none ∧ H' Dl = some (.lst ws) ∧ RA G4 ws (((List.range i).flatMap fun a => (l a).map (rr a)) ++ ((l i).take (k + 1)).map (rr i)),
          fun H6 p' => ⟨xs.length - (k + 1), by omega, rfl, hlk, p'⟩, fun x H6 y => ?_⟩
        obtain ⟨ey, y⟩ := y
        subst ey
        have hx := y xs (sq_of (e5 _ _ h1))
        obtain ⟨r, hr, hx'⟩ := h2.getV hx
        rw [List.getElem?_map] at hr
        cases q2 : (l i)[k]? with
        | none => rw [q2] at hr; cases hr
        | some b =>
          rw [q2] at hr
          have hr' : ρ b = r := Option.some.inj hr
          subst hr'
          refine ⟨hw1 _ _, ?_⟩
          refine yes_ite ?_
          refine (he i b x G4 hlt (List.mem_of_getElem? q2) g4.g ((ρ b).mono e34 hx')) _ g4.i _ fun y G6 H6 g6 hy => ?_
          have hlen : (((List.range i).flatMap fun a => (l a).map (rr a)) ++ ((l i).take k).map (rr i)).length < 50000 := by
            have z1 := hsz i
            have z2 := hz1 i hlt
            rw [List.length_append, List.length_map, List.length_take]
            omega
          have gg := g4.trans g6
          have n6 : G6 Dl = none := g6.n _ _ hD4 mt_lst hG4
          have ee : (((List.range i).flatMap fun a => (l a).map (rr a)) ++ ((l i).take k).map (rr i)) ++ [rr i b] = ((List.range i).flatMap fun a => (l a).map (rr a)) ++ ((l i).take (k + 1)).map (rr i) := by
            rw [List.take_add_one, q2, List.append_assoc, List.map_append]
            rfl
          have g7 : Gr G H1 G6 (upd H6 Dl (.lst (ws4 ++ [y]))) := ⟨gg.g, Ex.mut gg.h p1, Ex.mut gg.i n6, gg.n⟩
          have r7 : RA G6 (ws4 ++ [y]) (((List.range i).flatMap fun a => (l a).map (rr a)) ++ ((l i).take (k + 1)).map (rr i)) := ee ▸ (ra4.mono g6.g).snoc hy
          exact ⟨ws4, g6.h _ _ hD4, sz_lt (by rw [ra4.len]; omega), (e34.trans g6.g).trans g7.i, ⟨p1, G6, _, g7, n6, upd_same, r7⟩, G6, _, g7, e34.trans g6.g, n6, upd_same, r7⟩
      · have ek : k = xs.length := by omega
        subst ek
        refine .inl ⟨⟨xs, sq_of (e5 _ _ h1), Nat.le_refl _⟩, p1, G4, ws4, g4, hG4, hD4, ?_⟩
        rw [List.range_succ, List.flatMap_append]
        rw [el, List.take_length] at ra4
        simpa using ra4
  · have ei : i = n := by omega
    subst ei
    obtain ⟨p1, G', ws, g, hG, hD', ra⟩ := p
    exact .inl ⟨Nat.le_refl _, q Dl ws G' H' (g1.trans g) (fresh_back e1 p1) hG hD' ra⟩
end
def pairsN (m : List Nat) : List (Nat × Nat) := (List.range m.length).flatMap fun a => (bitsN (m.getD a 0)).map fun b => (a, b)
section
variable (K : PySem.W.Frag) (C : Addr)
def rP (p : Nat × Nat) : Rp := rT K [nI p.1, nI p.2]
def tabF (n : Nat) (t c : Addr) : List (Str × V) := [("size", .int (n : Int)), ("masks", .ref t), ("cells", .ref c)]
def rTab (m : List Nat) : Rp := ⟨fun v H => ∃ a dx t c, v = .ref a ∧ H a = some (.ins C dx (tabF m.length t c)) ∧ (rTn K m).p (.ref t) H ∧ (rT K ((pairsN m).map (rP K))).p (.ref c) H,
  fun e ⟨a, dx, t, c, h1, h2, h3, h4⟩ => ⟨a, dx, t, c, h1, e _ _ h2, (rTn K _).mono e h3, (rT K _).mono e h4⟩⟩
def spTab : Sp := fun vs H Q _ => ∃ p dx x G rows, vs = [.ref p, x] ∧ H p = some (.ins C dx []) ∧ Ex G H ∧ G p = none ∧ (rLL K rows).p x G ∧ 1 ≤ rows.length ∧ rows.length ≤ 6 ∧ (∀ r ∈ rows, r.length ≤ 100 ∧ ∀ w ∈ r, w < rows.length) ∧
  ∀ H2 G2 t c, Ex G G2 → (∀ a o, H a = some o → a ≠ p → H2 a = some o) → Ex G2 H2 → (∀ a o, H a = some o → Mt o → G a = none → G2 a = none) → H2 p = some (.ins C dx (tabF rows.length t c)) → (rTn K (rows.map maskN)).p (.ref t) G2 → (rT K ((pairsN (rows.map maskN)).map (rP K))).p (.ref c) G2 → Q .non H2
end
section
variable {K : PySem.W.Frag} {C : Addr} {σ : L2.St} {G H : Hp} {ta te : TE} {m : List Nat}
theorem ed_tab {rows : List (List Nat)} {E : XK} (h : EvD ta σ G (rLL K rows)) (h1 : 1 ≤ rows.length) (h6 : rows.length ≤ 6) (hr : ∀ r ∈ rows, r.length ≤ 100 ∧ ∀ w ∈ r, w < rows.length) :
    EvD (tMake C (spTab K C) [] E (tCons ta tNil)) σ G (rTab K C (rows.map maskN)) := fun H e Q q => h H e _ fun v G2 H2 g hv => fun x dx hx hdx hne => by
  have ed : Ex H2 (upd (upd H2 dx (.own x)) x (.ins C dx [])) := (Ex.new hdx).trans (Ex.new (by rw [upd_ne (Ne.symm hne)]; exact hx))
  refine ⟨x, dx, v, G2, rows, rfl, upd_same, g.i.trans ed, fresh_back g.i hx, hv, h1, h6, hr, fun H3 G3 t c e3 k3 i3 n3 p3 t3 c3 => ⟨rfl, ?_⟩⟩
  have hx2 : (upd (upd H2 dx (.own x)) x (.ins C dx [])) x = some (.ins C dx []) := upd_same
  have gx : G3 x = none := n3 x _ hx2 mt_ins (fresh_back g.i hx)
  have len : (rows.map maskN).length = rows.length := List.length_map _
  refine q (.ref x) (upd G3 x (.ins C dx (tabF rows.length t c))) H3 ⟨(g.g.trans e3).trans (Ex.new gx), fun a o z => ?_, fun a o z => ?_, fun a o z tt y => ?_⟩ ⟨x, dx, t, c, rfl, by rw [len]; exact upd_same, (rTn K _).mono (Ex.new gx) t3, (rT K _).mono (Ex.new gx) c3⟩
  · have z2 := g.h a o z
    exact k3 a o (ed a o z2) (ne_of_none z2 hx)
  · by_cases c1 : a = x
    · subst c1
      rw [upd_same] at z
      rw [p3]; exact z
    · rw [upd_ne c1] at z
      exact i3 a o z
  · have z2 := g.h a o z
    rw [upd_ne (ne_of_none z2 hx)]
    exact n3 a o (ed a o z2) tt (g.n a o z tt y)
theorem tabF_masks {n : Nat} {t c : Addr} : (tabF n t c).lookup ("masks" : Str) = some (.ref t) := by
  have h1 : (("masks" : Str) == ("size" : Str)) = false := by decide +kernel
  unfold tabF
  simp [List.lookup, h1]
theorem tabF_cells {n : Nat} {t c : Addr} : (tabF n t c).lookup ("cells" : Str) = some (.ref c) := by
  have h1 : (("cells" : Str) == ("size" : Str)) = false := by decide +kernel
  have h2 : (("cells" : Str) == ("masks" : Str)) = false := by decide +kernel
  unfold tabF
  simp [List.lookup, h1, h2]
theorem ev_size (h : EvD ta σ G (rTab K C m)) (hc : Cls K C) (hn : NoAttr K C "size") : Ev (tFld K ta "size") σ G (.int (m.length : Int)) := fun H e Q q => h H e _ fun v G2 H2 g hv => by
  obtain ⟨a, dx, t, c, rfl, h2, h3, h4⟩ := hv
  exact ⟨a, C, dx, _, _, rfl, g.i _ _ h2, hc, hn, rfl, q H2 g.h⟩
theorem ed_masks (h : EvD ta σ G (rTab K C m)) (hc : Cls K C) (hn : NoAttr K C "masks") : EvD (tFld K ta "masks") σ G (rTn K m) := fun H e Q q => h H e _ fun v G2 H2 g hv => by
  obtain ⟨a, dx, t, c, rfl, h2, h3, h4⟩ := hv
  exact ⟨a, C, dx, _, .ref t, rfl, g.i _ _ h2, hc, hn, tabF_masks, q _ G2 H2 g h3⟩
theorem ed_cells (h : EvD ta σ G (rTab K C m)) (hc : Cls K C) (hn : NoAttr K C "cells") : EvD (tFld K ta "cells") σ G (rT K ((pairsN m).map (rP K))) := fun H e Q q => h H e _ fun v G2 H2 g hv => by
  obtain ⟨a, dx, t, c, rfl, h2, h3, h4⟩ := hv
  exact ⟨a, C, dx, _, .ref c, rfl, g.i _ _ h2, hc, hn, tabF_cells, q _ G2 H2 g h4⟩
end
section
variable {K : PySem.W.Frag} {C : Addr} {σ : L2.St} {G H : Hp} {ta tv : TE} {f : Str} {D : Ends} {r : Rp}
theorem s_fld {p dx : Addr} {fs : List (Str × V)} (e : Ex G H) (hp : H p = some (.ins C dx fs)) (gp : G p = none) (hv : EvD tv σ G r) (ha : Ev ta σ G (.ref p)) (hc : Cls K C) (hn : NoAttr K C f) (hl : fs.length < 1000)
    (k : ∀ y G2 H2, Ex G G2 → (∀ a o, H a = some o → a ≠ p → H2 a = some o) → Ex G2 H2 → (∀ a o, H a = some o → Mt o → G a = none → G2 a = none) → G2 p = none → r.p y G2 → H2 p = some (.ins C dx (putF f y fs)) → D.nx σ H2) : sFld K ta tv f D σ H :=
  hv H e _ fun y G2 H2 g hy => ha H2 (g.g.trans g.i) _ fun H3 e3 => by
    have g2 : G2 p = none := g.n p _ hp mt_ins gp
    refine ⟨p, C, dx, fs, rfl, e3 _ _ (g.h _ _ hp), hc, hn, hl, k y G2 _ g.g (fun a o z n => ?_) (Ex.mut (g.i.trans e3) g2) g.n g2 hy upd_same⟩
    rw [upd_ne n]
    exact e3 a o (g.h a o z)
def off (p : Addr) (G : Hp) : Hp := fun a => if a = p then none else G a
theorem off_self {p : Addr} {G : Hp} : off p G p = none := by unfold off; rw [if_pos rfl]
theorem off_ne {p a : Addr} {G : Hp} (h : a ≠ p) : off p G a = G a := by unfold off; rw [if_neg h]
theorem ex_off {p : Addr} {G : Hp} : Ex (off p G) G := fun a o h => by
  by_cases c : a = p
  · subst c; rw [off_self] at h; cases h
  · rw [off_ne c] at h; exact h
theorem ex_in_off {p : Addr} {G G' : Hp} (e : Ex G G') (h : G p = none) : Ex G (off p G') := fun a o z => by
  rw [off_ne (ne_of_none z h)]; exact e a o z
theorem ex_add {p : Addr} {G H : Hp} {o : HO} (e : Ex G H) (h : H p = some o) : Ex (upd G p o) H := fun a u z => by
  by_cases c : a = p
  · subst c; rw [upd_same] at z; rw [h]; exact z
  · rw [upd_ne c] at z; exact e a u z
theorem s_fldS {p dx : Addr} {fs : List (Str × V)} (e : Ex G H) (hp : H p = some (.ins C dx fs)) (gp : G p = none) (hv : EvD tv σ (upd G p (.ins C dx fs)) r) (hoff : ∀ y G2, G2 p = some (.ins C dx fs) → r.p y G2 → r.p y (off p G2)) (ha : Ev ta σ G (.ref p)) (hc : Cls K C) (hn : NoAttr K C f) (hl : fs.length < 1000)
    (k : ∀ y G2 H2, Ex G G2 → (∀ a o, H a = some o → a ≠ p → H2 a = some o) → Ex G2 H2 → (∀ a o, H a = some o → Mt o → G a = none → G2 a = none) → G2 p = none → r.p y G2 → H2 p = some (.ins C dx (putF f y fs)) → D.nx σ H2) : sFld K ta tv f D σ H :=
  hv H (ex_add e hp) _ fun y G2 H2 g hy => ha H2 (e.trans g.h) _ fun H3 e3 => by
    have g2 : G2 p = some (.ins C dx fs) := g.g p _ upd_same
    refine ⟨p, C, dx, fs, rfl, e3 _ _ (g.h _ _ hp), hc, hn, hl, k y (off p G2) _ (ex_in_off ((Ex.new gp).trans g.g) gp) (fun a o z n => ?_) (Ex.mut (ex_off.trans (g.i.trans e3)) off_self) (fun a o z t y => ?_) off_self (hoff y G2 g2 hy) upd_same⟩
    · rw [upd_ne n]
      exact e3 a o (g.h a o z)
    · by_cases c : a = p
      · subst c; exact off_self
      · rw [off_ne c]
        exact g.n a o z t (by rw [upd_ne c]; exact y)
theorem rT_off {p C' dx : Addr} {fs : List (Str × V)} {rs : List Rp} {y : V} {G2 : Hp} (h : G2 p = some (.ins C' dx fs)) (hr : ∀ r ∈ rs, ∀ v, r.p v G2 → r.p v (off p G2)) (q : (rT K rs).p y G2) : (rT K rs).p y (off p G2) := by
  obtain ⟨a, vs, rfl, h1, h2⟩ := q
  refine ⟨a, vs, rfl, ?_, ?_⟩
  · rcases h1 with (h1 | ⟨o, h1⟩) | h1
    · exact .inl (.inl (by rw [off_ne (ne_of h1 h (by intro z; cases z))]; exact h1))
    · exact .inl (.inr ⟨o, by rw [off_ne (ne_of h1 h (by intro z; cases z))]; exact h1⟩)
    · exact .inr h1
  · clear h1
    induction h2 with
    | nil => exact .nil
    | cons a t ih => exact .cons (hr _ List.mem_cons_self _ a) (ih fun r hm v => hr r (List.mem_cons_of_mem _ hm) v)
theorem rP_off {p C' dx : Addr} {fs : List (Str × V)} {l : List (Nat × Nat)} {y : V} {G2 : Hp} (h : G2 p = some (.ins C' dx fs)) (q : (rT K (l.map (rP K))).p y G2) : (rT K (l.map (rP K))).p y (off p G2) := by
  refine rT_off h (fun r hr v hv => ?_) q
  obtain ⟨z, _, rfl⟩ := List.mem_map.mp hr
  refine rT_off h (fun r hr v hv => ?_) hv
  simp at hr
  rcases hr with rfl | rfl <;> exact hv
end
section
variable {K : PySem.W.Frag} {C : Addr} {σ : L2.St} {G H : Hp} {ta tb : TE} {m : List Nat} {f : Str} {sp : Sp} {E : XK}
theorem ed_own2 {r : Rp} {m' : List Nat} (ha : EvD ta σ G (rTab K C m)) (hb : EvD tb σ G (rTab K C m')) (hs : ∀ x y G2, Ex G G2 → (rTab K C m).p x G2 → (rTab K C m').p y G2 → SpD sp [x, y] G2 r) : EvD (tOp (rOwn2 C sp E) ta tb) σ G r :=
  ed_op ha hb fun x y G2 H e1 e2 hx hy Q q => by
    obtain ⟨a, dx, t, c, rfl, h2, _⟩ := id hx
    obtain ⟨a', dx', t', c', rfl, h2', _⟩ := id hy
    exact ⟨a, a', dx, _, dx', _, rfl, rfl, e2 _ _ h2, e2 _ _ h2', hs _ _ G2 e1 hx hy H e2 Q q E⟩
end
section
variable {K : PySem.W.Frag} {C : Addr} {σ : L2.St} {G H : Hp} {te tl : TE} {E : XK}
theorem masks_bits (m : List Nat) : (m.map bitsN).map maskN = m := by
  rw [List.map_map]
  exact (List.map_congr_left fun a _ => maskN_bits a).trans (List.map_id _)
theorem rows_ok {n : Nat} {m : List Nat} (w : Wf n m) (h6 : n ≤ 6) : ∀ r ∈ m.map bitsN, r.length ≤ 100 ∧ ∀ x ∈ r, x < (m.map bitsN).length := fun r hr => by
  obtain ⟨a, ha, rfl⟩ := List.mem_map.mp hr
  refine ⟨Nat.le_trans (bits_len (w.lt a ha)) (by omega), fun x hx => ?_⟩
  rw [List.length_map, w.len]
  exact bit_lt (w.lt a ha) (mem_bits.mp hx)
theorem ed_tabRows {n : Nat} {m : List Nat} (h : EvD te σ G (rLL K (m.map bitsN))) (w : Wf n m) (h1 : 1 ≤ n) (h6 : n ≤ 6) : EvD (tMake C (spTab K C) [] E (tCons te tNil)) σ G (rTab K C m) :=
  ed_is (ed_tab h (by rw [List.length_map, w.len]; exact h1) (by rw [List.length_map, w.len]; exact h6) (rows_ok w h6)) (by rw [masks_bits])
end
section
variable {K : PySem.W.Frag} {C : Addr} {σ : L2.St} {G H : Hp} {ta : TE} {m : List Nat} {sp : Sp} {E : XK}
end
end Mu

namespace Mu
open PySem L2 Evl
structure IsC (K : PySem.W.Frag) (C : Addr) : Prop where
  c : Cls K C
  a : PySem.W.findIn K (.ref C) "__class__" = some (some (.builtin "object.__class__"))
  g : PySem.W.specialIn K (.builtin "object.__class__") "__get__" = some (some (.builtin "getset_descriptor.__get__"))
  t : PySem.W.takesIn K (.builtin "object.__class__") = some true
  m : PySem.W.mroIn K C (.type "object") = some true
theorem isCB_ok {K : PySem.W.Frag} {C : Addr} (c : Cls K C) (h : isCB K C = true) : IsC K C := by
  obtain ⟨h1, h⟩ := He.ba h
  obtain ⟨h2, h⟩ := He.ba h
  obtain ⟨h3, h4⟩ := He.ba h
  exact ⟨c, He.eqO_ok h1, He.eqO_ok h2, of_decide_eq_true h3, of_decide_eq_true h4⟩
section
variable {K : PySem.W.Frag} {C : Addr} {σ : L2.St} {G H : Hp} {ta te : TE} {m : List Nat}
theorem ev_isi {r : Rp} {c : V} {u : Value} {b : Bool} (h : EvD ta σ G r) (hc : ClsV c u) (ht : ∀ v H, r.p v H → ∃ t, TyX K H v t ∧ PySem.W.kitOne K t u = some b) : Ev (tCB (rIsi K) (tCons ta (tCons (tC c) tNil))) σ G (.bl b) := fun H e Q q =>
  h H e _ fun v G2 H2 g hv => by
    obtain ⟨t, h1, h2⟩ := ht v H2 (r.mono g.i hv)
    exact ⟨v, c, t, u, b, rfl, hc, h1, h2, q H2 g.h⟩
theorem kit_same {t : Value} : PySem.W.kitOne K t t = some true := by unfold PySem.W.kitOne; simp
theorem ty_list {rs : List Rp} {v : V} (h : (rL K rs).p v H) : TyX K H v (.type "list") := by
  obtain ⟨a, vs, rfl, h1, _⟩ := h
  exact .base (.lst h1)
theorem ty_tup {rs : List Rp} {v : V} (h : (rT K rs).p v H) : TyX K H v (.type "tuple") := by
  obtain ⟨a, vs, rfl, h1, _⟩ := h
  rcases h1 with (h1 | ⟨o, h1⟩) | ⟨o, its, n, h1, h2, _⟩
  · exact .base (.tup h1)
  · exact .fTuple h1
  · exact .kTuple h1 h2
theorem ty_tab (c : IsC K C) {v : V} (h : (rTab K C m).p v H) : TyX K H v (.ref C) := by
  obtain ⟨a, dx, t, cc, rfl, h2, _⟩ := h
  exact .base (.ins h2 c.c c.a c.g c.t c.m)
theorem is_int {i : Int} (h : Ev ta σ G (.int i)) : Ev (tCB (rIsi K) (tCons ta (tCons (tC (.ty "int")) tNil))) σ G (.bl true) := ev_isi (Ev.d h) (.ty _) fun v H hv => ⟨_, by obtain rfl : v = V.int i := hv; exact .base (.int i), kit_same⟩
theorem is_list {rs : List Rp} (h : EvD ta σ G (rL K rs)) : Ev (tCB (rIsi K) (tCons ta (tCons (tC (.ty "list")) tNil))) σ G (.bl true) := ev_isi h (.ty _) fun v H hv => ⟨_, ty_list hv, kit_same⟩
theorem is_tup {rs : List Rp} (h : EvD ta σ G (rT K rs)) : Ev (tCB (rIsi K) (tCons ta (tCons (tC (.ty "tuple")) tNil))) σ G (.bl true) := ev_isi h (.ty _) fun v H hv => ⟨_, ty_tup hv, kit_same⟩
theorem is_tab (c : IsC K C) (h : EvD ta σ G (rTab K C m)) : Ev (tCB (rIsi K) (tCons ta (tCons (tC (.ref C)) tNil))) σ G (.bl true) := ev_isi h (.own _) fun v H hv => ⟨_, ty_tab c hv, kit_same⟩
def AsD (K : PySem.W.Frag) (r : Rp) (d : PyData) : Prop := ∀ v H, r.p v H → Dp K H v d
theorem asd_int (i : Int) : AsD K (rI i) (.int i) := fun v H h => by obtain rfl : v = V.int i := h; exact .int i
theorem asd_all {H : Hp} {α : Type} {ρ : α → Rp} {δ : α → PyData} (h : ∀ a, AsD K (ρ a) (δ a)) : ∀ {l : List α} {vs : List V}, RA H vs (l.map ρ) → DpAll K H vs (l.map δ)
  | [], _, .nil => .nil
  | a :: r, _, .cons q t => .cons (h a _ _ q) (asd_all h t)
theorem asd_list {α : Type} {ρ : α → Rp} {δ : α → PyData} (h : ∀ a, AsD K (ρ a) (δ a)) (l : List α) : AsD K (rL K (l.map ρ)) (.list (l.map δ)) := fun v H q => by
  obtain ⟨a, vs, rfl, h1, h2⟩ := q
  exact .lst (sq_of h1) (asd_all h h2)
theorem asd_tup {α : Type} {ρ : α → Rp} {δ : α → PyData} (h : ∀ a, AsD K (ρ a) (δ a)) (l : List α) : AsD K (rT K (l.map ρ)) (.tuple (l.map δ)) := fun v H q => by
  obtain ⟨a, vs, rfl, h1, h2⟩ := q
  exact .tup h1 (asd_all h h2)
abbrev dN (n : Nat) : PyData := .int (n : Int)
abbrev dLn (l : List Nat) : PyData := .list (l.map dN)
abbrev dTn (l : List Nat) : PyData := .tuple (l.map dN)
abbrev dLL (l : List (List Nat)) : PyData := .list (l.map dLn)
abbrev dP (p : Nat × Nat) : PyData := .tuple [.int (p.1 : Int), .int (p.2 : Int)]
theorem asd_ln (l : List Nat) : AsD K (rLn K l) (dLn l) := asd_list (fun a => asd_int _) l
theorem asd_tn (l : List Nat) : AsD K (rTn K l) (dTn l) := asd_tup (fun a => asd_int _) l
theorem asd_ll (l : List (List Nat)) : AsD K (rLL K l) (dLL l) := asd_list asd_ln l
theorem asd_p (p : Nat × Nat) : AsD K (rP K p) (dP p) := fun v H q => by
  obtain ⟨a, vs, rfl, h1, h2⟩ := q
  obtain ⟨x, y, rfl, hx, hy⟩ := ra2 h2
  obtain rfl : x = V.int (p.1 : Int) := hx
  obtain rfl : y = V.int (p.2 : Int) := hy
  exact .tup h1 (.cons (.int _) (.cons (.int _) .nil))
theorem ev_eqD {r1 r2 : Rp} {d1 d2 : PyData} {tb : TE} (ha : EvD ta σ G r1) (hb : EvD tb σ G r2) (a1 : AsD K r1 d1) (a2 : AsD K r2 d2) (s1 : SeqAt.shaped d1 = true) (s2 : SeqAt.shaped d2 = true) : Ev (tOp (rEqD K) ta tb) σ G (.bl (PyData.eqv d1 d2)) :=
  ev_op2 ha hb fun x y H hx hy Q q => ⟨d1, d2, a1 x H hx, a2 y H hy, s1, s2, q⟩
theorem ev_neD {r1 r2 : Rp} {d1 d2 : PyData} {tb : TE} (ha : EvD ta σ G r1) (hb : EvD tb σ G r2) (a1 : AsD K r1 d1) (a2 : AsD K r2 d2) (s1 : SeqAt.shaped d1 = true) (s2 : SeqAt.shaped d2 = true) : Ev (tOp (rNeD K) ta tb) σ G (.bl (!PyData.eqv d1 d2)) :=
  ev_op2 ha hb fun x y H hx hy Q q => ⟨d1, d2, a1 x H hx, a2 y H hy, s1, s2, q⟩
end
end Mu
namespace Mu
open PySem L2 Evl
def Sh (k : Nat) (d : PyData) : Prop := d.canLay0 = true ∧ d.depth ≤ k
theorem sh_all {α : Type} {δ : α → PyData} {k : Nat} (h : ∀ a, Sh k (δ a)) : ∀ l : List α, PyData.canLayAll0 (l.map δ) = true ∧ PyData.depthAll (l.map δ) ≤ k
  | [] => ⟨rfl, Nat.zero_le _⟩
  | a :: r => by
    obtain ⟨h1, h2⟩ := sh_all h r
    refine ⟨?_, ?_⟩
    · rw [List.map_cons]; unfold PyData.canLayAll0; rw [(h a).1, h1]; rfl
    · rw [List.map_cons]; unfold PyData.depthAll; exact Nat.max_le.mpr ⟨(h a).2, h2⟩
theorem sh_list {α : Type} {δ : α → PyData} {k : Nat} (h : ∀ a, Sh k (δ a)) (l : List α) : Sh (k + 1) (.list (l.map δ)) := by
  obtain ⟨h1, h2⟩ := sh_all h l
  refine ⟨by unfold PyData.canLay0; exact h1, ?_⟩
  unfold PyData.depth; omega
theorem sh_tup {α : Type} {δ : α → PyData} {k : Nat} (h : ∀ a, Sh k (δ a)) (l : List α) : Sh (k + 1) (.tuple (l.map δ)) := by
  obtain ⟨h1, h2⟩ := sh_all h l
  refine ⟨by unfold PyData.canLay0; exact h1, ?_⟩
  unfold PyData.depth; omega
theorem sh_int (i : Int) : Sh 1 (.int i) := ⟨by unfold PyData.canLay0; rfl, by unfold PyData.depth; omega⟩
theorem Sh.ok {k : Nat} {d : PyData} (h : Sh k d) (hk : k ≤ 64) : SeqAt.shaped d = true := by
  unfold SeqAt.shaped
  rw [h.1, decide_eq_true (Nat.le_trans h.2 hk)]; rfl
theorem Sh.mono {k j : Nat} {d : PyData} (h : Sh k d) (hk : k ≤ j) : Sh j d := ⟨h.1, Nat.le_trans h.2 hk⟩
theorem sh_ln (l : List Nat) : Sh 2 (dLn l) := sh_list (fun a => sh_int _) l
theorem sh_tn (l : List Nat) : Sh 2 (dTn l) := sh_tup (fun a => sh_int _) l
theorem sh_ll (l : List (List Nat)) : Sh 3 (dLL l) := sh_list sh_ln l
theorem sh_p (p : Nat × Nat) : Sh 2 (dP p) := sh_tup (fun a : Nat => sh_int (a : Int)) [p.1, p.2]
theorem eqv_all {α : Type} [DecidableEq α] {δ : α → PyData} (h : ∀ a b, PyData.eqv (δ a) (δ b) = decide (a = b)) : ∀ l m : List α, PyData.eqvAll (l.map δ) (m.map δ) = decide (l = m)
  | [], [] => by simp [PyData.eqvAll]
  | [], _ :: _ => by simp [PyData.eqvAll]
  | _ :: _, [] => by simp [PyData.eqvAll]
  | a :: l, b :: m => by
    rw [List.map_cons, List.map_cons, PyData.eqvAll, h a b, eqv_all h l m, Bool.eq_iff_iff]
    simp
theorem eqv_n (a b : Nat) : PyData.eqv (dN a) (dN b) = decide (a = b) := by
  rw [Bool.eq_iff_iff]
  simp [PyData.eqv]
  omega
theorem eqv_ln (a b : List Nat) : PyData.eqv (dLn a) (dLn b) = decide (a = b) := by
  show PyData.eqv (.list _) (.list _) = _
  rw [PyData.eqv]; exact eqv_all eqv_n a b
theorem eqv_tn (a b : List Nat) : PyData.eqv (dTn a) (dTn b) = decide (a = b) := by
  show PyData.eqv (.tuple _) (.tuple _) = _
  rw [PyData.eqv]; exact eqv_all eqv_n a b
theorem eqv_ll (a b : List (List Nat)) : PyData.eqv (dLL a) (dLL b) = decide (a = b) := by
  show PyData.eqv (.list _) (.list _) = _
  rw [PyData.eqv]; exact eqv_all eqv_ln a b
theorem eqv_p (a b : Nat × Nat) : PyData.eqv (dP a) (dP b) = decide (a = b) := by
  obtain ⟨a1, a2⟩ := a
  obtain ⟨b1, b2⟩ := b
  show PyData.eqv (.tuple _) (.tuple _) = _
  rw [PyData.eqv, Bool.eq_iff_iff]
  simp [PyData.eqvAll, PyData.eqv]
  omega
section
variable {K : PySem.W.Frag} {σ : L2.St} {G : Hp} {ta tb : TE}
theorem ints_flat (l : List Nat) : (l.map fun (n : Nat) => V.int (n : Int)).all flatV = true := by
  rw [List.all_map]
  exact List.all_eq_true.mpr fun _ _ => rfl
theorem inV_nat (w : Nat) (l : List Nat) : inV (.int (w : Int)) (l.map fun (n : Nat) => V.int (n : Int)) = decide (w ∈ l) := by
  unfold inV
  rw [List.any_map, Bool.eq_iff_iff, List.any_eq_true, decide_eq_true_iff]
  constructor
  · rintro ⟨x, hx, h⟩
    have : x = w := by
      have h2 : eqV (.int (x : Int)) (.int (w : Int)) = true := h
      simp [eqV] at h2
      omega
    rw [← this]; exact hx
  · intro h
    exact ⟨w, h, by simp [eqV]⟩
theorem ev_inLn {l : List Nat} {w : Nat} {neg : Bool} (ha : Ev ta σ G (.int (w : Int))) (hb : EvD tb σ G (rLn K l)) : Ev (tOp (rIn K neg) ta tb) σ G (.bl (if neg then !decide (w ∈ l) else decide (w ∈ l))) :=
  ev_op2 (Ev.d ha) hb fun x y H hx hy Q q => by
    obtain rfl : x = V.int (w : Int) := hx
    obtain ⟨a, vs, rfl, h1, h2⟩ := hy
    have e := ra_nats_eq h2
    subst e
    exact ⟨a, _, rfl, .inl (sq_of h1), rfl, ints_flat l, by rw [inV_nat]; exact q⟩
end
end Mu

namespace Mu
open PySem L2 Evl
structure Box (K : PySem.W.Frag) (G H : Hp) (b : Addr) : Prop where
  ex : ∃ (c : Addr) (cells : List Int) (i x y : Int), H b = some (.lst [.ref c, .int i, .int x, .int y]) ∧ G c = some (.lst (cells.map V.int)) ∧ (∀ z ∈ cells, 0 ≤ z) ∧ 0 ≤ i ∧ 0 ≤ x ∧ 0 ≤ y ∧ y < 2147483647
theorem Box.mono {K : PySem.W.Frag} {G G' H H' : Hp} {b : Addr} (h : Box K G H b) (g : Ex G G') (e : Ex H H') : Box K G' H' b := by
  obtain ⟨c, cells, i, x, y, h1, h2, h3⟩ := h.ex
  exact ⟨c, cells, i, x, y, e _ _ h1, g _ _ h2, h3⟩
theorem Box.mono' {K : PySem.W.Frag} {G G' H H' : Hp} {b : Addr} (h : Box K G H b) (g : Ex G G') (e : ∀ o, H b = some o → H' b = some o) : Box K G' H' b := by
  obtain ⟨c, cells, i, x, y, h1, h2, h3⟩ := h.ex
  exact ⟨c, cells, i, x, y, e _ h1, g _ _ h2, h3⟩
theorem Box.at_ {K : PySem.W.Frag} {G H : Hp} {b : Addr} (h : Box K G H b) : ∃ o, H b = some o ∧ Mt o := by
  obtain ⟨c, cells, i, x, y, h1, _⟩ := h.ex
  exact ⟨_, h1, mt_lst⟩
structure GrB (b : Addr) (G H G2 H2 : Hp) : Prop where
  g : Ex G G2
  h : ∀ a o, H a = some o → a ≠ b → H2 a = some o
  i : Ex G2 H2
  n : ∀ a o, H a = some o → Mt o → G a = none → G2 a = none
theorem Gr.b {b : Addr} {G H G2 H2 : Hp} (g : Gr G H G2 H2) : GrB b G H G2 H2 := ⟨g.g, fun a o z _ => g.h a o z, g.i, g.n⟩
theorem GrB.refl {b : Addr} {G H : Hp} (e : Ex G H) : GrB b G H G H := (Gr.refl e).b
theorem GrB.trans {b : Addr} {G H G2 H2 G3 H3 : Hp} (gb : G b = none) (hb : ∃ o, H b = some o ∧ Mt o) (a : GrB b G H G2 H2) (c : GrB b G2 H2 G3 H3) (hb2 : ∃ o, H2 b = some o ∧ Mt o) : GrB b G H G3 H3 :=
  ⟨a.g.trans c.g, fun x o z n => c.h x o (a.h x o z n) n, c.i, fun x o z t y => by
    have y2 := a.n x o z t y
    by_cases q : x = b
    · subst q
      obtain ⟨o2, z2, t2⟩ := hb2
      exact c.n x o2 z2 t2 y2
    · exact c.n x o (a.h x o z q) t y2⟩
theorem GrB.out {b : Addr} {G H G2 H2 : Hp} (a : GrB b G H G2 H2) (gb : G b = none) (hb : ∃ o, H b = some o ∧ Mt o) : G2 b = none := by
  obtain ⟨o, z, t⟩ := hb
  exact a.n b o z t gb
theorem GrB.more {b : Addr} {G H G2 H2 H3 : Hp} (a : GrB b G H G2 H2) (e : Ex H2 H3) : GrB b G H G2 H3 := ⟨a.g, fun x o z n => e x o (a.h x o z n), a.i.trans e, a.n⟩
theorem GrB.all {b : Addr} {G H G2 H2 : Hp} (a : GrB b G H G2 H2) : Ex (off b H) H2 := fun x o z => by
  by_cases q : x = b
  · subst q; rw [off_self] at z; cases z
  · rw [off_ne q] at z; exact a.h x o z q

section
variable (K : PySem.W.Frag)
def EvB (te : TE) (σ : L2.St) (b : Addr) (G : Hp) (P : Rp → Prop) : Prop := ∀ H, Ex G H → G b = none → Box K G H b → ∀ Q : VK, (∀ r v G2 H2, P r → GrB b G H G2 H2 → Box K G2 H2 b → r.p v G2 → Q v H2) → te σ H Q
def EvBN (te : TE) (σ : L2.St) (b : Addr) (G : Hp) (P : List Rp → Prop) : Prop := ∀ H, Ex G H → G b = none → Box K G H b → ∀ Q : VK, (∀ rs p vs G2 H2, P rs → GrB b G H G2 H2 → Box K G2 H2 b → H p = none → G2 p = none → H2 p = some (.lst vs) → RA G2 vs rs → Q (.ref p) H2) → te σ H Q
def EvTB (tt : TT) (σ : L2.St) (b : Addr) (G : Hp) (P : Bool → Prop) : Prop := ∀ H, Ex G H → G b = none → Box K G H b → ∀ Q : Bool → Hp → Prop, (∀ c G2 H2, P c → GrB b G H G2 H2 → Box K G2 H2 b → Q c H2) → tt σ H Q
def spB (R : List V → Hp → (Rp → Prop) → Prop) : Sp := fun vs H Q _ => ∃ G b ws P, vs = .ref b :: ws ∧ Ex G H ∧ G b = none ∧ Box K G H b ∧ R ws G P ∧ ∀ r v G2 H2, P r → GrB b G H G2 H2 → Box K G2 H2 b → r.p v G2 → Q v H2
def spBN (R : List V → Hp → (List Rp → Prop) → Prop) : Sp := fun vs H Q _ => ∃ G b ws P, vs = .ref b :: ws ∧ Ex G H ∧ G b = none ∧ Box K G H b ∧ R ws G P ∧ ∀ rs p vs G2 H2, P rs → GrB b G H G2 H2 → Box K G2 H2 b → H p = none → G2 p = none → H2 p = some (.lst vs) → RA G2 vs rs → Q (.ref p) H2
def PN (n : Nat) : Rp → Prop := fun r => ∃ d : Nat, d < n ∧ r = nI d
def spT : Sp := fun vs H Q _ => ∃ G b m, vs = [.ref b, .int ((m : Nat) : Int)] ∧ Ex G H ∧ G b = none ∧ Box K G H b ∧ 0 < m ∧ m < 2 ^ 30 ∧ ∀ (d : Nat) H2, d < m → (∀ a o, H a = some o → a ≠ b → H2 a = some o) → (∀ G', Box K G' H b → Box K G' H2 b) → Q (.int (d : Int)) H2
def EvBI (te : TE) (σ : L2.St) (b : Addr) (G : Hp) (PV : V → Prop) : Prop := ∀ H, Ex G H → G b = none → Box K G H b → ∀ Q : VK, (∀ v H2, PV v → (∀ a o, H a = some o → a ≠ b → H2 a = some o) → (∀ G', Box K G' H b → Box K G' H2 b) → Q v H2) → te σ H Q
end
section
variable {K : PySem.W.Frag} {σ : L2.St} {b : Addr} {G H : Hp} {te ta tb : TE} {P P1 : Rp → Prop} {D : Ends} {tu tw : TS} {i i0 : Nat} {E : XK}
theorem EvB.imp {P' : Rp → Prop} (h : EvB K te σ b G P) (hp : ∀ r, P r → P' r) : EvB K te σ b G P' := fun H e gb hb Q q => h H e gb hb Q fun r v G2 H2 p => q r v G2 H2 (hp r p)
theorem EvBN.d {P : List Rp → Prop} (h : EvBN K te σ b G P) : EvB K te σ b G (fun r => ∃ rs, P rs ∧ r = rL K rs) := fun H e gb hb Q q => h H e gb hb Q fun rs p vs G2 H2 hP g hb2 hp gp h2 ra =>
  q (rL K rs) (.ref p) (upd G2 p (.lst vs)) H2 ⟨rs, hP, rfl⟩ ⟨g.g.trans (Ex.new gp), g.h, ex_add g.i h2, fun a o z t y => by rw [upd_ne (ne_of_none z hp)]; exact g.n a o z t y⟩ (hb2.mono (Ex.new gp) (Ex.refl _)) ⟨p, vs, rfl, upd_same, ra.mono (Ex.new gp)⟩
theorem ebn_call {ta : TA} {rs : List Rp} {P : List Rp → Prop} {R : List V → Hp → (List Rp → Prop) → Prop} (hv : σ[i0]? = some (some (.ref b))) (h : EvAD ta σ G rs) (hs : ∀ ws G2, Ex G G2 → RA G2 ws rs → R ws G2 P) : EvBN K (tCall (spBN K R) [] E (tCons (tVar i0) ta)) σ b G P := fun H e gb hb Q q =>
  ⟨.ref b, hv, h H e _ fun ws G2 H2 g hw => by
    show spBN K R ((V.ref b :: ws) ++ []) H2 Q E
    rw [List.append_nil]
    have gb2 : G2 b = none := by obtain ⟨o, z, t⟩ := hb.at_; exact g.n b o z t gb
    refine ⟨G2, b, ws, P, rfl, g.i, gb2, hb.mono g.g g.h, hs ws G2 g.g hw, fun rs' p vs G3 H3 p3 g3 hb3 hp gp h3 ra => q rs' p vs G3 H3 p3 (g.b.trans gb hb.at_ g3 (hb.mono g.g g.h).at_) hb3 (fresh_back g.h hp) gp h3 ra⟩⟩
theorem EvBI.eb {PV : V → Prop} (h : EvBI K te σ b G PV) : EvB K te σ b G (fun r => ∃ v, PV v ∧ r = rV v) := fun H e gb hb Q q => h H e gb hb Q fun v H2 p k s => q (rV v) v G H2 ⟨v, p, rfl⟩ ⟨Ex.refl G, k, fun a o z => k a o (e a o z) (fun q => by subst q; rw [gb] at z; cases z), fun _ _ _ _ z => z⟩ (s G hb) rfl
theorem ebi_take {m : Nat} (hv : σ[i0]? = some (some (.ref b))) (h : Ev te σ G (.int (m : Int))) (h0 : 0 < m) (h1 : m < 2 ^ 30) : EvBI K (tCall (spT K) [] E (tCons (tVar i0) (tCons te tNil))) σ b G (fun v => ∃ d : Nat, d < m ∧ v = .int (d : Int)) := fun H e gb hb Q q =>
  ⟨.ref b, hv, h H e _ fun H2 e2 => by
    show spT K (([V.ref b, V.int (m : Int)]) ++ []) H2 Q E
    rw [List.append_nil]
    refine ⟨G, b, m, rfl, e.trans e2, gb, hb.mono (Ex.refl G) e2, h0, h1, fun d H3 hd k s => q _ H3 ⟨d, hd, rfl⟩ (fun a o z n => k a o (e2 a o z) n) fun G' hb' => s G' (hb'.mono (Ex.refl G') e2)⟩⟩
theorem eb_take {m : Nat} (hv : σ[i0]? = some (some (.ref b))) (h : Ev te σ G (.int (m : Int))) (h0 : 0 < m) (h1 : m < 2 ^ 30) : EvB K (tCall (spT K) [] E (tCons (tVar i0) (tCons te tNil))) σ b G (PN m) :=
  EvB.imp (EvBI.eb (ebi_take hv h h0 h1)) fun r ⟨v, ⟨d, hd, hv⟩, hr⟩ => ⟨d, hd, by rw [hr, hv]⟩
theorem eb_opN {rr : R2} {x : V} {n : Nat} (ha : Ev ta σ G x) (hb : EvB K tb σ b G (PN n)) (f : Nat → V) (hs : ∀ d, d < n → ∀ H (Q : VK), Q (f d) H → rr x (.int (d : Int)) H Q) : EvB K (tOp rr ta tb) σ b G (fun r => ∃ d, d < n ∧ r = rV (f d)) := fun H e gb hbx Q q =>
  ha H e _ fun H1 e1 => hb H1 (e.trans e1) gb (hbx.mono (Ex.refl G) e1) _ fun r v G2 H2 p g hb2 hv => by
    obtain ⟨d, hd, rfl⟩ := p
    obtain rfl : v = V.int (d : Int) := hv
    exact hs d hd H2 Q (q (rV (f d)) (f d) G2 H2 ⟨d, hd, rfl⟩ ⟨g.g, fun a o z n => g.h a o (e1 a o z) n, g.i, fun a o z t y => g.n a o (e1 a o z) t y⟩ hb2 rfl)
theorem eb_opN' {rr : R2} {y : V} {n : Nat} (ha : EvB K ta σ b G (PN n)) (hb : ∀ G2, Ex G G2 → Ev tb σ G2 y) (f : Nat → V) (hs : ∀ d, d < n → ∀ H (Q : VK), Q (f d) H → rr (.int (d : Int)) y H Q) : EvB K (tOp rr ta tb) σ b G (fun r => ∃ d, d < n ∧ r = rV (f d)) := fun H e gb hbx Q q =>
  ha H e gb hbx _ fun r v G2 H2 p g hb2 hv => by
    obtain ⟨d, hd, rfl⟩ := p
    obtain rfl : v = V.int (d : Int) := hv
    refine hb G2 g.g H2 g.i _ fun H3 e3 => ?_
    exact hs d hd H3 Q (q (rV (f d)) (f d) G2 H3 ⟨d, hd, rfl⟩ (g.more e3) (hb2.mono (Ex.refl _) e3) rfl)
theorem et_bN {f : Nat → Bool} {n : Nat} (h : EvB K te σ b G (fun r => ∃ d, d < n ∧ r = rV (.bl (f d)))) : EvTB K (tTest te) σ b G (fun c => ∃ d, d < n ∧ c = f d) := fun H e gb hb Q q =>
  h H e gb hb _ fun r v G2 H2 p g hb2 hv => by
    obtain ⟨d, hd, rfl⟩ := p
    obtain rfl : v = V.bl (f d) := hv
    exact ⟨_, rfl, q _ G2 H2 ⟨d, hd, rfl⟩ g hb2⟩
theorem s_setB (e : Ex G H) (gb : G b = none) (hb : Box K G H b) (h : EvB K te σ b G P) (k : ∀ r v G2 H2, P r → GrB b G H G2 H2 → Box K G2 H2 b → r.p v G2 → D.nx (σ.set i (some v)) H2) : tAsg te (gName i) D σ H := h H e gb hb _ k
theorem s_ifB {t : TT} {P : Bool → Prop} (e : Ex G H) (gb : G b = none) (hb : Box K G H b) (h : EvTB K t σ b G P) (h1 : P true → ∀ G2 H2, GrB b G H G2 H2 → Box K G2 H2 b → tu D σ H2) (h2 : P false → ∀ G2 H2, GrB b G H G2 H2 → Box K G2 H2 b → tw D σ H2) : tIfS t tu tw D σ H := h H e gb hb _ fun c G2 H2 p g hb2 => by
  cases c with
  | true =>
    show tu D σ H2
    exact h1 p G2 H2 g hb2
  | false =>
    show tw D σ H2
    exact h2 p G2 H2 g hb2
theorem s_appB {p : Addr} {ws : List V} {rs : List Rp} (e : Ex G H) (gb : G b = none) (hbx : Box K G H b) (hp : H p = some (.lst ws)) (gp : G p = none) (pb : p ≠ b) (ra : RA G ws rs) (hv : Ev ta σ G (.ref p)) (h : EvB K te σ b G P) (hz : rs.length < 50000)
    (k : ∀ r ws' G2 H2, P r → Ex G G2 → (∀ a o, H a = some o → a ≠ p → a ≠ b → H2 a = some o) → Ex G2 H2 → (∀ a o, H a = some o → Mt o → G a = none → G2 a = none) → Box K G2 H2 b → H2 p = some (.lst ws') → RA G2 ws' (rs ++ [r]) → D.nx σ H2) :
    tDrop (tBM K "list" rAppend ta (tCons te tNil)) D σ H := hv H e _ fun H1 e1 => ⟨Or.inl ⟨rfl, ws, sq_of (e1 p _ hp)⟩, h H1 (e.trans e1) gb (hbx.mono (Ex.refl G) e1) _ fun r v G2 H2 hP g hb2 hv2 => by
  have h2 := g.h p _ (e1 p _ hp) pb
  have g2 : G2 p = none := g.n p _ (e1 p _ hp) mt_lst gp
  refine ⟨p, ws, v, rfl, rfl, h2, sz_lt (by rw [ra.len]; omega), k r (ws ++ [v]) G2 _ hP g.g (fun a o z n nb => ?_) (Ex.mut g.i g2) (fun a o z t n => g.n a o (e1 a o z) t n) ?_ upd_same ((ra.mono g.g).snoc hv2)⟩
  · rw [upd_ne n]
    exact g.h a o (e1 a o z) nb
  · exact hb2.mono' (Ex.refl _) fun o z => by rw [upd_ne (Ne.symm pb)]; exact z⟩
end
section
variable {K : PySem.W.Frag} {σ : L2.St} {G H : Hp} {te ta tb : TE} {tl th : TO}
theorem RA.drop {H : Hp} : ∀ {vs : List V} {rs : List Rp} (n : Nat), RA H vs rs → RA H (vs.drop n) (rs.drop n)
  | _, _, 0, h => h
  | _, _, _ + 1, .nil => .nil
  | _, _, n + 1, .cons _ t => RA.drop n t
theorem RA.take {H : Hp} : ∀ {vs : List V} {rs : List Rp} (n : Nat), RA H vs rs → RA H (vs.take n) (rs.take n)
  | _, _, 0, _ => .nil
  | _, _, _ + 1, .nil => .nil
  | _, _, n + 1, .cons h t => .cons h (RA.take n t)
def cutR {α : Type} (xs : List α) (lo hi : Option Int) : List α := (xs.drop (HT.sIx xs.length 0 lo)).take (HT.sIx xs.length xs.length hi - HT.sIx xs.length 0 lo)
theorem cutR_map {α β : Type} (f : α → β) (l : List α) (lo hi : Option Int) : cutR (l.map f) lo hi = (cutR l lo hi).map f := by
  unfold cutR
  rw [List.length_map, List.map_take, List.map_drop]
theorem en_slL {rs : List Rp} {lo hi : Option Int} (h : EvD te σ G (rLs K rs)) (h1 : ∀ G', Ex G G' → EvO tl σ G' lo) (h2 : ∀ G', Ex G G' → EvO th σ G' hi) : EvN (tSl (rSlL K) te tl th) σ G (cutR rs lo hi) := fun H e Q q =>
  h H e _ fun v G2 H2 g hv => by
    obtain ⟨a, vs, rfl, s1, ra⟩ := hv
    refine h1 G2 g.g H2 g.i _ fun H3 e3 => h2 G2 g.g H3 (g.i.trans e3) _ fun H4 e4 => ?_
    refine ⟨a, vs, rfl, ex_l ((g.i.trans e3).trans e4) s1, fun p hp => ?_⟩
    have gg := (g.more e3).more e4
    refine q p (cutV vs lo hi) G2 _ (gg.more (Ex.new hp)) (fresh_back gg.h hp) (fresh_back gg.i hp) upd_same ?_
    unfold cutV cutR
    rw [ra.len]
    exact (ra.drop _).take _
theorem ra_ints_eq {H : Hp} : ∀ {l : List Int} {vs : List V}, RA H vs (l.map rI) → vs = l.map V.int
  | [], _, .nil => rfl
  | n :: r, _, .cons h t => by
    have e1 := ra_ints_eq (l := r) t
    have e2 : _ = V.int n := h
    rw [e1, e2]; rfl
theorem ra_ints {H : Hp} : ∀ {l : List Int}, RA H (l.map V.int) (l.map rI)
  | [] => .nil
  | _ :: r => .cons rfl (ra_ints (l := r))
def spBoxMk (K : PySem.W.Frag) : Sp := fun vs H Q _ => ∃ (a : Addr) (ns : List Int), vs = [.ref a] ∧ SqL K H a (ns.map V.int) ∧ ns.length ≤ 63 ∧ ∀ b G2 H2, Ex H G2 → Ex G2 H2 → H b = none → G2 b = none → Box K G2 H2 b → Q (.ref b) H2
theorem ev_abs {i : Int} (h : Ev te σ G (.int i)) : Ev (tCB (fun xs H Q => ∃ i, xs = [.int i] ∧ Q (.int (if i < 0 then -i else i)) H) (tCons te tNil)) σ G (.int (if i < 0 then -i else i)) := fun H e Q q => h H e _ fun H2 e2 => ⟨i, rfl, q H2 e2⟩
theorem ev_int {i : Int} (h : Ev te σ G (.int i)) : Ev (tCB (fun xs H Q => (∃ i, xs = [.int i] ∧ Q (.int i) H) ∨ ∃ k, xs = [.bl k] ∧ Q (.int (if k then 1 else 0)) H) (tCons te tNil)) σ G (.int i) := fun H e Q q => h H e _ fun H2 e2 => .inl ⟨i, rfl, q H2 e2⟩
end
section
variable {K : PySem.W.Frag} {σ : L2.St} {b p : Addr} {G H : Hp} {te ta tb : TE} {D : Ends}
theorem s_setNI {ws : List V} {rs : List Rp} {l : List Nat} {j : Nat} (e : Ex G H) (hp : H p = some (.lst ws)) (gp : G p = none) (ra : RA G ws rs) (h : EvN te σ (upd G p (.lst ws)) (l.map nI)) (ho : Ev ta σ G (.ref p)) (hi : Ev tb σ G (.int (j : Int))) (hj : j < rs.length)
    (k : ∀ ws' G3 H3, Ex G G3 → (∀ a o, H a = some o → a ≠ p → H3 a = some o) → Ex G3 H3 → (∀ a o, H a = some o → Mt o → G a = none → G3 a = none) → G3 p = none → H3 p = some (.lst ws') → RA G3 ws' (rs.set j (rLn K l)) → D.nx σ H3) :
    tAsg te (gSub ta tb rSetL) D σ H := h H (ex_add e hp) _ fun q vs G2 H2 g hq gq h2 ra2 => by
  have ev := ra_nats_eq ra2
  subst ev
  have pq : p ≠ q := ne_of_none hp hq
  refine ho H2 (e.trans g.h) _ fun H3 e3 => hi H3 ((e.trans g.h).trans e3) _ fun H4 e4 => ?_
  have e34 := e3.trans e4
  have gq0 : G q = none := fresh_back e hq
  refine ⟨p, ws, (j : Int), j, rfl, rfl, e34 _ _ (g.h _ _ hp), ixN_nat (by rw [ra.len]; exact hj), ?_⟩
  refine k (ws.set j (.ref q)) (upd G q (.lst (l.map fun (n : Nat) => V.int (n : Int)))) _ (Ex.new gq0) (fun a o z n => by rw [upd_ne n]; exact e34 _ _ (g.h _ _ z)) ?_ (fun a o z _ y => by rw [upd_ne (ne_of_none z hq)]; exact y) (by rw [upd_ne pq]; exact gp) upd_same ?_
  · refine Ex.mut (ex_add ((e.trans g.h).trans e34) (e34 _ _ h2)) (by rw [upd_ne pq]; exact gp)
  · exact RA.set (r := rLn K l) ⟨q, _, rfl, upd_same, ra_nats⟩ j (ra.mono (Ex.new gq0))
theorem ebn_lst1 {n : Nat} (h : EvB K te σ b G (PN n)) : EvBN K (tLst (tCons te tNil)) σ b G (fun rs => ∃ d, d < n ∧ rs = [nI d]) := fun H e gb hb Q q =>
  h H e gb hb _ fun r v G2 H2 p g hb2 hv => ⟨by show 1 ≤ sizeLine; decide, fun l hl => by
    obtain ⟨d, hd, rfl⟩ := p
    obtain rfl : v = V.int (d : Int) := hv
    have hlb : l ≠ b := fun z => by
      subst z
      obtain ⟨o, z2, _⟩ := hb2.at_
      rw [z2] at hl; cases hl
    have hlH : H l = none := by
      cases z : H l with
      | none => rfl
      | some o => rw [g.h l o z hlb] at hl; cases hl
    exact q [nI d] l [.int (d : Int)] G2 _ ⟨d, hd, rfl⟩ (g.more (Ex.new hl)) (hb2.mono (Ex.refl _) (Ex.new hl)) hlH (fresh_back g.i hl) upd_same (.cons rfl .nil)⟩
end
theorem bits_pow (d : Nat) : bitsN (2 ^ d) = [d] := by
  have h : (2 : Nat) ^ d < 2 ^ (d + 1) := Nat.pow_lt_pow_right (by decide) (by omega)
  rw [← bits_eq h, List.range_succ, List.filter_append]
  have h1 : (List.range d).filter (2 ^ d).testBit = [] := List.filter_eq_nil_iff.mpr fun a ha => by
    have := List.mem_range.mp ha
    rw [Nat.testBit_two_pow]
    simp
    omega
  rw [h1]
  simp [Nat.testBit_two_pow]
theorem pow_list {n : Nat} (h : n ≤ 6) : ([nI 1, nI 2, nI 4, nI 8, nI 16, nI 32, nI 64] : List Rp)[n]? = some (nI (2 ^ n)) := by
  have : n = 0 ∨ n = 1 ∨ n = 2 ∨ n = 3 ∨ n = 4 ∨ n = 5 ∨ n = 6 := by omega
  rcases this with rfl | rfl | rfl | rfl | rfl | rfl | rfl <;> rfl
theorem pow_list6 {n : Nat} (h : n ≤ 5) : ([nI 1, nI 2, nI 4, nI 8, nI 16, nI 32] : List Rp)[n]? = some (nI (2 ^ n)) := by
  have : n = 0 ∨ n = 1 ∨ n = 2 ∨ n = 3 ∨ n = 4 ∨ n = 5 := by omega
  rcases this with rfl | rfl | rfl | rfl | rfl | rfl <;> rfl
theorem test_div (m w : Nat) : decide (((m : Int) / ((2 ^ w : Nat) : Int)) % 2 = 1) = m.testBit w := by
  rw [← Int.natCast_ediv, Bool.eq_iff_iff, decide_eq_true_iff, ← shr_test, Nat.testBit_zero, decide_eq_true_iff]
  omega
theorem GrB.app {b p : Addr} {G0 H0 G H G3 H3 : Hp} (g : GrB b G0 H0 G H) (hp0 : H0 p = none) (gb0 : G0 b = none) (hb0 : ∃ o, H0 b = some o ∧ Mt o) (hb : ∃ o, H b = some o ∧ Mt o) (e3 : Ex G G3) (k3 : ∀ a o, H a = some o → a ≠ p → a ≠ b → H3 a = some o) (i3 : Ex G3 H3) (n3 : ∀ a o, H a = some o → Mt o → G a = none → G3 a = none) : GrB b G0 H0 G3 H3 where
  g := g.g.trans e3
  h := fun a o z nb => k3 a o (g.h a o z nb) (ne_of_none z hp0) nb
  i := i3
  n := fun a o z t y => by
    have y2 := g.n a o z t y
    by_cases q : a = b
    · subst q
      obtain ⟨o2, z2, t2⟩ := hb
      exact n3 a o2 z2 t2 y2
    · exact n3 a o (g.h a o z q) t y2
theorem GrB.fresh {b p : Addr} {G H G2 H2 : Hp} (g : GrB b G H G2 H2) (hb2 : ∃ o, H2 b = some o ∧ Mt o) (hp : H2 p = none) : H p = none ∧ p ≠ b := by
  have hpb : p ≠ b := fun z => by
    subst z
    obtain ⟨o, z2, _⟩ := hb2
    rw [z2] at hp; cases hp
  refine ⟨?_, hpb⟩
  cases z : H p with
  | none => rfl
  | some o => rw [g.h p o z hpb] at hp; cases hp
section
variable {K : PySem.W.Frag} {σ : L2.St} {G H : Hp} {te ta tb tf : TE} {C : Addr} {m : List Nat} {sp : Sp} {E : XK}
theorem en_cat {rs ss : List Rp} (ha : EvD ta σ G (rL K rs)) (hb : EvD tb σ G (rL K ss)) (hz : rs.length + ss.length ≤ 100000) : EvN (tOp rCat ta tb) σ G (rs ++ ss) := en_op ha hb fun x y G2 H e1 e2 hx hy Q q => by
  obtain ⟨a, vs, rfl, h1, h2⟩ := hx
  obtain ⟨a', vs', rfl, h1', h2'⟩ := hy
  refine ⟨a, a', vs, vs', rfl, rfl, e2 _ _ h1, e2 _ _ h1', sz_of (by rw [h2.len, h2'.len]; exact hz), fun p hp => ?_⟩
  exact q p _ G2 _ ((Gr.refl e2).more (Ex.new hp)) hp (fresh_back e2 hp) upd_same (h2.append h2')
end
section
variable {K : PySem.W.Frag} {σ : L2.St} {b : Addr} {G H : Hp} {te ta tb : TE} {D : Ends} {tu tw : TS}
end
section
variable {K : PySem.W.Frag} {σ : L2.St} {b : Addr} {G H : Hp} {te : TE} {E : XK} {i0 : Nat}
end
end Mu

theorem L2.Room.u65 {k : Nat} {A : PySem.Around} (r : L2.Room k A) : A.units + 65 < PySem.cLine := by have := r.un; omega
namespace Mu
open PySem PySem.Spec PyProof.Rows L2 Evl
section
variable {X : Cx} (K : PySem.W.Frag)
theorem op_inDK (hu : X.A.units + 65 < cLine) (hK : X.K = K := by rfl) : OpR X (compareOp .In) (rInD K) := hK ▸ op_inD hu
end
section
variable {K : PySem.W.Frag} {σ : L2.St} {G H : Hp} {ta tb : TE}
theorem any_p (p : Nat × Nat) (l : List (Nat × Nat)) : ((l.map dP).any fun z => PyData.eqv z (dP p)) = decide (p ∈ l) := by
  rw [List.any_map, Bool.eq_iff_iff, List.any_eq_true, decide_eq_true_iff]
  constructor
  · rintro ⟨x, hx, h⟩
    have h2 : PyData.eqv (dP x) (dP p) = true := h
    rw [eqv_p] at h2
    rw [← of_decide_eq_true h2]; exact hx
  · intro h
    exact ⟨p, h, by show PyData.eqv (dP p) (dP p) = true; rw [eqv_p]; simp⟩
theorem ev_notInP {p : Nat × Nat} {l : List (Nat × Nat)} (ha : EvD ta σ G (rP K p)) (hb : EvD tb σ G (rL K (l.map (rP K)))) : Ev (tOp (rNotInD K) ta tb) σ G (.bl (!decide (p ∈ l))) :=
  ev_op2 ha hb fun x y H hx hy Q q => ⟨dP p, l.map dP, asd_p p x H hx, asd_list asd_p l y H hy, (sh_p p).ok (by decide), (sh_list sh_p l).ok (by decide), by rw [any_p]; exact q⟩
theorem ev_inP {p : Nat × Nat} {l : List (Nat × Nat)} (ha : EvD ta σ G (rP K p)) (hb : EvD tb σ G (rL K (l.map (rP K)))) : Ev (tOp (rInD K) ta tb) σ G (.bl (decide (p ∈ l))) :=
  ev_op2 ha hb fun x y H hx hy Q q => ⟨dP p, l.map dP, asd_p p x H hx, asd_list asd_p l y H hy, (sh_p p).ok (by decide), (sh_list sh_p l).ok (by decide), by rw [any_p]; exact q⟩
theorem ev_isB {a b : Bool} (ha : Ev ta σ G (.bl a)) (hb : Ev tb σ G (.bl b)) : Ev (tOp rIsB ta tb) σ G (.bl (decide (a = b))) :=
  ev_op2 (Ev.d ha) (Ev.d hb) fun x y H hx hy Q q => ⟨a, b, hx, hy, q⟩
theorem ev_isNB {a b : Bool} (ha : Ev ta σ G (.bl a)) (hb : Ev tb σ G (.bl b)) : Ev (tOp rNotB ta tb) σ G (.bl (!decide (a = b))) :=
  ev_op2 (Ev.d ha) (Ev.d hb) fun x y H hx hy Q q => ⟨a, b, hx, hy, q⟩
theorem Ev.is {x y : V} {te : TE} (h : Ev te σ G x) (e : x = y) : Ev te σ G y := e ▸ h
end
theorem s_box {K : PySem.W.Frag} {σ : L2.St} {H : Hp} {D : Ends} {E : XK} {a : Addr} {ns : List Int} {i i0 : Nat} (hv : σ[i0]? = some (some (.ref a))) (hS : SqL K H a (ns.map V.int)) (hl : ns.length ≤ 63) (k : ∀ b G2 H2, Ex H G2 → Ex G2 H2 → H b = none → G2 b = none → Box K G2 H2 b → D.nx (σ.set i (some (.ref b))) H2) : tAsg (tCall (spBoxMk K) [] E (tCons (tVar i0) tNil)) (gName i) D σ H :=
  ⟨.ref a, hv, a, ns, rfl, hS, hl, k⟩
section
variable {X : Cx}
end
theorem bits_acc (f : Nat → Bool) (n : Nat) : bitsN (accTo f n) = (List.range n).filter f := by
  rw [← bits_eq (accTo_lt f n)]
  refine List.filter_congr fun a ha => ?_
  rw [accTo_bit, decide_eq_true (List.mem_range.mp ha)]; rfl
theorem mem_pairs {m : List Nat} {p : Nat × Nat} : p ∈ pairsN m ↔ p.1 < m.length ∧ bitOf m p.1 p.2 = true := by
  unfold pairsN
  rw [List.mem_flatMap]
  constructor
  · rintro ⟨a, ha, h⟩
    obtain ⟨b, hb, rfl⟩ := List.mem_map.mp h
    exact ⟨List.mem_range.mp ha, mem_bits.mp hb⟩
  · rintro ⟨h1, h2⟩
    exact ⟨p.1, List.mem_range.mpr h1, List.mem_map.mpr ⟨p.2, mem_bits.mpr h2, rfl⟩⟩
def pairsTo (m : List Nat) (i : Nat) : List (Nat × Nat) := (List.range i).flatMap fun a => (bitsN (m.getD a 0)).map fun b => (a, b)
theorem pairsTo_succ (m : List Nat) (i : Nat) : pairsTo m (i + 1) = pairsTo m i ++ (bitsN (m.getD i 0)).map fun b => (i, b) := by
  unfold pairsTo
  rw [List.range_succ, List.flatMap_append]
  simp
theorem pairsTo_len {m : List Nat} {n : Nat} (h : ∀ a, (m.getD a 0) < 2 ^ n) (i : Nat) : (pairsTo m i).length ≤ i * n := by
  induction i with
  | zero => simp [pairsTo]
  | succ i ih =>
    rw [pairsTo_succ, List.length_append, List.length_map, Nat.succ_mul]
    have := bits_len (h i)
    omega
end Mu

namespace Mu
open PySem PySem.Spec PyProof.Rows L2 Evl
abbrev Ctx := List (Option Rp)
def Sl (G : Hp) (o : Option V) (r : Option Rp) : Prop := ∀ q, r = some q → ∃ v, o = some v ∧ q.p v G
abbrev En (σ : L2.St) (G : Hp) (Γ : Ctx) : Prop := Paired (fun o r => Sl G o r) σ Γ
section
variable {σ : L2.St} {G G' : Hp} {Γ Γ' : Ctx} {r : Rp} {v : V} {i : Nat}
theorem Sl.mono (e : Ex G G') {o : Option V} {q : Option Rp} (h : Sl G o q) : Sl G' o q := fun x hx => by
  obtain ⟨v, h1, h2⟩ := h x hx
  exact ⟨v, h1, x.mono e h2⟩
theorem En.mono (e : Ex G G') (h : En σ G Γ) : En σ G' Γ := Paired.mono (fun _ _ z => Sl.mono e z) h
theorem En.get : ∀ {σ : L2.St} {Γ : Ctx} {i : Nat}, En σ G Γ → Γ[i]? = some (some r) → ∃ v, σ[i]? = some (some v) ∧ r.p v G
  | _, _, _, .nil, h => by simp at h
  | _, _, 0, .cons h _, e => by
    simp at e
    obtain ⟨v, h1, h2⟩ := h r e
    exact ⟨v, by simp [h1], h2⟩
  | _, _, i + 1, .cons _ t, e => by
    obtain ⟨v, h1, h2⟩ := En.get (i := i) t (by simpa using e)
    exact ⟨v, by simpa using h1, h2⟩
theorem En.set (q : r.p v G) : ∀ {σ : L2.St} {Γ : Ctx} (i : Nat), En σ G Γ → En (σ.set i (some v)) G (Γ.set i (some r))
  | _, _, _, .nil => .nil
  | _, _, 0, .cons _ t => .cons (fun x hx => ⟨v, rfl, by cases hx; exact q⟩) t
  | _, _, i + 1, .cons h t => .cons h (En.set q i t)
theorem En.wipe1 : ∀ {σ : L2.St} {Γ : Ctx} (i : Nat), En σ G Γ → En (σ.set i none) G (Γ.set i none)
  | _, _, _, .nil => .nil
  | _, _, 0, .cons _ t => .cons (fun x hx => nomatch hx) t
  | _, _, i + 1, .cons h t => .cons h (En.wipe1 i t)
def wipeC (Γ : Ctx) : List Nat → Ctx
  | [] => Γ
  | v :: vs => (wipeC Γ vs).set v none
theorem En.wipe (h : En σ G Γ) : ∀ vs : List Nat, En (wipe σ vs) G (wipeC Γ vs)
  | [] => h
  | v :: vs => (En.wipe h vs).wipe1 v
abbrev Sub (Γ Γ' : Ctx) : Prop := Paired (fun (a b : Option Rp) => b = none ∨ a = b) Γ Γ'
theorem En.weak : ∀ {σ : L2.St} {Γ Γ' : Ctx}, En σ G Γ → Sub Γ Γ' → En σ G Γ'
  | _, _, _, .nil, .nil => .nil
  | _, _, _, .cons h t, .cons q u => .cons (fun x hx => by
      rcases q with q | q
      · rw [q] at hx; cases hx
      · exact h x (q.trans hx)) (En.weak t u)
theorem En.start (N : List Str) {vs : List V} {rs : List Rp} (h : RA G vs rs) (hn : N.length - vs.length = k) : En (L2.start N vs) G (rs.map some ++ List.replicate k none) := by
  unfold L2.start
  rw [hn]
  have h2 : En (List.replicate k none) G (List.replicate k none) := by
    clear hn
    induction k with
    | zero => exact .nil
    | succ k ih => exact .cons (fun x hx => nomatch hx) ih
  clear hn
  induction h with
  | nil => exact h2
  | cons a t ih => exact .cons (fun x hx => ⟨_, rfl, by cases hx; exact a⟩) ih
theorem wipe_in {x : V} {j : Nat} : ∀ {vs : List Nat} (τ : L2.St), j ∈ vs → wipe (τ.set j (some x)) vs = wipe τ vs
  | [], _, h => nomatch h
  | u :: vs, τ, h => by
    unfold wipe
    by_cases c : j ∈ vs
    · rw [wipe_in τ c]
    · have e : j = u := by
        rcases List.mem_cons.mp h with q | q
        · exact q
        · exact absurd q c
      subst e
      rw [show ∀ (vs : List Nat), j ∉ vs → wipe (τ.set j (some x)) vs = (wipe τ vs).set j (some x) from fun vs => by
        induction vs with
        | nil => intro _; rfl
        | cons w ws ih =>
          intro hn
          unfold wipe
          rw [ih fun z => hn (List.mem_cons_of_mem _ z), List.set_comm _ _ (fun z => hn (by rw [z]; exact List.mem_cons_self))]]
      · rw [List.set_set]
      · exact c
theorem wipe_idem (σ : L2.St) : ∀ vs : List Nat, wipe (wipe σ vs) vs = wipe σ vs := by
  have key : ∀ (vs : List Nat) (τ : L2.St), (∀ i ∈ vs, ∀ x, τ[i]? ≠ some (some x)) → wipe τ vs = τ := fun vs => by
    induction vs with
    | nil => intro τ _; rfl
    | cons u vs ih =>
      intro τ h
      unfold wipe
      rw [ih τ fun i hi => h i (List.mem_cons_of_mem _ hi)]
      apply List.ext_getElem?
      intro i
      by_cases c : u = i
      · subst c
        rw [List.getElem?_set_self']
        cases q : τ[u]? with
        | none => rfl
        | some o =>
          cases o with
          | none => rfl
          | some x => exact absurd q (h u List.mem_cons_self x)
      · rw [List.getElem?_set_ne c]
  intro vs
  exact key vs _ fun i hi x hx => (wipe_some hx).2 hi
theorem wipe_turn (σ : L2.St) {vs : List Nat} {j : Nat} (h : j ∈ vs) (x : V) : wipe ((wipe σ vs).set j (some x)) vs = wipe σ vs := by rw [wipe_in _ h, wipe_idem]
end
structure Re where
  own : Bool
  ft : List Addr
  p : Hp → Hp → Prop
  mono : ∀ {G G' H : Hp}, Ex G G' → p G H → p G' H
  loc : ∀ {G H H' : Hp}, (∀ a ∈ ft, ∀ o, H a = some o → H' a = some o) → p G H → p G H'
  at_ : ∀ {G H : Hp}, p G H → ∀ a ∈ ft, ∃ o, H a = some o ∧ Mt o
def feet (M : List Re) : List Addr := M.flatMap Re.ft
theorem mem_feet {M : List Re} {r : Re} {a : Addr} (h : r ∈ M) (ha : a ∈ r.ft) : a ∈ feet M := List.mem_flatMap.mpr ⟨r, h, ha⟩
def lstR (p : Addr) (rs : List Rp) : Re where
  own := true
  ft := [p]
  p := fun G H => ∃ ws, H p = some (.lst ws) ∧ RA G ws rs
  mono := fun e ⟨ws, h1, h2⟩ => ⟨ws, h1, h2.mono e⟩
  loc := fun k ⟨ws, h1, h2⟩ => ⟨ws, k p (List.mem_singleton.mpr rfl) _ h1, h2⟩
  at_ := fun ⟨ws, h1, _⟩ a ha => by rw [List.mem_singleton.mp ha]; exact ⟨_, h1, fun _ z => nomatch z⟩
def boxR (K : PySem.W.Frag) (b : Addr) : Re where
  own := false
  ft := [b]
  p := fun G H => Box K G H b
  mono := fun e h => h.mono e (Ex.refl _)
  loc := fun k h => h.mono' (Ex.refl _) fun o z => k b (List.mem_singleton.mpr rfl) o z
  at_ := fun h a ha => by rw [List.mem_singleton.mp ha]; exact h.at_
structure Ba where
  G0 : Hp
  H0 : Hp
  F : List Addr
  Gl : Hp
structure Ok (B : Ba) (G H : Hp) (M : List Re) : Prop where
  g : Ex B.G0 G
  l : Ex B.Gl G
  h : ∀ a o, B.H0 a = some o → a ∉ B.F → H a = some o
  i : Ex G H
  n : ∀ a o, B.H0 a = some o → Mt o → B.G0 a = none → G a = none
  k : ∀ a ∈ B.F, ∃ o, H a = some o ∧ Mt o
  m : ∀ r ∈ M, r.p G H
  z : ∀ a ∈ feet M, G a = none
  d : (feet M).Nodup
  f : ∀ r ∈ M, ∀ a ∈ r.ft, B.H0 a = none ∨ (r.own = false ∧ a ∈ B.F)
section
variable {B : Ba} {G H G2 H2 : Hp} {M : List Re} {R R' : Re} {k : Nat}
theorem Ok.gr (o : Ok B G H M) (g : Gr G H G2 H2) : Ok B G2 H2 M where
  g := o.g.trans g.g
  l := o.l.trans g.g
  h := fun a u z n => g.h a u (o.h a u z n)
  i := g.i
  n := fun a u z t y => by
    by_cases c : a ∈ B.F
    · obtain ⟨u2, z2, t2⟩ := o.k a c
      exact g.n a u2 z2 t2 (o.n a u z t y)
    · exact g.n a u (o.h a u z c) t (o.n a u z t y)
  k := fun a c => by
    obtain ⟨u, z, t⟩ := o.k a c
    exact ⟨u, g.h a u z, t⟩
  m := fun r hr => r.loc (fun a _ u z => g.h a u z) (r.mono g.g (o.m r hr))
  z := fun a ha => by
    obtain ⟨r, hr, hf⟩ := List.mem_flatMap.mp ha
    obtain ⟨u, z, t⟩ := r.at_ (o.m r hr) a hf
    exact g.n a u z t (o.z a ha)
  d := o.d
  f := o.f
theorem Ok.ex (o : Ok B G H M) (e : Ex H H2) : Ok B G H2 M := o.gr ((Gr.refl o.i).more e)
theorem feet_set {M : List Re} {k : Nat} (hk : M[k]? = some R) (hf : R'.ft = R.ft) : feet (M.set k R') = feet M := by
  induction M generalizing k with
  | nil => rfl
  | cons a M ih =>
    cases k with
    | zero =>
      simp at hk
      subst hk
      show R'.ft ++ _ = a.ft ++ _
      rw [hf]
    | succ k =>
      show a.ft ++ feet (M.set k R') = a.ft ++ feet M
      rw [ih (by simpa using hk)]
theorem feet_apart {M : List Re} (hd : (feet M).Nodup) : ∀ {k : Nat} {R r : Re}, M[k]? = some R → r ∈ M.eraseIdx k → ∀ a ∈ r.ft, a ∉ R.ft := by
  induction M with
  | nil => intro k R r h; simp at h
  | cons b M ih =>
    intro k R r hk hr a ha hR
    have hd' : (b.ft ++ feet M).Nodup := hd
    have h3 := List.nodup_append.mp hd'
    cases k with
    | zero =>
      simp at hk hr
      subst hk
      exact h3.2.2 a hR a (mem_feet hr ha) rfl
    | succ k =>
      simp at hk hr
      have hRm : R ∈ M := List.mem_of_getElem? hk
      rcases hr with hr | hr
      · subst hr
        exact h3.2.2 a ha a (mem_feet hRm hR) rfl
      · exact ih h3.2.1 hk hr a ha hR
theorem mem_set_or {M : List Re} : ∀ {k : Nat} {R' r : Re}, r ∈ M.set k R' → r = R' ∨ r ∈ M.eraseIdx k := by
  induction M with
  | nil => intro k R' r h; simp at h
  | cons b M ih =>
    intro k R' r h
    cases k with
    | zero =>
      simp at h ⊢
      exact h
    | succ k =>
      simp at h ⊢
      rcases h with h | h
      · exact .inr (.inl h)
      · rcases ih h with q | q
        · exact .inl q
        · exact .inr (.inr q)
theorem mem_erase {M : List Re} {k : Nat} {r : Re} (h : r ∈ M.eraseIdx k) : r ∈ M := List.eraseIdx_subset h
theorem Ok.chg (o : Ok B G H M) (hk : M[k]? = some R) (hf : R'.ft = R.ft) (ho : R'.own = R.own) (e : Ex G G2) (hh : ∀ a u, H a = some u → a ∉ R.ft → H2 a = some u) (i : Ex G2 H2) (n : ∀ a u, H a = some u → Mt u → G a = none → G2 a = none) (m : R'.p G2 H2) : Ok B G2 H2 (M.set k R') where
  g := o.g.trans e
  l := o.l.trans e
  h := fun a u z c => hh a u (o.h a u z c) fun q => by
    rcases o.f R (List.mem_of_getElem? hk) a q with y | y
    · rw [y] at z; cases z
    · exact c y.2
  i := i
  n := fun a u z t y => by
    by_cases c : a ∈ B.F
    · obtain ⟨u2, z2, t2⟩ := o.k a c
      exact n a u2 z2 t2 (o.n a u z t y)
    · exact n a u (o.h a u z c) t (o.n a u z t y)
  k := fun a c => by
    obtain ⟨u, z, t⟩ := o.k a c
    by_cases q : a ∈ R.ft
    · exact R'.at_ m a (hf ▸ q)
    · exact ⟨u, hh a u z q, t⟩
  m := fun r hr => by
    rcases mem_set_or hr with q | q
    · rw [q]; exact m
    · exact r.loc (fun a ha u z => hh a u z (feet_apart o.d hk q a ha)) (r.mono e (o.m r (mem_erase q)))
  z := fun a ha => by
    rw [feet_set hk hf] at ha
    obtain ⟨r, hr, hf'⟩ := List.mem_flatMap.mp ha
    obtain ⟨u, z, t⟩ := r.at_ (o.m r hr) a hf'
    exact n a u z t (o.z a ha)
  d := by rw [feet_set hk hf]; exact o.d
  f := fun r hr a ha => by
    rcases mem_set_or hr with q | q
    · subst q
      rw [ho]
      exact o.f R (List.mem_of_getElem? hk) a (hf ▸ ha)
    · exact o.f r (mem_erase q) a ha
theorem feet_snoc {M : List Re} : feet (M ++ [R]) = feet M ++ R.ft := by unfold feet; rw [List.flatMap_append]; simp
theorem Ok.add (o : Ok B G H M) (g : Gr G H G2 H2) (hd : R.ft.Nodup) (hn : ∀ a ∈ R.ft, H a = none ∧ G2 a = none) (m : R.p G2 H2) : Ok B G2 H2 (M ++ [R]) := by
  have o2 := o.gr g
  refine ⟨o2.g, o2.l, o2.h, o2.i, o2.n, o2.k, fun r hr => ?_, fun a ha => ?_, ?_, fun r hr a ha => ?_⟩
  · rcases List.mem_append.mp hr with q | q
    · exact o2.m r q
    · rw [List.mem_singleton.mp q]; exact m
  · rw [feet_snoc] at ha
    rcases List.mem_append.mp ha with q | q
    · exact o2.z a q
    · exact (hn a q).2
  · rw [feet_snoc]
    refine List.nodup_append.mpr ⟨o.d, hd, fun a ha b hb e => ?_⟩
    subst e
    obtain ⟨r, hr, hf⟩ := List.mem_flatMap.mp ha
    obtain ⟨u, z, t⟩ := r.at_ (o.m r hr) a hf
    rw [(hn a hb).1] at z; cases z
  · rcases List.mem_append.mp hr with q | q
    · exact o.f r q a ha
    · rw [List.mem_singleton.mp q] at ha
      refine .inl ?_
      cases z : B.H0 a with
      | none => rfl
      | some u =>
        by_cases c : a ∈ B.F
        · obtain ⟨u2, z2, t2⟩ := o.k a c
          rw [(hn a ha).1] at z2; cases z2
        · have := o.h a u z c
          rw [(hn a ha).1] at this; cases this
theorem feet_erase_sub {M : List Re} {k : Nat} {a : Addr} (h : a ∈ feet (M.eraseIdx k)) : a ∈ feet M := by
  obtain ⟨r, hr, hf⟩ := List.mem_flatMap.mp h
  exact mem_feet (mem_erase hr) hf
theorem feet_erase_nodup {M : List Re} : ∀ {k : Nat}, (feet M).Nodup → (feet (M.eraseIdx k)).Nodup := by
  induction M with
  | nil => intro k h; simpa using h
  | cons b M ih =>
    intro k h
    have h3 := List.nodup_append.mp (show (b.ft ++ feet M).Nodup from h)
    cases k with
    | zero => exact h3.2.1
    | succ k =>
      show (b.ft ++ feet (M.eraseIdx k)).Nodup
      exact List.nodup_append.mpr ⟨h3.1, ih h3.2.1, fun x hx y hy => h3.2.2 x hx y (feet_erase_sub hy)⟩
theorem Ok.frz {p : Addr} {rs : List Rp} {K : PySem.W.Frag} (o : Ok B G H M) (hk : M[k]? = some (lstR p rs)) : ∃ G2, Ex G G2 ∧ Ok B G2 H (M.eraseIdx k) ∧ (rL K rs).p (.ref p) G2 := by
  have hm := List.mem_of_getElem? hk
  obtain ⟨ws, h1, h2⟩ := o.m _ hm
  have gp : G p = none := o.z p (mem_feet hm (List.mem_singleton.mpr rfl))
  have e : Ex G (upd G p (.lst ws)) := Ex.new gp
  refine ⟨upd G p (.lst ws), e, ⟨o.g.trans e, o.l.trans e, o.h, ex_add o.i h1, fun a u z t y => ?_, o.k, fun r hr => r.mono e (o.m r (mem_erase hr)), fun a ha => ?_, feet_erase_nodup o.d, fun r hr => o.f r (mem_erase hr)⟩, ⟨p, ws, rfl, upd_same, h2.mono e⟩⟩
  · rcases o.f _ hm p (List.mem_singleton.mpr rfl) with q | q
    · rw [upd_ne (ne_of_none z q)]; exact o.n a u z t y
    · exact absurd q.1 (show ¬ (true = false) by decide)
  · obtain ⟨r, hr, hf⟩ := List.mem_flatMap.mp ha
    have ne : a ≠ p := fun q => feet_apart o.d hk hr a hf (List.mem_singleton.mpr q)
    rw [upd_ne ne]
    exact o.z a (feet_erase_sub ha)
theorem Ok.drop (o : Ok B G H M) : Ok B G H (M.eraseIdx k) := ⟨o.g, o.l, o.h, o.i, o.n, o.k, fun r hr => o.m r (mem_erase hr), fun a ha => o.z a (feet_erase_sub ha), feet_erase_nodup o.d, fun r hr => o.f r (mem_erase hr)⟩
theorem Ok.nil (e : Ex G H) : Ok ⟨G, H, [], G⟩ G H [] := ⟨Ex.refl _, Ex.refl _, fun _ _ z _ => z, e, fun _ _ _ _ y => y, fun _ h => (nomatch h), fun _ h => (nomatch h), fun _ h => (nomatch h), List.nodup_nil, fun _ h => (nomatch h)⟩
theorem Ok.to {G0 H0 Gl : Hp} (o : Ok ⟨G0, H0, [], Gl⟩ G H M) : Gr G0 H0 G H := ⟨o.g, fun a u z => o.h a u z (fun q => nomatch q), o.i, o.n⟩
theorem Ok.box {K : PySem.W.Frag} {b : Addr} (e : Ex G H) (gb : G b = Option.none) (hb : Box K G H b) : Ok ⟨G, H, [b], G⟩ G H [boxR K b] :=
  ⟨Ex.refl _, Ex.refl _, fun _ _ z _ => z, e, fun _ _ _ _ y => y, fun a h => by rw [List.mem_singleton.mp h]; exact hb.at_, fun r h => by rw [List.mem_singleton.mp h]; exact hb, fun a h => by
    have : a ∈ [b] := by simpa [feet, boxR] using h
    rw [List.mem_singleton.mp this]; exact gb, by simp [feet, boxR], fun r h a ha => by
    rw [List.mem_singleton.mp h] at ha ⊢
    exact .inr ⟨rfl, ha⟩⟩
theorem Ok.toB {G0 H0 Gl : Hp} {b : Addr} (o : Ok ⟨G0, H0, [b], Gl⟩ G H M) : GrB b G0 H0 G H := ⟨o.g, fun a u z n => o.h a u z (fun q => n (List.mem_singleton.mp q)), o.i, o.n⟩
end
def EvX (Γ : Ctx) (te : TE) (r : Rp) : Prop := ∀ σ G, En σ G Γ → EvD te σ G r
def EvNX (Γ : Ctx) (te : TE) (rs : List Rp) : Prop := ∀ σ G, En σ G Γ → EvN te σ G rs
def EvTX (Γ : Ctx) (t : TT) (b : Bool) : Prop := ∀ σ G, En σ G Γ → EvT t σ G b
def EvAX (Γ : Ctx) (ta : TA) (rs : List Rp) : Prop := ∀ σ G, En σ G Γ → EvAD ta σ G rs
def EX (Γ : Ctx) (M : List Re) (te : TE) (κ : Rp → List Re → Prop) : Prop := ∀ B G H σ, Ok B G H M → En σ G Γ → ∀ Q : VK, (∀ v G' H' r M', κ r M' → Ok B G' H' M' → Ex G G' → r.p v G' → Q v H') → te σ H Q
def EXT (Γ : Ctx) (M : List Re) (t : TT) (κ : Bool → List Re → Prop) : Prop := ∀ B G H σ, Ok B G H M → En σ G Γ → ∀ Q : Bool → Hp → Prop, (∀ c G' H' M', κ c M' → Ok B G' H' M' → Ex G G' → Q c H') → t σ H Q
section
variable {Γ : Ctx} {M : List Re} {te ta tb : TE} {t : TT} {r : Rp} {b : Addr} {K : PySem.W.Frag} {P : Rp → Prop} {k i : Nat}
theorem EX.of (h : EvX Γ te r) : EX Γ M te (fun r' M' => r' = r ∧ M' = M) := fun B G H σ o en Q q => h σ G en H o.i Q fun v G2 H2 g hv => q v G2 H2 r M ⟨rfl, rfl⟩ (o.gr g) g.g hv
theorem EXT.of {c : Bool} (h : EvTX Γ t c) : EXT Γ M t (fun c' M' => c' = c ∧ M' = M) := fun B G H σ o en Q q => h σ G en H o.i Q fun H2 e => q c G H2 M ⟨rfl, rfl⟩ (o.ex e) (Ex.refl _)
theorem EX.imp {κ κ' : Rp → List Re → Prop} (h : EX Γ M te κ) (hk : ∀ r M', κ r M' → κ' r M') : EX Γ M te κ' := fun B G H σ o en Q q => h B G H σ o en Q fun v G' H' r M' z => q v G' H' r M' (hk r M' z)
theorem set_same {M : List Re} {R : Re} (h : M[k]? = some R) : M.set k R = M := by
  apply List.ext_getElem?
  intro i
  by_cases c : k = i
  · subst c
    rw [List.getElem?_set_self', h]; rfl
  · rw [List.getElem?_set_ne c]
theorem Ok.grB {B : Ba} {G H G2 H2 : Hp} (o : Ok B G H M) (hk : M[k]? = some (boxR K b)) (g : GrB b G H G2 H2) (hb : Box K G2 H2 b) : Ok B G2 H2 M := by
  have := o.chg (R' := boxR K b) hk rfl rfl g.g (fun a u z n => g.h a u z fun q => n (List.mem_singleton.mpr q)) g.i g.n hb
  rwa [set_same hk] at this
theorem EX.ofB (hk : M[k]? = some (boxR K b)) (h : ∀ σ G, En σ G Γ → EvB K te σ b G P) : EX Γ M te (fun r M' => P r ∧ M' = M) := fun B G H σ o en Q q => by
  have hm := List.mem_of_getElem? hk
  have gb : G b = none := o.z b (mem_feet hm (List.mem_singleton.mpr rfl))
  exact h σ G en H o.i gb (o.m _ hm) Q fun r v G2 H2 p g hb hv => q v G2 H2 r M ⟨p, rfl⟩ (o.grB hk g hb) g.g hv
theorem EXT.ofB {P : Bool → Prop} (hk : M[k]? = some (boxR K b)) (h : ∀ σ G, En σ G Γ → EvTB K t σ b G P) : EXT Γ M t (fun c M' => P c ∧ M' = M) := fun B G H σ o en Q q => by
  have hm := List.mem_of_getElem? hk
  have gb : G b = none := o.z b (mem_feet hm (List.mem_singleton.mpr rfl))
  exact h σ G en H o.i gb (o.m _ hm) Q fun c G2 H2 p g hb => q c G2 H2 M ⟨p, rfl⟩ (o.grB hk g hb) g.g
theorem Ok.rd {B : Ba} {G H : Hp} {p : Addr} {rs : List Rp} {σ : L2.St} (o : Ok B G H M) (hk : M[k]? = some (lstR p rs)) (hi : Γ[i]? = some (some (rV (.ref p)))) (en : En σ G Γ) : ∃ G2, Ex G2 H ∧ En σ G2 (Γ.set i (some (rL K rs))) := by
  have hm := List.mem_of_getElem? hk
  obtain ⟨ws, h1, h2⟩ := o.m _ hm
  have gp : G p = none := o.z p (mem_feet hm (List.mem_singleton.mpr rfl))
  have e : Ex G (upd G p (.lst ws)) := Ex.new gp
  obtain ⟨v, hv1, hv2⟩ := en.get hi
  obtain rfl : v = V.ref p := hv2
  refine ⟨upd G p (.lst ws), ex_add o.i h1, ?_⟩
  have z := En.set (r := rL K rs) (v := .ref p) ⟨p, ws, rfl, upd_same, h2.mono e⟩ i (en.mono e)
  have es : σ.set i (some (.ref p)) = σ := by
    apply List.ext_getElem?
    intro j
    by_cases c : i = j
    · subst c
      rw [List.getElem?_set_self', hv1]; rfl
    · rw [List.getElem?_set_ne c]
  rwa [es] at z
theorem EX.rd {p : Addr} {rs : List Rp} {v : V} (hk : M[k]? = some (lstR p rs)) (hi : Γ[i]? = some (some (rV (.ref p)))) (h : EvX (Γ.set i (some (rL K rs))) te (rV v)) : EX Γ M te (fun r M' => r = rV v ∧ M' = M) := fun B G H σ o en Q q => by
  obtain ⟨G2, e2, en2⟩ := o.rd (K := K) hk hi en
  exact h σ G2 en2 H e2 Q fun w G3 H3 g hw => q w G H3 (rV v) M ⟨rfl, rfl⟩ (o.ex g.h) (Ex.refl _) hw
theorem EXT.rd {p : Addr} {rs : List Rp} {c : Bool} (hk : M[k]? = some (lstR p rs)) (hi : Γ[i]? = some (some (rV (.ref p)))) (h : EvTX (Γ.set i (some (rL K rs))) t c) : EXT Γ M t (fun c' M' => c' = c ∧ M' = M) := fun B G H σ o en Q q => by
  obtain ⟨G2, e2, en2⟩ := o.rd (K := K) hk hi en
  exact h σ G2 en2 H e2 Q fun H3 e3 => q c G H3 M ⟨rfl, rfl⟩ (o.ex e3) (Ex.refl _)
end
structure Kn where
  nx : Ctx → List Re → Prop
  rt : Rp → List Re → Prop := fun _ _ => False
  bk : Ctx → List Re → Prop := fun _ _ => False
  ct : Ctx → List Re → Prop := fun _ _ => False
  /-- an exception: its class, its fields -/
  ex : Ctx → Value → List (Str × V) → List Re → Prop := fun _ _ _ _ => False
def XdOk (G : Hp) (fs : List (Str × V)) : Option Addr → Prop
  | some d => G d = some (.xd fs)
  | none => fs = []
theorem XdOk.mono {G G' : Hp} {fs : List (Str × V)} (e : Ex G G') : ∀ {d : Option Addr}, XdOk G fs d → XdOk G' fs d
  | some d, h => e d _ h
  | none, h => h
structure Dk (B : Ba) (W : WX) (D : Ends) (κ : Kn) : Prop where
  nx : ∀ σ G H Γ M, Ok B G H M → En σ G Γ → κ.nx Γ M → D.nx σ H
  rt : ∀ v G H r M, Ok B G H M → r.p v G → κ.rt r M → D.rt v H
  bk : ∀ σ G H Γ M, Ok B G H M → En σ G Γ → κ.bk Γ M → D.bk σ H
  ct : ∀ σ G H Γ M, Ok B G H M → En σ G Γ → κ.ct Γ M → D.ct σ H
  ex : ∀ σ G H Γ M cls d fs, Ok B G H M → En σ G Γ → XdOk G fs d → κ.ex Γ cls fs M → W cls d σ H
def WP (W : WX) (Γ : Ctx) (M : List Re) (t : TS) (κ : Kn) : Prop := ∀ B G H σ D, Ok B G H M → En σ G Γ → Dk B W D κ → t D σ H
section
variable {W : WX} {Γ Γ' : Ctx} {M : List Re} {te ta tb tl : TE} {t1 t2 tu tw : TS} {tt : TT} {κ : Kn} {r : Rp} {K : PySem.W.Frag} {i j k : Nat}
theorem w_seq (h : WP W Γ M t1 { κ with nx := fun Γ' M' => WP W Γ' M' t2 κ }) : WP W Γ M (tSeq t1 t2) κ := fun B G H σ D o en d =>
  h B G H σ _ o en ⟨fun σ' G' H' Γ' M' o' en' w => w B G' H' σ' D o' en' d, d.rt, d.bk, d.ct, d.ex⟩
theorem w_nx (h : κ.nx Γ M) : WP W Γ M tNext κ := fun B G H σ D o en d => d.nx σ G H Γ M o en h
theorem w_sub (hs : Sub Γ Γ') (h : WP W Γ' M t1 κ) : WP W Γ M t1 κ := fun B G H σ D o en d => h B G H σ D o (en.weak hs) d
theorem w_imp {κ' : Kn} (h : WP W Γ M t1 κ) (h1 : ∀ Γ M, κ.nx Γ M → κ'.nx Γ M) (h2 : ∀ r M, κ.rt r M → κ'.rt r M) (h3 : ∀ Γ M, κ.bk Γ M → κ'.bk Γ M) (h4 : ∀ Γ M, κ.ct Γ M → κ'.ct Γ M) (h5 : ∀ Γ c f M, κ.ex Γ c f M → κ'.ex Γ c f M) : WP W Γ M t1 κ' := fun B G H σ D o en d =>
  h B G H σ D o en ⟨fun σ G H Γ M o en z => d.nx σ G H Γ M o en (h1 Γ M z), fun v G H r M o hv z => d.rt v G H r M o hv (h2 r M z), fun σ G H Γ M o en z => d.bk σ G H Γ M o en (h3 Γ M z), fun σ G H Γ M o en z => d.ct σ G H Γ M o en (h4 Γ M z), fun σ G H Γ M c dd fs o en x z => d.ex σ G H Γ M c dd fs o en x (h5 Γ c fs M z)⟩
theorem w_ret (h : EvX Γ te r) (hn : κ.rt r M) : WP W Γ M (tRet te) κ := fun B G H σ D o en d => h σ G en H o.i _ fun v G2 H2 g hv => d.rt v G2 H2 r M (o.gr g) hv hn
theorem w_retE {κ1 : Rp → List Re → Prop} (h : EX Γ M te κ1) (hn : ∀ r M', κ1 r M' → κ.rt r M') : WP W Γ M (tRet te) κ := fun B G H σ D o en d =>
  h B G H σ o en _ fun v G2 H2 r M' z o2 e hv => d.rt v G2 H2 r M' o2 hv (hn r M' z)
theorem w_ret0 (hn : κ.rt (rV .non) M) : WP W Γ M tRetN κ := fun B G H σ D o en d => d.rt _ G H (rV .non) M o rfl hn
theorem w_if {b : Bool} (h : EvTX Γ tt b) (h1 : b = true → WP W Γ M tu κ) (h2 : b = false → WP W Γ M tw κ) : WP W Γ M (tIfS tt tu tw) κ := fun B G H σ D o en d =>
  h σ G en H o.i _ fun H2 e => by
    cases b with
    | true =>
      show tu D σ H2
      exact h1 rfl B G H2 σ D (o.ex e) en d
    | false =>
      show tw D σ H2
      exact h2 rfl B G H2 σ D (o.ex e) en d
theorem w_ifE {κ1 : Bool → List Re → Prop} (h : EXT Γ M tt κ1) (h1 : ∀ M', κ1 true M' → WP W Γ M' tu κ) (h2 : ∀ M', κ1 false M' → WP W Γ M' tw κ) : WP W Γ M (tIfS tt tu tw) κ := fun B G H σ D o en d =>
  h B G H σ o en _ fun b G2 H2 M' z o2 e => by
    cases b with
    | true =>
      show tu D σ H2
      exact h1 M' z B G2 H2 σ D o2 (en.mono e) d
    | false =>
      show tw D σ H2
      exact h2 M' z B G2 H2 σ D o2 (en.mono e) d
theorem w_no (h : EvTX Γ tt false) (h2 : WP W Γ M tw κ) : WP W Γ M (tIfS tt tu tw) κ := w_if h (fun z => nomatch z) fun _ => h2
theorem w_yes (h : EvTX Γ tt true) (h2 : WP W Γ M tu κ) : WP W Γ M (tIfS tt tu tw) κ := w_if h (fun _ => h2) fun z => nomatch z
theorem w_frz {p : Addr} {rs : List Rp} (K : PySem.W.Frag) (k i : Nat) (hk : M[k]? = some (lstR p rs)) (hi : Γ[i]? = some (some (rV (.ref p)))) (h : WP W (Γ.set i (some (rL K rs))) (M.eraseIdx k) t1 κ) : WP W Γ M t1 κ := fun B G H σ D o en d => by
  obtain ⟨G2, e, o2, hr⟩ := o.frz (K := K) hk
  obtain ⟨v, hv1, hv2⟩ := en.get hi
  obtain rfl : v = V.ref p := hv2
  have z := En.set (r := rL K rs) (v := .ref p) hr i (en.mono e)
  have es : σ.set i (some (.ref p)) = σ := by
    apply List.ext_getElem?
    intro j
    by_cases c : i = j
    · subst c
      rw [List.getElem?_set_self', hv1]; rfl
    · rw [List.getElem?_set_ne c]
  rw [es] at z
  exact h B G2 H σ D o2 z d
variable {α β : Type}
def LI (P : Nat → α → Prop) (Γi : Nat → α → Ctx) (Mi : Nat → α → List Re) (n : Nat) : Ctx → List Re → Prop := fun Γ' M' => ∃ a, P n a ∧ Sub Γ' (Γi n a) ∧ M' = Mi n a
def kLoop (I : Ctx → List Re → Prop) (κ : Kn) : Kn := { nx := I, ct := I, bk := κ.nx, rt := κ.rt, ex := κ.ex }
def Pv (B : Ba) (I : Ctx → List Re → Prop) : L2.St → Hp → Prop := fun σ H => ∃ G Γ M, Ok B G H M ∧ En σ G Γ ∧ I Γ M
theorem Dk.loop {B : Ba} {D : Ends} {I : Ctx → List Re → Prop} (d : Dk B W D κ) : Dk B W { D with nx := Pv B I, ct := Pv B I, bk := D.nx } (kLoop I κ) :=
  ⟨fun σ G H Γ M o en z => ⟨G, Γ, M, o, en, z⟩, d.rt, d.nx, fun σ G H Γ M o en z => ⟨G, Γ, M, o, en, z⟩, d.ex⟩
def Ba.low (B : Ba) (G : Hp) : Ba := { B with Gl := G }
theorem Ok.low {B : Ba} {G H G1 : Hp} (o : Ok B G H M) (e : Ex G1 G) : Ok (B.low G1) G H M := ⟨o.g, e, o.h, o.i, o.n, o.k, o.m, o.z, o.d, o.f⟩
theorem Ok.up {B : Ba} {G H G1 : Hp} (o : Ok (B.low G1) G H M) (e : Ex B.Gl G1) : Ok B G H M := ⟨o.g, e.trans o.l, o.h, o.i, o.n, o.k, o.m, o.z, o.d, o.f⟩
theorem Dk.low {B : Ba} {D : Ends} {G1 : Hp} (d : Dk B W D κ) (e : Ex B.Gl G1) : Dk (B.low G1) W D κ := ⟨fun σ G H Γ M o en z => d.nx σ G H Γ M (o.up e) en z, fun v G H r M o hv z => d.rt v G H r M (o.up e) hv z, fun σ G H Γ M o en z => d.bk σ G H Γ M (o.up e) en z, fun σ G H Γ M o en z => d.ct σ G H Γ M (o.up e) en z, fun σ G H Γ M c dd fs o en x z => d.ex σ G H Γ M c dd fs (o.up e) en x z⟩
theorem w_forL (l : List β) (ρ : β → Rp) (P : Nat → α → Prop) (Γi : Nat → α → Ctx) (Mi : Nat → α → List Re) (h : EvX Γ tl (rL K (l.map ρ))) (a0 : α) (p0 : P 0 a0) (s0 : Sub Γ (Γi 0 a0)) (m0 : M = Mi 0 a0)
    (hs : ∀ i a x, l[i]? = some x → P i a → WP W ((Γi i a).set j (some (ρ x))) (Mi i a) tu (kLoop (LI P Γi Mi (i + 1)) κ)) (hd : ∀ a, P l.length a → κ.nx (Γi l.length a) (Mi l.length a)) : WP W Γ M (tFor (iList K tl) (gName j) tu) κ := fun B G H σ D o en d => by
  refine Mu.s_forL l ρ o.i (h σ G en) (fun G1 i σ' H' => Ex B.Gl G1 ∧ Pv (B.low G1) (LI P Γi Mi i) σ' H') (fun G1 H1 g => ⟨o.l.trans g.g, G1, Γ, M, (o.gr g).low (Ex.refl _), en.mono g.g, a0, p0, s0, m0⟩) (fun G1 i σ' H' ⟨_, G2, _, _, o2, _⟩ => o2.l.trans o2.i) (fun G1 i x y σ' H' e hi hy ⟨eb, G2, Γ1, M1, o1, en1, a, pa, sa, ma⟩ => ?_) (fun G1 σ' H' _ ⟨eb, G2, Γ1, M1, o1, en1, a, pa, sa, ma⟩ => ?_)
  · subst ma
    have d2 := (d.low eb).loop (I := LI P Γi Mi (i + 1))
    exact hs i a x hi pa (B.low G1) G2 H' _ _ o1 ((en1.weak sa).set ((ρ x).mono o1.l hy) j) ⟨fun σ G H Γ M o en z => ⟨eb, d2.nx σ G H Γ M o en z⟩, d2.rt, d2.bk, fun σ G H Γ M o en z => ⟨eb, d2.ct σ G H Γ M o en z⟩, d2.ex⟩
  · subst ma
    exact d.nx _ G2 H' _ _ (o1.up eb) (en1.weak sa) (hd a pa)
end
end Mu

namespace Mu
open PySem PySem.Spec PyProof.Rows L2 Evl
section
variable {Γ : Ctx} {M : List Re} {te ta tb tc tl : TE} {t u : TT} {r r1 r2 r3 : Rp} {rs : List Rp} {K : PySem.W.Frag} {C : Addr} {i j : Nat} {v w x y : V} {a b : Int} {m n : Nat} {E : XK} {sp : Sp}
theorem x_v (h : Γ[i]? = some (some r)) : EvX Γ (tVar i) r := fun σ G en => by
  obtain ⟨v, h1, h2⟩ := en.get h
  exact ed_var h1 h2
theorem x_c : EvX Γ (tC v) (rV v) := fun σ G en => Ev.d ev_c
theorem x_is (h : EvX Γ te r) (e : r = r1) : EvX Γ te r1 := e ▸ h
theorem xn_is {ss : List Rp} (h : EvNX Γ te rs) (e : rs = ss) : EvNX Γ te ss := e ▸ h
theorem t_is {c d : Bool} (h : EvTX Γ t c) (e : c = d) : EvTX Γ t d := e ▸ h
theorem EvNX.d (h : EvNX Γ te rs) : EvX Γ te (rL K rs) := fun σ G en => EvN.d (h σ G en)
theorem xa_nil : EvAX Γ tNil [] := fun σ G en => ead_nil
theorem xa_cons {tr : TA} (h : EvX Γ te r) (hr : EvAX Γ tr rs) : EvAX Γ (tCons te tr) (r :: rs) := fun σ G en => ead_cons (h σ G en) (hr σ G en)
theorem x_I0 {g : Int → Int → V} (ha : EvX Γ ta (rI a)) (hb : EvX Γ tb (rI b)) : EvX Γ (tOp (rI0 g) ta tb) (rV (g a b)) := fun σ G en => Ev.d (ev_op (EvD.ev (ha σ G en)) (EvD.ev (hb σ G en)) rv_I0)
theorem x_I {c : Int → Int → Prop} {g : Int → Int → V} (ha : EvX Γ ta (rI a)) (hb : EvX Γ tb (rI b)) (hc : c a b) : EvX Γ (tOp (L2.rI c g) ta tb) (rV (g a b)) := fun σ G en => Ev.d (ev_op (EvD.ev (ha σ G en)) (EvD.ev (hb σ G en)) (rv_I hc))
theorem x_addN (ha : EvX Γ ta (nI m)) (hb : EvX Γ tb (nI n)) : EvX Γ (tOp (rI0 fun i j => .int (i + j)) ta tb) (nI (m + n)) := x_is (x_I0 ha hb) (by show rI _ = rI _; congr 1)
theorem x_subN (ha : EvX Γ ta (nI m)) (hb : EvX Γ tb (nI n)) (h : n ≤ m) : EvX Γ (tOp (rI0 fun i j => .int (i - j)) ta tb) (nI (m - n)) := x_is (x_I0 ha hb) (by show rI _ = rI _; congr 1; omega)
theorem x_int (h : EvX Γ te (rI a)) : EvX Γ (tCB (fun xs H Q => (∃ i, xs = [.int i] ∧ Q (.int i) H) ∨ ∃ k, xs = [.bl k] ∧ Q (.int (if k then 1 else 0)) H) (tCons te tNil)) (rI a) := fun σ G en => Ev.d (ev_int (EvD.ev (h σ G en)))
theorem x_cn (n : Nat) : EvX Γ (tC (.int (n : Int))) (nI n) := x_c
theorem x_and {c d : Bool} (h1 : EvX Γ ta (rB c)) (h2 : c = true → EvX Γ tb (rB d)) : EvX Γ (tAndV ta tb) (rB (c && d)) := fun σ G en => Ev.d (ev_andV (EvD.ev (h1 σ G en)) fun z => EvD.ev (h2 z σ G en))
theorem x_or {c d : Bool} (h1 : EvX Γ ta (rB c)) (h2 : c = false → EvX Γ tb (rB d)) : EvX Γ (tOrV ta tb) (rB (c || d)) := fun σ G en => Ev.d (ev_orV (EvD.ev (h1 σ G en)) fun z => EvD.ev (h2 z σ G en))
theorem x_not {c : Bool} (h1 : EvX Γ ta (rB c)) : EvX Γ (tNotV ta) (rB (!c)) := fun σ G en => Ev.d (ev_notV (EvD.ev (h1 σ G en)))
theorem x_eqV (ha : EvX Γ ta (rV x)) (hb : EvX Γ tb (rV y)) (hs : scal x y = true := by rfl) : EvX Γ (tOp rEq ta tb) (rB (decide (x = y))) := fun σ G en => Ev.d (ev_op (EvD.ev (ha σ G en)) (EvD.ev (hb σ G en)) (rv_eq hs))
theorem x_neV (ha : EvX Γ ta (rV x)) (hb : EvX Γ tb (rV y)) (hs : scal x y = true := by rfl) : EvX Γ (tOp rNe ta tb) (rB (!decide (x = y))) := fun σ G en => Ev.d (ev_op (EvD.ev (ha σ G en)) (EvD.ev (hb σ G en)) (rv_ne hs))
theorem dec_nat (p q : Nat) : decide (V.int (p : Int) = V.int (q : Int)) = decide (p = q) := by
  rw [Bool.eq_iff_iff, decide_eq_true_iff, decide_eq_true_iff]
  constructor
  · intro z; injection z with z; omega
  · intro z; rw [z]
theorem dec_int (p q : Int) : decide (V.int p = V.int q) = decide (p = q) := by
  rw [Bool.eq_iff_iff, decide_eq_true_iff, decide_eq_true_iff]
  constructor
  · intro z; injection z
  · intro z; rw [z]
theorem x_eqN (ha : EvX Γ ta (nI m)) (hb : EvX Γ tb (nI n)) : EvX Γ (tOp rEq ta tb) (rB (decide (m = n))) := x_is (x_eqV ha hb) (by rw [dec_nat])
theorem x_neN (ha : EvX Γ ta (nI m)) (hb : EvX Γ tb (nI n)) : EvX Γ (tOp rNe ta tb) (rB (!decide (m = n))) := x_is (x_neV ha hb) (by rw [dec_nat])
theorem x_bandN (ha : EvX Γ ta (nI m)) (hb : EvX Γ tb (nI n)) : EvX Γ (tOp (rI0 fun i j => .int (Builtin.bitAnd i j)) ta tb) (nI (m &&& n)) := x_is (x_I0 ha hb) (by rw [band_nat])
theorem x_borN (ha : EvX Γ ta (nI m)) (hb : EvX Γ tb (nI n)) : EvX Γ (tOp (rI0 fun i j => .int (Builtin.bitOr i j)) ta tb) (nI (m ||| n)) := x_is (x_I0 ha hb) (by rw [bor_nat])
theorem x_shrN (ha : EvX Γ ta (nI m)) (hb : EvX Γ tb (nI n)) : EvX Γ (tOp (L2.rI (fun _ j => 0 ≤ j) fun i j => .int (i / 2 ^ j.toNat)) ta tb) (nI (m / 2 ^ n)) := x_is (x_I ha hb (by omega)) (by rw [shr_nat])
theorem x_ixT (ha : EvX Γ ta (rT K rs)) (hb : EvX Γ tb (nI n)) (hi : rs[n]? = some r) : EvX Γ (tOp (rIxT K) ta tb) r := fun σ G en => ed_ixT (ha σ G en) (EvD.ev (hb σ G en)) hi
theorem x_ixL (ha : EvX Γ ta (rL K rs)) (hb : EvX Γ tb (nI n)) (hi : rs[n]? = some r) : EvX Γ (tOp (rIxL K) ta tb) r := fun σ G en => ed_ixL (ha σ G en) (EvD.ev (hb σ G en)) hi
theorem get_map {α : Type} {ρ : α → Rp} {l : List α} {d : α} (h : n < l.length) : (l.map ρ)[n]? = some (ρ (l.getD n d)) := by
  rw [List.getElem?_map, List.getD_eq_getElem?_getD, List.getElem?_eq_getElem h]; rfl
theorem x_ixLm {α : Type} {ρ : α → Rp} {l : List α} (d : α) (ha : EvX Γ ta (rL K (l.map ρ))) (hb : EvX Γ tb (nI n)) (h : n < l.length) : EvX Γ (tOp (rIxL K) ta tb) (ρ (l.getD n d)) := x_ixL ha hb (get_map h)
theorem x_ixTm {α : Type} {ρ : α → Rp} {l : List α} (d : α) (ha : EvX Γ ta (rT K (l.map ρ))) (hb : EvX Γ tb (nI n)) (h : n < l.length) : EvX Γ (tOp (rIxT K) ta tb) (ρ (l.getD n d)) := x_ixT ha hb (get_map h)
theorem x_ixLn {l : List Nat} (ha : EvX Γ ta (rLn K l)) (hb : EvX Γ tb (nI n)) (h : n < l.length) : EvX Γ (tOp (rIxL K) ta tb) (nI (l.getD n 0)) := x_ixLm 0 ha hb h
theorem x_ixTn {l : List Nat} (ha : EvX Γ ta (rTn K l)) (hb : EvX Γ tb (nI n)) (h : n < l.length) : EvX Γ (tOp (rIxT K) ta tb) (nI (l.getD n 0)) := x_ixTm 0 ha hb h
theorem x_ixB {l : List Nat} (ha : EvX Γ ta (rLL K (l.map bitsN))) (hb : EvX Γ tb (nI n)) (h : n < l.length) : EvX Γ (tOp (rIxL K) ta tb) (rLn K (bitsN (l.getD n 0))) := x_ixL ha hb (by
  rw [List.map_map, List.getElem?_map, List.getD_eq_getElem?_getD, List.getElem?_eq_getElem h]; rfl)
theorem x_lenL (h : EvX Γ te (rL K rs)) : EvX Γ (tCB (rLenS K) (tCons te tNil)) (nI rs.length) := fun σ G en => Ev.d (ev_lenL (h σ G en) rfl)
theorem x_lenT (h : EvX Γ te (rT K rs)) : EvX Γ (tCB (rLenS K) (tCons te tNil)) (nI rs.length) := fun σ G en => Ev.d (ev_lenT (h σ G en) rfl)
theorem x_lenLm {α : Type} {ρ : α → Rp} {l : List α} (h : EvX Γ te (rL K (l.map ρ))) : EvX Γ (tCB (rLenS K) (tCons te tNil)) (nI l.length) := x_is (x_lenL h) (by rw [List.length_map])
theorem x_lenTm {α : Type} {ρ : α → Rp} {l : List α} (h : EvX Γ te (rT K (l.map ρ))) : EvX Γ (tCB (rLenS K) (tCons te tNil)) (nI l.length) := x_is (x_lenT h) (by rw [List.length_map])
theorem x_lenLn {l : List Nat} (h : EvX Γ te (rLn K l)) : EvX Γ (tCB (rLenS K) (tCons te tNil)) (nI l.length) := x_lenLm h
theorem x_lenTn {l : List Nat} (h : EvX Γ te (rTn K l)) : EvX Γ (tCB (rLenS K) (tCons te tNil)) (nI l.length) := x_lenTm h
theorem x_lenLL {l : List (List Nat)} (h : EvX Γ te (rLL K l)) : EvX Γ (tCB (rLenS K) (tCons te tNil)) (nI l.length) := x_lenLm h
theorem x_lenB {l : List Nat} (h : EvX Γ te (rLL K (l.map bitsN))) : EvX Γ (tCB (rLenS K) (tCons te tNil)) (nI l.length) := x_is (x_lenLL h) (by rw [List.length_map])
theorem xn_list (h : EvX Γ te (rL K rs)) : EvNX Γ (tCB (rListS K) (tCons te tNil)) rs := fun σ G en => en_listL (h σ G en)
theorem xn_listT (h : EvX Γ te (rT K rs)) : EvNX Γ (tCB (rListS K) (tCons te tNil)) rs := fun σ G en => en_listT (h σ G en)
theorem x_tupL (h : EvX Γ te (rL K rs)) : EvX Γ (tCB (rTupO K) (tCons te tNil)) (rT K rs) := fun σ G en => ed_tupL (h σ G en)
theorem x_tup {ta : TA} (h : EvAX Γ ta rs) (hl : rs.length ≤ 100000 := by decide) : EvX Γ (tTup ta) (rT K rs) := fun σ G en => ed_tup (h σ G en) hl
theorem xn_lst {ta : TA} (h : EvAX Γ ta rs) (hl : rs.length ≤ 100000 := by decide) : EvNX Γ (tLst ta) rs := fun σ G en => en_lst (h σ G en) hl
theorem x_lst {ta : TA} (h : EvAX Γ ta rs) (hl : rs.length ≤ 100000 := by decide) : EvX Γ (tLst ta) (rL K rs) := (xn_lst h hl).d
theorem xn_cat {ss : List Rp} (ha : EvX Γ ta (rL K rs)) (hb : EvX Γ tb (rL K ss)) (hz : rs.length + ss.length ≤ 100000) : EvNX Γ (tOp rCat ta tb) (rs ++ ss) := fun σ G en => en_cat (ha σ G en) (hb σ G en) hz
theorem x_catm {α : Type} {ρ : α → Rp} {l l' : List α} (ha : EvX Γ ta (rL K (l.map ρ))) (hb : EvX Γ tb (rL K (l'.map ρ))) (hz : l.length + l'.length ≤ 100000) : EvX Γ (tOp rCat ta tb) (rL K ((l ++ l').map ρ)) := x_is (EvNX.d (K := K) (xn_cat (K := K) ha hb (by rw [List.length_map, List.length_map]; exact hz))) (by rw [List.map_append])
theorem en_at {σ : L2.St} {G : Hp} (en : En σ G Γ) {vs : List Nat} (h : r.p v G) : En ((wipe σ vs).set j (some v)) G ((wipeC Γ vs).set j (some r)) := (en.wipe vs).set h j
theorem xn_lcL {α : Type} {vs : List Nat} (l : List α) (ρ : α → Rp) (f : α → Bool) (rr : α → Rp) (h : EvX Γ tl (rL K (l.map ρ))) (hz : l.length ≤ 40000) (ht : ∀ a, a ∈ l → EvTX ((wipeC Γ vs).set j (some (ρ a))) t (f a)) (he : ∀ a, a ∈ l → f a = true → EvX ((wipeC Γ vs).set j (some (ρ a))) te (rr a)) (hj : j ∈ vs := by simp) : EvNX Γ (tLc (iList K tl) (gName j) t te vs) ((l.filter f).map rr) := fun σ G en =>
  en_lcL l ρ f rr (h σ G en) hz (wipe_turn σ hj) (fun a x G1 ha e hx => ht a ha _ G1 (en_at (en.mono e) hx)) (fun a x G1 ha hf e hx => he a ha hf _ G1 (en_at (en.mono e) hx))
theorem xn_lcT {α : Type} {vs : List Nat} (l : List α) (ρ : α → Rp) (f : α → Bool) (rr : α → Rp) (h : EvX Γ tl (rT K (l.map ρ))) (hz : l.length ≤ 40000) (ht : ∀ a, a ∈ l → EvTX ((wipeC Γ vs).set j (some (ρ a))) t (f a)) (he : ∀ a, a ∈ l → f a = true → EvX ((wipeC Γ vs).set j (some (ρ a))) te (rr a)) (hj : j ∈ vs := by simp) : EvNX Γ (tLc (iTup K tl) (gName j) t te vs) ((l.filter f).map rr) := fun σ G en =>
  en_lcT l ρ f rr (h σ G en) hz (wipe_turn σ hj) (fun a x G1 ha e hx => ht a ha _ G1 (en_at (en.mono e) hx)) (fun a x G1 ha hf e hx => he a ha hf _ G1 (en_at (en.mono e) hx))
theorem xn_lcR {vs : List Nat} (n : Nat) (f : Nat → Bool) (rr : Nat → Rp) (h : EvX Γ ta (nI n)) (hz : n ≤ 40000) (ht : ∀ a, a < n → EvTX ((wipeC Γ vs).set j (some (nI a))) t (f a)) (he : ∀ a, a < n → f a = true → EvX ((wipeC Γ vs).set j (some (nI a))) te (rr a)) (hj : j ∈ vs := by simp) : EvNX Γ (tLc (iRng1 (tCons ta tNil)) (gName j) t te vs) (((List.range n).filter f).map rr) := fun σ G en =>
  en_lcR n f rr (ea_cons (EvD.ev (h σ G en)) ea_nil) hz (wipe_turn σ hj) (fun a G1 ha e => ht a ha _ G1 (en_at (r := nI a) (en.mono e) rfl)) (fun a G1 ha hf e => he a ha hf _ G1 (en_at (r := nI a) (en.mono e) rfl))
theorem t_yes : EvTX Γ tYes true := fun σ G en => yes_T rfl
theorem xn_lcL0 {α : Type} {vs : List Nat} (l : List α) (ρ : α → Rp) (rr : α → Rp) (h : EvX Γ tl (rL K (l.map ρ))) (hz : l.length ≤ 40000) (he : ∀ a, a ∈ l → EvX ((wipeC Γ vs).set j (some (ρ a))) te (rr a)) (hj : j ∈ vs := by simp) : EvNX Γ (tLc (iList K tl) (gName j) tYes te vs) (l.map rr) :=
  xn_is (xn_lcL l ρ (fun _ => true) rr h hz (fun _ _ => t_yes) (fun a ha _ => he a ha) hj) filter_yes
theorem xn_lcT0 {α : Type} {vs : List Nat} (l : List α) (ρ : α → Rp) (rr : α → Rp) (h : EvX Γ tl (rT K (l.map ρ))) (hz : l.length ≤ 40000) (he : ∀ a, a ∈ l → EvX ((wipeC Γ vs).set j (some (ρ a))) te (rr a)) (hj : j ∈ vs := by simp) : EvNX Γ (tLc (iTup K tl) (gName j) tYes te vs) (l.map rr) :=
  xn_is (xn_lcT l ρ (fun _ => true) rr h hz (fun _ _ => t_yes) (fun a ha _ => he a ha) hj) filter_yes
theorem xn_lcR0 {vs : List Nat} (n : Nat) (rr : Nat → Rp) (h : EvX Γ ta (nI n)) (hz : n ≤ 40000) (he : ∀ a, a < n → EvX ((wipeC Γ vs).set j (some (nI a))) te (rr a)) (hj : j ∈ vs := by simp) : EvNX Γ (tLc (iRng1 (tCons ta tNil)) (gName j) tYes te vs) ((List.range n).map rr) :=
  xn_is (xn_lcR n (fun _ => true) rr h hz (fun _ _ => t_yes) (fun a ha _ => he a ha) hj) filter_yes
theorem t_ne (ha : EvX Γ ta (rV x)) (hb : EvX Γ tb (rV y)) (hs : scal x y = true := by rfl) : EvTX Γ (tTest (tOp rNe ta tb)) (!decide (x = y)) := fun σ G en => et_ne (EvD.ev (ha σ G en)) (EvD.ev (hb σ G en)) hs
theorem t_and {c d : Bool} (h1 : EvTX Γ t c) (h2 : c = true → EvTX Γ u d) : EvTX Γ (tAnd t u) (c && d) := fun σ G en => et_and (h1 σ G en) fun z => h2 z σ G en
theorem t_or {c d : Bool} (h1 : EvTX Γ t c) (h2 : c = false → EvTX Γ u d) : EvTX Γ (tOr t u) (c || d) := fun σ G en => et_or (h1 σ G en) fun z => h2 z σ G en
theorem t_not {c : Bool} (h1 : EvTX Γ t c) : EvTX Γ (tNot t) (!c) := fun σ G en => et_not (h1 σ G en)
theorem t_B {c : Bool} (h : EvX Γ te (rB c)) : EvTX Γ (tB te) c := fun σ G en => et_B (EvD.ev (h σ G en))
theorem t_T {c : Bool} (h : EvX Γ te (rB c)) : EvTX Γ (tTest te) c := fun σ G en => et_test (EvD.ev (h σ G en))
theorem x_isInt (h : EvX Γ te (rI a)) : EvX Γ (tCB (rIsi K) (tCons te (tCons (tC (.ty "int")) tNil))) (rB true) := fun σ G en => Ev.d (is_int (EvD.ev (h σ G en)))
theorem x_isList (h : EvX Γ te (rL K rs)) : EvX Γ (tCB (rIsi K) (tCons te (tCons (tC (.ty "list")) tNil))) (rB true) := fun σ G en => Ev.d (is_list (h σ G en))
theorem x_isTup (h : EvX Γ te (rT K rs)) : EvX Γ (tCB (rIsi K) (tCons te (tCons (tC (.ty "tuple")) tNil))) (rB true) := fun σ G en => Ev.d (is_tup (h σ G en))
theorem x_isTab {m : List Nat} (c : IsC K C) (h : EvX Γ te (rTab K C m)) : EvX Γ (tCB (rIsi K) (tCons te (tCons (tC (.ref C)) tNil))) (rB true) := fun σ G en => Ev.d (is_tab c (h σ G en))
theorem x_eqD {d1 d2 : PyData} (ha : EvX Γ ta r1) (hb : EvX Γ tb r2) (a1 : AsD K r1 d1) (a2 : AsD K r2 d2) (s1 : SeqAt.shaped d1 = true) (s2 : SeqAt.shaped d2 = true) : EvX Γ (tOp (rEqD K) ta tb) (rB (PyData.eqv d1 d2)) := fun σ G en => Ev.d (ev_eqD (ha σ G en) (hb σ G en) a1 a2 s1 s2)
theorem x_neD {d1 d2 : PyData} (ha : EvX Γ ta r1) (hb : EvX Γ tb r2) (a1 : AsD K r1 d1) (a2 : AsD K r2 d2) (s1 : SeqAt.shaped d1 = true) (s2 : SeqAt.shaped d2 = true) : EvX Γ (tOp (rNeD K) ta tb) (rB (!PyData.eqv d1 d2)) := fun σ G en => Ev.d (ev_neD (ha σ G en) (hb σ G en) a1 a2 s1 s2)
theorem x_neLn {l m : List Nat} (ha : EvX Γ ta (rLn K l)) (hb : EvX Γ tb (rLn K m)) : EvX Γ (tOp (rNeD K) ta tb) (rB (!decide (l = m))) := x_is (x_neD ha hb (asd_ln l) (asd_ln m) ((sh_ln l).ok (by decide)) ((sh_ln m).ok (by decide))) (by rw [eqv_ln])
theorem x_eqLn {l m : List Nat} (ha : EvX Γ ta (rLn K l)) (hb : EvX Γ tb (rLn K m)) : EvX Γ (tOp (rEqD K) ta tb) (rB (decide (l = m))) := x_is (x_eqD ha hb (asd_ln l) (asd_ln m) ((sh_ln l).ok (by decide)) ((sh_ln m).ok (by decide))) (by rw [eqv_ln])
theorem x_eqTn {l m : List Nat} (ha : EvX Γ ta (rTn K l)) (hb : EvX Γ tb (rTn K m)) : EvX Γ (tOp (rEqD K) ta tb) (rB (decide (l = m))) := x_is (x_eqD ha hb (asd_tn l) (asd_tn m) ((sh_tn l).ok (by decide)) ((sh_tn m).ok (by decide))) (by rw [eqv_tn])
theorem x_neTn {l m : List Nat} (ha : EvX Γ ta (rTn K l)) (hb : EvX Γ tb (rTn K m)) : EvX Γ (tOp (rNeD K) ta tb) (rB (!decide (l = m))) := x_is (x_neD ha hb (asd_tn l) (asd_tn m) ((sh_tn l).ok (by decide)) ((sh_tn m).ok (by decide))) (by rw [eqv_tn])
theorem x_neLL {l m : List (List Nat)} (ha : EvX Γ ta (rLL K l)) (hb : EvX Γ tb (rLL K m)) : EvX Γ (tOp (rNeD K) ta tb) (rB (!decide (l = m))) := x_is (x_neD ha hb (asd_ll l) (asd_ll m) ((sh_ll l).ok (by decide)) ((sh_ll m).ok (by decide))) (by rw [eqv_ll])
theorem x_eqLL {l m : List (List Nat)} (ha : EvX Γ ta (rLL K l)) (hb : EvX Γ tb (rLL K m)) : EvX Γ (tOp (rEqD K) ta tb) (rB (decide (l = m))) := x_is (x_eqD ha hb (asd_ll l) (asd_ll m) ((sh_ll l).ok (by decide)) ((sh_ll m).ok (by decide))) (by rw [eqv_ll])
theorem x_neP {l m : Nat × Nat} (ha : EvX Γ ta (rP K l)) (hb : EvX Γ tb (rP K m)) : EvX Γ (tOp (rNeD K) ta tb) (rB (!decide (l = m))) := x_is (x_neD ha hb (asd_p l) (asd_p m) ((sh_p l).ok (by decide)) ((sh_p m).ok (by decide))) (by rw [eqv_p])
theorem x_inLn {l : List Nat} (ha : EvX Γ ta (nI n)) (hb : EvX Γ tb (rLn K l)) : EvX Γ (tOp (rIn K false) ta tb) (rB (decide (n ∈ l))) := fun σ G en => Ev.d (ev_inLn (neg := false) (EvD.ev (ha σ G en)) (hb σ G en))
theorem x_niLn {l : List Nat} (ha : EvX Γ ta (nI n)) (hb : EvX Γ tb (rLn K l)) : EvX Γ (tOp (rIn K true) ta tb) (rB (!decide (n ∈ l))) := fun σ G en => Ev.d (ev_inLn (neg := true) (EvD.ev (ha σ G en)) (hb σ G en))
theorem x_inP {p : Nat × Nat} {l : List (Nat × Nat)} (ha : EvX Γ ta (rP K p)) (hb : EvX Γ tb (rL K (l.map (rP K)))) : EvX Γ (tOp (rInD K) ta tb) (rB (decide (p ∈ l))) := fun σ G en => Ev.d (ev_inP (ha σ G en) (hb σ G en))
theorem x_niP {p : Nat × Nat} {l : List (Nat × Nat)} (ha : EvX Γ ta (rP K p)) (hb : EvX Γ tb (rL K (l.map (rP K)))) : EvX Γ (tOp (rNotInD K) ta tb) (rB (!decide (p ∈ l))) := fun σ G en => Ev.d (ev_notInP (ha σ G en) (hb σ G en))
theorem x_isB {c d : Bool} (ha : EvX Γ ta (rB c)) (hb : EvX Γ tb (rB d)) : EvX Γ (tOp rIsB ta tb) (rB (decide (c = d))) := fun σ G en => Ev.d (ev_isB (EvD.ev (ha σ G en)) (EvD.ev (hb σ G en)))
theorem x_isNB {c d : Bool} (ha : EvX Γ ta (rB c)) (hb : EvX Γ tb (rB d)) : EvX Γ (tOp rNotB ta tb) (rB (!decide (c = d))) := fun σ G en => Ev.d (ev_isNB (EvD.ev (ha σ G en)) (EvD.ev (hb σ G en)))
theorem x_size {m : List Nat} (h : EvX Γ ta (rTab K C m)) (hc : Cls K C) (hn : NoAttr K C "size") : EvX Γ (tFld K ta "size") (nI m.length) := fun σ G en => Ev.d (ev_size (h σ G en) hc hn)
theorem x_masks {m : List Nat} (h : EvX Γ ta (rTab K C m)) (hc : Cls K C) (hn : NoAttr K C "masks") : EvX Γ (tFld K ta "masks") (rTn K m) := fun σ G en => ed_masks (h σ G en) hc hn
theorem x_cells {m : List Nat} (h : EvX Γ ta (rTab K C m)) (hc : Cls K C) (hn : NoAttr K C "cells") : EvX Γ (tFld K ta "cells") (rT K ((pairsN m).map (rP K))) := fun σ G en => ed_cells (h σ G en) hc hn
theorem x_tabRows {m : List Nat} (h : EvX Γ te (rLL K (m.map bitsN))) (w : Wf n m) (h1 : 1 ≤ n) (h6 : n ≤ 6) : EvX Γ (tMake C (spTab K C) [] E (tCons te tNil)) (rTab K C m) := fun σ G en => ed_tabRows (h σ G en) w h1 h6
theorem x_own2 {m m' : List Nat} (ha : EvX Γ ta (rTab K C m)) (hb : EvX Γ tb (rTab K C m')) (hs : ∀ x y G, (rTab K C m).p x G → (rTab K C m').p y G → SpD sp [x, y] G r) : EvX Γ (tOp (rOwn2 C sp E) ta tb) r := fun σ G en => ed_own2 (ha σ G en) (hb σ G en) fun x y G2 _ hx hy => hs x y G2 hx hy
theorem e_take {k : Nat} {b : Addr} (hk : M[k]? = some (boxR K b)) (hv : Γ[i]? = some (some (rV (.ref b)))) (h : EvX Γ te (nI m)) (h0 : 0 < m) (h1 : m < 2 ^ 30) : EX Γ M (tCall (spT K) [] E (tCons (tVar i) (tCons te tNil))) (fun r M' => (∃ d, d < m ∧ r = nI d) ∧ M' = M) := EX.imp (EX.ofB (P := PN m) hk fun σ G en => by
  obtain ⟨v, hv1, hv2⟩ := en.get hv
  obtain rfl : v = V.ref b := hv2
  exact eb_take hv1 (EvD.ev (h σ G en)) h0 h1) fun r M' z => z
end
section
variable {W : WX} {Γ : Ctx} {t : TS} {r : Rp} {rs : List Rp} {G H : Hp} {σ : L2.St} {Q : VK} {K : PySem.W.Frag} {b : Addr}
theorem run_D (w : WP W Γ [] t { nx := fun _ _ => r = rV .non, rt := fun r' _ => r' = r }) (e : Ex G H) (en : En σ G Γ) (k : ∀ v G2 H2, Gr G H G2 H2 → r.p v G2 → Q v H2) : t { nx := fun _ H' => Q .non H', rt := Q } σ H :=
  w _ G H σ _ (Ok.nil e) en ⟨fun σ' G' H' Γ' M' o en' z => k _ G' H' o.to (by rw [z]; rfl), fun v G' H' r' M' o hv z => k v G' H' o.to (by rw [← z]; exact hv), fun _ _ _ _ _ _ _ z => z.elim, fun _ _ _ _ _ _ _ z => z.elim, fun _ _ _ _ _ _ _ _ _ _ _ z => z.elim⟩
theorem run_B {P : Rp → Prop} (w : WP W Γ [boxR K b] t { nx := fun _ _ => False, rt := fun r' M' => P r' ∧ M' = [boxR K b] }) (e : Ex G H) (gb : G b = none) (hb : Box K G H b) (en : En σ G Γ) (k : ∀ r v G2 H2, P r → GrB b G H G2 H2 → Box K G2 H2 b → r.p v G2 → Q v H2) : t { nx := fun _ H' => Q .non H', rt := Q } σ H :=
  w _ G H σ _ (Ok.box e gb hb) en ⟨fun _ _ _ _ _ _ _ z => z.elim, fun v G' H' r' M' o hv z => by
    obtain ⟨p, rfl⟩ := z
    exact k r' v G' H' p o.toB (o.m (boxR K b) List.mem_cons_self) hv, fun _ _ _ _ _ _ _ z => z.elim, fun _ _ _ _ _ _ _ z => z.elim, fun _ _ _ _ _ _ _ _ _ _ _ z => z.elim⟩
theorem run_law {a : Addr} {ns : List Int} {i : Nat} {E : XK} (hS : SqL K H a (ns.map V.int)) (hl : ns.length ≤ 63) (hv : σ[0]? = some (some (.ref a))) (hσ : σ.length = n + 1) (hi : i < n + 1) (k : ∀ H', Q (.bl true) H')
    (w : ∀ b, WP W ((List.replicate (n + 1) none).set i (some (rV (.ref b)))) [boxR K b] t { nx := fun _ _ => False, rt := fun r _ => r = rB true }) : tSeq (tAsg (tCall (spBoxMk K) [] E (tCons (tVar 0) tNil)) (gName i)) t { nx := fun _ H' => Q .non H', rt := Q } σ H := by
  refine sq (s_box hv hS hl fun b G2 H2 e1 e2 hb gb hbox => ?_)
  refine w b _ G2 H2 _ _ (Ok.box e2 gb hbox) ?_ ⟨fun _ _ _ _ _ _ _ z => z.elim, fun v G' H' r' M' o hv z => ?_, fun _ _ _ _ _ _ _ z => z.elim, fun _ _ _ _ _ _ _ z => z.elim, fun _ _ _ _ _ _ _ _ _ _ _ z => z.elim⟩
  · have e0 : ∀ (σ : L2.St) (n : Nat), σ.length = n → En σ G2 (List.replicate n none) := fun σ => by
      induction σ with
      | nil => intro n h; subst h; exact .nil
      | cons a s ih =>
        intro n h
        cases n with
        | zero => cases h
        | succ n => exact .cons (fun x hx => nomatch hx) (ih n (by simpa using h))
    exact En.set (r := rV (.ref b)) rfl i (e0 σ _ hσ)
  · subst z
    obtain rfl : v = V.bl true := hv
    exact k H'
end
end Mu

namespace Mu
open PySem PySem.Spec PyProof.Rows L2 Evl
structure FunS (K : PySem.W.Frag) (x qual : Str) (params : Arguments) (body : List Stmt) (scope : Scope) (file : Str) (D : Addr) (f : Addr) (fd : FuncData) (cda cc : Addr) : Prop where
  fn : ∃ (oc : Value) (od : Option Addr) (kV doc pm : Value) (an : Option Addr) (ct : Value) (osl : Array (Option Value)), fd = PySem.W.ksFn x qual params body scope .none kV doc pm an (.ref cda) ct cc ∧ K.lookup f = some ⟨oc, od, .func fd, osl⟩
  co : PySem.W.codeIn K (.ref cda) qual = true
  cell : ∃ (cl : Value) (cld : Option Addr) (csl : Array (Option Value)), K.lookup cc = some ⟨cl, cld, .cell (some (.ref D)), csl⟩
  code : ∃ (ccl : Value) (cdd : Option Addr) (vs : Array Value) (ccs : Array (Option Value)) (tf : Tok), K.lookup cda = some ⟨ccl, cdd, .fields vs, ccs⟩ ∧ vs[2]? = some (.str file tf)
  cls : (PySem.W.clsIn K D).isSome = true
  kp : PySem.W.keepIn K (.ref f) = true
  op : PySem.W.nsIn K cStatics "thirdparty.any" = some none
structure FsScope (N ps : List Str) (sc : Scope) : Prop where
  kind : sc.kind = .function
  co : sc.isCoroutine = false
  gen : sc.isGenerator = false
  nd : N.Nodup
  pre : N.take ps.length = ps
  par : ∀ x ∈ ps, sc.names.lookup x = some .local
  nocell : ∀ y ∈ sc.names, y.2 ≠ .cell
  free : ∀ y ∈ sc.names, y.2 = .free → y.1 = ("__class__" : Str)
  sup : sc.names.lookup ("super" : Str) = some .globalImplicit
  cls : sc.names.lookup ("__class__" : Str) = some .free
structure PF (P : Program) (file : Str) : Prop where
  file : ((P.main.file : Str) == file) = true
  top : (P.main.scope.names.lookup ("super" : Str)).isSome = false
abbrev cxS (CX : CXT) (P : Program) (w : World) (K : PySem.W.Frag) (mg : Str → Option Value) (base : Heap) (N : List Str) (qual : Str) (scope : Scope) (f cda cc : Addr) (A : Around) (outer : List Env) (s : Shared) (H : Hp) (E : XK) : Cx where
  prog := P
  w := w
  K := K
  mg := mg
  base := base
  A := A.deeper (PySem.W.ksEnv qual scope s.heap.objs.size f (.ref cda) cc)
  N := N
  s_0 := s
  H_0 := H
  env := PySem.W.ksEnv qual scope s.heap.objs.size f (.ref cda) cc
  outer := outer
  stack := PySem.W.ksEnv qual scope s.heap.objs.size f (.ref cda) cc :: outer
  ex := []
  calm := true
  fn := fun _ => false
  pn := []
  xe := fun e s' => wpAny (model P w) (A.deeper (PySem.W.ksEnv qual scope s.heap.objs.size f (.ref cda) cc)) (leaving (PySem.W.ksEnv qual scope s.heap.objs.size f (.ref cda) cc) e) (fun _ s'' => CX outer H s E e s'') (fun e' s'' => CX outer H s E e' s'') s'
theorem lookup_mem {l : List (Str × Value)} (hn : (l.map (·.1)).Nodup) {x : Str} {u : Value} (h : (x, u) ∈ l) : l.lookup x = some u := by
  induction l with
  | nil => cases h
  | cons p l ih =>
    obtain ⟨y, v⟩ := p
    obtain ⟨h1, h2⟩ := List.nodup_cons.mp (show (y :: l.map (·.1)).Nodup from hn)
    rcases List.mem_cons.mp h with q | q
    · cases q
      simp [List.lookup]
    · have ne : x ≠ y := fun e => h1 (List.mem_map.mpr ⟨(x, u), q, e⟩)
      rw [List.lookup_cons, show (x == y) = false by simpa using ne]
      exact ih h2 q
theorem zip_fst : ∀ {ps : List Str} {us : List Value}, ps.length = us.length → (ps.zip us).map (·.1) = ps
  | [], [], _ => rfl
  | _ :: _, [], h => by cases h
  | [], _ :: _, h => by cases h
  | p :: ps, u :: us, h => by
    show p :: (ps.zip us).map (·.1) = p :: ps
    rw [zip_fst (by simpa using h)]
theorem lookup_rev_zip {ps : List Str} {us : List Value} {i : Nat} {x : Str} {u : Value} (hn : ps.Nodup) (hl : ps.length = us.length) (h1 : ps[i]? = some x) (h2 : us[i]? = some u) : (ps.zip us).reverse.lookup x = some u := by
  refine lookup_mem (by rw [List.map_reverse, zip_fst hl]; exact List.pairwise_reverse.mpr (hn.imp fun h => Ne.symm h)) (List.mem_reverse.mpr ?_)
  refine List.mem_of_getElem? (i := i) ?_
  rw [List.getElem?_zip_eq_some]
  exact ⟨h1, h2⟩
theorem inv_startS {CX : CXT} {P : Program} {w : World} {K : PySem.W.Frag} {mg : Str → Option Value} {base : Heap} {N ps : List Str} {x qual : Str} {params : Arguments} {body : List Stmt} {scope : Scope} {file : Str} {D f : Addr} {fd : FuncData} {cda cc : Addr} {A : Around} {outer : List Env} {s : Shared} {h₀ : Heap} {H : Hp} {E : XK} {us : List Value} {vs : List V}
    (F : FunS K x qual params body scope file D f fd cda cc) (S : FsScope N ps scope) (hd : A.handled = none) (e0 : Env0 P w K mg base A outer s H) (hl : vs.length = ps.length) (r : Vals vs us)
    (hns : h₀.Ns s.heap.objs.size (fun y => (ps.zip us).reverse.lookup y)) (keep : ∀ b o, s.heap.get? b = some o → h₀.get? b = some o) (tk : Nat) :
    Inv (cxS CX P w K mg base N qual scope f cda cc A outer s H E) [] (L2.start N vs) H { s with heap := h₀, toks := tk } := by
  have hpl : ps.length ≤ N.length := by have := congrArg List.length S.pre; rw [List.length_take] at this; omega
  obtain ⟨cl, cld, csl, hcell⟩ := F.cell
  have hccb := e0.mod.kin _ _ hcell
  have kfr : ∀ x c, List.lookup x [(("__class__" : Str), cc)] = some c → x = ("__class__" : Str) ∧ c = cc := fun x c h => by
    rw [List.lookup_cons] at h
    cases q : x == ("__class__" : Str) with
    | true => rw [q] at h; exact ⟨by simpa using q, (Option.some.inj h).symm⟩
    | false => rw [q] at h; cases h
  have noA : ∀ b : Addr, b ∉ (cxS CX P w K mg base N qual scope f cda cc A outer s H E).ex := fun b z => absurd (show b ∈ ([] : List Addr) from z) (by simp)
  refine ⟨⟨e0.mod, S.kind, rfl, rfl, Nat.le_refl _, fun y z c h1 h2 => ?_, fun y hy => ?_, fun y c h _ => ?_, fun _ => hd, Around.frames_deeper e0.frames, .inr ⟨rfl, rfl⟩, fun b z => absurd z (noA b), e0.bs, e0.bsz, fun b _ _ => noA b, fun b z => absurd z (noA b), e0.funs, e0.frf⟩,
    rfl, e0.bare, Un.kept keep, ⟨_, hns, fun i y v h1 h2 h3 => ?_⟩, fun y c h => ?_, e0.hok.fresh (Nat.le_refl _), fun y c h => ?_, fun p hp => absurd (show p ∈ ([] : List (Addr × Obj)) from hp) (by simp), e0.hok.kept keep, ?_⟩
  · exact (kfr y c h1).1.trans (kfr z c h2).1.symm
  · have hy : scope.names.lookup y = some .cell ∨ scope.names.lookup y = some .free := hy
    rcases hy with hy | hy
    · exact absurd rfl (S.nocell _ (PySem.mem_of_lookup hy))
    · have e := S.free _ (PySem.mem_of_lookup hy) rfl
      have e' : y = ("__class__" : Str) := e
      subst e'
      exact ⟨cc, by show List.lookup _ [(("__class__" : Str), cc)] = _; simp [List.lookup]⟩
  · exact Bool.noConfusion h
  · have hi : i < vs.length := by
      unfold L2.start at h2
      by_cases hi : i < vs.length
      · exact hi
      · rw [List.getElem?_append_right (by simpa using hi)] at h2
        rw [List.getElem?_replicate] at h2
        split at h2 <;> cases h2
    have ha : vs[i]? = some v := by
      unfold L2.start at h2
      rw [List.getElem?_append_left (by simpa using hi), List.getElem?_map] at h2
      cases e : vs[i]? with
      | none => rw [e] at h2; cases h2
      | some a => rw [e] at h2; cases h2; rfl
    obtain ⟨u, hu, rv⟩ := r.get ha
    have hp : ps[i]? = some y := by
      rw [← S.pre, List.getElem?_take_of_lt (by omega)]; exact h1
    have ndP : ps.Nodup := by rw [← S.pre]; exact S.nd.sublist (List.take_sublist _ _)
    exact ⟨u, rv, .inl ⟨S.par y (List.mem_of_getElem? hp), lookup_rev_zip ndP (by rw [← hl, r.length]) hp hu⟩⟩
  · obtain ⟨_, rfl⟩ := kfr y c h
    exact ⟨_, _, keep _ _ ((e0.bs _ _ hccb).1), rfl⟩
  · obtain ⟨_, rfl⟩ := kfr y c h
    exact (e0.bs _ _ hccb).2
  · unfold L2.start
    show _ = N.length
    rw [List.length_append, List.length_map, List.length_replicate]
    omega
structure PSA (X : Cx) (fb st : List Stmt) (t : TS) : Prop where
  run : ∀ (pins : List (Addr × Obj)) (s : Shared) (σ : L2.St) (H : Hp) (D : Ends), Inv X pins σ H s → t D σ H → _root_.PySem.wpAt (model X.prog X.w) X.A (.func fb X.env) (execs st X.env) (SP X pins D) X.xe s
section
variable {X : Cx} {fb rest : List Stmt} {e : Expr} {te : TE} {u : TS} {pos : Pos}
end
theorem FunS.ok {P : Program} {w : World} {K : PySem.W.Frag} {mg : Str → Option Value} {base : Heap} {x qual : Str} {params : Arguments} {body : List Stmt} {scope : Scope} {file : Str} {D f : Addr} {fd : FuncData} {cda cc : Addr} {CX : CXT} {N ps : List Str} {k : Nat} {sp : Sp}
    (F : FunS K x qual params body scope file D f fd cda cc) (S : FsScope N ps scope) (len : ∀ vs H Q E, sp vs H Q E → vs.length = ps.length)
    (hbody : ∀ (A : Around) (outer : List Env) (s : Shared) (H : Hp) (vs : List V) (Q : VK) (E : XK), Room k (A.deeper (PySem.W.ksEnv qual scope s.heap.objs.size f (.ref cda) cc)) → sp vs H Q E →
      ∃ t, PSA (cxS CX P w K mg base N qual scope f cda cc A outer s H E) body body t ∧ t { nx := fun _ H' => Q .non H', rt := Q } (L2.start N vs) H) : FnOk P w K mg base CX (k + 1) f fd ps sp := by
  obtain ⟨oc, od, kV, doc, pm, an, ct, osl, rfl, lk⟩ := F.fn
  refine ⟨len, fun A outer s H args us vs Q E hr e0 hb r hsp => ?_⟩
  have hl := len _ _ _ _ hsp
  have KX : K.In s.heap := e0.mod.kin.keeps fun b o e => (e0.bs b o e).1
  have lim : s.heap.NoLimit := e0.mod.nolimit.keeps fun b o e => (e0.bs b o e).1
  refine ks_codeAny_call_defAt (fd := PySem.W.ksFn x qual params body scope .none kV doc pm an (.ref cda) ct cc) (body := body) (binds := ps.zip us) hr.depth (KX _ _ lk) rfl lim (PySem.W.codeRec_of KX F.co) rfl hb S.nocell (fun y hy => S.par y.1 (List.of_mem_zip hy).1) (fun h₀ hns keep => ?_) S.co S.gen S.kind
  obtain ⟨t, ht, hq⟩ := hbody A outer s H vs Q E (hr.deeper _) hsp
  have I := inv_startS (CX := CX) (E := E) F S hr.hd e0 hl r hns keep (s.toks + (ps.zip us).length)
  refine _root_.PySem.wpAt_mono (ht.run [] _ (L2.start N vs) H _ I hq) (fun fl s' hs => ?_) fun e s' hs => hs
  have fin : ∀ {σ' : L2.St} {H' : Hp} {v : V} {u : Value}, Inv (cxS CX P w K mg base N qual scope f cda cc A outer s H E) [] σ' H' s' → RelV v u → Q v H' → CE outer P w H s Q u s' :=
    fun {σ' H' v u} J rv q => ⟨v, H', J.os, J.bare, J.base, J.hok, rv, q⟩
  cases fl with
  | ret u =>
    obtain ⟨v, σ', H', J, rv, q⟩ := hs
    exact fin J rv q
  | next =>
    obtain ⟨σ', H', J, q⟩ := hs
    exact fin (v := V.non) (u := Value.none) J rfl q
  | brk =>
    obtain ⟨_, _, _, q⟩ := hs
    exact False.elim q
  | cont =>
    obtain ⟨_, _, _, q⟩ := hs
    exact False.elim q
section
variable {CX : CXT} {P : Program} {w : World} {K : PySem.W.Frag} {mg : Str → Option Value} {base : Heap} {N ps : List Str} {x qual : Str} {params : Arguments} {body : List Stmt} {scope : Scope} {file : Str} {D f : Addr} {fd : FuncData} {cda cc : Addr} {A : Around} {outer : List Env} {s0 : Shared} {H0 : Hp} {E0 : XK}
  {pins : List (Addr × Obj)} {σ : L2.St} {H : Hp} {s : Shared} {fb : List Stmt} {E : Value → Shared → Prop}
end
end Mu

namespace Mu
open PySem PySem.Spec PyProof.Rows L2 He
theorem cellB_ok {K : PySem.W.Frag} {cc D : Addr} (h : cellB K cc D = true) : ∃ (cl : Value) (cld : Option Addr) (csl : Array (Option Value)), K.lookup cc = some ⟨cl, cld, .cell (some (.ref D)), csl⟩ := by
  unfold cellB at h
  split at h
  · rename_i a b d sl e
    have z : d = D := by simpa using h
    subst z
    exact ⟨_, _, _, e⟩
  · cases h
theorem fileB_ok {K : PySem.W.Frag} {cda : Addr} {file : Str} (h : fileB K cda file = true) : ∃ (ccl : Value) (cdd : Option Addr) (vs : Array Value) (ccs : Array (Option Value)) (tf : Tok), K.lookup cda = some ⟨ccl, cdd, .fields vs, ccs⟩ ∧ vs[2]? = some (.str file tf) := by
  unfold fileB at h
  split at h
  · rename_i a b vs sl e
    split at h
    · rename_i x t e2
      have z : x = file := by simpa using h
      subst z
      exact ⟨_, _, _, _, _, e, e2⟩
    · cases h
  · cases h
theorem DefS.funS {K : PySem.W.Frag} {d : DefS} (e : fnS K d.at_ = d.val) (c : d.ok K = true) : ∃ fd cda cc, FunS K d.name d.qual d.params d.body d.scope d.file (ga K d.cls) (fAd K d.at_) fd cda cc := by
  obtain ⟨kp, c1⟩ := ba c
  obtain ⟨cl, c1⟩ := ba c1
  obtain ⟨op, c2⟩ := ba c1
  unfold fnS at e
  cases q : K.lookup (fAd K d.at_) with
  | none =>
    rw [q] at c2
    cases c2
  | some o =>
    obtain ⟨oc, od, dt, osl⟩ := o
    rw [q] at c2 e
    cases dt with
    | func fd =>
      obtain ⟨n1, n2, n3, n4, n5, n6, n7, n8, n9, n10, n11, n12, n13, n14, n15⟩ := fd
      have e2 : (some (n1, n2, n3, n4, n5, n6, n7.map (fun z => z.1), n15) : FnS) = some (d.name, d.qual, d.params, FuncBody.stmts d.body, d.scope, mainGlobals, [("__class__" : Str)], builtinsNs) := e
      simp only [Option.some.injEq, Prod.mk.injEq] at e2
      obtain ⟨h1, h2, h3, h4, h5, h6, h7, h8⟩ := e2
      have c4 : (decide (n8 = Value.none) && supB K d.qual (ga K d.cls) d.file n7 n13) = true := c2
      obtain ⟨k8, c3⟩ := ba c4
      have e8 := of_decide_eq_true k8
      subst e8
      unfold supB at c3
      split at c3
      · rename_i y cc cda
        obtain ⟨k1, k2⟩ := ba c3
        obtain ⟨k3, k4⟩ := ba k2
        have hy : y = ("__class__" : Str) := by simpa using h7
        subst h1 h2 h3 h4 h5 h6 h8 hy
        exact ⟨_, cda, cc, ⟨oc, od, n9, n10, n11, n12, n14, osl, rfl, q⟩, k1, cellB_ok k3, fileB_ok k4, cl, kp, of_decide_eq_true op⟩
      · cases c3
    | _ => cases c2
section
variable {fa : List Fa} {ex : List FactB} {fn : List DefD} {sn : List DefS} {K : PySem.W.Frag}
theorem SaysS.all (c : SaysS fa ex fn sn K) : ((((fa.all fun f => f.ok K) && ex.all fun f => f K) && fn.all fun d => d.ok K) && sn.all fun d => d.ok K) = true := congrArg (fun z : AlS => z.1) c
theorem SaysS.fact (c : SaysS fa ex fn sn K) (i : Nat) {f : Fa} (h : fa[i]? = some f := by rfl) : f.ok K = true := List.all_eq_true.mp (ba (ba (ba c.all).1).1).1 f (List.mem_of_getElem? h)
theorem SaysS.exf (c : SaysS fa ex fn sn K) (i : Nat) {f : FactB} (h : ex[i]? = some f := by rfl) : f K = true := List.all_eq_true.mp (ba (ba (ba c.all).1).1).2 f (List.mem_of_getElem? h)
theorem SaysS.def_ (c : SaysS fa ex fn sn K) (i : Nat) {d : DefD} (h : fn[i]? = some d := by rfl) : ∃ fd, FunD K d.name d.qual d.params d.body d.scope (d.dvs K) (d.kws K) (fAd K d.at_) fd := by
  have c2 := (ba (ba c.all).1).2
  have e : fn.map (fun d => fnW K d.at_) = fn.map DefD.val := congrArg (fun z : AlS => z.2.1) c
  have e2 : (fn.map fun d => fnW K d.at_)[i]? = (fn.map DefD.val)[i]? := by rw [e]
  rw [List.getElem?_map, List.getElem?_map, h] at e2
  exact DefD.funD (Option.some.inj e2) (List.all_eq_true.mp c2 d (List.mem_of_getElem? h))
theorem SaysS.sup_ (c : SaysS fa ex fn sn K) (i : Nat) {d : DefS} (h : sn[i]? = some d := by rfl) : ∃ fd cda cc, FunS K d.name d.qual d.params d.body d.scope d.file (ga K d.cls) (fAd K d.at_) fd cda cc := by
  have c2 := (ba c.all).2
  have e : sn.map (fun d => fnS K d.at_) = sn.map DefS.val := congrArg (fun z : AlS => z.2.2) c
  have e2 : (sn.map fun d => fnS K d.at_)[i]? = (sn.map DefS.val)[i]? := by rw [e]
  rw [List.getElem?_map, List.getElem?_map, h] at e2
  exact DefS.funS (Option.some.inj e2) (List.all_eq_true.mp c2 d (List.mem_of_getElem? h))
end
end Mu

namespace Mu
open PySem PySem.Spec PyProof.Rows L2 Evl
section
variable {prog : Program} {w : World} {A : Around} {E : Value → Shared → Prop} {s : Shared}
end
section
variable {X : Cx}
end
end Mu

namespace Mu
open PySem PySem.Spec PyProof.Rows L2 Evl
theorem oexB_ok {K : PySem.W.Frag} {C : Addr} (h : oexB K C = true) : OexC K C := by
  obtain ⟨h0, h⟩ := He.ba h
  obtain ⟨h1, h⟩ := He.ba h
  obtain ⟨h2, h⟩ := He.ba h
  obtain ⟨h3, h4⟩ := He.ba h
  refine ⟨?_, He.eqO_ok h1, of_decide_eq_true h2, of_decide_eq_true h3, h4⟩
  split at h0
  · rename_i od cd sl e
    split at h0
    · rename_i C' bm k0 k1 k2 k3 n k5 em es
      obtain ⟨a1, h0⟩ := He.ba h0
      obtain ⟨a2, h0⟩ := He.ba h0
      obtain ⟨a3, h0⟩ := He.ba h0
      obtain ⟨a4, a5⟩ := He.ba h0
      have e1 : C' = C := by simpa using a1
      have e2 : n = "ValueError.__new__" := by simpa using a2
      subst e1 e2
      obtain ⟨nm, bs, mro, ns, qn, hd, sn, sb, ab, col, del⟩ := cd
      have e3 : mro = .ref C' :: bm := em
      have e4 : del = false := by simpa using a3
      have e5 : hd = true := a4
      subst e3 e4 e5
      have e6 : sl = #[k0, k1, k2, k3, some (.builtin "ValueError.__new__"), k5] := by
        apply Array.ext'
        rw [es]
      subst e6
      exact ⟨nm, qn, ns, bs, bm, sn, sb, ab, col, od, k0, k1, k2, k3, k5, e, a5⟩
    · cases h0
  · cases h0
structure ErrC (K : PySem.W.Frag) (C fI : Addr) : Prop where
  oex : OexC K C
  iC : PySem.W.findIn K (.ref C) "__init__" = some (some (.ref fI))
  tI : PySem.W.typeIn K (.ref fI) = some (.type "function")
  me : PySem.W.mroIn K C (.ref C) = some true
  sup : PySem.W.ks_superIn K C C "__init__" = some (some (.builtin "ValueError.__init__"))
  ve : PySem.W.subIn K (.ref C) (.type "ValueError") = some true
  xf : XfC K C
  is : ExcC K C
theorem errB_ok {K : PySem.W.Frag} {C fI : Addr} (h : errB K C fI = true) : ErrC K C fI := by
  obtain ⟨h0, h⟩ := He.ba h
  obtain ⟨h1, h⟩ := He.ba h
  obtain ⟨h2, h⟩ := He.ba h
  obtain ⟨h3, h⟩ := He.ba h
  obtain ⟨h4, h⟩ := He.ba h
  obtain ⟨h5, h⟩ := He.ba h
  obtain ⟨h6, h⟩ := He.ba h
  obtain ⟨h7, h⟩ := He.ba h
  obtain ⟨h8, h⟩ := He.ba h
  obtain ⟨h9, h10⟩ := He.ba h
  have x := xfB_ok h6
  exact ⟨oexB_ok h0, He.eqO_ok h1, of_decide_eq_true h2, of_decide_eq_true h3, He.eqO_ok h4, of_decide_eq_true h5, x, ⟨x.ga, x.gg, x.exC, x.hdC, He.eqO_ok h7, He.eqO_ok h8, of_decide_eq_true h9, of_decide_eq_true h10⟩⟩
section
variable {X : Cx} {CX : CXT} {k : Nat} {f : Addr} {fd : FuncData} {ps : List Str} {sp : Addr × Obj → Sp} {E : L2.St → XK} {x : Str} {q pos : Pos} {e : Expr} {es : List Expr} {t : TA} {p : Addr × Obj}
end
section
variable {Γ : Ctx} {M : List Re} {te : TE} {K : PySem.W.Frag} {a C D : Addr} {fs : List (Str × V)} {d : Option Addr} {v c : V} {cv : Value} {b : Bool} {f : Str}
end
abbrev Out := Rp ⊕ (Value × List (Str × V))
def spO (R : List V → Hp → Out → Prop) : Sp := fun vs H Q E => ∃ G o, Ex G H ∧ R vs G o ∧ (∀ r, o = .inl r → ∀ v G2 H2, Gr G H G2 H2 → r.p v G2 → Q v H2) ∧ (∀ cls fs, o = .inr (cls, fs) → ∀ d G2 H2, Gr G H G2 H2 → XdOk G2 fs d → E cls d H2)
section
variable {W : WX} {Γ : Ctx} {M : List Re} {te : TE} {ta : TA} {o : Out} {rs : List Rp} {κ : Kn} {i : Nat} {R : List V → Hp → Out → Prop} {K : PySem.W.Frag}
end
theorem SpD.ofO {R : List V → Hp → Out → Prop} {vs : List V} {G : Hp} {r : Rp} (h : R vs G (.inl r)) : SpD (spO R) vs G r := fun H e Q q E => ⟨G, .inl r, e, h, fun r' e' => by cases e'; exact q, fun _ _ z => nomatch z⟩
end Mu

namespace Mu
open PySem PySem.Spec PyProof.Rows L2 Evl
def EXD {α : Type} (Γ : Ctx) (M : List Re) (te : TE) (D : α → Prop) (f : α → Rp) : Prop := EX Γ M te (fun r M' => (∃ a, D a ∧ r = f a) ∧ M' = M)
def EXTD {α : Type} (Γ : Ctx) (M : List Re) (t : TT) (D : α → Prop) (c : α → Bool) : Prop := EXT Γ M t (fun b M' => (∃ a, D a ∧ b = c a) ∧ M' = M)
section
variable {α : Type} {D : α → Prop} {W : WX} {Γ : Ctx} {M : List Re} {te ta tb tl : TE} {t u : TT} {r r1 : Rp} {rs : List Rp} {K : PySem.W.Frag} {C b : Addr} {i j k m n : Nat} {x : V} {E : XK} {κ : Kn} {tu tw : TS}
theorem d_take (hk : M[k]? = some (boxR K b)) (hv : Γ[i]? = some (some (rV (.ref b)))) (h : EvX Γ te (nI m)) (h0 : 0 < m) (h1 : m < 2 ^ 30) : EXD Γ M (tCall (spT K) [] E (tCons (tVar i) (tCons te tNil))) (fun d : Nat => d < m) nI := e_take hk hv h h0 h1
theorem d_opR {rr : R2} {y f : α → V} (ha : EvX Γ ta (rV x)) (hb : EXD Γ M tb D (fun a => rV (y a))) (hs : ∀ a, D a → ∀ H (Q : VK), Q (f a) H → rr x (y a) H Q) : EXD Γ M (tOp rr ta tb) D (fun a => rV (f a)) := fun B G H σ o en Q q =>
  ha σ G en H o.i _ fun v G2 H2 g hv => by
    obtain rfl : v = x := hv
    exact hb B G2 H2 σ (o.gr g) (en.mono g.g) _ fun w G3 H3 r M' z o3 e3 hw => by
      obtain ⟨⟨a, ha, rfl⟩, rfl⟩ := z
      obtain rfl : w = y a := hw
      exact hs a ha H3 Q (q _ G3 H3 _ _ ⟨⟨a, ha, rfl⟩, rfl⟩ o3 (g.g.trans e3) rfl)
theorem d_opL {rr : R2} {y f : α → V} {x' : V} (ha : EXD Γ M ta D (fun a => rV (y a))) (hb : EvX Γ tb (rV x')) (hs : ∀ a, D a → ∀ H (Q : VK), Q (f a) H → rr (y a) x' H Q) : EXD Γ M (tOp rr ta tb) D (fun a => rV (f a)) := fun B G H σ o en Q q =>
  ha B G H σ o en _ fun w G3 H3 r M' z o3 e3 hw => by
    obtain ⟨⟨a, hd, rfl⟩, rfl⟩ := z
    obtain rfl : w = y a := hw
    exact hb σ G3 (en.mono e3) H3 o3.i _ fun v G4 H4 g hv => by
      obtain rfl : v = x' := hv
      exact hs a hd H4 Q (q _ G4 H4 _ _ ⟨⟨a, hd, rfl⟩, rfl⟩ (o3.gr g) (e3.trans g.g) rfl)
theorem d_T {c : α → Bool} (h : EXD Γ M te D (fun a => rB (c a))) : EXTD Γ M (tTest te) D c := fun B G H σ o en Q q =>
  h B G H σ o en _ fun w G3 H3 r M' z o3 e3 hw => by
    obtain ⟨⟨a, ha, rfl⟩, rfl⟩ := z
    exact ⟨c a, hw, q _ G3 H3 _ ⟨⟨a, ha, rfl⟩, rfl⟩ o3 e3⟩
theorem w_retD {f : α → Rp} (h : EXD Γ M te D f) (hn : ∀ a, D a → κ.rt (f a) M) : WP W Γ M (tRet te) κ := w_retE h fun r M' z => by
  obtain ⟨⟨a, ha, rfl⟩, rfl⟩ := z
  exact hn a ha
theorem w_ifD {c : α → Bool} (h : EXTD Γ M t D c) (h1 : ∀ a, D a → c a = true → WP W Γ M tu κ) (h2 : ∀ a, D a → c a = false → WP W Γ M tw κ) : WP W Γ M (tIfS t tu tw) κ := w_ifE h (fun M' z => by
  obtain ⟨⟨a, ha, e⟩, rfl⟩ := z
  exact h1 a ha e.symm) (fun M' z => by
  obtain ⟨⟨a, ha, e⟩, rfl⟩ := z
  exact h2 a ha e.symm)
end
end Mu

namespace Mu
open PySem PySem.Spec PyProof.Rows L2 Evl
def rInTD (K : PySem.W.Frag) : R2 := fun x y H Q => ∃ d ds, Dp K H x d ∧ Dp K H y (.tuple ds) ∧ SeqAt.shaped d = true ∧ SeqAt.shaped (.tuple ds) = true ∧ Q (.bl (ds.any fun z => PyData.eqv z d)) H
theorem op_inTD {X : Cx} (hu : X.A.units + 65 < cLine) : OpR X (compareOp .In) (rInTD X.K) := by
  intro pins s σ H x y v u Q I rx ry h
  obtain ⟨d, ds, hd, he, sd, se, q⟩ := h
  obtain ⟨as, r1⟩ := Dp.reads I d x v hd rx
  obtain ⟨bs, r2⟩ := Dp.reads I (.tuple ds) y u he ry
  exact SeqAt.in_tuple_reads r2 r1 (SeqAt.canLay_of_shaped se) (SeqAt.canLay_of_shaped sd) (room_in_shaped sd hu) ⟨.bl _, H, I, rfl, q⟩
theorem op_inTDK {X : Cx} (K : PySem.W.Frag) (hu : X.A.units + 65 < cLine) (hK : X.K = K := by rfl) : OpR X (compareOp .In) (rInTD K) := hK ▸ op_inTD hu
section
variable {Γ : Ctx} {M : List Re} {te ta tb tc tl : TE} {r r1 r2 : Rp} {rs : List Rp} {K : PySem.W.Frag} {C b : Addr} {i j k m n : Nat} {v w x y : V} {E : XK} {sp : Sp} {α : Type} {D : α → Prop}
theorem x_inTP {p : Nat × Nat} {l : List (Nat × Nat)} (ha : EvX Γ ta (rP K p)) (hb : EvX Γ tb (rT K (l.map (rP K)))) : EvX Γ (tOp (rInTD K) ta tb) (rB (decide (p ∈ l))) := fun σ G en =>
  Ev.d (ev_op2 (ha σ G en) (hb σ G en) fun x y H hx hy Q q => ⟨dP p, l.map dP, asd_p p x H hx, asd_tup asd_p l y H hy, (sh_p p).ok (by decide), (sh_tup sh_p l).ok (by decide), by rw [any_p]; exact q⟩)
theorem x_inOwn {m : List Nat} {c : Bool} (ha : EvX Γ ta r) (hb : EvX Γ tb (rTab K C m)) (hs : ∀ x y G, r.p x G → (rTab K C m).p y G → SpD sp [y, x] G (rB c)) : EvX Γ (tOp (rOwnIn C false sp E) ta tb) (rB c) := fun σ G en =>
  ed_op (ha σ G en) (hb σ G en) fun x y G2 H e1 e2 hx hy Q q => by
    obtain ⟨a, dx, t, c', rfl, h2, _⟩ := id hy
    refine ⟨a, dx, _, rfl, e2 _ _ h2, hs _ _ G2 hx hy H e2 _ (fun v G3 H3 g hv => ?_) E⟩
    obtain rfl : v = V.bl c := hv
    exact ⟨c, rfl, q (.bl c) G3 H3 g rfl⟩
theorem o_no {σ : L2.St} {G : Hp} : EvO tNoPart σ G none := fun H e Q q => q H (Ex.refl _)
theorem EvX.s (h : EvX Γ te (rL K rs)) : EvX Γ te (rLs K rs) := fun σ G en H e Q q => h σ G en H e Q fun v G2 H2 g hv => q v G2 H2 g (by
  obtain ⟨a, vs, rfl, h1, h2⟩ := hv
  exact ⟨a, vs, rfl, sq_of h1, h2⟩)
end
section
variable {Γ : Ctx} {te ta tb : TE} {r r1 : Rp} {K : PySem.W.Frag} {n : Nat} {a : Int}
theorem x_neg (h : EvX Γ te (rI a)) : EvX Γ (tUn (rU fun i => .int (-i)) te) (rI (-a)) := fun σ G en H e Q q => h σ G en H e _ fun v G2 H2 g hv => by
  obtain rfl : v = V.int a := hv
  exact ⟨a, rfl, q _ G2 H2 g rfl⟩
end
end Mu

namespace Mu
open PySem PySem.Spec PyProof.Rows L2 Evl
section
variable {X : Cx} {CX : CXT} {k : Nat} {f C : Addr} {fd : FuncData} {ps : List Str} {sp : Sp} {E : L2.St → XK} {a b : Expr} {ta tb : TE} {pos : Pos}
end
section
variable {W : WX} {Γ : Ctx} {M : List Re} {ta tb : TE} {t1 t2 : TS} {o : Out} {κ : Kn} {R : List V → Hp → Out → Prop} {K : PySem.W.Frag} {C : Addr} {m m' : List Nat}
theorem w_cut {α : Type} (P : α → Prop) (Γf : α → Ctx) (h : WP W Γ M t1 { κ with nx := fun Γ' M' => ∃ a, P a ∧ Sub Γ' (Γf a) ∧ M' = M }) (hn : ∀ a, P a → WP W (Γf a) M t2 κ) : WP W Γ M (tSeq t1 t2) κ :=
  w_seq (w_imp h (fun Γ' M' ⟨a, pa, s, e⟩ => by subst e; exact w_sub s (hn a pa)) (fun _ _ z => z) (fun _ _ z => z) (fun _ _ z => z) (fun _ _ _ _ z => z))
end
end Mu

namespace Mu
open PySem PySem.Spec PyProof.Rows L2 Evl
section
variable {B : Ba} {G H G2 H2 : Hp} {M : List Re} {R : Re}
theorem Ok.add2 (o : Ok B G H M) (o2 : Ok B G2 H2 M) (hd : R.ft.Nodup) (hn : ∀ a ∈ R.ft, H a = none ∧ G2 a = none) (m : R.p G2 H2) : Ok B G2 H2 (M ++ [R]) := by
  refine ⟨o2.g, o2.l, o2.h, o2.i, o2.n, o2.k, fun r hr => ?_, fun a ha => ?_, ?_, fun r hr a ha => ?_⟩
  · rcases List.mem_append.mp hr with q | q
    · exact o2.m r q
    · rw [List.mem_singleton.mp q]; exact m
  · rw [feet_snoc] at ha
    rcases List.mem_append.mp ha with q | q
    · exact o2.z a q
    · exact (hn a q).2
  · rw [feet_snoc]
    refine List.nodup_append.mpr ⟨o.d, hd, fun a ha b hb e => ?_⟩
    subst e
    obtain ⟨r, hr, hf⟩ := List.mem_flatMap.mp ha
    obtain ⟨u, z, t⟩ := r.at_ (o.m r hr) a hf
    rw [(hn a hb).1] at z; cases z
  · rcases List.mem_append.mp hr with q | q
    · exact o.f r q a ha
    · rw [List.mem_singleton.mp q] at ha
      refine .inl ?_
      cases z : B.H0 a with
      | none => rfl
      | some u =>
        by_cases c : a ∈ B.F
        · obtain ⟨u2, z2, t2⟩ := o.k a c
          rw [(hn a ha).1] at z2; cases z2
        · have := o.h a u z c
          rw [(hn a ha).1] at this; cases this
end
section
variable {α : Type} {D : α → Prop} {W : WX} {Γ : Ctx} {M : List Re} {te ta tb tl : TE} {rs : List Rp} {K : PySem.W.Frag} {b : Addr} {i j k m n : Nat} {E : XK} {κ : Kn} {p : Addr}
theorem w_setNI {l : List Nat} (k : Nat) (hk : M[k]? = some (lstR p rs)) (hi : Γ[i]? = some (some (rV (.ref p)))) (h : EvNX (Γ.set i (some (rL K rs))) te (l.map nI)) (hb : EvX Γ tb (nI j)) (hj : j < rs.length) (hn : κ.nx Γ (M.set k (lstR p (rs.set j (rLn K l))))) : WP W Γ M (tAsg te (gSub (tVar i) tb rSetL)) κ := fun B G H σ D o en d => by
  have hm := List.mem_of_getElem? hk
  obtain ⟨ws, h1, h2⟩ := o.m _ hm
  have gp : G p = none := o.z p (mem_feet hm (List.mem_singleton.mpr rfl))
  have e : Ex G (upd G p (.lst ws)) := Ex.new gp
  obtain ⟨v, hv1, hv2⟩ := en.get hi
  obtain rfl : v = V.ref p := hv2
  have z := En.set (r := rL K rs) (v := .ref p) ⟨p, ws, rfl, upd_same, h2.mono e⟩ i (en.mono e)
  have es : σ.set i (some (.ref p)) = σ := by
    apply List.ext_getElem?
    intro j
    by_cases c : i = j
    · subst c
      rw [List.getElem?_set_self', hv1]; rfl
    · rw [List.getElem?_set_ne c]
  rw [es] at z
  refine s_setNI (K := K) o.i h1 gp h2 (h σ _ z) (ev_var hv1) (EvD.ev (hb σ G en)) hj fun ws' G3 H3 e3 hh i3 n3 gp3 hp3 ra3 => ?_
  exact d.nx σ G3 H3 _ _ (o.chg hk (R' := lstR p (rs.set j (rLn K l))) rfl rfl e3 (fun a u z n => hh a u z (fun q => n (List.mem_singleton.mpr q))) i3 n3 ⟨ws', hp3, ra3⟩) (en.mono e3) hn
theorem w_cutM {t1 t2 : TS} (P : α → Prop) (Γf : α → Ctx) (Mf : α → List Re) (h : WP W Γ M t1 { κ with nx := fun Γ' M' => ∃ a, P a ∧ Sub Γ' (Γf a) ∧ M' = Mf a }) (hn : ∀ a, P a → WP W (Γf a) (Mf a) t2 κ) : WP W Γ M (tSeq t1 t2) κ :=
  w_seq (w_imp h (fun Γ' M' ⟨a, pa, s, e⟩ => by subst e; exact w_sub s (hn a pa)) (fun _ _ z => z) (fun _ _ z => z) (fun _ _ z => z) (fun _ _ _ _ z => z))
end
end Mu

namespace Mu
open PySem PySem.Spec PyProof.Rows L2 Evl
section
variable {α β : Type} {K : PySem.W.Frag} {σ : L2.St} {G H : Hp} {te tl : TE} {t : TT} {D : Ends} {tu : TS} {vs : List Nat} {j1 j2 : Nat}
end
section
variable {W : WX} {Γ : Ctx} {M : List Re} {te tl : TE} {t : TT} {tu : TS} {κ : Kn} {K : PySem.W.Frag} {α β : Type} {j1 j2 j3 : Nat} {r1 r2 r3 : Rp}
end
end Mu

namespace Mu
open PySem PySem.Spec PyProof.Rows L2 Evl
section
variable {α : Type} {D : α → Prop} {W : WX} {Γ : Ctx} {M : List Re} {te ta tb tl : TE} {K : PySem.W.Frag} {b : Addr} {i j k m n : Nat} {κ : Kn} {vs : List Nat} {f : α → Rp}
end
end Mu

namespace Mu
open PySem PySem.Spec PyProof.Rows L2 Evl
section
variable {α : Type} {D : α → Prop} {W : WX} {Γ : Ctx} {M : List Re} {te ta tb tc tl : TE} {rs : List Rp} {K : PySem.W.Frag} {b p : Addr} {i j k m n : Nat} {κ : Kn} {a c : Int}
theorem ints_flatI (l : List Int) : (l.map V.int).all flatV = true := by
  rw [List.all_map]
  exact List.all_eq_true.mpr fun _ _ => rfl
theorem inV_int (w : Int) (l : List Int) : inV (.int w) (l.map V.int) = decide (w ∈ l) := by
  unfold inV
  rw [List.any_map, Bool.eq_iff_iff, List.any_eq_true, decide_eq_true_iff]
  constructor
  · rintro ⟨x, hx, h⟩
    have : x = w := by
      have h2 : eqV (.int x) (.int w) = true := h
      simpa [eqV] using h2
    rw [← this]; exact hx
  · intro h
    exact ⟨w, h, by simp [eqV]⟩
theorem x_inLi {l : List Int} (neg : Bool) (ha : EvX Γ ta (rI a)) (hb : EvX Γ tb (rL K (l.map rI))) : EvX Γ (tOp (rIn K neg) ta tb) (rB (if neg then !decide (a ∈ l) else decide (a ∈ l))) := fun σ G en =>
  Ev.d (ev_op2 (ha σ G en) (hb σ G en) fun x y H hx hy Q q => by
    obtain rfl : x = V.int a := hx
    obtain ⟨p, vs, rfl, h1, h2⟩ := hy
    have e := ra_ints_eq h2
    subst e
    exact ⟨p, _, rfl, .inl (sq_of h1), rfl, ints_flatI l, by rw [inV_int]; exact q⟩)
theorem t_chain {p p' : Int → Int → Bool} {a b c : Int} (ha : EvX Γ ta (rI a)) (hb : EvX Γ tb (rI b)) (hc : EvX Γ tc (rI c)) : EvTX Γ (tTest (tChain (rI0 fun i j => .bl (p i j)) (rI0 fun i j => .bl (p' i j)) ta tb tc)) (p a b && p' b c) := fun σ G en H e Q q =>
  ha σ G en H e _ fun x G2 H2 g2 hx => hb σ G2 (en.mono g2.g) H2 g2.i _ fun y G3 H3 g3 hy => by
    obtain rfl : x = V.int a := hx
    obtain rfl : y = V.int b := hy
    refine ⟨a, b, rfl, rfl, p a b, rfl, ?_⟩
    cases z : p a b with
    | false =>
      rw [if_neg (by decide)]
      refine ⟨false, rfl, ?_⟩
      have := q H3 (g2.h.trans g3.h)
      rwa [z] at this
    | true =>
      rw [if_pos rfl]
      refine hc σ G3 (en.mono (g2.g.trans g3.g)) H3 g3.i _ fun w G4 H4 g4 hw => ?_
      obtain rfl : w = V.int c := hw
      refine ⟨b, c, rfl, rfl, p' b c, rfl, ?_⟩
      have := q H4 ((g2.h.trans g3.h).trans g4.h)
      rwa [z, Bool.true_and] at this
end
section
variable {α : Type} {D : α → Prop} {W : WX} {Γ : Ctx} {M : List Re} {t : TS} {tt u : TT} {te : TE} {G H : Hp} {σ : L2.St} {Q : VK} {K : PySem.W.Frag} {b : Addr} {i k m : Nat} {E : XK}
end
end Mu

namespace Mu
open PySem PySem.Spec PyProof.Rows L2 Evl
abbrev KV := Rp → List Re → Prop
abbrev KX := Value → List (Str × V) → List Re → Prop
def Go (B : Ba) (G : Hp) (κ : KV) (Q : VK) : Prop := ∀ v G' H' r M', κ r M' → Ok B G' H' M' → Ex G G' → r.p v G' → Q v H'
def GoX (B : Ba) (G : Hp) (ε : KX) (W : WX) (σ : L2.St) : Prop := ∀ cls fs d G' H' M', ε cls fs M' → Ok B G' H' M' → Ex G G' → XdOk G' fs d → W cls d σ H'
def EW (W : WX) (Γ : Ctx) (M : List Re) (te : TE) (κ : KV) (ε : KX) : Prop := ∀ B G H σ, Ok B G H M → En σ G Γ → ∀ Q : VK, Go B G κ Q → GoX B G ε W σ → te σ H Q
def EA (W : WX) (Γ : Ctx) (M : List Re) (ta : TA) (κ : List Rp → List Re → Prop) (ε : KX) : Prop := ∀ B G H σ, Ok B G H M → En σ G Γ → ∀ Q : List V → Hp → Prop, (∀ vs G' H' rs M', κ rs M' → Ok B G' H' M' → Ex G G' → RA G' vs rs → Q vs H') → GoX B G ε W σ → ta σ H Q
def ET (W : WX) (Γ : Ctx) (M : List Re) (t : TT) (κ : Bool → List Re → Prop) (ε : KX) : Prop := ∀ B G H σ, Ok B G H M → En σ G Γ → ∀ Q : Bool → Hp → Prop, (∀ c G' H' M', κ c M' → Ok B G' H' M' → Ex G G' → Q c H') → GoX B G ε W σ → t σ H Q
def OM (rr : R2) (r1 r2 : Rp) (M : List Re) (κ : KV) : Prop := ∀ B G H x y, Ok B G H M → r1.p x G → r2.p y G → ∀ Q : VK, Go B G κ Q → rr x y H Q
def UM (rr : V → Hp → VK → Prop) (r1 : Rp) (M : List Re) (κ : KV) : Prop := ∀ B G H x, Ok B G H M → r1.p x G → ∀ Q : VK, Go B G κ Q → rr x H Q
def AM (rr : List V → Hp → VK → Prop) (rs : List Rp) (M : List Re) (κ : KV) : Prop := ∀ B G H vs, Ok B G H M → RA G vs rs → ∀ Q : VK, Go B G κ Q → rr vs H Q
def CM (sp : Sp) (rs : List Rp) (M : List Re) (κ : KV) : Prop := ∀ E, AM (fun vs H Q => sp vs H Q E) rs M κ
def XM (sp : Sp) (rs : List Rp) (M : List Re) (κ : KV) (ε : KX) : Prop := ∀ B G H vs W σ, Ok B G H M → RA G vs rs → ∀ Q : VK, Go B G κ Q → GoX B G ε W σ → sp vs H Q (fun cls d H' => W cls d σ H')
section
variable {W : WX} {Γ : Ctx} {M : List Re} {te ta tb tc tl : TE} {t u : TT} {r r1 r2 r3 : Rp} {rs ss : List Rp} {K : PySem.W.Frag} {C : Addr} {i j : Nat} {v w x y : V} {m n : Nat} {E : XK} {sp : Sp} {κ : KV} {ε : KX} {B : Ba} {G G1 H : Hp} {Q : VK} {σ : L2.St} {rr : R2}
theorem Go.up (q : Go B G κ Q) (e : Ex G G1) : Go B G1 κ Q := fun v G' H' r M' k o e' hv => q v G' H' r M' k o (e.trans e') hv
theorem GoX.up (q : GoX B G ε W σ) (e : Ex G G1) : GoX B G1 ε W σ := fun c f d G' H' M' k o e' hv => q c f d G' H' M' k o (e.trans e') hv
theorem e_v (h : Γ[i]? = some (some r)) (k : κ r M) : EW W Γ M (tVar i) κ ε := fun B G H σ o en Q q _ => by
  obtain ⟨v, h1, h2⟩ := en.get h
  exact ⟨v, h1, q v G H r M k o (Ex.refl _) h2⟩
theorem e_c (k : κ (rV v) M) : EW W Γ M (tC v) κ ε := fun B G H σ o en Q q _ => q v G H (rV v) M k o (Ex.refl _) rfl
theorem e_x (h : EvX Γ te r) (k : κ r M) : EW W Γ M te κ ε := fun B G H σ o en Q q _ => h σ G en H o.i Q fun v G2 H2 g hv => q v G2 H2 r M k (o.gr g) g.g hv
theorem e_xn (K : PySem.W.Frag) (h : EvNX Γ te rs) (k : κ (rL K rs) M) : EW W Γ M te κ ε := e_x (EvNX.d (K := K) h) k
theorem e_n (h : EvNX Γ te rs) (k : ∀ p, κ (rV (.ref p)) (M ++ [lstR p rs])) : EW W Γ M te κ ε := fun B G H σ o en Q q _ => h σ G en H o.i Q fun p vs G2 H2 g hp gp h2 ra =>
  q _ G2 H2 _ _ (k p) (o.add (R := lstR p rs) g (show [p].Nodup by simp) (fun a ha => by rw [List.mem_singleton.mp ha]; exact ⟨hp, gp⟩) ⟨vs, h2, ra⟩) g.g rfl
theorem EvX.by (h : ∀ W ε, EW W Γ [] te (fun r' M' => r' = r ∧ M' = []) ε) : EvX Γ te r := fun σ G en H e Q q => h (fun _ _ _ _ => True) (fun _ _ _ => False) ⟨G, H, [], G⟩ G H σ (Ok.nil e) en Q (fun v G' H' r' M' z o _ hv => by
    obtain ⟨rfl, rfl⟩ := z
    exact q v G' H' o.to hv) (fun _ _ _ _ _ _ z => z.elim)
theorem e_op (h : EW W Γ M ta (fun r1 M1 => EW W Γ M1 tb (fun r2 M2 => OM rr r1 r2 M2 κ) ε) ε) : EW W Γ M (tOp rr ta tb) κ ε := fun B G H σ o en Q q x =>
  h B G H σ o en _ (fun v1 G1 H1 r1 M1 h1 o1 e1 hv1 => h1 B G1 H1 σ o1 (en.mono e1) _ (fun v2 G2 H2 r2 M2 h2 o2 e2 hv2 => h2 B G2 H2 v1 v2 o2 (r1.mono e2 hv1) hv2 Q (q.up (e1.trans e2))) (x.up e1)) x
theorem e_un {rr : V → Hp → VK → Prop} (h : EW W Γ M ta (fun r1 M1 => UM rr r1 M1 κ) ε) : EW W Γ M (tUn rr ta) κ ε := fun B G H σ o en Q q x =>
  h B G H σ o en _ (fun v1 G1 H1 r1 M1 h1 o1 e1 hv1 => h1 B G1 H1 v1 o1 hv1 Q (q.up e1)) x
theorem a_nil {κ : List Rp → List Re → Prop} (k : κ [] M) : EA W Γ M tNil κ ε := fun B G H σ o en Q q _ => q [] G H [] M k o (Ex.refl _) .nil
theorem a_cons {κ : List Rp → List Re → Prop} {tr : TA} (h : EW W Γ M ta (fun r1 M1 => EA W Γ M1 tr (fun rs M2 => κ (r1 :: rs) M2) ε) ε) : EA W Γ M (tCons ta tr) κ ε := fun B G H σ o en Q q x =>
  h B G H σ o en _ (fun v1 G1 H1 r1 M1 h1 o1 e1 hv1 => h1 B G1 H1 σ o1 (en.mono e1) _ (fun vs G2 H2 rs M2 h2 o2 e2 ra => q (v1 :: vs) G2 H2 (r1 :: rs) M2 h2 o2 (e1.trans e2) (.cons (r1.mono e2 hv1) ra)) (x.up e1)) x
theorem e_call {ta : TA} (h : EA W Γ M ta (fun rs M1 => CM sp rs M1 κ) ε) : EW W Γ M (tCall sp [] E ta) κ ε := fun B G H σ o en Q q x =>
  h B G H σ o en _ (fun vs G1 H1 rs M1 h1 o1 e1 ra => by
    rw [List.append_nil]
    exact h1 E B G1 H1 vs o1 ra Q (q.up e1)) x
theorem e_callS {ta : TA} (h : EA W Γ M ta (fun rs M1 => XM sp rs M1 κ ε) ε) : EW W Γ M (tCallS sp (WE W) ta) κ ε := fun B G H σ o en Q q x =>
  h B G H σ o en _ (fun vs G1 H1 rs M1 h1 o1 e1 ra => h1 B G1 H1 vs W σ o1 ra Q (q.up e1) (x.up e1)) x
theorem e_cb {ta : TA} {rr : List V → Hp → VK → Prop} (h : EA W Γ M ta (fun rs M1 => AM rr rs M1 κ) ε) : EW W Γ M (tCB rr ta) κ ε := fun B G H σ o en Q q x =>
  h B G H σ o en _ (fun vs G1 H1 rs M1 h1 o1 e1 ra => h1 B G1 H1 vs o1 ra Q (q.up e1)) x
theorem e_tup (K : PySem.W.Frag) {ta : TA} (h : EA W Γ M ta (fun rs M1 => rs.length ≤ 100000 ∧ κ (rT K rs) M1) ε) : EW W Γ M (tTup ta) κ ε := fun B G H σ o en Q q x =>
  h B G H σ o en _ (fun vs G1 H1 rs M1 h1 o1 e1 ra => ⟨sz_of (by rw [ra.len]; exact h1.1), fun p hp => by
    have g3 := Gr.new (o := .tup vs) o1.i hp
    exact q (.ref p) _ _ (rT K rs) M1 h1.2 (o1.gr g3) (e1.trans g3.g) ⟨p, vs, rfl, st_of upd_same, ra.mono g3.g⟩⟩) x
theorem e_lst (K : PySem.W.Frag) {ta : TA} (h : EA W Γ M ta (fun rs M1 => rs.length ≤ 100000 ∧ κ (rL K rs) M1) ε) : EW W Γ M (tLst ta) κ ε := fun B G H σ o en Q q x =>
  h B G H σ o en _ (fun vs G1 H1 rs M1 h1 o1 e1 ra => ⟨sz_of (by rw [ra.len]; exact h1.1), fun p hp => by
    have g3 := Gr.new (o := .lst vs) o1.i hp
    exact q (.ref p) _ _ (rL K rs) M1 h1.2 (o1.gr g3) (e1.trans g3.g) ⟨p, vs, rfl, upd_same, ra.mono g3.g⟩⟩) x
theorem e_fld (f : Str) (h : EW W Γ M ta (fun r1 M1 => UM (fun x H1 Q => ∃ a C dx fs v, x = .ref a ∧ H1 a = some (.ins C dx fs) ∧ Cls K C ∧ NoAttr K C f ∧ fs.lookup f = some v ∧ Q v H1) r1 M1 κ) ε) : EW W Γ M (tFld K ta f) κ ε := fun B G H σ o en Q q x =>
  h B G H σ o en _ (fun v1 G1 H1 r1 M1 h1 o1 e1 hv1 => h1 B G1 H1 v1 o1 hv1 Q (q.up e1)) x
theorem e_make {ta : TA} (h : EA W Γ M ta (fun rs M1 => AM (fun vs H1 Q => ∀ x dx, H1 x = none → H1 dx = none → dx ≠ x → sp (.ref x :: (vs ++ [])) (upd (upd H1 dx (.own x)) x (.ins C dx [])) (fun v H2 => v = .non ∧ Q (.ref x) H2) E) rs M1 κ) ε) : EW W Γ M (tMake C sp [] E ta) κ ε := fun B G H σ o en Q q x =>
  h B G H σ o en _ (fun vs G1 H1 rs M1 h1 o1 e1 ra => h1 B G1 H1 vs o1 ra Q (q.up e1)) x
def InsR (C : Addr) (f : Str) (r : Rp) : Prop := ∀ v G, r.p v G → ∃ a dx fs, v = .ref a ∧ G a = some (.ins C dx fs) ∧ fs.lookup f = none
theorem e_meth {ta : TA} {f : Str} (h : EW W Γ M te (fun r0 M0 => InsR C f r0 ∧ EA W Γ M0 ta (fun rs M1 => CM sp (r0 :: rs) M1 κ) ε) ε) : EW W Γ M (tMeth C f sp [] E te ta) κ ε := fun B G H σ o en Q q x =>
  h B G H σ o en _ (fun v0 G0 H0 r0 M0 h0 o0 e0 hv0 => by
    obtain ⟨hi, h1⟩ := h0
    obtain ⟨a, dx, fs, rfl, h2, h3⟩ := hi _ _ hv0
    refine ⟨a, dx, fs, rfl, o0.i _ _ h2, h3, h1 B G0 H0 σ o0 (en.mono e0) _ (fun vs G1 H1 rs M1 k1 o1 e1 ra => ?_) (x.up e0)⟩
    rw [List.append_nil]
    exact k1 E B G1 H1 _ o1 (.cons (r0.mono e1 hv0) ra) Q (q.up (e0.trans e1))) x
theorem ins_tab {m : List Nat} {f : Str} (hf : (f == "size" || (f == "masks" || f == "cells")) = false) : InsR C f (rTab K C m) := fun v G hv => by
  obtain ⟨a, dx, t, c, rfl, h2, _⟩ := hv
  refine ⟨a, dx, _, rfl, h2, ?_⟩
  have hf2 := hf
  simp only [Bool.or_eq_false_iff] at hf2
  obtain ⟨h1, h3, h4⟩ := hf2
  unfold tabF
  simp [List.lookup, h1, h3, h4]
theorem w_t {κ : Bool → List Re → Prop} (h : EW W Γ M te (fun r M' => ∃ c, r = rB c ∧ κ c M') ε) : ET W Γ M (tTest te) κ ε := fun B G H σ o en Q q x =>
  h B G H σ o en _ (fun v G' H' r M' z o' e' hv => by
    obtain ⟨c, rfl, k⟩ := z
    exact ⟨c, hv, q c G' H' M' k o' e'⟩) x
theorem w_tB {κ : Bool → List Re → Prop} (h : EW W Γ M te (fun r M' => ∃ c, r = rB c ∧ κ c M') ε) : ET W Γ M (tB te) κ ε := fun B G H σ o en Q q x =>
  h B G H σ o en _ (fun v G' H' r M' z o' e' hv => by
    obtain ⟨c, rfl, k⟩ := z
    exact ⟨c, hv, q c G' H' M' k o' e'⟩) x
theorem w_tNot {κ : Bool → List Re → Prop} (h : ET W Γ M t (fun c M' => κ (!c) M') ε) : ET W Γ M (tNot t) κ ε := fun B G H σ o en Q q x =>
  h B G H σ o en _ (fun c G' H' M' z o' e' => q (!c) G' H' M' z o' e') x
end
section
variable {W : WX} {Γ : Ctx} {M : List Re} {te ta tb tc tl : TE} {t u : TT} {r r1 r2 r3 : Rp} {rs ss : List Rp} {K : PySem.W.Frag} {C : Addr} {i j : Nat} {κ : Kn} {tu tw : TS}
theorem ws_set (h : EW W Γ M te (fun r M' => κ.nx (Γ.set i (some r)) M') (κ.ex Γ)) : WP W Γ M (tAsg te (gName i)) κ := fun B G H σ D o en d =>
  h B G H σ o en _ (fun v G' H' r M' k o' e' hv => d.nx _ G' H' _ M' o' ((en.mono e').set hv i) k) (fun cls fs dd G' H' M' k o' e' xd => d.ex σ G' H' Γ M' cls dd fs o' (en.mono e') xd k)
theorem ws_ret (h : EW W Γ M te κ.rt (κ.ex Γ)) : WP W Γ M (tRet te) κ := fun B G H σ D o en d =>
  h B G H σ o en _ (fun v G' H' r M' k o' e' hv => d.rt v G' H' r M' o' hv k) (fun cls fs dd G' H' M' k o' e' xd => d.ex σ G' H' Γ M' cls dd fs o' (en.mono e') xd k)
theorem ws_do (h : EW W Γ M te (fun _ M' => κ.nx Γ M') (κ.ex Γ)) : WP W Γ M (tDrop te) κ := fun B G H σ D o en d =>
  h B G H σ o en _ (fun v G' H' r M' k o' e' hv => d.nx σ G' H' _ M' o' (en.mono e') k) (fun cls fs dd G' H' M' k o' e' xd => d.ex σ G' H' Γ M' cls dd fs o' (en.mono e') xd k)
theorem ws_if (h : ET W Γ M t (fun c M' => (c = true → WP W Γ M' tu κ) ∧ (c = false → WP W Γ M' tw κ)) (κ.ex Γ)) : WP W Γ M (tIfS t tu tw) κ := fun B G H σ D o en d =>
  h B G H σ o en _ (fun c G' H' M' k o' e' => by
    cases c with
    | true =>
      show tu D σ H'
      exact k.1 rfl B G' H' σ D o' (en.mono e') d
    | false =>
      show tw D σ H'
      exact k.2 rfl B G' H' σ D o' (en.mono e') d) (fun cls fs dd G' H' M' k o' e' xd => d.ex σ G' H' Γ M' cls dd fs o' (en.mono e') xd k)
end
section
variable {W : WX} {Γ : Ctx} {M : List Re} {te ta tb tc tl : TE} {r r1 r2 r3 : Rp} {rs ss : List Rp} {K : PySem.W.Frag} {C b p : Addr} {i j k : Nat} {v w x y : V} {m n : Nat} {a c : Int} {sp : Sp} {κ : KV} {ε : KX} {rr : R2}
theorem en2 {G : Hp} (h1 : r1.p x G) (h2 : r2.p y G) : En [some x, some y] G [some r1, some r2] := .cons (fun q hq => ⟨x, rfl, by cases hq; exact h1⟩) (.cons (fun q hq => ⟨y, rfl, by cases hq; exact h2⟩) .nil)
theorem en1 {G : Hp} (h1 : r1.p x G) : En [some x] G [some r1] := .cons (fun q hq => ⟨x, rfl, by cases hq; exact h1⟩) .nil
theorem om (h : EvX [some r1, some r2] (tOp rr (tVar 0) (tVar 1)) r) (k : κ r M) : OM rr r1 r2 M κ := fun B G H x y o hx hy Q q => by
  obtain ⟨v1, e1, v2, e2, z⟩ := h _ G (en2 hx hy) H o.i Q fun v G2 H2 g hv => q v G2 H2 r M k (o.gr g) g.g hv
  cases e1; cases e2
  exact z
theorem omn (h : EvNX [some r1, some r2] (tOp rr (tVar 0) (tVar 1)) rs) (k : κ (rL K rs) M) : OM rr r1 r2 M κ := om (EvNX.d (K := K) h) k
theorem um {rr : V → Hp → VK → Prop} (h : EvX [some r1] (tUn rr (tVar 0)) r) (k : κ r M) : UM rr r1 M κ := fun B G H x o hx Q q => by
  obtain ⟨v1, e1, z⟩ := h _ G (en1 hx) H o.i Q fun v G2 H2 g hv => q v G2 H2 r M k (o.gr g) g.g hv
  cases e1
  exact z
theorem am1 {rr : List V → Hp → VK → Prop} (h : EvX [some r1] (tCB rr (tCons (tVar 0) tNil)) r) (k : κ r M) : AM rr [r1] M κ := fun B G H vs o ra Q q => by
  obtain ⟨x, rfl, hx⟩ := ra1 ra
  obtain ⟨v1, e1, z⟩ := h _ G (en1 hx) H o.i Q fun v G2 H2 g hv => q v G2 H2 r M k (o.gr g) g.g hv
  cases e1
  exact z
theorem am1n {rr : List V → Hp → VK → Prop} (h : EvNX [some r1] (tCB rr (tCons (tVar 0) tNil)) rs) (k : κ (rL K rs) M) : AM rr [r1] M κ := am1 (EvNX.d (K := K) h) k
theorem am2c {rr : List V → Hp → VK → Prop} {c : V} (h : EvX [some r1] (tCB rr (tCons (tVar 0) (tCons (tC c) tNil))) r) (k : κ r M) : AM rr [r1, rV c] M κ := fun B G H vs o ra Q q => by
  obtain ⟨x, y, rfl, hx, hy⟩ := ra2 ra
  obtain rfl : y = c := hy
  obtain ⟨v1, e1, z⟩ := h _ G (en1 hx) H o.i Q fun v G2 H2 g hv => q v G2 H2 r M k (o.gr g) g.g hv
  cases e1
  exact z
theorem cm (h : ∀ vs G, RA G vs rs → SpD sp vs G r) (k : κ r M) : CM sp rs M κ := fun E B G H vs o ra Q q => h vs G ra H o.i Q (fun v G2 H2 g hv => q v G2 H2 r M k (o.gr g) g.g hv) E
theorem cmn (h : ∀ vs G, RA G vs rs → SpN sp vs G ss) (k : κ (rL K ss) M) : CM sp rs M κ := cm (fun vs G ra => by
  intro H e Q q E
  exact h vs G ra H e Q (fun p ws G2 H2 g hp gp h2 ra => by
    have e2 : Ex (upd G2 p (.lst ws)) H2 := fun a u z => by
      by_cases c : a = p
      · subst c
        rw [upd_same] at z
        rw [h2]; exact z
      · rw [upd_ne c] at z
        exact g.i a u z
    refine q (.ref p) (upd G2 p (.lst ws)) H2 ⟨g.g.trans (Ex.new gp), g.h, e2, fun a u z y => ?_⟩ ⟨p, ws, rfl, upd_same, ra.mono (Ex.new gp)⟩
    rw [upd_ne (ne_of_none z hp)]
    exact g.n a u z y) E) k
theorem cmo (h : ∀ vs G, RA G vs rs → SpN sp vs G ss) (k : ∀ p, κ (rV (.ref p)) (M ++ [lstR p ss])) : CM sp rs M κ := fun E B G H vs o ra Q q => h vs G ra H o.i Q (fun p ws G2 H2 g hp gp h2 ra => q _ G2 H2 _ _ (k p) (o.add (R := lstR p ss) g (show [p].Nodup by simp) (fun a ha => by rw [List.mem_singleton.mp ha]; exact ⟨hp, gp⟩) ⟨ws, h2, ra⟩) g.g rfl) E
theorem xm {R : List V → Hp → Out → Prop} (h : ∀ vs G, RA G vs rs → R vs G (.inl r)) (k : κ r M) : XM (spO R) rs M κ ε := fun B G H vs W σ o ra Q q x => by
  refine ⟨G, .inl r, o.i, h vs G ra, fun r' e' v G2 H2 g hv => ?_, fun _ _ z => nomatch z⟩
  cases e'
  exact q v G2 H2 r M k (o.gr g) g.g hv
theorem xmx {R : List V → Hp → Out → Prop} {cls : Value} {fs : List (Str × V)} (h : ∀ vs G, RA G vs rs → R vs G (.inr (cls, fs))) (k : ε cls fs M) : XM (spO R) rs M κ ε := fun B G H vs W σ o ra Q q x => by
  refine ⟨G, .inr (cls, fs), o.i, h vs G ra, fun _ z => (nomatch z), fun c f e' d G2 H2 g xd => ?_⟩
  cases e'
  exact x cls fs d G2 H2 M k (o.gr g) g.g xd
theorem cmO {R : List V → Hp → Out → Prop} (h : ∀ vs G, RA G vs rs → R vs G (.inl r)) (k : κ r M) : CM (spO R) rs M κ := cm (fun vs G ra => SpD.ofO (h vs G ra)) k
theorem c_take (k : Nat) (hk : M[k]? = some (boxR K b)) (h0 : 0 < m) (h1 : m < 2 ^ 30) (kk : ∀ d, d < m → κ (nI d) M) : CM (spT K) [rV (.ref b), nI m] M κ := fun E B G H vs o ra Q q => by
  obtain ⟨x, y, rfl, hx, hy⟩ := ra2 ra
  obtain rfl : x = V.ref b := hx
  obtain rfl : y = V.int (m : Int) := hy
  have z : EXD [some (rV (.ref b))] M (tCall (spT K) [] E (tCons (tVar 0) (tCons (tC (.int (m : Int))) tNil))) (fun d : Nat => d < m) nI := d_take hk rfl (x_cn m) h0 h1
  obtain ⟨w, hw, z3⟩ := z B G H [some (.ref b)] o (en1 rfl) Q fun v G' H' r M' k1 k2 k3 k4 => by
    obtain ⟨⟨d, hd, rfl⟩, rfl⟩ := k1
    exact q v G' H' _ _ (kk d hd) k2 k3 k4
  cases hw
  exact z3
theorem c_B {R : List V → Hp → (Rp → Prop) → Prop} {PP : Rp → Prop} (k : Nat) (hk : M[k]? = some (boxR K b)) (hs : ∀ ws G, RA G ws rs → R ws G PP) (kk : ∀ r, PP r → κ r M) : CM (spB K R) (rV (.ref b) :: rs) M κ := fun E B G H vs o ra Q q => by
  cases ra with
  | cons hx ra =>
    obtain rfl := hx
    have hm := List.mem_of_getElem? hk
    exact ⟨G, b, _, PP, rfl, o.i, o.z b (mem_feet hm (List.mem_singleton.mpr rfl)), o.m _ hm, hs _ G ra, fun r v G2 H2 p g hb hv => q v G2 H2 r M (kk r p) (o.grB hk g hb) g.g hv⟩
theorem c_BN {R : List V → Hp → (List Rp → Prop) → Prop} {PP : List Rp → Prop} (k : Nat) (hk : M[k]? = some (boxR K b)) (hs : ∀ ws G, RA G ws rs → R ws G PP) (kk : ∀ ss, PP ss → ∀ p, κ (rV (.ref p)) (M ++ [lstR p ss])) : CM (spBN K R) (rV (.ref b) :: rs) M κ := fun E B G H vs o ra Q q => by
  cases ra with
  | cons hx ra =>
    obtain rfl := hx
    have hm := List.mem_of_getElem? hk
    refine ⟨G, b, _, PP, rfl, o.i, o.z b (mem_feet hm (List.mem_singleton.mpr rfl)), o.m _ hm, hs _ G ra, fun ss p vs G2 H2 hP g hb2 hp gp h2 ra2 => q _ G2 H2 _ _ (kk ss hP p) (o.add2 (o.grB hk g hb2) (R := lstR p ss) (by show [_].Nodup; simp) (fun x hx => by rw [List.mem_singleton.mp hx]; exact ⟨hp, gp⟩) ⟨vs, h2, ra2⟩) g.g rfl⟩
theorem Go.frz {B : Ba} {G : Hp} {Q : VK} (q : Go B G κ Q) : Go B G (fun r M' => ∃ p ss M, r = rV (.ref p) ∧ M' = M ++ [lstR p ss] ∧ κ (rL K ss) M) Q := fun v G' H' r M' z o e hv => by
  obtain ⟨p, ss, M, rfl, rfl, k⟩ := z
  obtain rfl : v = V.ref p := hv
  have hk : (M ++ [lstR p ss])[M.length]? = some (lstR p ss) := by simp
  obtain ⟨G2, e2, o2, h2⟩ := o.frz (K := K) hk
  have es : (M ++ [lstR p ss]).eraseIdx M.length = M := by simp [List.eraseIdx_append_of_length_le]
  rw [es] at o2
  exact q _ G2 H' _ M k o2 (e.trans e2) h2
theorem c_BNf (K' : PySem.W.Frag) {R : List V → Hp → (List Rp → Prop) → Prop} {PP : List Rp → Prop} (k : Nat) (hk : M[k]? = some (boxR K b)) (hs : ∀ ws G, RA G ws rs → R ws G PP) (kk : ∀ ss, PP ss → κ (rL K' ss) M) : CM (spBN K R) (rV (.ref b) :: rs) M κ := fun E B G H vs o ra Q q =>
  c_BN (κ := fun r M' => ∃ p ss M, r = rV (.ref p) ∧ M' = M ++ [lstR p ss] ∧ κ (rL K' ss) M) k hk hs (fun ss h p => ⟨p, ss, M, rfl, rfl, kk ss h⟩) E B G H vs o ra Q q.frz
theorem Ok.rdv {B : Ba} {G H : Hp} (o : Ok B G H M) (hk : M[k]? = some (lstR p rs)) : ∃ G2, Ex G G2 ∧ Ex G2 H ∧ (rL K rs).p (.ref p) G2 := by
  have hm := List.mem_of_getElem? hk
  obtain ⟨ws, h1, h2⟩ := o.m _ hm
  have gp : G p = none := o.z p (mem_feet hm (List.mem_singleton.mpr rfl))
  have e : Ex G (upd G p (.lst ws)) := Ex.new gp
  exact ⟨upd G p (.lst ws), e, ex_add o.i h1, p, ws, rfl, upd_same, h2.mono e⟩
theorem om_ixOwn (k : Nat) (hk : M[k]? = some (lstR p rs)) (hi : rs[n]? = some r) (kk : κ r M) : OM (rIxL K) (rV (.ref p)) (nI n) M κ := fun B G H x y o hx hy Q q => by
  obtain rfl : x = V.ref p := hx
  obtain rfl : y = V.int (n : Int) := hy
  obtain ⟨ws, hp, ra⟩ := o.m _ (List.mem_of_getElem? hk)
  obtain ⟨w, h3, h4⟩ := ra.get hi
  exact ⟨p, ws, _, w, rfl, rfl, sq_of hp, atI_nat h3, q w G H r M kk o (Ex.refl _) h4⟩
theorem am_own {rr : List V → Hp → VK → Prop} (k : Nat) (hk : M[k]? = some (lstR p rs)) (h : EvX [some (rL K rs)] (tCB rr (tCons (tVar 0) tNil)) (rV v)) (kk : κ (rV v) M) : AM rr [rV (.ref p)] M κ := fun B G H vs o ra Q q => by
  obtain ⟨x, rfl, hx⟩ := ra1 ra
  obtain rfl : x = V.ref p := hx
  obtain ⟨G2, e, e2, hl⟩ := o.rdv (K := K) hk
  obtain ⟨v1, e1, z⟩ := h _ G2 (en1 hl) H e2 Q fun w G3 H3 g hw => q w G H3 (rV v) M kk (o.ex g.h) (Ex.refl _) hw
  cases e1
  exact z
theorem e_app (k : Nat) (hi : Γ[i]? = some (some (rV (.ref p)))) (h : EW W Γ M te (fun r M' => ∃ rs, M'[k]? = some (lstR p rs) ∧ rs.length < 50000 ∧ κ (rV .non) (M'.set k (lstR p (rs ++ [r])))) ε) (hk : M[k]? = some (lstR p rs)) : EW W Γ M (tBM K "list" rAppend (tVar i) (tCons te tNil)) κ ε := fun B G H σ o en Q q x => by
  obtain ⟨v, hv1, hv2⟩ := en.get hi
  obtain rfl : v = V.ref p := hv2
  obtain ⟨ws0, hp0, ra0⟩ := o.m _ (List.mem_of_getElem? hk)
  refine ⟨.ref p, hv1, Or.inl ⟨rfl, ws0, sq_of hp0⟩, h B G H σ o en _ (fun v G2 H2 r M' z o2 e hv => ?_) x⟩
  obtain ⟨rs, hk2, hz, hq⟩ := z
  obtain ⟨ws, hp, ra⟩ := o2.m _ (List.mem_of_getElem? hk2)
  have gp : G2 p = none := o2.z p (mem_feet (List.mem_of_getElem? hk2) (List.mem_singleton.mpr rfl))
  refine ⟨p, ws, v, rfl, rfl, hp, sz_lt (by rw [ra.len]; omega), q .non G2 _ (rV .non) _ hq (o2.chg (R' := lstR p (rs ++ [r])) hk2 rfl rfl (Ex.refl _) (fun a u z n => ?_) (Ex.mut o2.i gp) (fun _ _ _ _ y => y) ⟨ws ++ [v], upd_same, ra.snoc hv⟩) e rfl⟩
  rw [upd_ne fun q => n (List.mem_singleton.mpr q)]
  exact z
theorem f_tab {m : List Nat} {f : Str} (h : EvX [some (rTab K C m)] (tFld K (tVar 0) f) r) (k : κ r M) : UM (fun x H1 Q => ∃ a C dx fs v, x = .ref a ∧ H1 a = some (.ins C dx fs) ∧ Cls K C ∧ NoAttr K C f ∧ fs.lookup f = some v ∧ Q v H1) (rTab K C m) M κ := fun B G H x o hx Q q => by
  obtain ⟨v1, e1, z⟩ := h _ G (en1 hx) H o.i Q fun v G2 H2 g hv => q v G2 H2 r M k (o.gr g) g.g hv
  cases e1
  exact z
theorem mk_tab {m : List Nat} (w : Wf n m) (h1 : 1 ≤ n) (h6 : n ≤ 6) {E : XK} (k : κ (rTab K C m) M) : AM (fun vs H1 Q => ∀ x dx, H1 x = none → H1 dx = none → dx ≠ x → spTab K C (.ref x :: (vs ++ [])) (upd (upd H1 dx (.own x)) x (.ins C dx [])) (fun v H2 => v = .non ∧ Q (.ref x) H2) E) [rLL K (m.map bitsN)] M κ := fun B G H vs o ra Q q => by
  obtain ⟨x, rfl, hx⟩ := ra1 ra
  have z : EvX [some (rLL K (m.map bitsN))] (tMake C (spTab K C) [] E (tCons (tVar 0) tNil)) (rTab K C m) := x_tabRows (x_v rfl) w h1 h6
  obtain ⟨v1, e1, z2⟩ := z _ G (en1 hx) H o.i Q fun v G2 H2 g hv => q v G2 H2 _ M k (o.gr g) g.g hv
  cases e1
  exact z2
end
section
variable {Γ : Ctx} {M : List Re} {ta tb : TE} {r r1 r2 : Rp} {K : PySem.W.Frag} {C : Addr} {m n : Nat} {a b : Int} {κ : KV}
theorem x_eqI (ha : EvX Γ ta (rI a)) (hb : EvX Γ tb (rI b)) : EvX Γ (tOp rEq ta tb) (rB (decide (a = b))) := x_is (x_eqV ha hb) (by rw [dec_int])
theorem x_neI (ha : EvX Γ ta (rI a)) (hb : EvX Γ tb (rI b)) : EvX Γ (tOp rNe ta tb) (rB (!decide (a = b))) := x_is (x_neV ha hb) (by rw [dec_int])
theorem x_shlN1 (ha : EvX Γ ta (rV (.int 1))) (h : EvX Γ tb (nI n)) (hn : n ≤ 64) : EvX Γ (tOp (L2.rI CPow fun i j => .int (i * 2 ^ j.toNat)) ta tb) (nI (2 ^ n)) := x_is (x_I ha h ⟨by omega, by omega, by decide⟩) (by rw [shl_nat])
theorem x_ixLL {l : List (List Nat)} (ha : EvX Γ ta (rLL K l)) (hb : EvX Γ tb (nI n)) (h : n < l.length) : EvX Γ (tOp (rIxL K) ta tb) (rLn K (l.getD n [])) := x_ixLm [] ha hb h
theorem x_eqLn0 {l : List Nat} (ha : EvX Γ ta (rLn K l)) (hb : EvX Γ tb (rL K [])) : EvX Γ (tOp (rEqD K) ta tb) (rB (decide (l = []))) := x_eqLn (m := []) ha hb
theorem x_neLn0 {l : List Nat} (ha : EvX Γ ta (rLn K l)) (hb : EvX Γ tb (rL K [])) : EvX Γ (tOp (rNeD K) ta tb) (rB (!decide (l = []))) := x_neLn (m := []) ha hb
def NN (r : Rp) : Prop := ∀ v G, r.p v G → v ≠ V.non
theorem nn_tab {m : List Nat} : NN (rTab K C m) := fun v G h e => by
  obtain ⟨a, _, _, _, rfl, _⟩ := h
  cases e
theorem nn_L {rs : List Rp} : NN (rL K rs) := fun v G h e => by
  obtain ⟨a, _, rfl, _⟩ := h
  cases e
theorem nn_T {rs : List Rp} : NN (rT K rs) := fun v G h e => by
  obtain ⟨a, _, rfl, _⟩ := h
  cases e
theorem nn_I : NN (rI a) := fun v G h e => by
  obtain rfl : v = V.int a := h
  cases e
theorem om_isN0 (k : κ (rB true) M) : OM (fun x y H Q => y = V.non ∧ Q (.bl (decide (x = .non))) H) (rV .non) (rV .non) M κ := fun B G H x y o hx hy Q q => by
  obtain rfl : x = V.non := hx
  obtain rfl : y = V.non := hy
  exact ⟨rfl, q _ G H _ M k o (Ex.refl _) rfl⟩
theorem om_notN0 (k : κ (rB false) M) : OM (fun x y H Q => y = V.non ∧ Q (.bl (!decide (x = .non))) H) (rV .non) (rV .non) M κ := fun B G H x y o hx hy Q q => by
  obtain rfl : x = V.non := hx
  obtain rfl : y = V.non := hy
  exact ⟨rfl, q _ G H _ M k o (Ex.refl _) rfl⟩
theorem om_isN1 (hr : NN r) (k : κ (rB false) M) : OM (fun x y H Q => y = V.non ∧ Q (.bl (decide (x = .non))) H) r (rV .non) M κ := fun B G H x y o hx hy Q q => by
  obtain rfl : y = V.non := hy
  exact ⟨rfl, q _ G H _ M k o (Ex.refl _) (by rw [decide_eq_false (hr x G hx)]; rfl)⟩
theorem om_notN1 (hr : NN r) (k : κ (rB true) M) : OM (fun x y H Q => y = V.non ∧ Q (.bl (!decide (x = .non))) H) r (rV .non) M κ := fun B G H x y o hx hy Q q => by
  obtain rfl : y = V.non := hy
  exact ⟨rfl, q _ G H _ M k o (Ex.refl _) (by rw [decide_eq_false (hr x G hx)]; rfl)⟩
end
section
variable {α : Type} {W : WX} {Γ : Ctx} {M : List Re} {te ta tl : TE} {t : TT} {K : PySem.W.Frag} {j n : Nat} {κ : KV} {ε : KX} {vs : List Nat} {l : List α} {ρ rr : α → Rp} {f : α → Bool}
theorem e_lcL0 (h : EvX Γ tl (rL K (l.map ρ))) (hz : l.length ≤ 40000) (he : ∀ a, a ∈ l → EvX ((wipeC Γ vs).set j (some (ρ a))) te (rr a)) (hj : j ∈ vs) (k : κ (rL K (l.map rr)) M) : EW W Γ M (tLc (iList K tl) (gName j) tYes te vs) κ ε := e_xn K (xn_lcL0 l ρ rr h hz he hj) k
theorem e_lcL (h : EvX Γ tl (rL K (l.map ρ))) (hz : l.length ≤ 40000) (ht : ∀ a, a ∈ l → EvTX ((wipeC Γ vs).set j (some (ρ a))) t (f a)) (he : ∀ a, a ∈ l → f a = true → EvX ((wipeC Γ vs).set j (some (ρ a))) te (rr a)) (hj : j ∈ vs) (k : κ (rL K ((l.filter f).map rr)) M) : EW W Γ M (tLc (iList K tl) (gName j) t te vs) κ ε := e_xn K (xn_lcL l ρ f rr h hz ht he hj) k
theorem e_lcT0 (h : EvX Γ tl (rT K (l.map ρ))) (hz : l.length ≤ 40000) (he : ∀ a, a ∈ l → EvX ((wipeC Γ vs).set j (some (ρ a))) te (rr a)) (hj : j ∈ vs) (k : κ (rL K (l.map rr)) M) : EW W Γ M (tLc (iTup K tl) (gName j) tYes te vs) κ ε := e_xn K (xn_lcT0 l ρ rr h hz he hj) k
theorem e_lcT (h : EvX Γ tl (rT K (l.map ρ))) (hz : l.length ≤ 40000) (ht : ∀ a, a ∈ l → EvTX ((wipeC Γ vs).set j (some (ρ a))) t (f a)) (he : ∀ a, a ∈ l → f a = true → EvX ((wipeC Γ vs).set j (some (ρ a))) te (rr a)) (hj : j ∈ vs) (k : κ (rL K ((l.filter f).map rr)) M) : EW W Γ M (tLc (iTup K tl) (gName j) t te vs) κ ε := e_xn K (xn_lcT l ρ f rr h hz ht he hj) k
theorem e_lcR0 {rr : Nat → Rp} (K : PySem.W.Frag) (h : EvX Γ ta (nI n)) (hz : n ≤ 40000) (he : ∀ a, a < n → EvX ((wipeC Γ vs).set j (some (nI a))) te (rr a)) (hj : j ∈ vs) (k : κ (rL K ((List.range n).map rr)) M) : EW W Γ M (tLc (iRng1 (tCons ta tNil)) (gName j) tYes te vs) κ ε := e_xn K (xn_lcR0 n rr h hz he hj) k
theorem e_lcR {rr : Nat → Rp} {f : Nat → Bool} (K : PySem.W.Frag) (h : EvX Γ ta (nI n)) (hz : n ≤ 40000) (ht : ∀ a, a < n → EvTX ((wipeC Γ vs).set j (some (nI a))) t (f a)) (he : ∀ a, a < n → f a = true → EvX ((wipeC Γ vs).set j (some (nI a))) te (rr a)) (hj : j ∈ vs) (k : κ (rL K (((List.range n).filter f).map rr)) M) : EW W Γ M (tLc (iRng1 (tCons ta tNil)) (gName j) t te vs) κ ε := e_xn K (xn_lcR n f rr h hz ht he hj) k
end
section
variable {W : WX} {Γ : Ctx} {M : List Re} {ta tb : TE} {t : TT} {κ : KV} {ε : KX} {c d : Bool}
theorem e_and (h1 : EvX Γ ta (rB c)) (h2 : c = true → EvX Γ tb (rB d)) (k : κ (rB (c && d)) M) : EW W Γ M (tAndV ta tb) κ ε := e_x (x_and h1 h2) k
theorem e_or (h1 : EvX Γ ta (rB c)) (h2 : c = false → EvX Γ tb (rB d)) (k : κ (rB (c || d)) M) : EW W Γ M (tOrV ta tb) κ ε := e_x (x_or h1 h2) k
theorem e_not (h1 : EvX Γ ta (rB c)) (k : κ (rB (!c)) M) : EW W Γ M (tNotV ta) κ ε := e_x (x_not h1) k
end
theorem t_and0 {Γ : Ctx} {t u : TT} {c : Bool} (h1 : EvTX Γ t c) (hc : c = false) : EvTX Γ (tAnd t u) false := fun σ G en H e Q q => h1 σ G en H e _ fun H1 e1 => by
  subst hc
  show Q false H1
  exact q H1 e1
theorem t_or1 {Γ : Ctx} {t u : TT} {c : Bool} (h1 : EvTX Γ t c) (hc : c = true) : EvTX Γ (tOr t u) true := fun σ G en H e Q q => h1 σ G en H e _ fun H1 e1 => by
  subst hc
  show Q true H1
  exact q H1 e1
theorem x_and0 {Γ : Ctx} {ta tb : TE} {c : Bool} (h1 : EvX Γ ta (rB c)) (hc : c = false) : EvX Γ (tAndV ta tb) (rB false) := fun σ G en H e Q q => h1 σ G en H e _ fun v G1 H1 g hv => by
  subst hc
  obtain rfl : v = V.bl false := hv
  exact ⟨false, rfl, q _ G1 H1 g rfl⟩
theorem x_or1 {Γ : Ctx} {ta tb : TE} {c : Bool} (h1 : EvX Γ ta (rB c)) (hc : c = true) : EvX Γ (tOrV ta tb) (rB true) := fun σ G en H e Q q => h1 σ G en H e _ fun v G1 H1 g hv => by
  subst hc
  obtain rfl : v = V.bl true := hv
  exact ⟨true, rfl, q _ G1 H1 g rfl⟩
theorem e_cn {W : WX} {Γ : Ctx} {M : List Re} {κ : KV} {ε : KX} {n : Nat} (k : κ (nI (OfNat.ofNat n)) M) : EW W Γ M (tC (.int (@OfNat.ofNat Int n _))) κ ε := e_c k
theorem am_listL {M : List Re} {κ : KV} {K : PySem.W.Frag} {rs : List Rp} (k : κ (rL K rs) M) : AM (rListS K) [rL K rs] M κ := am1n (K := K) (xn_list (x_v rfl)) k
theorem am_listT {M : List Re} {κ : KV} {K : PySem.W.Frag} {rs : List Rp} (k : κ (rL K rs) M) : AM (rListS K) [rT K rs] M κ := am1n (K := K) (xn_listT (x_v rfl)) k
end Mu

namespace Mu
open PySem PySem.Spec PyProof.Rows L2 Evl
section
variable {X : Cx} {CX : CXT} {k : Nat} {f C : Addr} {fd : FuncData} {ps : List Str} {sp : Sp} {x : Str} {p pos apos : Pos} {e o : Expr} {es : List Expr} {t : TA} {te : TE}
def tMakeS (C : Addr) (sp : Sp) (E : L2.St → XK) (t : TA) : TE := fun σ H Q => t σ H fun vs H1 => ∀ x dx, H1 x = none → H1 dx = none → dx ≠ x → sp (.ref x :: vs) (upd (upd H1 dx (.own x)) x (.ins C dx [])) (fun v H2 => v = .non ∧ Q (.ref x) H2) (E σ)
end
section
variable {CX CX2 : CXT} {P : Program} {w : World} {K : PySem.W.Frag} {mg : Str → Option Value} {base : Heap} {N ps ps2 : List Str} {x qual : Str} {params : Arguments} {body : List Stmt} {scope : Scope} {file : Str} {D f f2 : Addr} {fd fd2 : FuncData} {cda cc : Addr} {A : Around} {outer : List Env} {s0 : Shared} {H0 : Hp} {E0 : XK}
  {pins : List (Addr × Obj)} {σ : L2.St} {H : Hp} {s : Shared} {fb : List Stmt} {k2 : Nat} {sp2 : Sp} {m : Str}
def tSup (K : PySem.W.Frag) (D : Addr) (m : Str) (f2 : Addr) (sp : Sp) (E : L2.St → XK) (ta : TA) : TE := fun σ H Q => ∃ a C dx fs, σ[0]? = some (some (.ref a)) ∧ H a = some (.ins C dx fs) ∧ PySem.W.mroIn K C (.ref D) = some true ∧ PySem.W.ks_superIn K C D m = some (some (.ref f2)) ∧ ta σ H fun vs H1 => sp (.ref a :: vs) H1 Q (E σ)
end
end Mu

namespace Mu
open PySem PySem.Spec PyProof.Rows L2 Evl
abbrev FL := List (Str × Rp)
abbrev FsR (G : Hp) : List (Str × V) → FL → Prop := Paired fun a b => a.1 = b.1 ∧ b.2.p a.2 G
theorem FsR.mono {G G' : Hp} (e : Ex G G') : ∀ {fs : List (Str × V)} {rs : FL}, FsR G fs rs → FsR G' fs rs
  | _, _, .nil => .nil
  | _, _, .cons (b := b) h t => .cons ⟨h.1, b.2.mono e h.2⟩ (FsR.mono e t)
theorem FsR.len {G : Hp} {fs : List (Str × V)} {rs : FL} (h : FsR G fs rs) : fs.length = rs.length := Paired.length h
theorem FsR.get {G : Hp} {f : Str} {r : Rp} : ∀ {fs : List (Str × V)} {rs : FL}, FsR G fs rs → rs.lookup f = some r → ∃ v, fs.lookup f = some v ∧ r.p v G
  | _, _, .nil, h => by cases h
  | (g, v) :: fs, (g', r') :: rs, .cons h t, e => by
    obtain ⟨h1, h2⟩ := h
    have h1' : g = g' := h1
    subst h1'
    rw [List.lookup_cons] at e ⊢
    cases q : f == g with
    | true =>
      rw [q] at e
      obtain rfl : r' = r := Option.some.inj e
      exact ⟨v, rfl, h2⟩
    | false =>
      rw [q] at e
      exact FsR.get t e
theorem FsR.noget {G : Hp} {f : Str} : ∀ {fs : List (Str × V)} {rs : FL}, FsR G fs rs → rs.lookup f = none → fs.lookup f = none
  | _, _, .nil, h => rfl
  | (g, v) :: fs, (g', r') :: rs, .cons h t, e => by
    obtain ⟨h1, h2⟩ := h
    have h1' : g = g' := h1
    subst h1'
    rw [List.lookup_cons] at e ⊢
    cases q : f == g with
    | true => rw [q] at e; cases e
    | false => rw [q] at e; exact FsR.noget t e
theorem FsR.put {G : Hp} {f : Str} {r : Rp} {v : V} (hr : r.p v G) : ∀ {fs : List (Str × V)} {rs : FL}, FsR G fs rs → rs.lookup f = none → FsR G (putF f v fs) (rs ++ [(f, r)])
  | _, _, .nil, _ => .cons ⟨rfl, hr⟩ .nil
  | (g, x) :: fs, (g', r') :: rs, .cons h t, e => by
    obtain ⟨h1, h2⟩ := h
    have h1' : g = g' := h1
    subst h1'
    rw [List.lookup_cons] at e
    cases q : f == g with
    | true => rw [q] at e; cases e
    | false =>
      rw [q] at e
      have ne : ¬ g = f := fun z => by subst z; simp at q
      show FsR G (if g = f then (g, v) :: fs else (g, x) :: putF f v fs) ((g, r') :: (rs ++ [(f, r)]))
      rw [if_neg ne]
      exact .cons ⟨rfl, h2⟩ (FsR.put hr t e)
def setR (f : Str) (r : Rp) : FL → FL
  | [] => []
  | (g, x) :: rs => if g = f then (g, r) :: rs else (g, x) :: setR f r rs
theorem FsR.set {G : Hp} {f : Str} {r r0 : Rp} {v : V} (hr : r.p v G) : ∀ {fs : List (Str × V)} {rs : FL}, FsR G fs rs → rs.lookup f = some r0 → FsR G (putF f v fs) (setR f r rs)
  | _, _, .nil, h => by cases h
  | (g, x) :: fs, (g', r') :: rs, .cons h t, e => by
    obtain ⟨h1, h2⟩ := h
    have h1' : g = g' := h1
    subst h1'
    rw [List.lookup_cons] at e
    show FsR G (if g = f then (g, v) :: fs else (g, x) :: putF f v fs) (if g = f then (g, r) :: rs else (g, r') :: setR f r rs)
    by_cases c : g = f
    · rw [if_pos c, if_pos c]
      exact .cons ⟨rfl, hr⟩ t
    · have q : (f == g) = false := by simpa using fun z : f = g => c z.symm
      rw [q] at e
      rw [if_neg c, if_neg c]
      exact .cons ⟨rfl, h2⟩ (FsR.set hr t e)
def rIns (C : Addr) (fs : FL) : Rp := ⟨fun v G => ∃ a dx ws, v = .ref a ∧ G a = some (.ins C dx ws) ∧ FsR G ws fs, fun e ⟨a, dx, ws, h1, h2, h3⟩ => ⟨a, dx, ws, h1, e _ _ h2, h3.mono e⟩⟩
def insR (own : Bool) (p C : Addr) (fs : FL) : Re where
  own := own
  ft := [p]
  p := fun G H => ∃ dx ws, H p = some (.ins C dx ws) ∧ FsR G ws fs
  mono := fun e ⟨dx, ws, h1, h2⟩ => ⟨dx, ws, h1, h2.mono e⟩
  loc := fun k ⟨dx, ws, h1, h2⟩ => ⟨dx, ws, k p (List.mem_singleton.mpr rfl) _ h1, h2⟩
  at_ := fun ⟨dx, ws, h1, _⟩ a ha => by rw [List.mem_singleton.mp ha]; exact ⟨_, h1, fun _ z => nomatch z⟩
section
variable {W : WX} {Γ : Ctx} {M : List Re} {te ta tb tc tl : TE} {r r1 r2 r3 : Rp} {rs ss : List Rp} {K : PySem.W.Frag} {C D b p : Addr} {i j k : Nat} {v w x y : V} {m n : Nat} {sp : Sp} {κ : KV} {ε : KX} {own : Bool} {fs : FL} {f : Str} {B : Ba} {G H G2 H2 : Hp}
theorem ins_ins (hf : fs.lookup f = none) : InsR C f (rIns C fs) := fun v G hv => by
  obtain ⟨a, dx, ws, rfl, h2, h3⟩ := hv
  exact ⟨a, dx, ws, rfl, h2, h3.noget hf⟩
theorem f_ins (hc : Cls K C) (hn : NoAttr K C f) (hl : fs.lookup f = some r) (kk : κ r M) : UM (fun x H1 Q => ∃ a C dx fs v, x = .ref a ∧ H1 a = some (.ins C dx fs) ∧ Cls K C ∧ NoAttr K C f ∧ fs.lookup f = some v ∧ Q v H1) (rIns C fs) M κ := fun B G H x o hx Q q => by
  obtain ⟨a, dx, ws, rfl, h2, h3⟩ := hx
  obtain ⟨v, hv, hr⟩ := h3.get hl
  exact ⟨a, C, dx, ws, v, rfl, o.i _ _ h2, hc, hn, hv, q v G H r M kk o (Ex.refl _) hr⟩
theorem f_own (k : Nat) (hk : M[k]? = some (insR own p C fs)) (hc : Cls K C) (hn : NoAttr K C f) (hl : fs.lookup f = some r) (kk : κ r M) : UM (fun x H1 Q => ∃ a C dx fs v, x = .ref a ∧ H1 a = some (.ins C dx fs) ∧ Cls K C ∧ NoAttr K C f ∧ fs.lookup f = some v ∧ Q v H1) (rV (.ref p)) M κ := fun B G H x o hx Q q => by
  obtain rfl : x = V.ref p := hx
  obtain ⟨dx, ws, h2, h3⟩ := o.m _ (List.mem_of_getElem? hk)
  obtain ⟨v, hv, hr⟩ := h3.get hl
  exact ⟨p, C, dx, ws, v, rfl, h2, hc, hn, hv, q v G H r M kk o (Ex.refl _) hr⟩
theorem ws_fld {κ : Kn} {fs0 : FL} (k : Nat) (hi : Γ[i]? = some (some (rV (.ref p)))) (hk0 : M[k]? = some (insR own p C fs0)) (hc : Cls K C) (hn : NoAttr K C f) (h : EW W Γ M te (fun r M' => ∃ fs, M'[k]? = some (insR own p C fs) ∧ fs.lookup f = none ∧ fs.length < 900 ∧ κ.nx Γ (M'.set k (insR own p C (fs ++ [(f, r)])))) (κ.ex Γ)) : WP W Γ M (sFld K (tVar i) te f) κ := fun B G H σ D o en d =>
  h B G H σ o en _ (fun v G' H' r M' z o' e' hv => by
    obtain ⟨fs, hk, hl, hz, hq⟩ := z
    obtain ⟨u, hu1, hu2⟩ := en.get hi
    obtain rfl : u = V.ref p := hu2
    have hm := List.mem_of_getElem? hk
    obtain ⟨dx, ws, h2, h3⟩ := o'.m _ hm
    have gp : G' p = none := o'.z p (mem_feet hm (List.mem_singleton.mpr rfl))
    refine ⟨.ref p, hu1, p, C, dx, ws, rfl, h2, hc, hn, by rw [h3.len]; omega, d.nx σ G' _ Γ _ (o'.chg (R' := insR own p C (fs ++ [(f, r)])) hk rfl rfl (Ex.refl _) (fun a u z n => ?_) (Ex.mut o'.i gp) (fun _ _ _ _ y => y) ⟨dx, _, upd_same, h3.put hv hl⟩) (en.mono e') hq⟩
    rw [upd_ne fun q => n (List.mem_singleton.mpr q)]
    exact z) (fun cls fs dd G' H' M' k o' e' xd => d.ex σ G' H' Γ M' cls dd fs o' (en.mono e') xd k)
abbrev IOut := FL ⊕ (Value × List (Str × V))
def spIni (OKC : Addr → Prop) (R : List V → Hp → IOut → Prop) : Sp := fun vs H Q E => ∃ p C dx ws G o, vs = .ref p :: ws ∧ OKC C ∧ H p = some (.ins C dx []) ∧ Ex G H ∧ G p = none ∧ R ws G o ∧
  (∀ fs, o = .inl fs → ∀ G2 H2, GrB p G H G2 H2 → (insR false p C fs).p G2 H2 → Q .non H2) ∧ (∀ cls xs, o = .inr (cls, xs) → ∀ d G2 H2, GrB p G H G2 H2 → (∃ u, H2 p = some u ∧ Mt u) → XdOk G2 xs d → E cls d H2)
theorem Ok.ins {dx : Addr} (e : Ex G H) (gp : G p = none) (hp : H p = some (.ins C dx [])) : Ok ⟨G, H, [p], G⟩ G H [insR false p C []] :=
  ⟨Ex.refl _, Ex.refl _, fun _ _ z _ => z, e, fun _ _ _ _ y => y, fun a h => by rw [List.mem_singleton.mp h]; exact ⟨_, hp, mt_ins⟩, fun r h => by rw [List.mem_singleton.mp h]; exact ⟨dx, [], hp, .nil⟩, fun a h => by
    have : a ∈ [p] := by simpa [feet, insR] using h
    rw [List.mem_singleton.mp this]; exact gp, by simp [feet, insR], fun r h a ha => by
    rw [List.mem_singleton.mp h] at ha ⊢
    exact .inr ⟨rfl, ha⟩⟩
def MkM (C : Addr) (sp : Sp) (rs : List Rp) (M : List Re) (κ : KV) (ε : KX) : Prop := ∀ B G H vs W σ, Ok B G H M → RA G vs rs → ∀ Q : VK, Go B G κ Q → GoX B G ε W σ → ∀ x dx, H x = none → H dx = none → dx ≠ x → sp (.ref x :: vs) (upd (upd H dx (.own x)) x (.ins C dx [])) (fun v H2 => v = .non ∧ Q (.ref x) H2) (fun cls d H' => W cls d σ H')
theorem e_makeS {ta : TA} (h : EA W Γ M ta (fun rs M1 => MkM C sp rs M1 κ ε) ε) : EW W Γ M (tMakeS C sp (WE W) ta) κ ε := fun B G H σ o en Q q x =>
  h B G H σ o en _ (fun vs G1 H1 rs M1 h1 o1 e1 ra => h1 B G1 H1 vs W σ o1 ra Q (q.up e1) (x.up e1)) x
theorem e_makeI {ta : TA} {E : XK} (h : EA W Γ M ta (fun rs M1 => MkM C sp rs M1 κ (fun _ _ _ => False)) ε) (hE : ∀ vs H Q E', sp vs H Q E' → ∀ E2 : XK, (∀ c d H', E' c d H' → E2 c d H') → sp vs H Q E2) : EW W Γ M (tMake C sp [] E ta) κ ε := fun B G H σ o en Q q x =>
  h B G H σ o en _ (fun vs G1 H1 rs M1 h1 o1 e1 ra => fun y dy hy hdy ne => by
    rw [List.append_nil]
    exact hE _ _ _ _ (h1 B G1 H1 vs (fun _ _ _ _ => False) σ o1 ra Q (q.up e1) (fun _ _ _ _ _ _ z => z.elim) y dy hy hdy ne) E (fun _ _ _ z => z.elim)) x
theorem spIni_E {OKC : Addr → Prop} {R : List V → Hp → IOut → Prop} : ∀ vs H Q E', spIni OKC R vs H Q E' → ∀ E2 : XK, (∀ c d H', E' c d H' → E2 c d H') → spIni OKC R vs H Q E2 := fun vs H Q E' h E2 hi => by
  obtain ⟨p, C, dx, ws, G, o, h1, h2, h3, h4, h5, h6, h7, h8⟩ := h
  exact ⟨p, C, dx, ws, G, o, h1, h2, h3, h4, h5, h6, h7, fun cls xs e d G2 H2 g hu x => hi _ _ _ (h8 cls xs e d G2 H2 g hu x)⟩
end

structure SupF (K : PySem.W.Frag) (C D : Addr) (m : Str) (f : Addr) : Prop where
  mro : PySem.W.mroIn K C (.ref D) = some true
  sup : PySem.W.ks_superIn K C D m = some (some (.ref f))
theorem FunD.lk {K : PySem.W.Frag} {x qual : Str} {params : Arguments} {body : List Stmt} {scope : Scope} {dvs : List V} {kws : List (Str × V)} {f : Addr} {fd : FuncData} (F : FunD K x qual params body scope dvs kws f fd) : ∃ oc od osl, K.lookup f = some ⟨oc, od, .func fd, osl⟩ := by
  obtain ⟨oc, od, dV, kV, doc, pm, an, cdv, ct, osl, rfl, lk, hcd, _, _⟩ := F.ex
  exact ⟨oc, od, osl, lk⟩
theorem FunS.lk {K : PySem.W.Frag} {x qual : Str} {params : Arguments} {body : List Stmt} {scope : Scope} {file : Str} {D f : Addr} {fd : FuncData} {cda cc : Addr} (F : FunS K x qual params body scope file D f fd cda cc) : ∃ oc od osl, K.lookup f = some ⟨oc, od, .func fd, osl⟩ := by
  obtain ⟨oc, od, kV, doc, pm, an, ct, osl, e, lk⟩ := F.fn
  exact ⟨oc, od, osl, lk⟩
def badW (n : Nat) (w : Int) : Bool := decide (w < 0) || decide ((n : Int) ≤ w)
section
variable {Γ : Ctx} {M : List Re} {te ta tb : TE} {K : PySem.W.Frag} {κ : KV} {n : Nat}
end
theorem EvAX.by {Γ : Ctx} {ta : TA} {rs : List Rp} (h : ∀ W ε, EA W Γ [] ta (fun r' M' => r' = rs ∧ M' = []) ε) : EvAX Γ ta rs := fun σ G en H e Q q => h (fun _ _ _ _ => True) (fun _ _ _ => False) ⟨G, H, [], G⟩ G H σ (Ok.nil e) en Q (fun v G' H' r' M' z o _ hv => by
    obtain ⟨rfl, rfl⟩ := z
    exact q v G' H' o.to hv) (fun _ _ _ _ _ _ z => z.elim)
section
variable {Γ : Ctx} {ta tb : TE} {m n : Nat}
theorem dec_iff {p q : Prop} [Decidable p] [Decidable q] (h : p ↔ q) : decide p = decide q := by
  rw [Bool.eq_iff_iff, decide_eq_true_iff, decide_eq_true_iff]; exact h
theorem x_ltN (ha : EvX Γ ta (nI m)) (hb : EvX Γ tb (nI n)) : EvX Γ (tOp (rI0 fun i j => .bl (decide (i < j))) ta tb) (rB (decide (m < n))) := x_is (x_I0 ha hb) (congrArg rB (dec_iff (by omega)))
theorem x_leN (ha : EvX Γ ta (nI m)) (hb : EvX Γ tb (nI n)) : EvX Γ (tOp (rI0 fun i j => .bl (decide (i ≤ j))) ta tb) (rB (decide (m ≤ n))) := x_is (x_I0 ha hb) (congrArg rB (dec_iff (by omega)))
theorem x_gtN (ha : EvX Γ ta (nI m)) (hb : EvX Γ tb (nI n)) : EvX Γ (tOp (rI0 fun i j => .bl (decide (j < i))) ta tb) (rB (decide (n < m))) := x_is (x_I0 ha hb) (congrArg rB (dec_iff (by omega)))
theorem x_geN (ha : EvX Γ ta (nI m)) (hb : EvX Γ tb (nI n)) : EvX Γ (tOp (rI0 fun i j => .bl (decide (j ≤ i))) ta tb) (rB (decide (n ≤ m))) := x_is (x_I0 ha hb) (congrArg rB (dec_iff (by omega)))
end
end Mu

namespace Mu
open PySem PySem.Spec PyProof.Rows L2 Evl
section
variable {α : Type} {W : WX} {Γ : Ctx} {M : List Re} {te ta tb tl : TE} {K : PySem.W.Frag} {i j k n : Nat} {p : Addr} {κ : KV} {ε : KX} {vs : List Nat} {D : α → Prop} {f : α → Rp} {rs : List Rp} {r : Rp}
theorem EW.imp {κ' : KV} (h : EW W Γ M te κ' ε) (hi : ∀ r M', κ' r M' → κ r M') : EW W Γ M te κ ε := fun B G H σ o en Q q x => h B G H σ o en Q (fun v G' H' r M' z => q v G' H' r M' (hi r M' z)) x
end
theorem x_powN {Γ : Ctx} {ta tb : TE} {a b : Nat} (ha : EvX Γ ta (nI a)) (hb : EvX Γ tb (nI b)) (h1 : b ≤ 1000000) (h2 : a < 2 ^ 64) : EvX Γ (tOp (L2.rI CPow fun i j => .int (i ^ j.toNat)) ta tb) (nI (a ^ b)) := x_is (x_I ha hb ⟨by omega, by omega, by rw [Int.natAbs_natCast]; exact h2⟩) (by show rI _ = rI _; congr 1; first | done | (rw [Int.toNat_natCast]; exact (Int.natCast_pow a b).symm))
section
variable {W : WX} {Γ : Ctx} {M : List Re} {te ta tb : TE} {K : PySem.W.Frag} {κ : KV} {ε : KX} {rs ss : List Rp} {i : Int} {m n : Nat}
theorem om_cat (hz : rs.length + ss.length ≤ 100000) (k : κ (rL K (rs ++ ss)) M) : OM rCat (rL K rs) (rL K ss) M κ := omn (K := K) (xn_cat (K := K) (x_v rfl) (x_v rfl) hz) k
theorem RA.rep {G : Hp} {vs : List V} {rs : List Rp} (h : RA G vs rs) : ∀ m, RA G (List.replicate m vs).flatten (List.replicate m rs).flatten
  | 0 => .nil
  | m + 1 => by
    rw [List.replicate_succ, List.replicate_succ, List.flatten_cons, List.flatten_cons]
    exact h.append (RA.rep h m)
theorem om_rep (hz : rs.length * m ≤ 100000) (hm : m ≤ 100000) (k : κ (rL K (List.replicate m rs).flatten) M) : OM rRep (rL K rs) (nI m) M κ := fun B G H x y o hx hy Q q => by
  obtain ⟨a, vs, rfl, h1, h2⟩ := hx
  obtain rfl : y = V.int (m : Int) := hy
  refine ⟨a, (m : Int), vs, rfl, rfl, o.i _ _ h1, by omega, by omega, sz_of (by rw [Int.toNat_natCast, h2.len]; exact hz), fun p hp => ?_⟩
  rw [Int.toNat_natCast]
  have g := Gr.new (o := .lst (List.replicate m vs).flatten) o.i hp
  exact q (.ref p) _ _ _ M k (o.gr g) g.g ⟨p, _, rfl, upd_same, (RA.rep h2 m).mono g.g⟩
theorem ev_part {Γ : Ctx} {te : TE} (h : EvX Γ te (rI i)) {σ : L2.St} {G : Hp} (en : En σ G Γ) : EvO (tPart te) σ G (some i) := fun H e Q q => h σ G en H e _ fun v G2 H2 g hv => by
  obtain rfl : v = V.int i := hv
  exact ⟨_, rfl, q H2 g.h⟩
theorem e_sl {tl th : TO} {lo hi : Option Int} (hl : ∀ σ G, En σ G Γ → EvO tl σ G lo) (hh : ∀ σ G, En σ G Γ → EvO th σ G hi) (h : EW W Γ M te (fun r M1 => ∃ rs, r = rL K rs ∧ κ (rL K (cutR rs lo hi)) M1) ε) : EW W Γ M (tSl (rSlL K) te tl th) κ ε := fun B G H σ o en Q q x =>
  h B G H σ o en _ (fun v G1 H1 r M1 z o1 e1 hv => by
    obtain ⟨rs, rfl, kk⟩ := z
    have z2 := en_slL (σ := σ) (G := G1) (te := tC v) (tl := tl) (th := th) (K := K) (rs := rs) (lo := lo) (hi := hi) (fun H e Q q => q v G1 H (Gr.refl e) (by
      obtain ⟨a, vs, rfl, h1, h2⟩ := hv
      exact ⟨a, vs, rfl, sq_of h1, h2⟩)) (fun G' e => hl σ G' (en.mono (e1.trans e))) (fun G' e => hh σ G' (en.mono (e1.trans e)))
    exact (EvN.d (K := K) z2) H1 o1.i Q fun w G2 H2 g hw => q w G2 H2 _ M1 kk (o1.gr g) (e1.trans g.g) hw) x
theorem e_slTo (hb : EvX Γ tb (rI i)) (h : EW W Γ M te (fun r M1 => ∃ rs, r = rL K rs ∧ κ (rL K (cutR rs none (some i))) M1) ε) : EW W Γ M (tSl (rSlL K) te tNoPart (tPart tb)) κ ε := e_sl (fun _ _ _ => o_no) (fun _ _ en => ev_part hb en) h
theorem e_slFrom (hb : EvX Γ tb (rI i)) (h : EW W Γ M te (fun r M1 => ∃ rs, r = rL K rs ∧ κ (rL K (cutR rs (some i) none)) M1) ε) : EW W Γ M (tSl (rSlL K) te (tPart tb) tNoPart) κ ε := e_sl (fun _ _ en => ev_part hb en) (fun _ _ _ => o_no) h
end
end Mu

namespace Mu
open PySem PySem.Spec PyProof.Rows L2 He Evl
theorem DefA.funD {K : PySem.W.Frag} {d : DefA} (e : fnA K (d.at_ K) = d.val) (c : d.ok K = true) : ∃ fd, FunD K d.name d.qual d.params d.body d.scope [] [] (d.at_ K) fd := by
  obtain ⟨kp, c2⟩ := ba c
  unfold fnA at e
  cases q : K.lookup (d.at_ K) with
  | none =>
    rw [q] at c2
    cases c2
  | some o =>
    obtain ⟨oc, od, dt, osl⟩ := o
    rw [q] at c2 e
    cases dt with
    | func fd =>
      obtain ⟨n1, n2, n3, n4, n5, n6, n7, n8, n9, n10, n11, n12, n13, n14, n15⟩ := fd
      have e2 : (some (n1, n2, n3, n4, n5, n6, n7, n15) : FnW) = some (d.name, d.qual, d.params, .stmts d.body, d.scope, mainGlobals, [], builtinsNs) := e
      simp only [Option.some.injEq, Prod.mk.injEq] at e2
      obtain ⟨h1, h2, h3, h4, h5, h6, h7, h8⟩ := e2
      subst h1 h2 h3 h4 h5 h6 h7 h8
      have c3 : (PySem.W.codeIn K n13 d.qual && (dflB K n8 [] && kwdB K n9 [])) = true := c2
      obtain ⟨k1, k2⟩ := ba c3
      obtain ⟨k3, k4⟩ := ba k2
      exact ⟨_, ⟨oc, od, n8, n9, n10, n11, n12, n13, n14, osl, rfl, q, k1, dflB_ok k3, kwdB_ok k4⟩, kp⟩
    | _ => cases c2
section
variable {fa : List Fa} {ex : List FactB} {fn : List DefD} {sn : List DefS} {an : List DefA} {K : PySem.W.Frag}
theorem SaysP.s (c : SaysP fa ex fn sn an K) : SaysS fa ex fn sn K := by
  have h1 : (((((fa.all fun f => f.ok K) && ex.all fun f => f K) && fn.all fun d => d.ok K) && sn.all fun d => d.ok K) && an.all fun d => d.ok K) = true := congrArg (fun z : AlP => z.1) c
  have h2 : fn.map (fun d => fnW K d.at_) = fn.map DefD.val := congrArg (fun z : AlP => z.2.1) c
  have h3 : sn.map (fun d => fnS K d.at_) = sn.map DefS.val := congrArg (fun z : AlP => z.2.2.1) c
  show obsS fa ex fn sn K = valS fn sn
  unfold obsS valS
  rw [(ba h1).1, h2, h3]
theorem SaysP.fact (c : SaysP fa ex fn sn an K) (i : Nat) {f : Fa} (h : fa[i]? = some f := by rfl) : f.ok K = true := c.s.fact i h
theorem SaysP.exf (c : SaysP fa ex fn sn an K) (i : Nat) {f : FactB} (h : ex[i]? = some f := by rfl) : f K = true := c.s.exf i h
theorem SaysP.def_ (c : SaysP fa ex fn sn an K) (i : Nat) {d : DefD} (h : fn[i]? = some d := by rfl) : ∃ fd, FunD K d.name d.qual d.params d.body d.scope (d.dvs K) (d.kws K) (fAd K d.at_) fd := c.s.def_ i h
theorem SaysP.sup_ (c : SaysP fa ex fn sn an K) (i : Nat) {d : DefS} (h : sn[i]? = some d := by rfl) : ∃ fd cda cc, FunS K d.name d.qual d.params d.body d.scope d.file (ga K d.cls) (fAd K d.at_) fd cda cc := c.s.sup_ i h
theorem SaysP.any_ (c : SaysP fa ex fn sn an K) (i : Nat) {d : DefA} (h : an[i]? = some d := by rfl) : ∃ fd, FunD K d.name d.qual d.params d.body d.scope [] [] (d.at_ K) fd := by
  have h1 : (((((fa.all fun f => f.ok K) && ex.all fun f => f K) && fn.all fun d => d.ok K) && sn.all fun d => d.ok K) && an.all fun d => d.ok K) = true := congrArg (fun z : AlP => z.1) c
  have e : an.map (fun d => fnA K (d.at_ K)) = an.map DefA.val := congrArg (fun z : AlP => z.2.2.2) c
  have e2 : (an.map fun d => fnA K (d.at_ K))[i]? = (an.map DefA.val)[i]? := by rw [e]
  rw [List.getElem?_map, List.getElem?_map, h] at e2
  exact DefA.funD (Option.some.inj e2) (List.all_eq_true.mp (ba h1).2 d (List.mem_of_getElem? h))
end
def PropG (K : PySem.W.Frag) (C : Addr) (f : Str) (g : Addr) : Prop := ∃ p, PropOf K C f p g
theorem propB_ok {K : PySem.W.Frag} {C g : Addr} {f : Str} (h : propB K C f g = true) : PropG K C f g := by
  unfold propB at h
  split at h
  · rename_i p e
    obtain ⟨h1, h2⟩ := ba h
    obtain ⟨h3, h4⟩ := ba h2
    split at h4
    · rename_i g' rest e2
      have z : g' = g := by simpa using h4
      subst z
      exact ⟨p, e, eqO_ok h1, of_decide_eq_true h3, rest, e2⟩
    · cases h4
  · cases h
theorem pe_propG {X : Cx} {CX : CXT} {k : Nat} {C g : Addr} {f : Str} {fd : FuncData} {ps : List Str} {sp : Sp} {E : XK} {e : Expr} {pos : Pos} {ta : TE} (he : PE X e ta) (c : Cls X.K C) (hp : PropG X.K C f g) (F : FnOk X.prog X.w X.K X.mg X.base CX k g fd ps sp) (hr : Room (k + 1) X.A) (hb : Binds X.K fd ps []) (hx : Passes CX X.nox E)
    (hab : attributeBase e f X.env (eval e X.env) = eval e X.env := by rfl) : PE X (.Attribute e f pos) (tProp C sp [] E ta) := by
  obtain ⟨p, hp⟩ := hp
  exact pe_prop he c hp F hr hb .nil hx hab
theorem e_prop {W : WX} {Γ : Ctx} {M : List Re} {te : TE} {C : Addr} {sp : Sp} {E : XK} {κ : KV} {ε : KX} (h : EW W Γ M te (fun r0 M0 => (∀ v G, r0.p v G → ∃ a dx fs, v = .ref a ∧ G a = some (.ins C dx fs)) ∧ CM sp [r0] M0 κ) ε) : EW W Γ M (tProp C sp [] E te) κ ε := fun B G H σ o en Q q x =>
  h B G H σ o en _ (fun v0 G0 H0 r0 M0 h0 o0 e0 hv0 => by
    obtain ⟨hi, h1⟩ := h0
    obtain ⟨a, dx, fs, rfl, h2⟩ := hi _ _ hv0
    exact ⟨a, dx, fs, rfl, o0.i _ _ h2, h1 E B G0 H0 [.ref a] o0 (.cons hv0 .nil) Q (q.up e0)⟩) x
theorem ins_is {C : Addr} {fs : FL} : ∀ v G, (rIns C fs).p v G → ∃ a dx ws, v = .ref a ∧ G a = some (.ins C dx ws) := fun v G h => by
  obtain ⟨a, dx, ws, rfl, h2, _⟩ := h
  exact ⟨a, dx, ws, rfl, h2⟩
section
variable {X : Cx} {CX : CXT} {k : Nat} {f C : Addr} {fd : FuncData} {ps : List Str} {sp : Sp} {m : Str} {pos apos : Pos} {e o : Expr} {es : List Expr} {t : TA} {ta : TE}
def tMethS (C : Addr) (m : Str) (sp : Sp) (E : L2.St → XK) (ta : TE) (t : TA) : TE := fun σ H Q => ta σ H fun x H1 => ∃ a dx fs, x = .ref a ∧ H1 a = some (.ins C dx fs) ∧ fs.lookup m = none ∧ t σ H1 fun vs H2 => sp (x :: vs) H2 Q (E σ)
end
theorem e_methS {W : WX} {Γ : Ctx} {M : List Re} {te : TE} {ta : TA} {f : Str} {C : Addr} {sp : Sp} {κ : KV} {ε : KX} (h : EW W Γ M te (fun r0 M0 => InsR C f r0 ∧ EA W Γ M0 ta (fun rs M1 => XM sp (r0 :: rs) M1 κ ε) ε) ε) : EW W Γ M (tMethS C f sp (WE W) te ta) κ ε := fun B G H σ o en Q q x =>
  h B G H σ o en _ (fun v0 G0 H0 r0 M0 h0 o0 e0 hv0 => by
    obtain ⟨hi, h1⟩ := h0
    obtain ⟨a, dx, fs, rfl, h2, h3⟩ := hi _ _ hv0
    exact ⟨a, dx, fs, rfl, o0.i _ _ h2, h3, h1 B G0 H0 σ o0 (en.mono e0) _ (fun vs G1 H1 rs M1 k1 o1 e1 ra => k1 B G1 H1 _ W σ o1 (.cons (r0.mono e1 hv0) ra) Q (q.up (e0.trans e1)) (x.up (e0.trans e1))) (x.up e0)⟩) x
theorem x_inTi {Γ : Ctx} {ta tb : TE} {K : PySem.W.Frag} {a : Int} {l : List Int} (neg : Bool) (ha : EvX Γ ta (rI a)) (hb : EvX Γ tb (rT K (l.map rI))) : EvX Γ (tOp (rIn K neg) ta tb) (rB (if neg then !decide (a ∈ l) else decide (a ∈ l))) := fun σ G en =>
  Ev.d (ev_op2 (ha σ G en) (hb σ G en) fun x y H hx hy Q q => by
    obtain rfl : x = V.int a := hx
    obtain ⟨p, vs, rfl, h1, h2⟩ := hy
    have e := ra_ints_eq h2
    subst e
    exact ⟨p, _, rfl, .inr h1, rfl, ints_flatI l, by rw [inV_int]; exact q⟩)
abbrev NOut := List Rp ⊕ (Value × List (Str × V))
section
variable {W : WX} {Γ : Ctx} {M : List Re} {rs ss : List Rp} {K : PySem.W.Frag} {κ : KV} {ε : KX} {R : List V → Hp → NOut → Prop} {o : NOut}
end
end Mu

namespace Mu
open PySem PySem.Spec PyProof.Rows L2 He Evl
end Mu

namespace Mu
open PySem PySem.Spec PyProof.Rows L2 Evl
section
variable {B : Ba} {G H G2 H2 : Hp} {M : List Re} {W : WX} {Γ Γ' Γ1 : Ctx} {te ta tb tl : TE} {t : TT} {K : PySem.W.Frag} {κ : KV} {ε : KX} {r r0 : Rp} {rs rs0 : List Rp} {i j k n : Nat} {p C : Addr} {fs : FL} {vs : List Nat}
theorem En.put {v : V} (q : r.p v G) : ∀ {σ : L2.St} {Γ : Ctx} {i : Nat}, En σ G Γ → σ[i]? = some (some v) → En σ G (Γ.set i (some r))
  | _, _, _, .nil, _ => .nil
  | _, _, 0, .cons _ t, e => .cons (fun x hx => ⟨v, by simpa using e, by cases hx; exact q⟩) t
  | _, _, i + 1, .cons h t, e => .cons h (En.put q t (by simpa using e))
end
section
variable {W : WX} {Γ : Ctx} {M : List Re} {te ta tb tl : TE} {K : PySem.W.Frag} {κ : KV} {ε : KX} {i j n : Nat} {vs : List Nat} {α : Type}
end
section
variable {B : Ba} {G H : Hp} {M M1 M2 : List Re} {W : WX} {Γ : Ctx} {te : TE} {t : TS} {κ : Kn} {ε : KX} {K : PySem.W.Frag} {rs rs0 : List Rp} {p : Addr}
theorem Ok.few (o : Ok B G H (M1 ++ M2)) : Ok B G H M1 where
  g := o.g
  l := o.l
  h := o.h
  i := o.i
  n := o.n
  k := o.k
  m := fun r hr => o.m r (List.mem_append_left _ hr)
  z := fun a ha => o.z a (by unfold feet at ha ⊢; rw [List.flatMap_append]; exact List.mem_append_left _ ha)
  d := by
    have h := o.d
    unfold feet at h ⊢
    rw [List.flatMap_append] at h
    exact (List.nodup_append.mp h).1
  f := fun r hr => o.f r (List.mem_append_left _ hr)
theorem w_few (M1 M2 : List Re) (h : WP W Γ M1 t κ) : WP W Γ (M1 ++ M2) t κ := fun B G H σ D o en d => h B G H σ D o.few en d
theorem EW.few {κ : KV} (h : EW W Γ M te (fun r M' => ∃ M1 M2, M' = M1 ++ M2 ∧ κ r M1) ε) : EW W Γ M te κ ε := fun B G H σ o en Q q x => h B G H σ o en Q (fun v G' H' r M' z o' e hv => by
  obtain ⟨M1, M2, rfl, k⟩ := z
  exact q v G' H' r M1 k o'.few e hv) x
end
end Mu

namespace Mu
open PySem PySem.Spec PyProof.Rows L2 Evl
section
variable {M : Model} {A : Around} {E : Value → Shared → Prop} {s₀ s : Shared} {m cm : Str → Option Value} {env : Env} {own : List (Str × Addr)}
end
section
variable {CX CX2 : CXT} {P : Program} {w : World} {K : PySem.W.Frag} {mg : Str → Option Value} {base : Heap} {N ps ps2 : List Str} {x qual : Str} {params : Arguments} {body : List Stmt} {scope : Scope} {file : Str} {D f f2 : Addr} {fd fd2 : FuncData} {cda cc : Addr} {A : Around} {outer : List Env} {s0 : Shared} {H0 : Hp} {E0 : XK}
  {pins : List (Addr × Obj)} {σ : L2.St} {H : Hp} {s : Shared} {fb : List Stmt} {E : Value → Shared → Prop} {k2 : Nat} {sp2 : Sp} {m : Str}
end
theorem e_sup {W : WX} {Γ : Ctx} {M : List Re} {K : PySem.W.Frag} {C D f2 : Addr} {m : Str} {sp : Sp} {ta : TA} {κ : KV} {ε : KX} {fs : FL} (h0 : Γ[0]? = some (some (rIns C fs))) (hm : SupF K C D m f2)
    (h : EA W Γ M ta (fun rs M1 => XM sp (rIns C fs :: rs) M1 κ ε) ε) : EW W Γ M (tSup K D m f2 sp (WE W) ta) κ ε := fun B G H σ o en Q q x => by
  obtain ⟨u, hu1, hu2⟩ := en.get h0
  obtain ⟨a, dx, ws, rfl, h2, h3⟩ := id hu2
  refine ⟨a, C, dx, ws, hu1, o.i _ _ h2, hm.mro, hm.sup, h B G H σ o en _ (fun vs G1 H1 rs M1 z o1 e1 ra => ?_) x⟩
  exact z B G1 H1 _ W σ o1 (.cons ((rIns C fs).mono e1 hu2) ra) Q (q.up e1) (x.up e1)
end Mu

namespace Mu
open PySem PySem.Spec PyProof.Rows L2 He Evl
section
variable {W : WX} {Γ : Ctx} {M : List Re} {rs : List Rp} {K : PySem.W.Frag} {κ : KV} {ε : KX} {R : List V → Hp → List Re → KV → KX → Prop}
end
section
variable {K : PySem.W.Frag} {C D : Addr} {H G : Hp} {fs : FL} {Γ : Ctx} {te ta tb : TE} {tt : TT} {r : Rp} {W : WX} {M : List Re} {κ : KV} {ε : KX} {rs : List Rp} {p : Addr} {k : Nat}
theorem ty_ins (c : IsC K C) {v : V} (h : (rIns C fs).p v H) : TyX K H v (.ref C) := by
  obtain ⟨a, dx, ws, rfl, h2, _⟩ := h
  exact .base (.ins h2 c.c c.a c.g c.t c.m)
theorem x_isIns {b : Bool} (c : IsC K C) (hk : PySem.W.kitOne K (.ref C) (.ref D) = some b) (h : EvX Γ te (rIns C fs)) : EvX Γ (tCB (rIsi K) (tCons te (tCons (tC (.ref D)) tNil))) (rB b) := fun σ G en => Ev.d (ev_isi (h σ G en) (.own _) fun v H hv => ⟨_, ty_ins c hv, hk⟩)
theorem am_listOwn (k : Nat) (hk : M[k]? = some (lstR p rs)) (kk : κ (rL K rs) M) : AM (rListS K) [rV (.ref p)] M κ := fun B G H vs o ra Q q => by
  obtain ⟨x, rfl, hx⟩ := ra1 ra
  obtain rfl : x = V.ref p := hx
  obtain ⟨ws, h1, h2⟩ := o.m _ (List.mem_of_getElem? hk)
  refine ⟨p, ws, rfl, .inl (sq_of h1), fun l hl => ?_⟩
  have g := Gr.new (o := .lst ws) o.i hl
  exact q _ _ _ (rL K rs) M kk (o.gr g) g.g ⟨l, ws, rfl, upd_same, h2.mono g.g⟩
end
theorem x_lenLm' {Γ : Ctx} {te : TE} {K : PySem.W.Frag} {rs : List Rp} (h : EvX Γ te (rL K rs)) : EvX Γ (tCB (rLenS K) (tCons te tNil)) (nI rs.length) := x_lenL h
structure Dt (K : PySem.W.Frag) (k : Nat) (r : Rp) (d : PyData) : Prop where
  as : AsD K r d
  sh : Sh k d
section
variable {K : PySem.W.Frag} {k j : Nat} {r : Rp} {d d1 d2 : PyData} {rs : List Rp} {ds : List PyData} {α : Type} {ρ : α → Rp} {δ : α → PyData} {Γ : Ctx} {ta tb : TE}
theorem dt_ll (l : List (List Nat)) : Dt K 3 (rLL K l) (dLL l) := ⟨asd_ll l, sh_ll l⟩
end
end Mu

namespace Mu
open PySem PySem.Spec PyProof.Rows L2 He Evl
structure Itm {β : Type} (G1 : Hp) (J : It) (l : List β) (ρ : β → Rp) : Prop where
  goes : ∀ i H, i < l.length → Ex G1 H → J.go i H
  stops : ∀ H, Ex G1 H → J.stop l.length H
  yld : ∀ i H x H', i < l.length → Ex G1 H → J.yld i H x H' → H' = H ∧ ∀ a, l[i]? = some a → (ρ a).p x G1
def IX {β : Type} (Γ : Ctx) (ti : TI) (l : List β) (ρ : β → Rp) : Prop := ∀ σ G, En σ G Γ → ∀ H, Ex G H → ∀ R : It → Hp → Prop, (∀ G1 H1 J, Gr G H G1 H1 → Itm G1 J l ρ → R J H1) → ti σ H R
section
variable {W : WX} {Γ : Ctx} {M : List Re} {te ta tb tl td : TE} {t : TT} {K : PySem.W.Frag} {i j n : Nat} {vs : List Nat} {β α : Type} {ti : TI} {l : List β} {ρ : β → Rp} {tu : TS} {κ : Kn} {r : Rp}
theorem for_I {J : It} {n : Nat} {g : TG} {tb : TS} {D : Ends} {σ : L2.St} {H : Hp} (Pv : Nat → L2.St → Hp → Prop) (h0 : Pv 0 σ H) (hgo : ∀ i σ H, i < n → Pv i σ H → J.go i H) (hst : ∀ σ H, Pv n σ H → J.stop n H)
    (hs : ∀ i σ H x H', i < n → Pv i σ H → J.yld i H x H' → g x σ H' fun σ2 H2 => tb { D with nx := Pv (i + 1), ct := Pv (i + 1), bk := D.nx } σ2 H2) (hd : ∀ σ H, Pv n σ H → D.nx σ H) :
    ∃ W : Nat → Nat → L2.St → Hp → Prop, (∃ m, W 0 m σ H) ∧ ∀ i m σ H, W i m σ H →
      (J.stop i H ∧ D.nx σ H) ∨ (J.go i H ∧ ∃ N : L2.St → Hp → Prop, (∀ σ' H', N σ' H' → ∃ m', m' < m ∧ W (i + 1) m' σ' H') ∧ ∀ x H', J.yld i H x H' → g x σ H' fun σ2 H2 => tb { D with nx := N, ct := N, bk := D.nx } σ2 H2) := by
  refine ⟨fun i m σ H => m = n - i ∧ i ≤ n ∧ Pv i σ H, ⟨n, by simp, Nat.zero_le _, h0⟩, ?_⟩
  rintro i m σ H ⟨rfl, hi, p⟩
  by_cases c : i < n
  · exact .inr ⟨hgo i σ H c p, Pv (i + 1), fun σ' H' z => ⟨n - (i + 1), by omega, rfl, c, z⟩, fun x H' y => hs i σ H x H' c p y⟩
  · have e : i = n := by omega
    subst e
    exact .inl ⟨hst σ H p, hd σ H p⟩
theorem w_forI (P : Nat → α → Prop) (Γi : Nat → α → Ctx) (Mi : Nat → α → List Re) (h : IX Γ ti l ρ) (a0 : α) (p0 : P 0 a0) (s0 : Sub Γ (Γi 0 a0)) (m0 : M = Mi 0 a0)
    (hs : ∀ i a x, l[i]? = some x → P i a → WP W ((Γi i a).set j (some (ρ x))) (Mi i a) tu (kLoop (LI P Γi Mi (i + 1)) κ)) (hd : ∀ a, P l.length a → κ.nx (Γi l.length a) (Mi l.length a)) : WP W Γ M (tFor ti (gName j) tu) κ := fun B G H σ D o en d => by
  refine h σ G en H o.i _ fun G1 H1 J g1 it => ?_
  have o1 := (o.gr g1).low (Ex.refl G1)
  have eb : Ex B.Gl G1 := o.l.trans g1.g
  refine for_I (n := l.length) (fun i σ' H' => Pv (B.low G1) (LI P Γi Mi i) σ' H') ⟨G1, Γ, M, o1, en.mono g1.g, a0, p0, s0, m0⟩ (fun i σ' H' hi ⟨G2, _, _, o2, _⟩ => it.goes i H' hi (o2.l.trans o2.i)) (fun σ' H' ⟨G2, _, _, o2, _⟩ => it.stops H' (o2.l.trans o2.i)) (fun i σ' H' x H'' hi ⟨G2, Γ2, M2, o2, en2, a, pa, sa, ma⟩ y => ?_) (fun σ' H' ⟨G2, Γ2, M2, o2, en2, a, pa, sa, ma⟩ => ?_)
  · obtain ⟨rfl, hx⟩ := it.yld i H' x H'' hi (o2.l.trans o2.i) y
    subst ma
    obtain ⟨b, hb⟩ : ∃ b, l[i]? = some b := ⟨_, List.getElem?_eq_getElem hi⟩
    have d2 := (d.low eb).loop (I := LI P Γi Mi (i + 1))
    exact hs i a b hb pa (B.low G1) G2 _ _ _ o2 ((en2.weak sa).set ((ρ b).mono o2.l (hx b hb)) j) ⟨fun σ G H Γ M o en z => d2.nx σ G H Γ M o en z, d2.rt, d2.bk, fun σ G H Γ M o en z => d2.ct σ G H Γ M o en z, d2.ex⟩
  · subst ma
    exact d.nx _ G2 H' _ _ (o2.up eb) (en2.weak sa) (hd a pa)
end
def ltr (c : Nat) : Str := ⟨#[c]⟩
abbrev rC (c : Nat) : Rp := rV (.str (ltr c))
section
variable {W : WX} {Γ : Ctx} {M : List Re} {te ta tb tl td : TE} {K : PySem.W.Frag} {n c : Nat} {s z : Str} {r : Rp} {κ : KV} {ε : KX}
def rInS : R2 := fun x y H Q => ∃ i j, x = .str i ∧ y = .str j ∧ Q (.bl (!(Builtin.Str.occurrences j i 0 j.length 1).isEmpty)) H
def rNotInS : R2 := fun x y H Q => ∃ i j, x = .str i ∧ y = .str j ∧ Q (.bl (!(!(Builtin.Str.occurrences j i 0 j.length 1).isEmpty))) H
def rLtS : R2 := fun x y H Q => ∃ i j, x = .str i ∧ y = .str j ∧ Q (.bl (decide (i.cps.toList < j.cps.toList))) H
def rAddT : R2 := fun x y H Q => ∃ i j, x = .str i ∧ y = .str j ∧ i.length + j.length ≤ sizeLine ∧ Q (.str (i ++ j)) H
def rLenT : List V → Hp → VK → Prop := fun xs H Q => ∃ z, xs = [.str z] ∧ z.length ≤ sizeLine ∧ Q (.int z.length) H
theorem op_addT {X : Cx} : OpR X (binaryOp .Add) rAddT := op_add_str
def inS (i j : Str) : Bool := !(Builtin.Str.occurrences j i 0 j.length 1).isEmpty
theorem x_inS (ha : EvX Γ ta (rV (.str s))) (hb : EvX Γ tb (rV (.str z))) : EvX Γ (tOp rInS ta tb) (rB (inS s z)) := fun σ G en => Ev.d (ev_op2 (ha σ G en) (hb σ G en) fun x y H hx hy Q q => by
  obtain rfl : x = V.str s := hx
  obtain rfl : y = V.str z := hy
  exact ⟨s, z, rfl, rfl, q⟩)
theorem x_niS (ha : EvX Γ ta (rV (.str s))) (hb : EvX Γ tb (rV (.str z))) : EvX Γ (tOp rNotInS ta tb) (rB (!inS s z)) := fun σ G en => Ev.d (ev_op2 (ha σ G en) (hb σ G en) fun x y H hx hy Q q => by
  obtain rfl : x = V.str s := hx
  obtain rfl : y = V.str z := hy
  exact ⟨s, z, rfl, rfl, q⟩)
theorem x_ltS (ha : EvX Γ ta (rV (.str s))) (hb : EvX Γ tb (rV (.str z))) : EvX Γ (tOp rLtS ta tb) (rB (decide (s.cps.toList < z.cps.toList))) := fun σ G en => Ev.d (ev_op2 (ha σ G en) (hb σ G en) fun x y H hx hy Q q => by
  obtain rfl : x = V.str s := hx
  obtain rfl : y = V.str z := hy
  exact ⟨s, z, rfl, rfl, q⟩)
theorem x_addT (ha : EvX Γ ta (rV (.str s))) (hb : EvX Γ tb (rV (.str z))) (hl : s.length + z.length ≤ 100000) : EvX Γ (tOp rAddT ta tb) (rV (.str (s ++ z))) := fun σ G en => Ev.d (ev_op2 (ha σ G en) (hb σ G en) fun x y H hx hy Q q => by
  obtain rfl : x = V.str s := hx
  obtain rfl : y = V.str z := hy
  exact ⟨s, z, rfl, rfl, sz_of hl, q⟩)
theorem x_ixS (ha : EvX Γ ta (rV (.str s))) (hb : EvX Γ tb (nI n)) (hl : s.length ≤ 100000) (hc : s.cps.toList[n]? = some c) : EvX Γ (tOp rIxS ta tb) (rC c) := fun σ G en => Ev.d (ev_op2 (ha σ G en) (hb σ G en) fun x y H hx hy Q q => by
  obtain rfl : x = V.str s := hx
  obtain rfl : y = V.int (n : Int) := hy
  exact ⟨s, _, c, rfl, rfl, sz_of hl, atI_nat hc, q⟩)
theorem am_lenT (hl : s.length ≤ 100000) (k : κ (nI s.length) M) : AM rLenT [rV (.str s)] M κ := fun B G H vs o ra Q q => by
  obtain ⟨x, rfl, hx⟩ := ra1 ra
  obtain rfl : x = V.str s := hx
  exact ⟨s, rfl, sz_of hl, q _ G H _ M k o (Ex.refl _) rfl⟩
end
end Mu

namespace Mu
open PySem PySem.Spec PyProof.Rows L2 He Evl
section
variable {α : Type}
def valA (kvs : List (Key × α)) (k : Key) : Option α := (kvs.find? fun kv => decide (kv.1 = k)).map (·.2)
def putA (kvs : List (Key × α)) (k : Key) (v : α) : List (Key × α) := if (kvs.any fun kv => decide (kv.1 = k)) = true then kvs.map (fun kv => if kv.1 = k then (kv.1, v) else kv) else kvs ++ [(k, v)]
def dropA (kvs : List (Key × α)) (k : Key) : List (Key × α) := kvs.filter fun kv => decide (kv.1 ≠ k)
end
abbrev DkR (G : Hp) : List (Key × V) → List (Key × Rp) → Prop := Paired fun a b => a.1 = b.1 ∧ b.2.p a.2 G
section
variable {G G' : Hp} {ws : List (Key × V)} {kvs : List (Key × Rp)} {k : Key} {v : V} {r : Rp}
theorem DkR.mono (e : Ex G G') (h : DkR G ws kvs) : DkR G' ws kvs := Paired.mono (fun _ b z => ⟨z.1, b.2.mono e z.2⟩) h
theorem DkR.len (h : DkR G ws kvs) : ws.length = kvs.length := Paired.length h
theorem DkR.keys (h : DkR G ws kvs) : ws.map (·.1) = kvs.map (·.1) := by
  induction h with
  | nil => rfl
  | cons a t ih => rw [List.map_cons, List.map_cons, a.1, ih]
theorem DkR.val (h : DkR G ws kvs) (k : Key) : match valA kvs k with
    | some r => ∃ v, valV ws k = some v ∧ r.p v G
    | none => valV ws k = none := by
  induction h with
  | nil => rfl
  | @cons a b as bs ha t ih =>
    unfold valA valV at ih ⊢
    rw [List.find?_cons, List.find?_cons, ha.1]
    by_cases c : b.1 = k
    · rw [decide_eq_true c]
      exact ⟨a.2, rfl, ha.2⟩
    · rw [decide_eq_false c]
      exact ih
theorem DkR.any (h : DkR G ws kvs) (k : Key) : (ws.any fun kv => decide (kv.1 = k)) = kvs.any fun kv => decide (kv.1 = k) := by
  induction h with
  | nil => rfl
  | cons a t ih => rw [List.any_cons, List.any_cons, a.1, ih]
theorem DkR.repl (h : DkR G ws kvs) (hr : r.p v G) : DkR G (ws.map fun kv => if kv.1 = k then (kv.1, v) else kv) (kvs.map fun kv => if kv.1 = k then (kv.1, r) else kv) := by
  induction h with
  | nil => exact .nil
  | @cons a b as bs ha t ih =>
    refine .cons ?_ ih
    dsimp only
    rw [ha.1]
    by_cases c : b.1 = k
    · rw [if_pos c, if_pos c]; exact ⟨rfl, hr⟩
    · rw [if_neg c, if_neg c]; exact ha
theorem DkR.snoc (h : DkR G ws kvs) (hr : r.p v G) : DkR G (ws ++ [(k, v)]) (kvs ++ [(k, r)]) := by
  induction h with
  | nil => exact .cons ⟨rfl, hr⟩ .nil
  | cons a t ih => exact .cons a ih
theorem DkR.put (h : DkR G ws kvs) (hr : r.p v G) : DkR G (putK ws k v) (putA kvs k r) := by
  unfold putK putA
  rw [h.any k]
  split
  · exact h.repl hr
  · exact h.snoc hr
theorem DkR.drop (h : DkR G ws kvs) : DkR G (dropK ws k) (dropA kvs k) := by
  unfold dropK dropA
  induction h with
  | nil => exact .nil
  | @cons a b as bs ha t ih =>
    rw [List.filter_cons, List.filter_cons, ha.1]
    split
    · exact .cons ha ih
    · exact ih
end
def rD (z : Bool) (kvs : List (Key × Rp)) : Rp := ⟨fun v G => ∃ d ws, v = .ref d ∧ ((∃ o, G d = some (.frz o (.dK ws))) ∨ (z = false ∧ G d = some (.dK ws))) ∧ DkR G ws kvs, fun e ⟨d, ws, h1, h2, h3⟩ => ⟨d, ws, h1, h2.imp (fun ⟨o, q⟩ => ⟨o, e _ _ q⟩) (fun q => ⟨q.1, e _ _ q.2⟩), h3.mono e⟩⟩
def rDGet : R2 := fun x y H Q => ∃ a v, x = .ref a ∧ DGet H a y (some v) ∧ Q v H
def rDIn : R2 := fun y x H Q => ∃ a o, x = .ref a ∧ DGet H a y o ∧ Q (.bl o.isSome) H
def rDNotIn : R2 := fun y x H Q => ∃ a o, x = .ref a ∧ DGet H a y o ∧ Q (.bl (!o.isSome)) H
def rLenD : List V → Hp → VK → Prop := fun xs H Q => ∃ a kvs, xs = [V.ref a] ∧ Rd H a (.dK kvs) ∧ Q (.int kvs.length) H
section
variable {X : Cx} {o i : Expr} {pos : Pos} {td ty : TE}
end
section
variable {W : WX} {Γ : Ctx} {M : List Re} {te ta tb tv td : TE} {K : PySem.W.Frag} {n i j idx : Nat} {r : Rp} {κ : KV} {ε : KX} {kvs : List (Key × Rp)} {z : Bool} {k : Key} {p : Addr}
theorem rD_get {v : V} {G H : Hp} (h : (rD z kvs).p v G) (e : Ex G H) : ∃ d ws, v = .ref d ∧ Rd H d (.dK ws) ∧ DkR G ws kvs := by
  obtain ⟨d, ws, rfl, h2, h3⟩ := h
  refine ⟨d, ws, rfl, ?_, h3⟩
  rcases h2 with ⟨o, q⟩ | ⟨_, q⟩
  · exact .inr ⟨o, e _ _ q⟩
  · exact .inl (e _ _ q)
theorem om_dget (hv : valA kvs k = some r) (kk : κ r M) : OM rDGet (rD z kvs) (rV (kV k)) M κ := fun B G H x y o hx hy Q q => by
  obtain ⟨d, ws, rfl, h2, h3⟩ := rD_get hx o.i
  obtain rfl : y = kV k := hy
  have hh := h3.val k
  rw [hv] at hh
  obtain ⟨v, h4, h5⟩ := hh
  exact ⟨d, v, rfl, .inl ⟨ws, k, h2, rfl, h4.symm⟩, q v G H r M kk o (Ex.refl _) h5⟩
theorem DkR.isSome {G : Hp} {ws : List (Key × V)} (h : DkR G ws kvs) (k : Key) : (valV ws k).isSome = (valA kvs k).isSome := by
  have hh := h.val k
  cases e : valA kvs k with
  | none => rw [e] at hh; rw [hh]; rfl
  | some r => rw [e] at hh; obtain ⟨v, h4, _⟩ := hh; rw [h4]; rfl
theorem om_din (kk : κ (rB (valA kvs k).isSome) M) : OM rDIn (rV (kV k)) (rD z kvs) M κ := fun B G H y x o hy hx Q q => by
  obtain ⟨d, ws, rfl, h2, h3⟩ := rD_get hx o.i
  obtain rfl : y = kV k := hy
  exact ⟨d, _, rfl, .inl ⟨ws, k, h2, rfl, rfl⟩, q _ G H _ M kk o (Ex.refl _) (by rw [h3.isSome k]; rfl)⟩
theorem om_dni (kk : κ (rB (!(valA kvs k).isSome)) M) : OM rDNotIn (rV (kV k)) (rD z kvs) M κ := fun B G H y x o hy hx Q q => by
  obtain ⟨d, ws, rfl, h2, h3⟩ := rD_get hx o.i
  obtain rfl : y = kV k := hy
  exact ⟨d, _, rfl, .inl ⟨ws, k, h2, rfl, rfl⟩, q _ G H _ M kk o (Ex.refl _) (by rw [h3.isSome k]; rfl)⟩
theorem am_lenD (kk : κ (nI kvs.length) M) : AM rLenD [rD z kvs] M κ := fun B G H vs o ra Q q => by
  obtain ⟨x, rfl, hx⟩ := ra1 ra
  obtain ⟨d, ws, rfl, h2, h3⟩ := rD_get hx o.i
  exact ⟨d, ws, rfl, h2, q _ G H _ M kk o (Ex.refl _) (by rw [h3.len]; rfl)⟩
end
section
variable {B : Ba} {G H : Hp} {M : List Re} {W : WX} {Γ : Ctx} {t : TS} {κ : Kn} {kvs : List (Key × Rp)} {p : Addr} {i k : Nat} {od : Obj}
end
end Mu

namespace Mu
open PySem PySem.Spec PyProof.Rows L2 He Evl StX
section
variable {B : Ba} {G H G2 H2 : Hp} {M : List Re} {W : WX} {Γ Γ' Γ1 : Ctx} {te ta tb tl : TE} {t : TT} {K : PySem.W.Frag} {κ : KV} {ε : KX} {r r0 : Rp} {rs rs0 : List Rp} {i j k n : Nat} {p C : Addr} {fs : FL} {vs : List Nat} {cs : Addr → Bool}
end
section
variable {W : WX} {Γ : Ctx} {M : List Re} {t : TS} {κ : Kn} {p C d : Addr} {fs : FL} {kvs : List (Key × Rp)} {i k : Nat} {B : Ba} {G H : Hp}
end
section
variable {CX : CXT} {P : Program} {w : World} {K : PySem.W.Frag} {mg : Str → Option Value} {base : Heap} {k : Nat} {f : Addr} {name qual : Str} {params : Arguments} {body : List Stmt} {scope : Scope} {N ps : List Str} {sp : Sp} {fd : FuncData}
end
end Mu
theorem L2.Room.u1 {k : Nat} {A : PySem.Around} (r : L2.Room k A) : A.units + 1 < PySem.cLine := by have := r.un; omega

namespace Mu
open PySem PySem.Spec PyProof.Rows L2 He Evl
section
variable {W : WX} {Γ : Ctx} {M : List Re} {te ta tb tv td : TE} {K : PySem.W.Frag} {r : Rp} {κ : KV} {ε : KX} {kvs : List (Key × Rp)} {z : Bool} {s : Str} {p : Addr}
theorem om_dgetF (hv : valA kvs (.inr s) = some r) (kk : κ r M) : OM rDGet (rD z kvs) (rV (.str s)) M κ := om_dget (k := .inr s) hv kk
theorem om_dinF (kk : κ (rB (valA kvs (.inr s)).isSome) M) : OM rDIn (rV (.str s)) (rD z kvs) M κ := om_din (k := .inr s) kk
theorem om_dniF (kk : κ (rB (!(valA kvs (.inr s)).isSome)) M) : OM rDNotIn (rV (.str s)) (rD z kvs) M κ := om_dni (k := .inr s) kk
theorem IX.map {β γ : Type} {ti : TI} {l : List β} {f : β → γ} {ρ : γ → Rp} (h : IX Γ ti (l.map f) ρ) : IX Γ ti l (fun b => ρ (f b)) := fun σ G en H e R q => h σ G en H e R fun G1 H1 J g it => q G1 H1 J g ⟨fun i H hi ex => it.goes i H (by rw [List.length_map]; exact hi) ex, fun H ex => by
    have := it.stops H ex
    rw [List.length_map] at this
    exact this, fun i H x H' hi ex y => by
    obtain ⟨h1, h2⟩ := it.yld i H x H' (by rw [List.length_map]; exact hi) ex y
    exact ⟨h1, fun a ha => h2 (f a) (by rw [List.getElem?_map, ha]; rfl)⟩⟩
end
end Mu

namespace Mu
open PySem PySem.Spec PyProof.Rows L2 He Evl
def sL (l : List Nat) : Str := ⟨l.toArray⟩
abbrev rSt (l : List Nat) : Rp := rV (.str (sL l))
section
variable {l l' : List Nat} {n : Nat}
theorem sL_len : (sL l).length = l.length := by show l.toArray.size = _; simp
theorem sL_app : sL l ++ sL l' = sL (l ++ l') := by
  show (⟨l.toArray ++ l'.toArray⟩ : Str) = ⟨(l ++ l').toArray⟩
  simp
theorem cutS_to (h : n ≤ l.length) : cutS (sL l) none (some (n : Int)) = sL (l.take n) := by
  unfold cutS
  rw [HT.sIx_none, HT.sIx_nat, sL_len, Nat.min_eq_left h, List.drop_zero, Nat.sub_zero]
  rfl
theorem cutS_from (h : n ≤ l.length) : cutS (sL l) (some (n : Int)) none = sL (l.drop n) := by
  unfold cutS
  rw [HT.sIx_none, HT.sIx_nat, sL_len, Nat.min_eq_left h]
  show sL (((l.drop n)).take (l.length - n)) = _
  rw [List.take_of_length_le (by rw [List.length_drop]; omega)]
end
section
variable {W : WX} {Γ : Ctx} {M : List Re} {te tb : TE} {κ : KV} {ε : KX} {l l' : List Nat} {n : Nat} {r1 r2 : Rp}
theorem e_sSTo (hb : EvX Γ tb (nI n)) (h : EW W Γ M te (fun r M1 => ∃ l, r = rSt l ∧ n ≤ l.length ∧ l.length ≤ 100000 ∧ κ (rSt (l.take n)) M1) ε) : EW W Γ M (tSl rSlS te tNoPart (tPart tb)) κ ε := fun B G H σ o en Q q x =>
  h B G H σ o en _ (fun v G1 H1 r M1 h1 o1 e1 hv => by
    obtain ⟨l, rfl, h2, h3, kk⟩ := h1
    obtain rfl : v = V.str (sL l) := hv
    refine hb σ G1 (en.mono e1) H1 o1.i _ fun w G2 H2 g2 hw => ?_
    obtain rfl : w = V.int (n : Int) := hw
    refine ⟨_, rfl, sL l, rfl, sz_of (by rw [sL_len]; exact h3), ?_⟩
    rw [cutS_to h2]
    exact q _ G2 H2 _ M1 kk (o1.gr g2) (e1.trans g2.g) rfl) x
theorem e_sSFrom (hb : EvX Γ tb (nI n)) (h : EW W Γ M te (fun r M1 => ∃ l, r = rSt l ∧ n ≤ l.length ∧ l.length ≤ 100000 ∧ κ (rSt (l.drop n)) M1) ε) : EW W Γ M (tSl rSlS te (tPart tb) tNoPart) κ ε := fun B G H σ o en Q q x =>
  h B G H σ o en _ (fun v G1 H1 r M1 h1 o1 e1 hv => by
    obtain ⟨l, rfl, h2, h3, kk⟩ := h1
    obtain rfl : v = V.str (sL l) := hv
    refine hb σ G1 (en.mono e1) H1 o1.i _ fun w G2 H2 g2 hw => ?_
    obtain rfl : w = V.int (n : Int) := hw
    refine ⟨_, rfl, sL l, rfl, sz_of (by rw [sL_len]; exact h3), ?_⟩
    rw [cutS_from h2]
    exact q _ G2 H2 _ M1 kk (o1.gr g2) (e1.trans g2.g) rfl) x
theorem om_addL (hl : l.length + l'.length ≤ 100000) (k : κ (rSt (l ++ l')) M) : OM rAddT (rSt l) (rSt l') M κ := om (x_is (x_addT (x_v rfl) (x_v rfl) (by rw [sL_len, sL_len]; exact hl)) (by rw [sL_app])) k
theorem om_ixT {c : Nat} (hl : l.length ≤ 100000) (hc : l[n]? = some c) (k : κ (rC c) M) : OM rIxS (rSt l) (nI n) M κ := om (x_ixS (x_v rfl) (x_v rfl) (by rw [sL_len]; exact hl) hc) k
theorem am_lenL (hl : l.length ≤ 100000) (k : κ (nI l.length) M) : AM rLenT [rSt l] M κ := am_lenT (by rw [sL_len]; exact hl) (by rw [sL_len]; exact k)
end
section
variable {W : WX} {Γ : Ctx} {M : List Re} {tl : TE} {K : PySem.W.Frag} {j : Nat} {β α : Type} {l : List β} {ρ : β → Rp} {tu : TS} {κ : Kn} {B : Ba} {G1 H1 : Hp} {J : It} {σ : L2.St} {D : Ends}
end
end Mu

namespace Mu
open PySem PySem.Spec PyProof.Rows L2 He Evl
section
variable {Γ : Ctx} {te : TE} {t1 : TT} {j j1 : Nat} {vs vs1 : List Nat} {β γ : Type} {ti ti1 : TI} {l : List β} {ρ : β → Rp} {l1 : β → List γ} {ρ1 : β → γ → Rp} {f1 : β → γ → Bool} {rr : β → γ → Rp}
end
end Mu

namespace Mu
open PySem PySem.Spec PyProof.Rows L2 He Evl
structure NeD (K : PySem.W.Frag) (C : Addr) : Prop where
  ne : PySem.W.findIn K (.ref C) "__ne__" = some (some (.builtin "object.__ne__"))
  ob : PySem.W.subIn K (.ref C) (.type "object") = some true
theorem neB_ok {K : PySem.W.Frag} {C : Addr} (h : neB K C = true) : NeD K C := by
  obtain ⟨h1, h2⟩ := Bool.and_eq_true_iff.mp h
  exact ⟨of_decide_eq_true h1, of_decide_eq_true h2⟩
section
variable {prog : Program} {w : World} {A : Around} {E : Value → Shared → Prop} {s : Shared} {K : PySem.W.Frag} {x C f : Addr} {ox : Obj} {od : Option Obj} {name : Str} {b : Value}
theorem ifBound_B {M : Model} {B id : String} {args : List Value} {Q : Option Value → Shared → Prop} (X : K.In s.heap) (I : PySem.W.InstAt s.heap x ox C od) (hs : PySem.W.findIn K (.ref C) name = some (some (.builtin id))) (S : Slot B name id)
    (h : wpAny M A (call (.builtin id) (.ref x :: args)) (fun v => Q (some v)) E s) : wpAny M A (callSpecialIfBound? (.ref x) name args) Q E s := by
  simp only [callSpecialIfBound?, bindSpecialIfBound?]
  refine wpAny_holding (wpAny_bind (wpAny_bind (wpAny_bind (I.type.here ((PySem.W.looks_findIn X hs).here ?_)))))
  simp only [S.bind]
  refine wpAny_bind (wpAny_askSetting (wpAny_ite ?_))
  have fin : wpAny M A (call (.builtin id) ([.ref x] ++ args) >>= fun v => pure (some v)) Q E s := wpAny_bind (wpAny_mono h (fun v s' h' => wpAny_pure h') fun _ _ h' => h')
  split
  · exact wpAny_bind (wpAny_pure (wpAny_pure fin))
  · exact wpAny_tryCatch (wpAny_bind (wpAny_pure (wpAny_pure fin)))
theorem check_slot {M : Model} {id owner n : String} {rest : List Value} {Q : Unit → Shared → Prop} (X : K.In s.heap) (I : PySem.W.InstAt s.heap x ox C od) (hk : builtinKind id = some .slot) (hs : splitId id = some (owner, n))
    (ha : argsOk id ⟨.ref x :: rest, []⟩) (ho : PySem.W.subIn K (.ref C) (.type owner) = some true) (hq : Q () s) : wpAny M A (checkBuiltinCall id ⟨.ref x :: rest, []⟩) Q E s := by
  simp only [checkBuiltinCall, hk, hs]
  refine wpAny_bind ?_
  unfold isInstance
  refine wpAny_bind (I.type.here ((PySem.W.looks_subIn X ho).here ?_))
  repeat (first | wp_step)
  cases hsig : Manifest.signature? id with
  | none => exact wpAny_pure hq
  | some sig =>
    simp only [argsOk, hsig] at ha
    have h2 : Bind.checkArgs id sig ⟨.ref x :: rest, []⟩ = pure () := ha
    show wpAny M A (Bind.checkArgs id sig ⟨.ref x :: rest, []⟩) Q E _
    rw [h2]; exact wpAny_pure hq
theorem objNe_K (X : K.In s.heap) (I : PySem.W.InstAt s.heap x ox C od) (d : Dun K C "__eq__" f) (hu : A.units < cLine) {Q : Fin → Shared → Prop}
    (hcall : wpAny (model prog w) A (call (.ref f) [.ref x, b]) (fun v s' => ∃ c, v = .bool c ∧ Q (.done (.ret (.bool (!c)))) s') E s) :
    wpAny (model prog w) A (Builtin.«object.__ne__» ⟨[.ref x, b], []⟩) Q E s := by
  unfold Builtin.«object.__ne__»
  repeat (first
    | with_reducible refine wpAny_cRoomFor hu ?_
    | (refine wpAny_bind (m := callSpecialIfBound? (.ref x) (Str.ofString "__eq__") [b])
        (PySem.W.ifBound_K X I d.at_ d.fn (wpAny_mono hcall (fun r s' hr => by
          obtain ⟨c, rfl, hq⟩ := hr
          repeat (first | exact hq | exact wpAny_pure hq | exact wpAny_truthy_bool hq | (refine wpAny_bind (m := truthy (.bool _)) (wpAny_truthy_bool ?_)) | wp_step)) fun _ _ e => e)))
    | wp_step)
theorem tryNe_K (X : K.In s.heap) (I : PySem.W.InstAt s.heap x ox C od) (N : NeD K C) (d : Dun K C "__eq__" f) (hu : A.units + 1 < cLine) {Q : Option Value → Shared → Prop}
    (hcall : wpAny (model prog w) A.in1 (call (.ref f) [.ref x, b]) (fun v s' => ∃ c, v = .bool c ∧ Q (some (.bool (!c))) s') E s) :
    wpAny (model prog w) A (tryCompare (.ref x) "__ne__" b) Q E s := by
  simp only [tryCompare]
  refine wpAny_bind (ifBound_B X I N.ne PySem.F.cmp_object.ne (wpAny_call (codeAny_call_builtin PySem.F.cmp_object.ne.plain PySem.F.cmpEntry_ne
    (check_slot (A := A.in1) X I PySem.F.cmpKind_ne PySem.F.cmpSplit_ne (PySem.F.cmpArgs_ne _ _) N.ob
      (objNe_K (A := A.in1) X I d hu (wpAny_mono hcall (fun v s' hv => ?_) fun _ _ e => e))))))
  obtain ⟨c, rfl, hq⟩ := hv
  first | exact ⟨c, rfl, wpAny_pure hq⟩ | exact ⟨c, rfl, wpAny_pure (wpAny_pure hq)⟩ | exact ⟨c, rfl, hq⟩
theorem ne_K (X : K.In s.heap) (I : PySem.W.InstAt s.heap x ox C od) {y : Addr} (hb : PySem.W.Looks (model prog w) s.heap (typeOf (.ref y)) (.ref C)) (N : NeD K C) (d : Dun K C "__eq__" f) (hu : A.units + 1 < cLine) {Q : Value → Shared → Prop}
    (hcall : wpAny (model prog w) A.in1 (call (.ref f) [.ref x, .ref y]) (fun v s' => ∃ c, v = .bool c ∧ Q (.bool (!c)) s') E s) :
    wpAny (model prog w) A (richCompare .NotEq (.ref x) (.ref y)) Q E s := by
  unfold richCompare
  simp only [oneThing_ref]
  refine wpAny_holding (wpAny_bind (wpAny_cRoomFor (Nat.lt_of_succ_lt hu) ?_))
  rw [cmpInfo_NotEq]
  dsimp only
  refine wpAny_bind (I.type.here (wpAny_bind (hb.here ?_)))
  rw [show (Value.ref C != Value.ref C) = false from by simp]
  simp only [Bool.false_eq_true, if_false]
  try refine wpAny_bind (wpAny_pure ?_)
  simp only [Bool.false_eq_true, if_false]
  refine wpAny_bind (tryNe_K X I N d hu (wpAny_mono hcall (fun v s' hv => ?_) fun _ _ e => e))
  obtain ⟨c, rfl, hq⟩ := hv
  first | exact ⟨c, rfl, wpAny_pure hq⟩ | exact ⟨c, rfl, wpAny_pure (wpAny_pure hq)⟩
end
section
variable {X : Cx} {CX : CXT} {k : Nat} {f C : Addr} {fd : FuncData} {ps : List Str} {sp : Sp} {E : XK}
def rOwnNe (C : Addr) (sp : Sp) (E : XK) : R2 := fun x y H Q => ∃ a b dx fs dy gs, x = .ref a ∧ y = .ref b ∧ H a = some (.ins C dx fs) ∧ H b = some (.ins C dy gs) ∧ sp [.ref a, .ref b] H (fun v H' => ∃ c, v = .bl c ∧ Q (.bl (!c)) H') E
theorem ne_own (N : NeD X.K C) (d : Dun X.K C "__eq__" f) (F : FnOk X.prog X.w X.K X.mg X.base CX k f fd ps sp) (hr : Room (k + 1) X.A) (hb : Binds X.K fd ps []) (hx : Passes CX X E) : OpR X (compareOp .NotEq) (rOwnNe C sp E) := by
  intro pins s σ H x y u v Q I rx ry h
  obtain ⟨a, b, dx, fs, dy, gs, rfl, rfl, ha, hb', q⟩ := h
  cases rx
  cases ry
  obtain ⟨mA, J, _⟩ := ins_get I.hok ha
  obtain ⟨mB, J', _⟩ := ins_get I.hok hb'
  obtain ⟨od, J, _⟩ := J.look
  obtain ⟨od', J', _⟩ := J'.look
  obtain ⟨m0, hF⟩ := I.fr
  have kin := I.ok.mod.kin.keeps hF.keep
  show wpAny _ _ (richCompare .NotEq (.ref a) (.ref b)) _ _ _
  refine ne_K kin J J'.type N d hr.u1 ?_
  refine wpAny_mono (run_fnA (A := X.A.in1) (vs := [.ref a, .ref b]) rfl F hr.in1 hb hx I (.cons rfl (.cons rfl .nil)) q) (fun z s' h => ?_) (fun _ _ z => z)
  obtain ⟨zv, H', I', rz, c, rfl, q'⟩ := h
  cases (show z = Value.bool c from rz)
  exact ⟨c, rfl, .bl (!c), H', I', rfl, q'⟩
theorem x_tne {K : PySem.W.Frag} {Γ : Ctx} {ta tb : TE} {m m' : List Nat} {c : Bool} (ha : EvX Γ ta (rTab K C m)) (hb : EvX Γ tb (rTab K C m')) (hs : ∀ x y G, (rTab K C m).p x G → (rTab K C m').p y G → SpD sp [x, y] G (rB c)) : EvX Γ (tOp (rOwnNe C sp E) ta tb) (rB (!c)) := fun σ G en =>
  ed_op (ha σ G en) (hb σ G en) fun x y G2 H e1 e2 hx hy Q q => by
    obtain ⟨a, dx, t, c', rfl, h2, _⟩ := id hx
    obtain ⟨a', dx', t', c'', rfl, h2', _⟩ := id hy
    refine ⟨a, a', dx, _, dx', _, rfl, rfl, e2 _ _ h2, e2 _ _ h2', hs _ _ G2 hx hy H e2 _ (fun v G3 H3 g hv => ?_) E⟩
    obtain rfl : v = V.bl c := hv
    exact ⟨c, rfl, q (.bl (!c)) G3 H3 g rfl⟩
end
section
variable {K : PySem.W.Frag} {Γ : Ctx} {te : TE} {s : Str}
theorem x_isIntS (h : EvX Γ te (rV (.str s))) : EvX Γ (tCB (rIsi K) (tCons te (tCons (tC (.ty "int")) tNil))) (rB false) := fun σ G en => Ev.d (ev_isi (h σ G en) (.ty _) fun v H hv => ⟨_, by obtain rfl : v = V.str s := hv; exact .base (.str s), kit_ty (by decide +kernel)⟩)
theorem x_isStrS (h : EvX Γ te (rV (.str s))) : EvX Γ (tCB (rIsi K) (tCons te (tCons (tC (.ty "str")) tNil))) (rB true) := fun σ G en => Ev.d (ev_isi (h σ G en) (.ty _) fun v H hv => ⟨_, by obtain rfl : v = V.str s := hv; exact .base (.str s), kit_same⟩)
end
end Mu

namespace Mu
open PySem PySem.Spec PyProof.Rows L2 He Evl
abbrev Cl := Value × (Addr → Value → Option Addr → TS)
section
variable {X : Cx} {n : Str} {i : Nat} {body : List Stmt} {h0 : ExceptHandler} {hds : List ExceptHandler} {l : List Cl} {pos : Pos} {tb : WX → TS} {Wo : WX}
end
section
variable {W : WX} {Γ : Ctx} {M : List Re} {K : PySem.W.Frag} {i : Nat} {tb : WX → TS} {κ : Kn}
end
end Mu

namespace Mu
open PySem PySem.Spec PyProof.Rows L2 He Evl
def rListK : List V → Hp → VK → Prop := fun xs H Q => ∃ p kvs, xs = [.ref p] ∧ Rd H p (.dK kvs) ∧ ∀ q, H q = none → Q (.ref q) (upd H q (.lst (kvs.map fun kv => kV kv.1)))
theorem ra_ltr {G : Hp} : ∀ l : List Nat, RA G (l.map fun c => V.str (ltr c)) (l.map rC)
  | [] => .nil
  | _ :: l => .cons rfl (ra_ltr l)
section
variable {W : WX} {Γ : Ctx} {M : List Re} {ta tb : TE} {K : PySem.W.Frag} {κ : KV} {kvs : List (Key × Rp)} {z : Bool} {l : List Nat}
theorem am_listK (hk : kvs.map (·.1) = l.map fun c => (Sum.inr (ltr c) : Key)) (kk : κ (rL K (l.map rC)) M) : AM rListK [rD z kvs] M κ := fun B G H vs o ra Q q => by
  obtain ⟨x, rfl, hx⟩ := ra1 ra
  obtain ⟨d, ws, rfl, h2, h3⟩ := rD_get hx o.i
  refine ⟨d, ws, rfl, h2, fun p hp => ?_⟩
  have e : (ws.map fun kv => kV kv.1) = l.map fun c => V.str (ltr c) := by
    rw [show (ws.map fun kv => kV kv.1) = (ws.map (·.1)).map kV by rw [List.map_map]; rfl, h3.keys, hk, List.map_map]; rfl
  rw [e]
  have g := Gr.new (o := .lst (l.map fun c => V.str (ltr c))) o.i hp
  refine q _ _ _ (rL K (l.map rC)) M kk (o.gr g) g.g ⟨p, _, rfl, upd_same, ?_⟩
  exact ra_ltr _
end
theorem EW.drop {W : WX} {Γ : Ctx} {M : List Re} {te : TE} {κ : KV} {ε : KX} (k : Nat) (h : EW W Γ M te (fun r M' => κ r (M'.eraseIdx k)) ε) : EW W Γ M te κ ε := fun B G H σ o en Q q x => h B G H σ o en Q (fun v G' H' r M' z o' e hv => q v G' H' r (M'.eraseIdx k) z o'.drop e hv) x
section
variable {Γ : Ctx} {ta tb : TE} {K : PySem.W.Frag}
end
end Mu

namespace Mu
open PySem PySem.Spec PyProof.Rows L2 He Evl
section
variable {X : Cx} {CX : CXT} {k : Nat} {f C : Addr} {fd : FuncData} {ps : List Str} {sp : Sp} {E : L2.St → XK} {a b e fe : Expr} {es : List Expr} {ta tb tf : TE} {t : TA} {pos : Pos}
end
section
variable {W : WX} {Γ : Ctx} {M : List Re} {te tb : TE} {ta : TA} {C : Addr} {sp : Sp} {κ : KV} {ε : KX}
def InsC (C : Addr) (r : Rp) : Prop := ∀ v G, r.p v G → ∃ a dx fs, v = .ref a ∧ G a = some (.ins C dx fs)
theorem insC_tab {K : PySem.W.Frag} {m : List Nat} : InsC C (rTab K C m) := fun v G hv => by
  obtain ⟨a, dx, t, c, rfl, h2, _⟩ := hv
  exact ⟨a, dx, _, rfl, h2⟩
end
end Mu

namespace Mu
open PySem PySem.Spec PyProof.Rows L2 He Evl
section
variable {W : WX} {Γ : Ctx} {M : List Re} {te : TE} {ti : TI} {K : PySem.W.Frag} {κ : KV} {ε : KX} {i0 j : Nat} {vs : List Nat} {β : Type} {l : List β} {ρ : β → Rp} {p : Addr}
end
end Mu

namespace Mu
open PySem PySem.Spec PyProof.Rows L2 Evl
section
variable {X : Cx} {CX : CXT} {k : Nat} {f C : Addr} {fd : FuncData} {ps : List Str} {sp : Sp} {o i : Expr} {to ti : TE} {pos : Pos}
end
section
variable {W : WX} {Γ : Ctx} {M : List Re} {κ : Kn} {C p : Addr} {sp : Sp} {j : Nat} {tv ti : TE}
end
theorem ra_app {G : Hp} : ∀ {vs ws : List V} {rs ss : List Rp}, RA G vs rs → RA G ws ss → RA G (vs ++ ws) (rs ++ ss)
  | _, _, _, _, .nil, h => h
  | _, _, _, _, .cons a b, h => .cons a (ra_app b h)
section
variable {W : WX} {Γ : Ctx} {M : List Re} {κ : KV} {ε : KX} {sp : Sp} {ta : TA}
theorem e_callD {v : V} {E : XK} (h : EA W Γ M ta (fun rs M1 => CM sp (rs ++ [rV v]) M1 κ) ε) : EW W Γ M (tCall sp [v] E ta) κ ε := fun B G H σ o en Q q x =>
  h B G H σ o en _ (fun vs G1 H1 rs M1 k1 o1 e1 ra => k1 E B G1 H1 _ o1 (ra_app ra (.cons rfl .nil)) Q (q.up e1)) x
theorem e_callD0 {E : XK} (h : EA W Γ M ta (fun rs M1 => CM sp (rs ++ [nI 0]) M1 κ) ε) : EW W Γ M (tCall sp [.int 0] E ta) κ ε := e_callD h
end
theorem tab_is {K : PySem.W.Frag} {C : Addr} {m : List Nat} : ∀ v G, (rTab K C m).p v G → ∃ a dx ws, v = .ref a ∧ G a = some (.ins C dx ws) := fun v G h => by
  obtain ⟨a, dx, t, c, rfl, h2, _⟩ := h
  exact ⟨a, dx, _, rfl, h2⟩
theorem x_niTn {K : PySem.W.Frag} {Γ : Ctx} {ta tb : TE} {n : Nat} {l : List Nat} (ha : EvX Γ ta (nI n)) (hb : EvX Γ tb (rTn K l)) : EvX Γ (tOp (rIn K true) ta tb) (rB (!decide (n ∈ l))) :=
  x_is (x_inTi (l := l.map fun k => ((k : Nat) : Int)) true ha (x_is hb (by unfold rTn; rw [List.map_map]; rfl))) (by
    show rB (!decide (((n : Nat) : Int) ∈ l.map fun k => ((k : Nat) : Int))) = _
    congr 2
    rw [decide_eq_decide, List.mem_map]
    exact ⟨fun ⟨a, h, e⟩ => by rw [← Int.ofNat_inj.mp e]; exact h, fun h => ⟨n, h, rfl⟩⟩)
section
variable {W : WX} {Γ : Ctx} {M : List Re} {κ : KV} {ε : KX} {ta tb : TE}
end
end Mu

namespace Mu
open PySem PySem.Spec PyProof.Rows L2 Evl
section
variable {X : Cx} {CX : CXT} {k : Nat} {f C : Addr} {fd : FuncData} {ps : List Str} {sp : Sp} {E : XK}
def rOwnLen (C : Addr) (sp : Sp) (E : XK) : List V → Hp → VK → Prop := fun xs H Q => ∃ a dx fs, xs = [.ref a] ∧ H a = some (.ins C dx fs) ∧ sp [.ref a] H (fun v H' => ∃ n : Nat, v = .int n ∧ n < 2 ^ 62 ∧ Q (.int n) H') E
theorem call_lenOwn (d : Dun X.K C "__len__" f) (F : FnOk X.prog X.w X.K X.mg X.base CX k f fd ps sp) (hr : Room (k + 1) X.A) (hb : Binds X.K fd ps []) (hx : Passes CX X E) : CallR X (.builtin "len") (rOwnLen C sp E) := by
  intro pins s σ H xs us Q I r h
  obtain ⟨a, dx, fs, rfl, ha, q⟩ := h
  obtain ⟨u, rfl, ru⟩ := vals1 r
  cases ru
  obtain ⟨mA, J, _⟩ := ins_get I.hok ha
  obtain ⟨od, J, _⟩ := J.look
  obtain ⟨m0, hF⟩ := I.fr
  refine PySem.W.len_K hF I.ok.mod.kin J d.at_ d.fn (wpAny_mono (run_fnA (A := X.A.in1) (vs := [.ref a]) rfl F hr.in1 hb hx I (.cons rfl .nil) q) (fun w s' h => ?_) (fun _ _ z => z))
  obtain ⟨z, H', I', rz, n, rfl, hn, q'⟩ := h
  obtain ⟨t, rfl⟩ := rz
  refine ⟨⟨by omega, by omega⟩, .int n, H', I'.tok _, ⟨_, rfl⟩, q'⟩
end
section
variable {W : WX} {Γ : Ctx} {M : List Re} {κ : KV} {ε : KX} {sp : Sp} {C : Addr} {r0 : Rp}
theorem am_lenI {E : XK} {n : Nat} (hi : InsC C r0) (hn : n < 2 ^ 62) (h : CM sp [r0] M (fun r M' => r = nI n ∧ κ (nI n) M')) : AM (rOwnLen C sp E) [r0] M κ := fun B G H vs o ra Q q => by
  obtain ⟨x, rfl, hx⟩ := ra1 ra
  obtain ⟨a, dx, fs, rfl, h3⟩ := hi _ _ hx
  refine ⟨a, dx, fs, rfl, o.i _ _ h3, h E B G H _ o ra _ fun v G' H' r M' z o' e hv => ?_⟩
  obtain ⟨rfl, k⟩ := z
  obtain rfl : v = V.int (n : Int) := hv
  exact ⟨n, rfl, hn, q _ G' H' _ M' k o' e rfl⟩
end
end Mu

namespace Mu
open PySem PySem.Spec PyProof.Rows L2 He Evl
section
variable {B : Ba} {G H : Hp} {M : List Re} {W : WX} {Γ : Ctx} {t tu : TS} {κ : Kn} {κv : KV} {kvs : List (Key × Rp)} {ws : List (Key × V)} {p : Addr} {i j k : Nat} {od : Obj} {r : Rp} {α : Type}
end
end Mu

namespace Mu
open PySem PySem.Spec PyProof.Rows L2 He Evl
section
variable {W : WX} {Γ : Ctx} {M : List Re} {κ : KV} {ε : KX} {K : PySem.W.Frag} {rs : List Rp} {r : Rp} {ta tb td tx : TE} {p : Addr} {kvs : List (Key × Rp)}
end
end Mu

namespace Mu
open PySem PySem.Spec PyProof.Rows L2 He Evl
def CValI (K : PySem.W.Frag) (C : Addr) (f : Str) (i : Int) : Prop := ∃ u, ClX.CVal K C (.type "type") f (.int i) u
theorem e_cval {W : WX} {Γ : Ctx} {M : List Re} {κ : KV} {ε : KX} {K : PySem.W.Frag} {C : Addr} {f : Str} {i : Int} (r : ClX.CRead K C (.type "type")) (c : CValI K C f i) (k : κ (rI i) M) : EW W Γ M (ClX.tCVal K (tC (.ref C)) f) κ ε := fun B G H σ o en Q q x => by
  obtain ⟨u, c⟩ := c
  exact ⟨C, _, _, u, rfl, r, c, q _ G H _ M k o (Ex.refl _) rfl⟩
def tCM (dv : List V) (sp : Sp) (E : L2.St → XK) (t : TA) : TE := fun σ H Q => t σ H fun vs H2 => sp (dv ++ vs) H2 Q (E σ)
section
variable {X : Cx} {CX : CXT} {k : Nat} {C g f : Addr} {fd : FuncData} {ps : List Str} {sp : Sp} {E : L2.St → XK} {x m : Str} {e : Expr} {es : List Expr} {p pos apos : Pos} {t : TA} {pl : Sem Bool} {i : Nat}
def tMakeV (i : Nat) (C : Addr) (t : TE) : TE := fun σ H Q => σ[i]? = some (some (.ref C)) ∧ t σ H Q
end
section
variable {W : WX} {Γ : Ctx} {M : List Re} {κ : KV} {ε : KX} {i : Nat} {C : Addr} {t : TE}
theorem e_makeV (hi : Γ[i]? = some (some (rV (.ref C)))) (h : EW W Γ M t κ ε) : EW W Γ M (tMakeV i C t) κ ε := fun B G H σ o en Q q x => by
  obtain ⟨u, hu1, hu2⟩ := en.get hi
  obtain rfl : u = V.ref C := hu2
  exact ⟨hu1, h B G H σ o en Q q x⟩
end
section
variable {W : WX} {Γ : Ctx} {M : List Re} {κ : KV} {ε : KX} {C : Addr} {sp : Sp} {ta : TA}
theorem e_cm {E : L2.St → XK} (h : EA W Γ M ta (fun rs M1 => CM sp (rV (.ref C) :: rs) M1 κ) ε) : EW W Γ M (tCM [.ref C] sp E ta) κ ε := fun B G H σ o en Q q x =>
  h B G H σ o en _ (fun vs G1 H1 rs M1 h1 o1 e1 ra => h1 (E σ) B G1 H1 (.ref C :: vs) o1 (.cons rfl ra) Q (q.up e1)) x
theorem e_cmS (h : EA W Γ M ta (fun rs M1 => XM sp (rV (.ref C) :: rs) M1 κ ε) ε) : EW W Γ M (tCM [.ref C] sp (WE W) ta) κ ε := fun B G H σ o en Q q x =>
  h B G H σ o en _ (fun vs G1 H1 rs M1 h1 o1 e1 ra => h1 B G1 H1 (.ref C :: vs) W σ o1 (.cons rfl ra) Q (q.up e1) (x.up e1)) x
theorem e_sm {E : L2.St → XK} (h : EA W Γ M ta (fun rs M1 => CM sp rs M1 κ) ε) : EW W Γ M (tCM [] sp E ta) κ ε := fun B G H σ o en Q q x =>
  h B G H σ o en _ (fun vs G1 H1 rs M1 h1 o1 e1 ra => h1 (E σ) B G1 H1 vs o1 ra Q (q.up e1)) x
theorem e_smS (h : EA W Γ M ta (fun rs M1 => XM sp rs M1 κ ε) ε) : EW W Γ M (tCM [] sp (WE W) ta) κ ε := fun B G H σ o en Q q x =>
  h B G H σ o en _ (fun vs G1 H1 rs M1 h1 o1 e1 ra => h1 B G1 H1 vs W σ o1 ra Q (q.up e1) (x.up e1)) x
end
section
variable {CX : CXT} {P : Program} {w : World} {K : PySem.W.Frag} {mg : Str → Option Value} {base : Heap} {k : Nat} {f : Addr}
end
section
variable {W : WX} {Γ : Ctx} {M : List Re} {te : TE} {t : TT} {K : PySem.W.Frag} {C : Addr} {m : List Nat} {ti : TI} {α β : Type} {l : List β} {j1 j2 : Nat} {tu : TS} {κ : Kn}
end
end Mu

namespace Mu
open PySem PySem.Spec PyProof.Rows L2 He Evl
section
variable {W : WX} {Γ : Ctx} {M : List Re} {κ : KV} {ε : KX} {K : PySem.W.Frag} {te ta tb : TE}
theorem x_mulN {m n : Nat} (ha : EvX Γ ta (nI m)) (hb : EvX Γ tb (nI n)) (h : m < 2 ^ 64 ∨ n < 2 ^ 64) : EvX Γ (tOp (L2.rI CMul fun i j => .int (i * j)) ta tb) (nI (m * n)) := x_is (x_I ha hb (by
  rcases h with h | h
  · exact .inl ⟨by omega, by omega⟩
  · exact .inr ⟨by omega, by omega⟩)) (by show rI _ = rI _; congr 1)
theorem x_divN {m n : Nat} (ha : EvX Γ ta (nI m)) (hb : EvX Γ tb (nI n)) (h : 0 < n) (h2 : n < 1073741824) : EvX Γ (tOp (L2.rI CDiv fun i j => .int (i / j)) ta tb) (nI (m / n)) := x_is (x_I ha hb ⟨by omega, by omega⟩) (by show rI _ = rI _; congr 1)
end
end Mu

namespace Mu
open PySem PySem.Spec PyProof.Rows L2 He Evl StX
section
variable {CX : CXT} {P : Program} {w : World} {K : PySem.W.Frag} {mg : Str → Option Value} {base : Heap} {k : Nat} {f : Addr} {sp : Sp} {fd : FuncData}
end
section
variable {X : Cx} {CX : CXT} {k : Nat} {f : Addr} {sp : Sp} {E : L2.St → XK} {x kn : Str} {p pos kp : Pos} {e ek : Expr} {es : List Expr} {t : TA} {te : TE}
end
section
variable {W : WX} {Γ : Ctx} {M : List Re} {κ : KV} {ε : KX} {K : PySem.W.Frag} {sp : Sp} {ta : TA} {te : TE}
end
end Mu

namespace Mu
open PySem PySem.Spec PyProof.Rows L2 He Evl StX
section
variable {M : List Re} {cs : Addr → Bool} {p : Addr} {od : Obj} {ws : List (Key × V)} {kvs : List (Key × Rp)} {k : Nat}
end
section
variable {W : WX} {Γ : Ctx} {M : List Re} {κ : KV} {ε : KX} {K : PySem.W.Frag} {rs : List Rp} {r : Rp} {ta tb td tx : TE} {p : Addr} {kvs : List (Key × Rp)} {z : Bool}
end
section
variable {α : Type} {ρ : α → Rp} {cl : List (Nat × α)} {n m : Nat} {a : α}
end
section
variable {W : WX} {Γ : Ctx} {M : List Re} {κ : KV} {ε : KX} {ta : TA} {C : Addr} {R : List V → Hp → List Re → KV → KX → Prop}
end
theorem ix_R2 {Γ : Ctx} {ta tb : TE} {i0 j0 : Int} {n : Nat} (ha : EvX Γ ta (rI i0)) (hb : EvX Γ tb (rI j0)) (hi : -1000000 ≤ i0 ∧ i0 ≤ 1000000) (hn : j0 = i0 + n) (hn2 : n ≤ 100000) : IX Γ (iRng2 (tCons ta (tCons tb tNil))) (List.range n) (fun k => rI (i0 + (k : Int))) := fun σ G en H e R q => ha σ G en H e _ fun v G1 H1 g1 hv => hb σ G1 (en.mono g1.g) H1 g1.i _ fun v2 G2 H2 g2 hv2 => by
  obtain rfl : v = V.int i0 := hv
  obtain rfl : v2 = V.int j0 := hv2
  have e0 : (j0 - i0).toNat = n := by omega
  refine ⟨i0, j0, rfl, by omega, q G2 H2 _ (g1.trans g2) ⟨fun i H' hi ex => ?_, fun H' ex => ?_, fun i H' x H'' hi ex y => ?_⟩⟩
  · show i < (j0 - i0).toNat
    rw [List.length_range] at hi
    omega
  · show (j0 - i0).toNat ≤ (List.range n).length
    rw [List.length_range]
    omega
  · obtain ⟨y1, y2⟩ := y
    refine ⟨y1, fun b hb => ?_⟩
    rw [List.length_range] at hi
    rw [List.getElem?_range hi] at hb
    cases hb
    exact y2
section
variable {M : List Re} {κ : KV} {K : PySem.W.Frag} {p p2 : Addr} {kvs : List (Key × Rp)}
end
section
variable {B : Ba} {G H : Hp} {M : List Re} {R R' : Re} {k : Nat} {W : WX} {Γ : Ctx} {t : TS} {κ : Kn}
end
section
variable {W : WX} {Γ : Ctx} {M : List Re} {κ : KV} {ε : KX} {K : PySem.W.Frag} {tl te : TE} {t : TT} {j : Nat} {vs : List Nat} {α : Type}
end
section
variable {Γ : Ctx} {M : List Re} {W : WX} {κ : Kn} {K : PySem.W.Frag} {te ta tb : TE} {α : Type} [DecidableEq α] {ρ : α → Rp} {δ : α → PyData} {k j1 j2 j3 j4 j5 : Nat} {p : α} {l : List α} {r1 r2 r3 r4 r5 : Rp}
end
section
variable {W : WX} {Γ : Ctx} {M : List Re} {te : TE} {i : Nat} {p : Addr}
end
end Mu

namespace Mu
open PySem PySem.Spec PyProof.Rows L2 He Evl
section
variable {α : Type}
def valT (kvs : List (List Key × α)) (k : List Key) : Option α := (kvs.find? fun kv => decide (kv.1 = k)).map (·.2)
def putT (kvs : List (List Key × α)) (k : List Key) (v : α) : List (List Key × α) := if (kvs.any fun kv => decide (kv.1 = k)) = true then kvs.map (fun kv => if kv.1 = k then (kv.1, v) else kv) else kvs ++ [(k, v)]
end
abbrev DtR (G : Hp) : List (List Key × V) → List (List Key × Rp) → Prop := Paired fun a b => a.1 = b.1 ∧ b.2.p a.2 G
section
variable {G G' : Hp} {ws : List (List Key × V)} {kvs : List (List Key × Rp)} {k : List Key} {v : V} {r : Rp}
theorem DtR.mono (e : Ex G G') (h : DtR G ws kvs) : DtR G' ws kvs := Paired.mono (fun _ b z => ⟨z.1, b.2.mono e z.2⟩) h
theorem DtR.len (h : DtR G ws kvs) : ws.length = kvs.length := Paired.length h
theorem DtR.keys (h : DtR G ws kvs) : ws.map (·.1) = kvs.map (·.1) := by
  induction h with
  | nil => rfl
  | cons a t ih => rw [List.map_cons, List.map_cons, a.1, ih]
theorem DtR.val (h : DtR G ws kvs) (k : List Key) : match valT kvs k with
    | some r => ∃ v, valV ws k = some v ∧ r.p v G
    | none => valV ws k = none := by
  induction h with
  | nil => rfl
  | @cons a b as bs ha t ih =>
    unfold valT valV at ih ⊢
    rw [List.find?_cons, List.find?_cons, ha.1]
    by_cases c : b.1 = k
    · rw [decide_eq_true c]
      exact ⟨a.2, rfl, ha.2⟩
    · rw [decide_eq_false c]
      exact ih
theorem DtR.any (h : DtR G ws kvs) (k : List Key) : (ws.any fun kv => decide (kv.1 = k)) = kvs.any fun kv => decide (kv.1 = k) := by
  induction h with
  | nil => rfl
  | cons a t ih => rw [List.any_cons, List.any_cons, a.1, ih]
theorem DtR.repl (h : DtR G ws kvs) (hr : r.p v G) : DtR G (ws.map fun kv => if kv.1 = k then (kv.1, v) else kv) (kvs.map fun kv => if kv.1 = k then (kv.1, r) else kv) := by
  induction h with
  | nil => exact .nil
  | @cons a b as bs ha t ih =>
    refine .cons ?_ ih
    dsimp only
    rw [ha.1]
    by_cases c : b.1 = k
    · rw [if_pos c, if_pos c]; exact ⟨rfl, hr⟩
    · rw [if_neg c, if_neg c]; exact ha
theorem DtR.snoc (h : DtR G ws kvs) (hr : r.p v G) : DtR G (ws ++ [(k, v)]) (kvs ++ [(k, r)]) := by
  induction h with
  | nil => exact .cons ⟨rfl, hr⟩ .nil
  | cons a t ih => exact .cons a ih
theorem DtR.put (h : DtR G ws kvs) (hr : r.p v G) : DtR G (putK ws k v) (putT kvs k r) := by
  unfold putK putT
  rw [h.any k]
  split
  · exact h.repl hr
  · exact h.snoc hr
theorem DtR.isSome (h : DtR G ws kvs) (k : List Key) : (valV ws k).isSome = (valT kvs k).isSome := by
  have hh := h.val k
  cases e : valT kvs k with
  | none => rw [e] at hh; rw [hh]; rfl
  | some r => rw [e] at hh; obtain ⟨v, h4, _⟩ := hh; rw [h4]; rfl
end
def rK (k : List Key) : Rp := ⟨fun v G => ∃ a, v = .ref a ∧ G a = some (.tup (k.map kV)), fun e ⟨a, h1, h2⟩ => ⟨a, h1, e _ _ h2⟩⟩
section
variable {W : WX} {Γ : Ctx} {M : List Re} {te ta tb tv td : TE} {K : PySem.W.Frag} {n i j idx : Nat} {r : Rp} {κ : KV} {ε : KX} {kvs : List (List Key × Rp)} {z : Bool} {k : List Key} {p : Addr}
end
end Mu

namespace Mu
open PySem PySem.Spec PyProof.Rows L2 He Evl
def rStrD (K : PySem.W.Frag) : List V → Hp → VK → Prop := fun xs H Q => ∃ (a : Addr) (d : PyData), xs = [.ref a] ∧ Dp K H (.ref a) d ∧ d.showable = true ∧ d.hasDict = false ∧ d.depth ≤ 60 ∧ d.shown.length ≤ sizeLine ∧ Q (.str d.shown) H
theorem call_strD {X : Cx} {K : PySem.W.Frag} (hg : X.A.guards = some []) (hu : X.A.units + 64 < cLine) (hK : X.K = K := by rfl) : CallR X (.type "str") (rStrD K) := by
  subst hK
  intro pins s σ H xs us Q I r h
  obtain ⟨a, d, rfl, hd, hs, hn, h6, hz, q⟩ := h
  obtain ⟨u, rfl, ru⟩ := vals1 r
  obtain rfl : u = Value.ref a := ru
  obtain ⟨as, r1⟩ := Dp.reads I d (.ref a) (.ref a) hd rfl
  exact str_of_reads r1 hs (PyData.noDict_hsm hn) hg (by omega) (fun _ _ e => e) (fun h' u tk hk => ⟨.str d.shown, H, I.kept hk, ⟨u, rfl⟩, q⟩) hz
structure FnG (P : Program) (w : World) (K : PySem.W.Frag) (mg : Str → Option Value) (base : Heap) (CX : CXT) (k : Nat) (f : Addr) (fd : FuncData) (ps : List Str) (sp : Sp) : Prop where
  len : ∀ vs H Q E, sp vs H Q E → vs.length = ps.length
  run : ∀ (A : Around) (outer : List Env) (s : Shared) (H : Hp) (args : Args) (us : List Value) (vs : List V) (Q : VK) (E : XK), A.guards = some [] → Room k A → Env0 P w K mg base A outer s H → BindsTo s fd args (ps.zip us) → Vals vs us → sp vs H Q E →
    codeAny (model P w) A (.call (.ref f) args) (CR CX outer P w H s Q E) s
section
variable {CX : CXT} {P : Program} {w : World} {K : PySem.W.Frag} {mg : Str → Option Value} {base : Heap} {k : Nat} {f : Addr}
theorem okG {qual x : Str} {params : Arguments} {body : List Stmt} {scope : Scope} {dvs : List V} {kws : List (Str × V)} {fd : FuncData} {N ps : List Str} {sp : Sp} (F : FunD K x qual params body scope dvs kws f fd) (S : FnScope N ps scope) (len : ∀ vs H Q E, sp vs H Q E → vs.length = ps.length)
    (hbody : ∀ (cdv : Value) (A : Around) (outer : List Env) (s : Shared) (H : Hp) (vs : List V) (Q : VK) (E : XK), A.guards = some [] → Room k (A.deeper (envOfC qual scope s.heap.objs.size f cdv)) → sp vs H Q E →
      ∃ t, PSs (cxOf CX P w K mg base N qual scope f cdv A outer s H E) body t ∧ t { nx := fun _ H' => Q .non H', rt := Q } (start N vs) H) : FnG P w K mg base CX (k + 1) f fd ps sp := by
  obtain ⟨oc, od, dV, kV, doc, pm, an, cdv, ct, osl, rfl, lk, hcd, _, _⟩ := F.ex
  refine ⟨len, fun A outer s H args us vs Q E hgd hr e0 hb r hsp => ?_⟩
  have hl := len _ _ _ _ hsp
  have KX : K.In s.heap := e0.mod.kin.keeps fun b o e => (e0.bs b o e).1
  have lim : s.heap.NoLimit := e0.mod.nolimit.keeps fun b o e => (e0.bs b o e).1
  have hkind : ∀ y ∈ ps.zip us, scope.names.lookup y.1 = some .local ∨ (scope.names.lookup y.1 = some .cell ∧ ((cellsFrom (s.heap.objs.size + 1) scope.names []).lookup y.1).isSome = true) := fun y hy => (S.par y.1 (List.of_mem_zip hy).1).imp id fun q => ⟨q, PySem.W.cellsFrom_some _ _ _ (.inl q)⟩
  refine codeAny_call_function hr.depth (KX _ _ lk) rfl S.co S.gen rfl (PySem.W.codeRec_of KX hcd) (hb _ _ _ _ ?_)
  refine wpAny_newFunctionEnv_cells S.kind hkind fun env he s1 x => ?_
  subst he
  obtain ⟨t, ht, hq⟩ := hbody cdv A outer s H vs Q E hgd (hr.deeper _) hsp
  have I : Inv (cxOf CX P w K mg base N qual scope f cdv A outer s H E) [] (start N vs) H s1 := inv_start S hr.hd e0 hl r x
  refine ⟨lim.keeps x.toInCall.keep, codeAny_func (wpAny_mono (ht.run [] s1 (start N vs) H _ I hq) (fun fl s' hs => ?_) fun e s' hs => hs)⟩
  have fin : ∀ {σ' : L2.St} {H' : Hp} {v : V} {u : Value}, Inv (cxOf CX P w K mg base N qual scope f cdv A outer s H E) [] σ' H' s' → RelV v u → Q v H' → CE outer P w H s Q u s' :=
    fun {σ' H' v u} J rv q => ⟨v, H', J.os, J.bare, J.base, J.hok, rv, q⟩
  cases fl with
  | ret u => exact let ⟨v, σ', H', J, rv, q⟩ := hs; fin J rv q
  | next => exact let ⟨σ', H', J, q⟩ := hs; fin (v := V.non) (u := Value.none) J rfl q
  | brk => exact let ⟨_, _, _, q⟩ := hs; q.elim
  | cont => exact let ⟨_, _, _, q⟩ := hs; q.elim
end
section
variable {X : Cx} {CX : CXT} {k : Nat} {f : Addr} {fd : FuncData} {ps : List Str} {sp : Sp} {dvs : List V} {ds : List Value} {E : XK} {x : Str} {p pos : Pos} {e : Expr} {es : List Expr} {t : TA}
end
section
variable {P : Program} {w : World} {K : PySem.W.Frag} {mg mb : Str → Option Value} {CX : CXT} {k : Nat} {fa a : Addr} {fd : FuncData} {x : Str} {sp : Sp} {s₁ : Shared} {vs : List Value} {ns : List Int}
theorem law_core (KX : K.In s₁.heap) (hns : s₁.heap.Ns mainGlobals mg) (hb : s₁.heap.Ns builtinsNs mb) (hbb : ∀ x : Str, x ≠ "__name__" → mb x = bootBuiltins x) (hlim : s₁.heap.NoLimit) (hg : s₁.gens = #[])
    (ha : s₁.heap.get? a = some { cls := .type "list", data := .seq vs.toArray }) (hr : Room k callerA)
    (F : ∀ base : Heap, K.In base → base.Ns mainGlobals mg → FnG P w K mg base CX k fa fd [x] sp) (hbind : ∀ (s : Shared) (u : Value), BindsTo s fd ⟨[u], []⟩ [(x, u)])
    (hCX : ∀ H e s', CX [] H s₁ (fun _ _ _ => False) e s' → False)
    {H : Hp} (hO : Only H) (hsp : sp [.ref a] H (fun v _ => v = .bl true) fun _ _ _ => False) (hok : HOk P w H s₁.heap) (hA : ∀ b, H b ≠ none → b = a) (hK : H a ≠ none → K.lookup a = none) :
    codeAny (model P w) callerA (.call (.ref fa) ⟨[.ref a], []⟩) (fun r s' => r = .ok (.ret (.bool true)) ∧ OldK s₁.heap s'.heap ∧ s'.os = s₁.os ∧ AllBare s'.gens) s₁ := by
  have un : ∀ {b : Addr} {o : Obj}, s₁.heap.get? b = some o → (b = a → H a = none) → (hidT s₁.heap H).get? b = some o := fun {b o} e h => hidT_get e (by
    cases q : H b with
    | none => rfl
    | some u =>
      have z := hA b (by rw [q]; simp)
      rw [z] at q
      rw [h z] at q; cases q)
  have nsK : ∀ {b : Addr} {m : Str → Option Value}, s₁.heap.Ns b m → (hidT s₁.heap H).Ns b m := fun {b m} ⟨o, es, ep, e, d, r⟩ => ⟨o, es, ep, un e (fun z => by
    subst z
    rw [ha] at e
    cases e
    cases d), d, r⟩
  have hKb : K.In (hidT s₁.heap H) := fun b o e => un (KX b o e) fun z => by
    subst z
    cases q : H b with
    | none => rfl
    | some u => rw [hK (by rw [q]; simp)] at e; cases e
  have e0 : Env0 P w K mg (hidT s₁.heap H) callerA [] s₁ H := { frames := rfl, mod := ⟨hKb, nsK hns, ⟨mb, nsK hb, hbb⟩, hlim.elim fun mc q => ⟨mc, nsK q.1, q.2⟩⟩, bs := fun b o e => of_hidT e, bsz := Nat.le_of_eq (hidT_size _ _), funs := trivial, frf := (fun b z => nomatch z), hok := hok, bare := .of_eq hg }
  refine codeAny_mono ((F _ hKb (nsK hns)).run callerA [] s₁ H ⟨[.ref a], []⟩ [.ref a] [.ref a] _ _ rfl hr e0 (hbind s₁ (.ref a)) (.cons rfl .nil) hsp) fun r s' h => ?_
  match r, h with
  | .error e, h => exact (hCX H e s' h).elim
  | .ok .next, h => exact False.elim h
  | .ok .brk, h => exact False.elim h
  | .ok .cont, h => exact False.elim h
  | .ok (.ret u), h =>
    obtain ⟨v, H', os, bare, uu, hok', r', q⟩ := h
    obtain rfl : v = V.bl true := q
    obtain rfl : u = Value.bool true := r'
    refine ⟨rfl, OldK.of_keep fun b o e => ?_, os, bare⟩
    rcases hO b with z | ⟨ob, xs, z⟩
    · exact uu.keep b o e z (fun z => nomatch z) (by simp)
    · have e1 := (hok b _ z).1
      have e2 := (hok' b _ (uu.frzs b ob _ z)).1
      rw [e] at e1
      cases e1
      exact e2
theorem law_callG (KX : K.In s₁.heap) (hns : s₁.heap.Ns mainGlobals mg) (hb : s₁.heap.Ns builtinsNs mb) (hbb : ∀ x : Str, x ≠ "__name__" → mb x = bootBuiltins x) (hlim : s₁.heap.NoLimit) (hg : s₁.gens = #[])
    (ha : s₁.heap.get? a = some { cls := .type "list", data := .seq vs.toArray }) (hi : IntsAre vs ns) (hl : ns.length ≤ sizeLine) (hr : Room k callerA)
    (F : ∀ base : Heap, K.In base → base.Ns mainGlobals mg → FnG P w K mg base CX k fa fd [x] sp) (hbind : ∀ (s : Shared) (u : Value), BindsTo s fd ⟨[u], []⟩ [(x, u)])
    (hsp : ∀ H : Hp, Only H → SqL K H a (ns.map V.int) → sp [.ref a] H (fun v _ => v = .bl true) fun _ _ _ => False)
    (hCX : ∀ H e s', CX [] H s₁ (fun _ _ _ => False) e s' → False) :
    codeAny (model P w) callerA (.call (.ref fa) ⟨[.ref a], []⟩) (fun r s' => r = .ok (.ret (.bool true)) ∧ OldK s₁.heap s'.heap ∧ s'.os = s₁.os ∧ AllBare s'.gens) s₁ := by
  have rv := vals_ints hi
  have lv := hi.length
  cases hk : K.lookup a with
  | some o =>
    have e := KX a o hk
    rw [ha] at e
    cases e
    have hO : Only (fun _ => none) := fun _ => .inl rfl
    exact law_core KX hns hb hbb hlim hg ha hr F hbind hCX hO (hsp _ hO (.inr ⟨_, vs.toArray, _, hk, rfl, rfl, rfl, by rw [List.size_toArray, lv]; exact hl, by simpa using rv⟩)) (fun b u z => nomatch z) (fun b z => absurd rfl z) fun z => absurd rfl z
  | none =>
    let fz : HO := .frz { cls := .type "list", data := .seq vs.toArray } (.lst (ns.map V.int))
    have hO : Only (fun b => if b = a then some fz else none) := fun b => by
      by_cases q : b = a
      · exact .inr ⟨_, _, if_pos q⟩
      · exact .inl (if_neg q)
    refine law_core KX hns hb hbb hlim hg ha hr F hbind hCX hO (hsp _ hO (.inl (.inr ⟨{ cls := .type "list", data := .seq vs.toArray }, if_pos rfl⟩))) (fun b u z => ?_) (fun b z => ?_) fun _ => hk
    · by_cases q : b = a
      · have z2 : some fz = some u := (if_pos q).symm.trans z
        cases z2
        subst q
        exact ⟨ha, by rw [List.length_map]; exact hl, vs, _, rv, ha⟩
      · cases (if_neg q).symm.trans z
    · by_cases q : b = a
      · exact q
      · exact absurd (if_neg q) z
end
theorem walk_ofG {l : PySem.W.OpenLaw} {n k : Nat} {q : Program} {loose : List Str} {XP : (Str → Option Value) → Heap → Prop} {YP : World → Heap → Prop} {d : DefRec} {CX : CXT} {x : Str}
    (hn : l.most = some n) (hn2 : n ≤ sizeLine) (hdf : d.params.defaults = []) (hr : Room k callerA)
    (F : ∀ (w : World) (mg : Str → Option Value) (fa : Addr) (h : Heap), YP w h → h.Ns mainGlobals mg → mg d.name = some (.ref fa) →
      ∃ (K : PySem.W.Frag) (fd : FuncData) (sp : Sp), K.In h ∧ (∀ (s : Shared) (u : Value), BindsTo s fd ⟨[u], []⟩ [(x, u)]) ∧
        (∀ (H : Hp) (a : Addr) (ns : List Int), ns.length ≤ n → Only H → SqL K H a (ns.map V.int) → sp [.ref a] H (fun v _ => v = .bl true) fun _ _ _ => False) ∧
        ∀ base : Heap, K.In base → base.Ns mainGlobals mg → FnG l.prog w K mg base CX k fa fd [x] sp)
    (hCX : ∀ (H : Hp) (s : Shared) (e : Value) (s' : Shared), CX [] H s (fun _ _ _ => False) e s' → False) :
    PySem.W.WalkO q loose XP YP l.row.toRowW d [] (fun f vs => PySem.call f vs) := by
  refine Att.attach_call hn hdf fun w s₀ s₁ mg mb fa o pm cd doc a vs ns G Y ho hd hcd hmg hobj hints hlen hg => ?_
  obtain ⟨K, fd, sp, KX, hb, hsp, hF⟩ := F w mg fa _ Y G.T.g hmg
  exact law_callG KX G.T.g G.T.b G.T.builtins G.T.nolimit hg hobj hints (Nat.le_trans hlen hn2) hr hF hb (fun H hO hS => hsp H a ns hlen hO hS) fun H e s' => hCX H s₁ e s'
def sepN (k : Nat) : List Nat := if 0 < k then [44, 32] else []
def flatN : Nat → List (List Nat) → List Nat
  | _, [] => []
  | k, t :: ts => sepN k ++ (t ++ flatN (k + 1) ts)
def encL (ts : List (List Nat)) : List Nat := 91 :: (flatN 0 ts ++ [93])
def encN (n : Nat) : List Nat := [48 + n]
def enc1 (l : List Nat) : List Nat := encL (l.map encN)
def enc2 (ll : List (List Nat)) : List Nat := encL (ll.map enc1)
theorem cpsA (a b : Str) : (a ++ b).cps = a.cps ++ b.cps := rfl
theorem cps_from : ∀ (ts : List Str) (k : Nat) (acc : Str), (textFrom k acc ts).cps.toList = acc.cps.toList ++ flatN k (ts.map fun t => t.cps.toList)
  | [], k, acc => by
    show acc.cps.toList = acc.cps.toList ++ []
    rw [List.append_nil]
  | t :: ts, k, acc => by
    have e : textFrom k acc (t :: ts) = textFrom (k + 1) (acc ++ ((if k > 0 then ", " else "" : String) : Str) ++ t) ts := rfl
    rw [e, cps_from ts]
    have e2 : (acc ++ ((if k > 0 then ", " else "" : String) : Str) ++ t).cps.toList = acc.cps.toList ++ (sepN k ++ t.cps.toList) := by
      rw [cpsA, cpsA, Array.toList_append, Array.toList_append, List.append_assoc]
      congr 2
      unfold sepN
      by_cases h : 0 < k
      · rw [if_pos h, if_pos h]; decide +kernel
      · rw [if_neg h, if_neg h]; decide +kernel
    rw [e2, List.map_cons]
    show _ = _ ++ (sepN k ++ (_ ++ _))
    simp only [List.append_assoc]
theorem cps_list (ts : List Str) : (listText ts).cps.toList = encL (ts.map fun t => t.cps.toList) := by
  unfold listText encL
  rw [cpsA, Array.toList_append, cps_from]
  rfl
theorem shown_map {α : Type} (f : α → PyData) : ∀ l : List α, PyData.shownAll (l.map f) = l.map fun a => (f a).shown
  | [] => by simp only [List.map_nil, PyData.shownAll]
  | a :: l => by simp only [List.map_cons, PyData.shownAll, shown_map f l]
theorem cps_dig : ∀ n < 10, (((toString ((n : Nat) : Int) : String) : Str)).cps.toList = [48 + n] := by decide +kernel
def txS (ll : List (List Nat)) : Str := (dLL ll).shown
def SmL (ll : List (List Nat)) : Prop := ∀ r ∈ ll, ∀ x ∈ r, x < 10
theorem cps_ln {l : List Nat} (h : ∀ x ∈ l, x < 10) : (dLn l).shown.cps.toList = enc1 l := by
  unfold dLn enc1
  rw [PyData.shown, shown_map, cps_list, List.map_map]
  congr 1
  refine List.map_congr_left fun n hn => ?_
  show (PyData.int (n : Int)).shown.cps.toList = encN n
  rw [PyData.shown, cps_dig n (h n hn)]
  rfl
theorem cps_ll {ll : List (List Nat)} (h : SmL ll) : (txS ll).cps.toList = enc2 ll := by
  unfold txS dLL enc2
  rw [PyData.shown, shown_map, cps_list, List.map_map]
  congr 1
  refine List.map_congr_left fun r hr => ?_
  exact cps_ln (h r hr)
section
variable {α : Type} {P : α → Prop} {enc : α → List Nat}
theorem flatN_len {w : Nat} : ∀ (ts : List (List Nat)) (k : Nat), (∀ t ∈ ts, t.length ≤ w) → (flatN k ts).length ≤ (w + 2) * ts.length
  | [], _, _ => Nat.zero_le _
  | t :: ts, k, h => by
    have h1 := h t List.mem_cons_self
    have h2 := flatN_len ts (k + 1) fun u hu => h u (List.mem_cons_of_mem _ hu)
    have h3 : (sepN k).length ≤ 2 := by unfold sepN; split <;> decide
    show (sepN k ++ (t ++ flatN (k + 1) ts)).length ≤ _
    rw [List.length_append, List.length_append, List.length_cons, Nat.mul_add]
    omega
end
theorem txS_len {ll : List (List Nat)} (h : SmL ll) (h6 : ll.length ≤ 6) (hr : ∀ r ∈ ll, r.length ≤ 6) : (txS ll).length ≤ sizeLine := by
  have e : (txS ll).length = (txS ll).cps.toList.length := rfl
  rw [e, cps_ll h]
  have h1 : ∀ r ∈ ll.map enc1, r.length ≤ 20 := fun r hr' => by
    obtain ⟨q, hq, rfl⟩ := List.mem_map.mp hr'
    have h2 := flatN_len (w := 1) (q.map encN) 0 fun t ht => by
      obtain ⟨z, _, rfl⟩ := List.mem_map.mp ht
      exact Nat.le_refl _
    have h3 := hr q hq
    show (91 :: (flatN 0 (q.map encN) ++ [93])).length ≤ 20
    rw [List.length_cons, List.length_append, List.length_singleton]
    rw [List.length_map] at h2
    omega
  have h2 := flatN_len (ll.map enc1) 0 h1
  rw [List.length_map] at h2
  refine Nat.le_trans (m := 134) ?_ (by decide)
  show (91 :: (flatN 0 (ll.map enc1) ++ [93])).length ≤ 134
  rw [List.length_cons, List.length_append, List.length_singleton]
  omega
theorem show_all {α : Type} {f : α → PyData} : ∀ {l : List α}, (∀ a ∈ l, (f a).showable = true) → PyData.showableAll (l.map f) = true
  | [], _ => by simp only [List.map_nil, PyData.showableAll]
  | a :: l, h => by
    simp only [List.map_cons, PyData.showableAll, Bool.and_eq_true]
    exact ⟨h a List.mem_cons_self, show_all fun b hb => h b (List.mem_cons_of_mem _ hb)⟩
theorem show_ll {ll : List (List Nat)} (h : SmL ll) : (dLL ll).showable = true := by
  unfold dLL
  rw [PyData.showable]
  refine show_all fun r hr => ?_
  unfold dLn
  rw [PyData.showable]
  refine show_all fun n hn => ?_
  rw [PyData.showable]
  exact (by decide : ∀ n < 10, decide (((n : Nat) : Int).natAbs.log2 < 1920) = true) n (h r hr n hn)
section
variable {W : WX} {Γ : Ctx} {M : List Re} {κ : KV} {ε : KX} {K : PySem.W.Frag} {ll : List (List Nat)} {tk tv : TE} {r : Rp} {k : Key}
theorem am_strLL (h : SmL ll) (h6 : ll.length ≤ 6) (hr : ∀ r ∈ ll, r.length ≤ 6) (kk : κ (rV (.str (txS ll))) M) : AM (rStrD K) [rLL K ll] M κ := fun B G H vs o ra Q q => by
  obtain ⟨x, rfl, hx⟩ := ra1 ra
  have hd := dt_ll (K := K) ll
  obtain ⟨a, ws, rfl, h1, h2⟩ := id hx
  refine ⟨a, dLL ll, rfl, hd.as (.ref a) H ((rLL K ll).mono o.i hx), show_ll h, PyData.hasDict_of_canLay _ hd.sh.1, Nat.le_trans hd.sh.2 (by decide), txS_len h h6 hr, q _ G H _ M kk o (Ex.refl _) rfl⟩
end
end Mu

namespace Mu
open PySem PySem.Spec PyProof.Rows L2 He Evl
section
variable {X : Cx} {CX : CXT} {k n : Nat} {f C : Addr} {fd : FuncData} {ps ks : List Str} {sp : Sp} {x : Str} {p pos : Pos} {e : Expr} {es : List Expr} {kws : List Keyword} {t tk : TA} {g : List Value → List Value → List Value} {gV : List V → List V → List V}
end
section
variable {W : WX} {Γ : Ctx} {M : List Re} {κ : KV} {ε : KX} {ta tk : TA} {C : Addr} {n m : Nat} {R : List V → Hp → List Re → KV → KX → Prop}
end
section
variable {B : Ba} {G H : Hp} {M : List Re} {W : WX} {Γ : Ctx} {t : TS} {κ : Kn} {K : PySem.W.Frag} {own : Bool} {p e C : Addr} {fs : FL} {rs : List Rp} {kvs : List (List Key × Rp)} {f : Str}
end
section
variable {W : WX} {Γ : Ctx} {M : List Re} {κ : KV} {ε : KX} {K : PySem.W.Frag} {ti : TI} {tk tv td te : TE} {j : Nat} {vs : List Nat} {β α : Type} {ρ : β → Rp} {l : List β} {tu : TS}
end
section
variable {W : WX} {Γ : Ctx} {M : List Re} {κ : KV} {ε : KX} {K : PySem.W.Frag} {t : TS} {i m n : Nat} {r r' : Rp}
end
end Mu

namespace Mu
open PySem PySem.Spec PyProof.Rows L2 He Evl
section
variable {W : WX} {Γ : Ctx} {M : List Re} {κ : KV} {ε : KX} {K : PySem.W.Frag} {td te ta tx : TE} {t : TT} {a b a' b' : Re} {r : Rp} {k : List Key} {kvs : List (List Key × Rp)} {z : Bool}
end
section
variable {B : Ba} {G H : Hp} {M M1 : List Re} {W : WX} {Γ : Ctx} {t : TS} {te : TE} {κ : Kn} {K : PySem.W.Frag} {own : Bool} {p d e C : Addr} {fs : FL} {rs : List Rp} {kvs : List (List Key × Rp)} {f : Str} {Q : VK}
end
end Mu

namespace Mu
open PySem PySem.Spec PyProof.Rows L2 He Evl
section
variable {X : Cx} {o i e f : Expr} {pos apos cpos : Pos} {td ty tx : TE} {K : PySem.W.Frag}
end
section
variable {W : WX} {Γ : Ctx} {M : List Re} {te ta tb tv td tx : TE} {K : PySem.W.Frag} {r : Rp} {κ : KV} {ε : KX} {kvs : List (List Key × Rp)} {z : Bool} {m : List Nat}
end
section
variable {prog : Program} {w : World} {A : Around} {E : Value → Shared → Prop} {s : Shared}
end
section
variable {W : WX} {Γ : Ctx} {M : List Re} {κ : KV} {ε : KX} {tk tv : TE} {r : Rp} {k : List Key}
end
section
variable {W : WX} {Γ : Ctx} {M : List Re} {κ : Kn}
end
section
variable {B : Ba} {G H : Hp} {M M1 : List Re} {W : WX} {Γ : Ctx} {te : TE} {κ : KV} {ε : KX} {Q : VK}
end
end Mu

namespace Mu
open PySem PySem.Spec PyProof.Rows L2 He Evl
section
variable {W : WX} {Γ : Ctx} {M : List Re} {κ : KV} {ε : KX} {K : PySem.W.Frag} {td te ta tb : TE} {l : List Nat} {k : Nat}
end
end Mu

namespace Mu
open PySem PySem.Spec PyProof.Rows L2 He Evl
def rJoin (K : PySem.W.Frag) : V → List V → Hp → VK → Prop := fun x xs H Q => ∃ a p, ∃ ys : List Str, x = .str a ∧ xs = [.ref p] ∧ (SqL K H p (ys.map V.str) ∨ SqT K H p (ys.map V.str)) ∧ (ys.map (·.length)).sum + ys.length * a.length ≤ 16777216 ∧ Q (.str (Txt.join a ys)) H
theorem mt_joinK {X : Cx} (K : PySem.W.Frag) (hK : X.K = K := by rfl) : MtR X "str.join" (rJoin K) := hK ▸ mt_join
section
variable {W : WX} {Γ : Ctx} {M : List Re} {κ : KV} {ε : KX} {K : PySem.W.Frag} {td te ta tb tc : TE} {l : List Nat} {p : Addr} {rs rs2 : List Rp} {i : Nat}
theorem x_join {a : Str} {ys : List Str} (ha : EvX Γ ta (rV (.str a))) (hb : EvX Γ tb (rL K (ys.map rS))) (hz : (ys.map (·.length)).sum + ys.length * a.length ≤ 16777216) : EvX Γ (tM1 (rJoin K) ta tb) (rS (Txt.join a ys)) := fun σ G en H e Q q => ha σ G en H e _ fun v G1 H1 g1 hv => by
  obtain rfl : v = V.str a := hv
  refine ⟨⟨a, rfl⟩, hb σ G1 (en.mono g1.g) H1 g1.i _ fun v2 G2 H2 g2 hv2 => ?_⟩
  obtain ⟨p, ws, rfl, h1, h2⟩ := hv2
  have hw : ∀ {ws : List V} {ys : List Str}, RA G2 ws (ys.map rS) → ws = ys.map V.str := fun {ws ys} h => by
    induction ys generalizing ws with
    | nil => cases h; rfl
    | cons y ys ih =>
      cases h with
      | cons a b =>
        rename_i v vs
        obtain rfl : v = V.str y := a
        rw [ih b]; rfl
  obtain rfl := hw h2
  exact ⟨a, p, ys, rfl, rfl, .inl (sq_of (g2.i _ _ h1)), hz, q _ G2 H2 (g1.trans g2) rfl⟩
end
end Mu

namespace Mu
open PySem PySem.Spec PyProof.Rows L2 He Evl
section
variable {W : WX} {Γ : Ctx} {M : List Re} {κ : KV} {ε : KX} {K : PySem.W.Frag} {td te ta tb tc t1 t2 : TE} {l : List Nat} {p : Addr} {rs rs2 : List Rp} {i a b : Nat}
end
end Mu

namespace Mu
open PySem PySem.Spec PyProof.Rows L2 He Evl
theorem Cm.ex {G0 H0 H' H'' : Hp} {Dl : Addr} {rs : List Rp} (p : Cm G0 H0 Dl rs H') (e : Ex H' H'') : Cm G0 H0 Dl rs H'' := by
  obtain ⟨p1, G', ws, g, hG, hD, ra⟩ := p
  exact ⟨p1, G', ws, g.more e, hG, e _ _ hD, ra⟩
section
variable {W : WX} {Γ : Ctx} {M : List Re} {κ : KV} {ε : KX} {K : PySem.W.Frag} {td te ta tb tc ts t1 t2 : TE} {tt : TT} {l m : List Nat} {p : Addr} {rs rs2 : List Rp} {i a b j1 j2 : Nat} {vs : List Nat}
end
end Mu

namespace Mu
open PySem PySem.Spec PyProof.Rows L2 He Evl
section
variable {P : Program} {w : World} {A : Around} {E : Value → Shared → Prop} {s : Shared}
end
section
variable {Γ : Ctx} {te : TE} {K : PySem.W.Frag} {w : World} {l : List Nat}
end
end Mu

namespace Mu
open PySem PySem.Spec PyProof.Rows L2 He Evl
section
variable {B : Ba} {G H : Hp} {M : List Re} {R : Re}
end
end Mu

namespace Mu
open PySem PySem.Spec PyProof.Rows L2 He Evl
end Mu

namespace Mu
open PySem PySem.Spec PyProof.Rows L2 He Evl
section
variable {W : WX} {Γ Γ' : Ctx} {M : List Re} {ta tb : TE} {j : Nat} {β α : Type} {ti : TI} {l : List β} {ρ : β → Rp} {tu : TS} {κ : Kn}
end
end Mu

namespace Mu
open PySem PySem.Spec PyProof.Rows L2 He Evl
section
variable {W : WX} {Γ : Ctx} {M : List Re} {κ : KV} {ε : KX} {ta : TA} {C : Addr} {n : Nat} {R : List V → Hp → List Re → KV → KX → Prop} {ds : List V}
end
section
variable {W : WX} {Γ : Ctx} {M : List Re} {κ : KV} {ε : KX} {te : TE} {K : PySem.W.Frag} {p : Addr} {rs0 : List Rp} {i : Nat}
end
end Mu

namespace Mu
open PySem PySem.Spec PyProof.Rows L2 He Evl
end Mu

namespace Mu
open PySem PySem.Spec PyProof.Rows L2 He Evl
end Mu

namespace Mu
open PySem PySem.Spec PyProof.Rows L2 He Evl
end Mu

namespace Mu
open PySem PySem.Spec PyProof.Rows L2 He Evl
def setsS (σ : L2.St) : List Nat → List V → L2.St
  | j :: js, x :: xs => setsS (σ.set j (some x)) js xs
  | _, _ => σ
def Tgt (g : TG) (r : Rp) (ups : List (Nat × Rp)) : Prop := ∀ (v : V) (G H : Hp) (σ : L2.St) (Q : L2.St → Hp → Prop), r.p v G → Ex G H → (∀ xs, RA G xs (ups.map (·.2)) → Q (setsS σ (ups.map (·.1)) xs) H) → g v σ H Q
section
variable {W : WX} {Γ : Ctx} {M : List Re} {te tl td : TE} {tu : TS} {κ : Kn} {K : PySem.W.Frag} {α β : Type} {j j1 j2 j3 j4 : Nat} {r r' r1 r2 r3 r4 : Rp} {g : TG} {ups : List (Nat × Rp)}
theorem Tgt.as (h : Tgt g r' ups) (hr : ∀ v G, r.p v G → r'.p v G) : Tgt g r ups := fun v G H σ Q hv e k => h v G H σ Q (hr v G hv) e k
theorem Ok.tup {B : Ba} {G H : Hp} {q : Addr} {xs : List V} (o : Ok B G H M) (h : H q = some (.tup xs)) : ∃ G2, Ex G G2 ∧ Ok B G2 H M ∧ G2 q = some (.tup xs) := by
  cases gq : G q with
  | some u =>
    have := o.i q u gq
    rw [h] at this
    cases this
    exact ⟨G, Ex.refl _, o, gq⟩
  | none =>
    have e : Ex G (upd G q (.tup xs)) := Ex.new gq
    refine ⟨upd G q (.tup xs), e, ⟨o.g.trans e, o.l.trans e, o.h, ex_add o.i h, fun a u z t y => ?_, o.k, fun r hr => r.mono e (o.m r hr), fun a ha => ?_, o.d, o.f⟩, upd_same⟩
    · have ne : a ≠ q := fun c => by
        subst c
        by_cases f : a ∈ B.F
        · obtain ⟨u2, z2, t2⟩ := o.k a f
          rw [h] at z2
          cases z2
          exact t2 _ rfl
        · have := o.h a u z f
          rw [h] at this
          cases this
          exact t _ rfl
      rw [upd_ne ne]
      exact o.n a u z t y
    · have ne : a ≠ q := fun c => by
        subst c
        obtain ⟨r, hr, hf⟩ := List.mem_flatMap.mp ha
        obtain ⟨u, z, t⟩ := r.at_ (o.m r hr) a hf
        rw [h] at z
        cases z
        exact t _ rfl
      rw [upd_ne ne]
      exact o.z a ha
theorem Ok.keys {B : Ba} {H : Hp} : ∀ {ws : List (List Key × V)} {bs : List Addr} {G : Hp}, Ok B G H M → IsKeys H ws bs → ∃ G2, Ex G G2 ∧ Ok B G2 H M ∧ RA G2 (bs.map V.ref) (ws.map fun kv => rK kv.1)
  | [], bs, G, o, h => by cases h; exact ⟨G, Ex.refl _, o, .nil⟩
  | kv :: ws, bs, G, o, h => by
    cases h with
    | @cons _ b _ bs h1 h2 =>
      obtain ⟨G2, e2, o2, q2⟩ := o.tup h1
      obtain ⟨G3, e3, o3, ra⟩ := Ok.keys o2 h2
      exact ⟨G3, e2.trans e3, o3, .cons ⟨b, rfl, e3 _ _ q2⟩ ra⟩
end
section
variable {B : Ba} {G H : Hp} {M : List Re} {W : WX} {Γ : Ctx} {t : TS} {κ : Kn} {kvs : List (List Key × Rp)} {ws : List (List Key × V)} {p : Addr} {k : Nat} {od : Obj} {cs : Addr → Bool}
end
end Mu

namespace Lc3
open PySem PySem.Spec PyProof.Rows L2
section
variable {P : Program} {w : World} {B : Around} {Z : Result → Shared → Prop} {s0 : Shared} {C : Expr} {q : Nat} {I0 L0 : Value} {en : Env} {tgt src nxt el : Expr} {cs : List Expr}
abbrev no : Value → Shared → Prop := fun _ _ => False
end

abbrev TB := Addr → L2.St → Hp → (Hp → Prop) → Prop
def Kp (vs : List Nat) (σ σ' : L2.St) : Prop := σ.length = σ'.length ∧ ∀ (j : Nat) (v : V), j ∉ vs → σ[j]? = some (some v) → σ'[j]? = some (some v)
def Ends (Y : Cx) (pins : List (Addr × Obj)) (vs : List Nat) (σ : L2.St) (N : Hp → Prop) : Shared → Prop := fun g => ∃ H' σ', Inv Y pins σ' H' g ∧ Kp vs σ σ' ∧ N H'
section
variable {Y : Cx} {D : Addr} {C tgt src nxt el : Expr} {cs : List Expr} {q : Nat} {wi : TI} {g : TG} {tt : TT} {te : TE} {tB : TB} {vs vs' : List Nat} {todo : (Shared → Prop) → Shared → Prop}
end

section
variable {X : Cx}
abbrev cells (X : Cx) (scope : Scope) (n : Nat) : List (Str × Addr) := cellsFrom (n + 1) scope.names (cloFrom X.env.cells scope.names [])
end
end Lc3

namespace Mu
open PySem PySem.Spec PyProof.Rows L2 He Evl Lc3
section
variable {Γ : Ctx} {te : TE} {tB : TB} {j : Nat} {vs : List Nat} {β : Type} {ti : TI} {l : List β} {ρ : β → Rp} {r : Rp} {rs : β → List Rp}
end
end Mu

namespace Mu
open PySem PySem.Spec PyProof.Rows L2 He Evl
section
variable {α : Type} [DecidableEq α]
end
section
variable {W : WX} {Γ : Ctx} {M : List Re} {κ : KV} {ε : KX} {K : PySem.W.Frag} {t1 t2 t3 : TE} {a b c : Nat} {x y z : Int}
end
section
variable {Γ : Ctx} {ta tb : TE} {m n : Nat} {K : PySem.W.Frag} {α : Type} {rs : α → Rp}
end
end Mu

namespace Mu
open PySem PySem.Spec PyProof.Rows L2 He Evl
theorem KT.keys {H : Hp} {kvs : List (List Key × V)} {xs : List (List Key × Addr × Value)} (r : KT H kvs xs) : xs.map (·.1) = kvs.map (·.1) := by
  induction r with
  | nil => rfl
  | cons h t ih => rw [List.map_cons, List.map_cons, ih, h.1]
end Mu
theorem L2.Room.u2 {k : Nat} {A : PySem.Around} (r : L2.Room k A) : A.units + 2 < PySem.cLine := by have := r.un; omega

namespace Lc3
open PySem PySem.Spec PyProof.Rows L2
section
variable {X : Cx}
end
end Lc3

namespace Mu
open PySem PySem.Spec PyProof.Rows L2 He Evl Lc3
theorem Gr.tup {G H G2 H2 : Hp} {q : Addr} {xs : List V} (g : Gr G H G2 H2) (h : H2 q = some (.tup xs)) : ∃ G3, Ex G2 G3 ∧ Gr G H G3 H2 ∧ G3 q = some (.tup xs) ∧ ∀ a, a ≠ q → G2 a = none → G3 a = none := by
  cases gq : G2 q with
  | some u =>
    have := g.i q u gq
    rw [h] at this
    cases this
    exact ⟨G2, Ex.refl _, g, gq, fun _ _ z => z⟩
  | none =>
    have e : Ex G2 (upd G2 q (.tup xs)) := Ex.new gq
    refine ⟨upd G2 q (.tup xs), e, ⟨g.g.trans e, g.h, ex_add g.i h, fun a o z t y => ?_⟩, upd_same, fun a ne z => by rw [upd_ne ne]; exact z⟩
    have ne : a ≠ q := fun c => by
      subst c
      have z2 := g.h _ _ z
      rw [h] at z2
      cases z2
      exact t _ rfl
    rw [upd_ne ne]
    exact g.n a o z t y
section
variable {t : TT} {te tk tv td : TE} {W : WX} {Γ : Ctx} {M : List Re} {κ : KV} {ε : KX} {K : PySem.W.Frag} {vs : List Nat} {j : Nat} {β : Type} {l : List β} {kf : β → List Key} {f : β → Bool} {rr : β → Rp} {kvs : List (List Key × Rp)}
end
end Mu

namespace Mu
open PySem PySem.Spec PyProof.Rows L2 He Evl
def SpDt (sp : Sp) (vs : List V) (G : Hp) (kvs : List (List Key × Rp)) : Prop := ∀ H, Ex G H → ∀ Q : VK, (∀ p ws G2 H2, Gr G H G2 H2 → H p = none → G2 p = none → H2 p = some (.dT ws) → DtR G2 ws kvs → Q (.ref p) H2) → ∀ E : XK, sp vs H Q E
def spDt (R : List V → Hp → List (List Key × Rp) → Prop) : Sp := fun vs H Q _ => ∃ G kvs, Ex G H ∧ R vs G kvs ∧ ∀ p ws G2 H2, Gr G H G2 H2 → H p = none → G2 p = none → H2 p = some (.dT ws) → DtR G2 ws kvs → Q (.ref p) H2
theorem SpDt.of {R : List V → Hp → List (List Key × Rp) → Prop} {vs : List V} {G : Hp} {kvs : List (List Key × Rp)} (h : R vs G kvs) : SpDt (spDt R) vs G kvs := fun H e Q q _ => ⟨G, kvs, e, h, q⟩
section
variable {W : WX} {Γ Γ' : Ctx} {M : List Re} {te : TE} {t : TS} {κ : KV} {ε : KX} {kvs : List (List Key × Rp)} {rs : List Rp} {sp : Sp} {G H : Hp} {σ : L2.St} {Q : VK} {z : Bool} {cs : Addr → Bool}
end
end Mu

namespace Mu
open PySem PySem.Spec PyProof.Rows L2 He Evl
section
variable {W : WX} {Γ : Ctx} {M : List Re} {te ts : TE} {ta : TA} {κ : KV} {ε : KX} {K : PySem.W.Frag} {C : Addr} {sp : Sp} {E : XK}
end
end Mu

namespace Mu
open PySem PySem.Spec PyProof.Rows L2 He Evl
section
variable {X : Cx} {CX : CXT} {k n : Nat} {f : Addr} {fd : FuncData} {ps ks : List Str} {sp : Sp} {x : Str} {p pos : Pos} {e : Expr} {es : List Expr} {kws : List Keyword} {t tk : TA} {g : List Value → List Value → List Value} {gV : List V → List V → List V}
end
section
variable {W : WX} {Γ : Ctx} {M : List Re} {κ : KV} {ε : KX} {ta tk : TA} {n m : Nat} {sp : Sp} {E : XK} {dv : V} {rd : Rp}
end
end Mu

namespace Mu
open PySem PySem.Spec PyProof.Rows L2 He Evl
section
variable {X : Cx} {CX : CXT} {k : Nat} {C g : Addr} {f : Str} {fd : FuncData} {ps : List Str} {sp : Sp} {E : L2.St → XK} {o value : Expr} {pos pos' : Pos} {ta tv : TE}
end
end Mu

namespace Mu
open PySem PySem.Spec PyProof.Rows L2 He Evl
end Mu

namespace Mu
open PySem PySem.Spec PyProof.Rows L2 He Evl
section
variable {X : Cx} {CX : CXT} {k : Nat} {f C : Addr} {fd : FuncData} {ps : List Str} {sp : Sp} {m : Str} {pos pos' : Pos} {x : Str} {e : Expr} {i : Nat} {te : TE}
end
section
variable {W : WX} {Γ : Ctx} {M : List Re} {κ : Kn} {C p : Addr} {sp : Sp} {i : Nat} {te : TE}
end
end Mu

namespace Mu
open PySem PySem.Spec PyProof.Rows L2 He Evl StX GenW
section
variable {X : Cx} {st : Stmt} {test : Expr} {a b : List Stmt} {pos : Pos} {ts : TS} {tc : TT} {t u : TGn}
end
section
variable {P : Program} {w : World} {K : PySem.W.Frag} {mg : Str → Option Value} {base : Heap} {x qual : Str} {params : Arguments} {body : List Stmt} {scope : Scope} {dvs : List V} {kws : List (Str × V)} {f : Addr} {fd : FuncData}
end
structure GKn where
  nx : List V → Ctx → List Re → Prop
  rt : List V → Rp → List Re → Prop := fun _ _ _ => False
  bk : List V → Ctx → List Re → Prop := fun _ _ _ => False
  ct : List V → Ctx → List Re → Prop := fun _ _ _ => False
def GKn.at_ (κ : GKn) (ys : List V) : Kn := { nx := κ.nx ys, rt := κ.rt ys, bk := κ.bk ys, ct := κ.ct ys }
section
variable {Γ Γ' : Ctx} {M : List Re} {ys : List V} {t u : TGn} {ts : TS} {tc : TT} {te : TE} {κ : GKn} {v : V}
end
end Mu

namespace Mu
open PySem PySem.Spec PyProof.Rows L2 He Evl StX GenW
def kNo : Resume → Sem PySem.Fin := fun _ => .unsupported ""
def lull : GenState → GenState
  | .suspended _ l c p fs cl => .suspended kNo l c p fs cl
  | x => x
def Nap : GenState → Prop
  | .suspended .. => True
  | _ => False
def Fine (x : GenState) : Prop := ∀ k l c p fs cl, x = .suspended k l c p fs cl → k = kNo ∨ splitAtGen fs = none
structure Lu (g : Nat) (R : GenState) (G G2 : Array GenState) : Prop where
  sz : G2.size = G.size
  nap : Nap R
  here : G[g]? = some (lull R)
  real : G2[g]? = some R
  ent : ∀ (i : Nat) (x y : GenState), G[i]? = some x → G2[i]? = some y → x = y ∨ x = lull y
  fine : ∀ (i : Nat) (x : GenState), G[i]? = some x → Fine x
theorem Lu.get {g : Nat} {R : GenState} {G G2 : Array GenState} (h : Lu g R G G2) {i : Nat} {x : GenState} (e : G[i]? = some x) : ∃ y, G2[i]? = some y ∧ (x = y ∨ x = lull y) := by
  have hi := (Array.getElem?_eq_some_iff.mp e).1
  have hi2 : i < G2.size := by rw [h.sz]; exact hi
  exact ⟨G2[i], Array.getElem?_eq_getElem hi2, h.ent i x _ e (Array.getElem?_eq_getElem hi2)⟩
theorem set_at {G : Array GenState} {i j : Nat} {x y : GenState} (h : (G.setIfInBounds i x)[j]? = some y) : (i = j ∧ y = x) ∨ (i ≠ j ∧ G[j]? = some y) := by
  by_cases c : i = j
  · subst c
    left
    by_cases b : i < G.size
    · have q : (G.setIfInBounds i x)[i]? = some x := by simp [b]
      rw [q] at h
      exact ⟨rfl, (Option.some.inj h).symm⟩
    · have q : (G.setIfInBounds i x)[i]? = none := by
        rw [Array.getElem?_eq_none_iff]
        simp only [Array.size_setIfInBounds]
        omega
      rw [q] at h; cases h
  · right
    rw [Array.getElem?_setIfInBounds_ne c] at h
    exact ⟨c, h⟩
theorem Lu.set {g i : Nat} {R x : GenState} {G G2 : Array GenState} (h : Lu g R G G2) (hi : i ≠ g) (hx : Fine x) : Lu g R (G.setIfInBounds i x) (G2.setIfInBounds i x) where
  sz := by rw [Array.size_setIfInBounds, Array.size_setIfInBounds, h.sz]
  nap := h.nap
  here := by rw [Array.getElem?_setIfInBounds_ne hi]; exact h.here
  real := by rw [Array.getElem?_setIfInBounds_ne hi]; exact h.real
  ent := fun j a b ea eb => by
    rcases set_at ea with ⟨q, e1⟩ | ⟨q, e1⟩
    · rcases set_at eb with ⟨_, e2⟩ | ⟨q2, _⟩
      · exact .inl (e1.trans e2.symm)
      · exact absurd q q2
    · rcases set_at eb with ⟨q2, _⟩ | ⟨_, e2⟩
      · exact absurd q2 q
      · exact h.ent j a b e1 e2
  fine := fun j a ea => by
    rcases set_at ea with ⟨_, e1⟩ | ⟨_, e1⟩
    · rw [e1]; exact hx
    · exact h.fine j a e1
theorem lull_nap {x : GenState} (h : Nap x) : ∃ k l c p fs cl, x = .suspended k l c p fs cl ∧ lull x = .suspended kNo l c p fs cl := by
  cases x with
  | suspended k l c p fs cl => exact ⟨k, l, c, p, fs, cl, rfl, rfl⟩
  | fresh c => exact h.elim
  | running => exact h.elim
  | finished => exact h.elim
theorem Lu.start {g : Nat} {R : GenState} {G : Array GenState} (h : G[g]? = some R) (hn : Nap R) : Lu g R (G.map lull) G where
  sz := by rw [Array.size_map]
  nap := hn
  here := by rw [Array.getElem?_map, h]; rfl
  real := h
  ent := fun i x y ex ey => by
    rw [Array.getElem?_map, ey] at ex
    exact .inr (Option.some.inj ex).symm
  fine := fun i x ex => by
    rw [Array.getElem?_map] at ex
    cases q : G[i]? with
    | none => rw [q] at ex; cases ex
    | some y =>
      rw [q] at ex
      have e : lull y = x := Option.some.inj ex
      subst e
      intro k l c p fs cl e
      cases y with
      | suspended k' l' c' p' fs' cl' =>
        have e : GenState.suspended kNo l' c' p' fs' cl' = .suspended k l c p fs cl := e
        injection e with e1
        exact .inl e1.symm
      | fresh c => exact nomatch e
      | running => exact nomatch e
      | finished => exact nomatch e
section
variable {M : Model}
def NoG (e : End) : Prop := ∀ v g₀ l k c p fs, e = .susp v g₀ l k c p fs → splitAtGen fs = none
theorem NoG.fine {e : End} (h : NoG e) : Fine e.genState := by
  cases e with
  | ret r => exact fun _ _ _ _ _ _ z => nomatch z
  | susp v g l k c p fs =>
    intro k' l' c' p' fs' cl' z
    have z : GenState.suspended k l c p fs (g || fs.any Frame.guarded) = .suspended k' l' c' p' fs' cl' := z
    injection z with _ _ _ _ z5
    rw [← z5]
    exact .inr (h v g l k c p fs rfl)
theorem fresh_dz {c : Code} {y : GenState} (q : GenState.fresh c = y ∨ GenState.fresh c = lull y) : y = .fresh c := by
  rcases q with q | q
  · exact q.symm
  · cases y with
    | fresh d => exact q.symm
    | suspended k l c p fs cl => exact nomatch q
    | running => exact nomatch q
    | finished => exact nomatch q
theorem Lu.ne {g i : Nat} {R : GenState} {G G2 : Array GenState} {c : Code} (l : Lu g R G G2) (h : G[i]? = some (.fresh c)) : i ≠ g := fun z => by
  subst z
  obtain ⟨k, l', c, p, fs, cl, _, e2⟩ := lull_nap l.nap
  rw [l.here, e2] at h; cases h
theorem Lu.fr {g i : Nat} {R : GenState} {G G2 : Array GenState} {c : Code} (l : Lu g R G G2) (h : G[i]? = some (.fresh c)) : G2[i]? = some (.fresh c) := by
  obtain ⟨y, ey, q⟩ := l.get h
  rw [fresh_dz q] at ey; exact ey
end
end Mu

namespace Mu
open PySem PySem.Spec PyProof.Rows L2 He Evl StX GenW
def gone : Obj := { cls := .none, data := .freed }
def cut (L : Nat) (h : Heap) : Heap := { h with objs := Array.ofFn (n := L) fun i => (h.objs[i.val]?).getD gone }
theorem cut_at {L b : Nat} {h : Heap} : (cut L h).objs[b]? = if b < L then some ((h.objs[b]?).getD gone) else none := by
  unfold cut
  dsimp only
  rw [Array.getElem?_ofFn]
  split <;> rfl
theorem cut_get {L b : Nat} {h : Heap} (hb : b < L) : (cut L h).get? b = h.get? b := by
  unfold Heap.get?
  rw [cut_at, if_pos hb]
  cases q : h.objs[b]? with
  | none => rfl
  | some o => rfl
theorem cut_of {L b : Nat} {h : Heap} {o : Obj} (e : (cut L h).get? b = some o) : b < L ∧ h.get? b = some o := by
  by_cases hb : b < L
  · exact ⟨hb, (cut_get hb).symm.trans e⟩
  · have q : (cut L h).objs[b]? = none := by rw [cut_at, if_neg hb]
    unfold Heap.get? at e
    rw [q] at e
    cases e
theorem cut_size {L : Nat} {h : Heap} : (cut L h).objs.size = L := by
  unfold cut
  simp
structure Fm where
  P : Program
  w : World
  K : PySem.W.Frag
  mg : Str → Option Value
  base : Heap
  N : List Str
  qual : Str
  scope : Scope
  f : Addr
  cd : Value
  A : Around
  outer : List Env
  pn : List (Addr × Obj)
  L : Addr
  E : List Addr
def Fm.pe (F : Fm) (s : Shared) : List (Addr × Obj) := F.E.map fun b => (b, (s.heap.get? b).getD gone)
theorem Fm.of_pe {F : Fm} {s : Shared} {p : Addr × Obj} (h : p ∈ F.pe s) : p.1 ∈ F.E ∧ p.2 = (s.heap.get? p.1).getD gone := by
  obtain ⟨b, hb, e⟩ := List.mem_map.mp h
  subst e
  exact ⟨hb, rfl⟩
def Fm.env (F : Fm) : Env := envOfC F.qual F.scope F.L F.f F.cd
def Fm.X (F : Fm) (s : Shared) (H : Hp) : Cx where
  prog := F.P
  w := F.w
  K := F.K
  mg := F.mg
  base := F.base
  A := F.A.deeper F.env
  N := F.N
  s_0 := { s with heap := cut F.L s.heap }
  H_0 := H
  env := F.env
  outer := F.outer
  stack := F.env :: F.outer
  ex := []
  fn := fun _ => true
  calm := true
  pn := F.pn ++ F.pe s
  xe := fun _ _ => False
structure Fit (F : Fm) : Prop where
  kind : F.scope.kind = .function
  cells : ∀ n, cellsFrom n F.scope.names [] = []
  plain : ∀ x, F.scope.names.lookup x ≠ some .cell ∧ F.scope.names.lookup x ≠ some .free
  hd : F.A.handled = none
  bsz : F.base.objs.size ≤ F.L
  below : ∀ b ∈ frs F.outer, b < F.L
theorem Fit.nocell {F : Fm} (h : Fit F) : F.env.cells = [] := h.cells _
structure Slp (F : Fm) (ip : List (Addr × Obj)) (σ : L2.St) (h : Heap) : Prop where
  loc : ∃ m, h.Ns F.L m ∧ ∀ (i : Nat) (x : Str) (v : V), F.N[i]? = some x → σ[i]? = some (some v) → Vis F.scope x → ∃ u, RelV v u ∧ m x = some u
  pin : ∀ p ∈ F.pn ++ ip, h.get? p.1 = some p.2 ∧ F.L < p.1 ∧ ∀ v, p.2.data ≠ .cell v
  len : σ.length = F.N.length
theorem Fm.inv {F : Fm} (hF : Fit F) {s : Shared} {H : Hp} {σ : L2.St} {ip : List (Addr × Obj)} (e0 : Env0 F.P F.w F.K F.mg F.base F.A F.outer s H) (hn : H F.L = none) (hp : ∀ p ∈ F.pn ++ ip, H p.1 = none) (hE : ∀ b ∈ F.E, H b = none ∧ F.L < b ∧ ∃ o, s.heap.get? b = some o ∧ ∀ v, o.data ≠ .cell v) (z : Slp F ip σ s.heap) : Inv (F.X s H) ip σ H s := by
  have nc : ∀ x c, F.env.cells.lookup x ≠ some c := fun x c e => by rw [hF.nocell] at e; cases e
  have hfr : ∀ b, b ∈ frs F.outer → ∃ o, s.heap.get? b = some o := fun b hb => by
    obtain ⟨_, o, ho, _⟩ := e0.funs.mem hb
    exact ⟨o, ho⟩
  have fun2 : ∀ l : List Env, (∀ b ∈ frs l, b < F.L) → s.heap.FunFrames F.base l → (cut F.L s.heap).FunFrames F.base l := by
    intro l
    induction l with
    | nil => intro _ _; trivial
    | cons env r ih =>
      intro hb hl
      obtain ⟨hk, ⟨L, o, hf, hn, ho, hd⟩, hr⟩ := hl
      have e : frs (env :: r) = L :: frs r := by unfold frs; rw [List.filterMap_cons, hf]
      rw [e] at hb
      exact ⟨hk, ⟨L, o, hf, hn, (cut_get (hb L List.mem_cons_self)).trans ho, hd⟩, ih (fun b q => hb b (List.mem_cons_of_mem _ q)) hr⟩
  refine ⟨⟨e0.mod, hF.kind, rfl, rfl, ?_, fun x y c h1 _ => absurd h1 (nc x c), fun x hx => ?_, fun x c _ h => absurd h (nc x c), fun _ => hF.hd, Around.frames_deeper e0.frames, .inr ⟨rfl, rfl⟩, fun b q => (nomatch q), fun b o e => ?_, ?_, fun b o e q => (nomatch q), fun b q => (nomatch q), fun2 F.outer hF.below e0.funs, e0.frf⟩,
    rfl, e0.bare, ⟨fun b o e n _ _ => (cut_of e).2, fun b o e n _ _ => ⟨o.slots, (cut_of e).2⟩, fun b o e n _ => n, fun b o e _ => ⟨o, (cut_of e).2⟩, fun _ _ q => q, fun _ _ _ q => q, fun b ps q => ⟨#[], by rw [show H b = some (.tbl ps) from q]; simp⟩⟩, ?_, fun x c e => absurd e (nc x c), hn, fun x c e => absurd e (nc x c), fun p q => ?_, e0.hok, z.len⟩
  · show (cut F.L s.heap).objs.size ≤ F.L
    rw [cut_size]; exact Nat.le_refl _
  · rcases hx with q | q
    · exact absurd q (hF.plain x).1
    · exact absurd q (hF.plain x).2
  · have hl : b < F.L := Nat.lt_of_lt_of_le (Heap.lt_size e) hF.bsz
    exact ⟨(cut_get hl).trans (e0.bs b o e).1, (e0.bs b o e).2⟩
  · show F.base.objs.size ≤ (cut F.L s.heap).objs.size
    rw [cut_size]
    exact hF.bsz
  · obtain ⟨m, hm, hl⟩ := z.loc
    refine ⟨m, hm, fun i x v e1 e2 e3 => ?_⟩
    obtain ⟨u, r, q⟩ := hl i x v e1 e2 e3
    refine ⟨u, r, .inl ⟨?_, q⟩⟩
    rcases e3 with k | k | k
    · exact k
    · exact absurd k (hF.plain x).1
    · exact absurd k (hF.plain x).2
  · have pr : p ∈ F.pn ++ ip → s.heap.get? p.1 = some p.2 ∧ H p.1 = none ∧ p.1 ≠ F.L ∧ p.1 ∉ frs F.outer ∧ ∀ v, p.2.data ≠ .cell v := fun q => by
      obtain ⟨h1, h2, h3⟩ := z.pin p q
      exact ⟨h1, hp p q, Nat.ne_of_gt h2, fun hm => absurd (hF.below _ hm) (Nat.not_lt.mpr (Nat.le_of_lt h2)), h3⟩
    rcases List.mem_append.mp q with q | q
    · rcases List.mem_append.mp q with q | q
      · exact pr (List.mem_append_left _ q)
      · obtain ⟨h1, h2⟩ := Fm.of_pe q
        obtain ⟨h3, h4, o, h5, h6⟩ := hE _ h1
        rw [h5] at h2
        have h2 : p.2 = o := h2
        exact ⟨by rw [h2]; exact h5, h3, Nat.ne_of_gt h4, fun hm => absurd (hF.below _ hm) (Nat.not_lt.mpr (Nat.le_of_lt h4)), by rw [h2]; exact h6⟩
    · exact pr (List.mem_append_right _ q)
theorem Fm.slp {F : Fm} {s₀ s : Shared} {Hr H : Hp} {σ : L2.St} {ip : List (Addr × Obj)} (hF : Fit F) (I : Inv (F.X s₀ Hr) ip σ H s) (hip : ∀ p ∈ F.pn ++ ip, F.L < p.1) : Slp F ip σ s.heap := by
  obtain ⟨m, hm, hl⟩ := I.loc
  refine ⟨⟨m, hm, fun i x v e1 e2 e3 => ?_⟩, fun p q => ?_, I.len⟩
  · obtain ⟨u, r, q⟩ := hl i x v e1 e2 e3
    refine ⟨u, r, ?_⟩
    rcases q with ⟨_, q⟩ | ⟨k, _⟩
    · exact q
    · rcases k with k | k
      · exact absurd k (hF.plain x).1
      · exact absurd k (hF.plain x).2
  · have q2 : p ∈ (F.pn ++ F.pe s₀) ++ ip := (List.mem_append.mp q).elim (fun z => List.mem_append_left _ (List.mem_append_left _ z)) fun z => List.mem_append_right _ z
    obtain ⟨h1, _, _, _, h5⟩ := I.pin p q2
    exact ⟨h1, hip p q, h5⟩
theorem Slp.keep {F : Fm} {ip : List (Addr × Obj)} {σ : L2.St} {h h' : Heap} {oL : Obj} (z : Slp F ip σ h) (e : h.get? F.L = some oL) (e' : h'.get? F.L = some oL) (hp : ∀ p ∈ F.pn ++ ip, h'.get? p.1 = some p.2) : Slp F ip σ h' := by
  obtain ⟨m, ⟨o, es, ep, ho, r⟩, hl⟩ := z.loc
  rw [e] at ho; cases ho
  exact ⟨⟨m, ⟨oL, es, ep, e', r⟩, hl⟩, fun p q => ⟨hp p q, (z.pin p q).2⟩, z.len⟩
structure Bel (X : Cx) (pins : List (Addr × Obj)) (L : Addr) (E T : List Addr) : Prop where
  s0 : ∀ b, L ≤ b → b < X.s_0.heap.objs.size → b ∈ X.ex ∨ b ∈ T
  loc : (X.env.locals < L ∧ E = []) ∨ (L < X.env.locals ∧ E = [X.env.locals])
  cell : ∀ x c, X.env.cells.lookup x = some c → c < L
  pin : ∀ p ∈ X.pn ++ pins, p.1 < L
  fs : ∀ b ∈ X.fs, b < L
theorem Bel.of {X : Cx} {pins : List (Addr × Obj)} {σ : L2.St} {H : Hp} {s : Shared} (I : Inv X pins σ H s) : Bel X pins s.heap.objs.size [] [] where
  s0 := fun b h1 h2 => absurd (Nat.lt_of_lt_of_le h2 I.sz) (Nat.not_lt.mpr h1)
  loc := .inl ⟨I.lt, rfl⟩
  cell := fun x c e => (I.cell x c e).choose_spec.lt
  pin := fun p q => Heap.lt_size (I.pin p q).1
  fs := fun b hb => by
    obtain ⟨_, o, ho, _⟩ := I.ok.funs.mem hb
    exact Nat.lt_of_lt_of_le (Heap.lt_size ho) I.sz
theorem Bel.own {X : Cx} {pins : List (Addr × Obj)} {L : Addr} {E T : List Addr} (b : Bel X pins L E T) {σ : L2.St} {H : Hp} {s : Shared} (I : Inv X pins σ H s) : ∀ x ∈ E, H x = none ∧ L < x ∧ ∃ o, s.heap.get? x = some o ∧ ∀ v, o.data ≠ .cell v := fun x hx => by
  rcases b.loc with ⟨_, e⟩ | ⟨h, e⟩
  · rw [e] at hx; exact nomatch hx
  · rw [e] at hx
    rw [List.mem_singleton.mp hx]
    obtain ⟨m, ⟨o, es, ep, ho, hd, _⟩, _⟩ := I.loc
    exact ⟨I.free, h, o, ho, fun v q => by rw [hd] at q; cases q⟩
theorem Bel.ne {X : Cx} {pins : List (Addr × Obj)} {L : Addr} {E T : List Addr} (b : Bel X pins L E T) {x : Addr} (h : L ≤ x) (hx : x ∉ E) : x ≠ X.env.locals := fun e => by
  rcases b.loc with ⟨q, _⟩ | ⟨_, q⟩
  · rw [e] at h; exact absurd q (Nat.not_lt.mpr h)
  · exact hx (by rw [q, e]; exact List.mem_singleton.mpr rfl)
theorem Inv.gens {X : Cx} {pins : List (Addr × Obj)} {σ : L2.St} {H : Hp} {s : Shared} (I : Inv X pins σ H s) {G : Array GenState} (hG : AllBare G) : Inv X pins σ H { s with gens := G } :=
  ⟨I.ok, I.os, hG, I.base, I.loc, I.cell, I.free, I.freeC, I.pin, I.hok, I.len⟩
structure Of (F : Fm) (X : Cx) : Prop where
  P : F.P = X.prog
  w : F.w = X.w
  K : F.K = X.K
  mg : F.mg = X.mg
  base : F.base = X.base
  outer : F.outer = X.stack
theorem Inv.slept2 {X : Cx} {F : Fm} {pins ip : List (Addr × Obj)} {T : List Addr} {τ σ : L2.St} {H : Hp} {s : Shared} {oL : Obj} (hb : Bel X pins F.L F.E T) (Ic : Inv X pins τ H s) (z : Slp F ip σ s.heap) (hL : s.heap.get? F.L = some oL) (hn : H F.L = none) (hp : ∀ p ∈ F.pn ++ ip, H p.1 = none ∧ p.1 ∉ F.E) : Inv X (pins ++ (F.L, oL) :: (F.pn ++ ip)) τ H s :=
  Ic.pins_of fun p q => by
    rcases List.mem_append.mp q with q | q
    · exact Ic.pin p (List.mem_append_right _ q)
    · have big : F.L ≤ p.1 → p.1 ∉ X.fs := fun h hm => absurd (hb.fs _ hm) (Nat.not_lt.mpr h)
      rcases List.mem_cons.mp q with q | q
      · subst q
        obtain ⟨m, ⟨o, es, ep, ho, hd, _⟩, _⟩ := z.loc
        rw [hL] at ho; cases ho
        refine ⟨hL, hn, hb.ne (Nat.le_refl _) (fun h => ?_), big (Nat.le_refl _), fun v y => by rw [hd] at y; cases y⟩
        exact absurd (hb.own Ic _ h).2.1 (Nat.lt_irrefl _)
      · obtain ⟨h1, h2, h3⟩ := z.pin p q
        exact ⟨h1, (hp p q).1, hb.ne (Nat.le_of_lt h2) (hp p q).2, big (Nat.le_of_lt h2), h3⟩
end Mu

namespace Mu
open PySem PySem.Spec PyProof.Rows L2 He Evl StX GenW
structure Gh where
  ys : List V
  τ : L2.St
  Hr : Hp
abbrev YL := Gh → V → Hp → (L2.St → Hp → Prop) → Prop
abbrev QL := Gh → Hp → Prop
structure G2E where
  nx : Gh → L2.St → Hp → Prop
  rt : Gh → VK
  bk : Gh → L2.St → Hp → Prop := fun _ _ _ => False
  ct : Gh → L2.St → Hp → Prop := fun _ _ _ => False
abbrev TG2 := YL → G2E → Gh → L2.St → Hp → Prop
abbrev GJ := Gh → Shared → Prop
def Y2 (F : Fm) (J : GJ) (yl : YL) : Protocol := fun n s₀ v s kap =>
  ∃ γ x ip σ H C, n + 1 + γ.ys.length = sizeLine ∧ J γ s₀ ∧ RelV x v ∧ Inv (F.X s₀ γ.Hr) ip σ H s ∧ (∀ p ∈ F.pn ++ ip, F.L < p.1 ∧ p.1 ∉ F.E) ∧ yl γ x H C ∧
    ∀ s' τ' H', C τ' H' → J ⟨γ.ys ++ [x], τ', H'⟩ s' → Inv (F.X s' H') ip σ H' s' → kap (.send .none) s'
def R2 (F : Fm) (J : GJ) (Q : QL) : GenEnd := fun n s₀ r s => match r with
  | .ok (.ret u) => ∃ γ ip σ H, J γ s₀ ∧ Inv (F.X s₀ γ.Hr) ip σ H s ∧ u = .none ∧ Q γ H
  | _ => False
def SP2 (F : Fm) (ip : List (Addr × Obj)) (D : G2E) (γ : Gh) (s₀ : Shared) (f : Flow) (s : Shared) : Prop :=
  match f with
  | .next => ∃ σ H, Inv (F.X s₀ γ.Hr) ip σ H s ∧ D.nx γ σ H
  | .brk => ∃ σ H, Inv (F.X s₀ γ.Hr) ip σ H s ∧ D.bk γ σ H
  | .cont => ∃ σ H, Inv (F.X s₀ γ.Hr) ip σ H s ∧ D.ct γ σ H
  | .ret u => ∃ v σ H, Inv (F.X s₀ γ.Hr) ip σ H s ∧ RelV v u ∧ D.rt γ v H
structure C2 (F : Fm) (ip : List (Addr × Obj)) (A : Around) (c : Code) (fs : List Frame) (gd : Bool → Bool) : Prop where
  ip : ∀ p ∈ F.pn ++ ip, F.L < p.1 ∧ p.1 ∉ F.E
  over : A.over c fs = F.A.deeper F.env
  split : splitAtGen fs = none
  guard : fs.any Frame.guarded = false
  gd : gd false = false
abbrev SegG (F : Fm) (J : GJ) (yl : YL) (A : Around) (R : GenEnd) (n : Nat) (s₀ : Shared) (c : Code) (t : Sem PySem.Fin) (fs : List Frame) (s : Shared) : Prop := Seg (model F.P F.w) A R (Y2 F J yl) n s₀ c t fs s
def K2 (F : Fm) (J : GJ) (yl : YL) (ip : List (Addr × Obj)) (A : Around) (R : GenEnd) (c : Code) (fs : List Frame) (K : Flow → Sem PySem.Fin) (D : G2E) : Prop :=
  ∀ (n : Nat) (γ : Gh) (s₀ s : Shared) (f : Flow), n + γ.ys.length = sizeLine → J γ s₀ → SP2 F ip D γ s₀ f s → SegG F J yl A R n s₀ c (K f) fs s
structure G2 (F : Fm) (st : Stmt) (t : TG2) : Prop where
  run : ∀ (J : GJ) (yl : YL) (A : Around) (ip : List (Addr × Obj)) (R : GenEnd) (n : Nat) (γ : Gh) (s₀ : Shared) (c : Code) (fs : List Frame) (K : Flow → Sem PySem.Fin) (Jx : Value → Sem PySem.Fin) (gd : Bool → Bool) (lv : List Value → List Value) (s : Shared) (σ : L2.St) (H : Hp) (D : G2E),
    C2 F ip A c fs gd → n + γ.ys.length = sizeLine → K2 F J yl ip A R c fs K D → J γ s₀ → Inv (F.X s₀ γ.Hr) ip σ H s → t yl D γ σ H → SegG F J yl A R n s₀ c ((exec st F.env).wrap K Jx gd lv) fs s
def G2E.at_ (D : G2E) (γ : Gh) : Ends := { nx := D.nx γ, rt := D.rt γ, bk := D.bk γ, ct := D.ct γ }
section
variable {F : Fm} {st : Stmt} {rest body : List Stmt} {test e : Expr} {pos yp : Pos} {ts : TS} {tc : TT} {te : TE} {t u : TG2} {a b : List Stmt}
end
section
variable {M : Model} {A : Around} {R : GenEnd} {Y : Protocol} {n : Nat} {s₀ s : Shared} {c : Code} {fs : List Frame} {env : Env} {K : Flow → Sem PySem.Fin} {Jx : Value → Sem PySem.Fin} {gd : Bool → Bool} {lv : List Value → List Value}
end
section
variable {prog : Program} {w : World} {A : Around} {R : GenEnd} {Y : Protocol} {n : Nat} {s₀ s : Shared} {c : Code} {fs : List Frame} {env : Env}
end
section
variable {F : Fm} {body : List Stmt} {pos : Pos}
end
end Mu

namespace Mu
open PySem PySem.Spec PyProof.Rows L2 He Evl StX GenW
section
variable {M : Model} {A : Around} {R : GenEnd} {Y : Protocol} {n g : Nat} {E : Value → Shared → Prop} {s : Shared} {gs : GenState}
end
section
variable {prog : Program} {w : World} {A : Around} {E : Value → Shared → Prop} {s : Shared} {F : Fm} {J : GJ} {yl : YL} {QL : QL}
end
end Mu

namespace Mu
open PySem PySem.Spec PyProof.Rows L2 He Evl StX GenW
abbrev SpY := List V → Gh → YL → QL → Prop
structure YScope (N P : List Str) (sc : Scope) : Prop where
  g : GScope N P sc
  nc : ∀ y ∈ sc.names, y.2 ≠ .cell
theorem YScope.nd {N P : List Str} {sc : Scope} (S : YScope N P sc) : N.Nodup := S.g.nd
theorem YScope.plain {N P : List Str} {sc : Scope} (S : YScope N P sc) (x : Str) : sc.names.lookup x ≠ some .cell ∧ sc.names.lookup x ≠ some .free :=
  ⟨fun e => S.nc _ (PySem.mem_of_lookup e) rfl, fun e => S.g.nofree _ (PySem.mem_of_lookup e) rfl⟩
abbrev Jc (X : Cx) (pins : List (Addr × Obj)) (T : List Addr) : GJ := fun γ s => Inv X pins γ.τ γ.Hr s ∧ ∀ b ∈ T, ∃ u, γ.Hr b = some u
abbrev priv (F : Fm) (oL : Obj) (ip : List (Addr × Obj)) : List (Addr × Obj) := (F.L, oL) :: (F.pn ++ ip)
section
variable {X : Cx} {F : Fm} {pins : List (Addr × Obj)} {T : List Addr} {a g n : Nat} {A : Around} {yl : YL} {Q : QL}
theorem slp_of {s : Shared} {τ : L2.St} {H : Hp} {oL : Obj} {ip : List (Addr × Obj)} (I : Inv X (pins ++ priv F oL ip) τ H s) : s.heap.get? F.L = some oL ∧ H F.L = none ∧ (∀ p ∈ F.pn ++ ip, s.heap.get? p.1 = some p.2 ∧ H p.1 = none) := by
  have h1 := I.pin (F.L, oL) (List.mem_append_right _ (List.mem_append_right _ List.mem_cons_self))
  refine ⟨h1.1, h1.2.1, fun p hp => ?_⟩
  have h2 := I.pin p (List.mem_append_right _ (List.mem_append_right _ (List.mem_cons_of_mem _ hp)))
  exact ⟨h2.1, h2.2.1⟩
theorem wakeInv {s : Shared} {τ σ : L2.St} {H : Hp} {oL : Obj} {h : Heap} {ip : List (Addr × Obj)} (hO : Of F X) (hA : F.A = A) (hfr : A.frames = some X.stack) (hF : Fit F) (hB : Bel X pins F.L F.E T) (I : Inv X (pins ++ priv F oL ip) τ H s) (z : Slp F ip σ h) (hL : h.get? F.L = some oL) : Inv (F.X (s.setGen g .running) H) ip σ H (s.setGen g .running) := by
  obtain ⟨q1, q2, q3⟩ := slp_of I
  have e0 := I.env0
  have own := hB.own (L2.Inv.unpinned I)
  obtain ⟨e1, e2, e3, e4, e5, e6⟩ := hO
  have e0' : Env0 F.P F.w F.K F.mg F.base F.A F.outer (s.setGen g .running) H := by
    rw [e1, e2, e3, e4, e5, e6, hA]
    exact ⟨hfr, e0.mod, e0.bs, e0.bsz, e0.funs, e0.frf, e0.hok, allBare_setGen e0.bare rfl⟩
  exact Fm.inv hF e0' q2 (fun p hp => (q3 p hp).2) own (z.keep hL q1 fun p hp => (q3 p hp).1)
end
end Mu

namespace Mu
open PySem PySem.Spec PyProof.Rows L2 He Evl StX GenW
abbrev TGy := L2.St → Hp → ((Gh → YL → QL → Prop) → Hp → Prop) → Prop
section
variable {X : Cx} {k : Nat} {f C : Addr} {fd : FuncData} {ps : List Str} {sp : SpY} {x m : Str} {p pos pos' apos : Pos} {o e : Expr} {es : List Expr} {ta : TE} {t : TA}
end
section
variable {X : Cx} {F : Fm} {pins : List (Addr × Obj)} {a g n k : Nat} {yl : YL} {Q : QL}
structure Begin (X : Cx) (pins : List (Addr × Obj)) (T : List Addr) (F : Fm) (A : Around) (a g : Nat) (pr : Gh → YL → QL → Prop) (s1 : Shared) (c : Code) (σ0 : L2.St) (oL : Obj) : Prop where
  of : Of F X
  ar : F.A = A.in1
  fit : Fit F
  bel : Bel X pins F.L F.E T
  go : ∃ go, (a, go) ∈ F.pn ∧ ∀ h : Heap, h.get? a = some go → h.IsGen a g
  get : s1.gens[g]? = some (.fresh c)
  obj : s1.heap.get? F.L = some oL
  slp : Slp F [] σ0 s1.heap
  big : ∀ b ∈ F.E, s1.heap.objs.size ≤ b
  run : ∀ yl Q γ s2, γ.ys = [] → Jc X pins T γ s2 → pr γ yl Q → Inv (F.X s2 γ.Hr) [] σ0 γ.Hr s2 → Seg (model X.prog X.w) A.in1 (R2 F (Jc X pins T) Q) (Y2 F (Jc X pins T) yl) sizeLine s2 c ((model X.prog X.w).den c) [] s2
theorem Begin.inv {A : Around} {T : List Addr} {pr : Gh → YL → QL → Prop} {s1 s2 : Shared} {c : Code} {σ0 τ : L2.St} {oL : Obj} {H : Hp} (b : Begin X pins T F A a g pr s1 c σ0 oL) (I : Inv X pins τ H s2) (hk : ∀ x o, F.L ≤ x → s1.heap.get? x = some o → s2.heap.get? x = some o) (hn : ∀ x, F.L ≤ x → x < s1.heap.objs.size → H x = none) : Inv X (pins ++ priv F oL []) τ H s2 := by
  have z := b.slp
  have h1 : ∀ p ∈ F.pn ++ [], p.1 < s1.heap.objs.size := fun p hp => Heap.lt_size (z.pin p hp).1
  refine Inv.slept2 b.bel I (z.keep b.obj (hk _ _ (Nat.le_refl _) b.obj) fun p hp => hk _ _ (Nat.le_of_lt (z.pin p hp).2.1) (z.pin p hp).1) (hk _ _ (Nat.le_refl _) b.obj) (hn _ (Nat.le_refl _) (Heap.lt_size b.obj)) fun p hp => ⟨hn _ (Nat.le_of_lt (z.pin p hp).2.1) (h1 p hp), fun hm => absurd (b.big _ hm) (Nat.not_le.mpr (h1 p hp))⟩
theorem Begin.goes {A : Around} {T : List Addr} {pr : Gh → YL → QL → Prop} {s1 s2 : Shared} {c : Code} {σ0 τ : L2.St} {oL : Obj} {H : Hp} (b : Begin X pins T F A a g pr s1 c σ0 oL) (hfr : A.frames = some X.stack) (I : Inv X (pins ++ priv F oL []) τ H s2) (hT : ∀ b ∈ T, ∃ u, H b = some u) (h : pr ⟨[], τ, H⟩ yl Q) :
    (GenState.fresh c).Goes (model X.prog X.w) A.in1 (R2 F (Jc X pins T) Q) (Y2 F (Jc X pins T) yl) sizeLine (.send .none) (s2.setGen g .running) :=
  ⟨rfl, b.run yl Q ⟨[], τ, H⟩ _ rfl ⟨L2.Inv.unpinned (Inv.gens I (allBare_setGen I.bare rfl)), hT⟩ h (wakeInv b.of b.ar hfr b.fit b.bel I b.slp b.obj)⟩
end
section
variable {X : Cx} {k : Nat} {iter tg : Expr} {body : List Stmt} {ty : TGy} {g : TG} {tb : TS} {pos : Pos}
end
end Mu

namespace Mu
open PySem PySem.Spec PyProof.Rows L2 He Evl StX GenW
section
variable {X : Cx} {F : Fm} {pins : List (Addr × Obj)} {a g k : Nat} {A : Around}
end
end Mu

namespace Mu
open PySem PySem.Spec PyProof.Rows L2 He Evl StX GenW
section
variable {X : Cx} {k : Nat}
end
end Mu

namespace Mu
open PySem PySem.Spec PyProof.Rows L2 He Evl StX GenW
def del (F : List Addr) (H : Hp) : Hp := fun a => if a ∈ F then none else H a
structure Gw (G Hr : Hp) (F : List Addr) (G1 H1 : Hp) (F1 : List Addr) : Prop where
  g : Ex G G1
  i : Ex G1 H1
  h : ∀ a o, Hr a = some o → a ∉ F → H1 a = some o
  n : ∀ a o, Hr a = some o → Mt o → a ∉ F → G a = none → G1 a = none
  f : ∀ a ∈ F1, G1 a = none ∧ (∃ o, H1 a = some o ∧ Mt o) ∧ (a ∈ F ∨ Hr a = none)
  nd : F1.Nodup
def DEM (yl : YL) (Q : QL) (out : List Rp) : Nat → Gh → Hp → List Addr → Prop
  | 0, _, _, _ => False
  | m + 1, γ, G, F => (∀ r, out[γ.ys.length]? = some r → ∀ x G1 H1 F1 C, Gw G γ.Hr F G1 H1 F1 → r.p x G1 →
      (∀ τ' H2, Ex G1 H2 → (∀ a ∈ F1, ∀ o, H1 a = some o → H2 a = some o) → DEM yl Q out m ⟨γ.ys ++ [x], τ', H2⟩ G1 F1 → C τ' H2) → yl γ x H1 C) ∧
    (out[γ.ys.length]? = none → ∀ G1 H1 F1, Gw G γ.Hr F G1 H1 F1 → Q γ H1)
def At (yl : YL) (Q : QL) (out : List Rp) (Gl : Hp) (m : Nat) (γ : Gh) (G H : Hp) (M : List Re) : Prop :=
  ∃ Gv F, DEM yl Q out m γ Gv F ∧ Ok ⟨Gv, del F γ.Hr, [], Gl⟩ G H M ∧ γ.ys.length + m ≤ 1000000
theorem At.gr {yl : YL} {Q : QL} {out : List Rp} {m : Nat} {γ : Gh} {G H G2 H2 Gl : Hp} {M : List Re} (a : At yl Q out Gl m γ G H M) (g : Gr G H G2 H2) : At yl Q out Gl m γ G2 H2 M := by
  obtain ⟨Gv, F, d, o, l⟩ := a
  exact ⟨Gv, F, d, o.gr g, l⟩
structure GKy where
  nx : Nat → Ctx → List Re → Prop
  rt : Nat → Rp → List Re → Prop := fun _ _ _ => False
  bk : Nat → Ctx → List Re → Prop := fun _ _ _ => False
  ct : Nat → Ctx → List Re → Prop := fun _ _ _ => False
def GKy.at_ (κ : GKy) (i : Nat) : Kn := { nx := κ.nx i, rt := κ.rt i, bk := κ.bk i, ct := κ.ct i }
section
variable {out : List Rp} {Γ Γ' : Ctx} {M : List Re} {i : Nat} {t u : TG2} {ts : TS} {tc : TT} {te tl : TE} {κ : GKy} {r : Rp} {K : PySem.W.Frag}
end
section
variable {B : Ba} {Gc Hr Gg G1 H1 G' H' : Hp} {M M' : List Re} {F F1 : List Addr}
end
end Mu

namespace Mu
open PySem PySem.Spec PyProof.Rows L2 He Evl StX GenW
section
variable {W : WX} {Γ : Ctx} {M : List Re} {te : TE} {ta : TA} {tg : TGy} {rs out outs : List Rp} {R : List V → Hp → List Rp → Prop} {n j : Nat} {C : Addr} {f : Str} {K : PySem.W.Frag} {ε : KX} {κ : KV} {r0 : Rp}
end
section
variable {W : WX} {Γ : Ctx} {M : List Re} {tg : TGy} {out : List Rp} {j : Nat} {tb : TS} {κ : Kn} {α : Type}
end
section
variable {out : List Rp} {Γ : Ctx} {M : List Re} {i j : Nat} {t : TG2} {tl : TE} {κ : GKy} {K : PySem.W.Frag} {α β : Type}
end
end Mu

namespace Mu
open PySem PySem.Spec PyProof.Rows L2 He Evl StX GenW
section
variable {P : Program} {w : World} {K : PySem.W.Frag} {mg : Str → Option Value} {base : Heap} {x qual : Str} {params : Arguments} {body : List Stmt} {scope : Scope} {dvs : List V} {kws : List (Str × V)} {f : Addr} {fd : FuncData}
end
section
variable {F : Fm} {st : Stmt} {body a b : List Stmt} {test e : Expr} {pos yp : Pos} {ts : TS} {tc : TT} {te : TE} {t u : TG2}
end
end Mu

namespace Mu
open PySem PySem.Spec PyProof.Rows L2 He Evl StX GenW
section
variable {Γ : Ctx} {te ts : TE} {K : PySem.W.Frag} {l r : List (List Nat)}
end
end Mu

namespace Mu
open PySem PySem.Spec PyProof.Rows L2 He Evl
section
variable {W : WX} {Γ : Ctx} {M : List Re} {κ : KV} {ε : KX} {K : PySem.W.Frag} {te ts ta : TE} {rs : List Rp}
end
end Mu

namespace Mu
open PySem PySem.Spec PyProof.Rows L2 He Evl Builtin Builtin.Str Builtin.Int Builtin.Float
section
variable {prog : Program} {w : World} {A : Around} {E : Value → Shared → Prop} {s : Shared}
end
inductive EvJ (Γ : Ctx) : List TE → List Str → Prop
  | nil : EvJ Γ [] []
  | cons {t : TE} {y : Str} {ts : List TE} {ys : List Str} (h : EvX Γ t (rS y)) (r : EvJ Γ ts ys) : EvJ Γ (t :: ts) (y :: ys)
theorem str_len_app {a b : Str} : (a ++ b).length = a.length + b.length := by
  show (a.cps ++ b.cps).size = _
  rw [Array.size_append]; rfl
theorem ev_js {Γ : Ctx} {ts : List TE} {ys : List Str} (h : EvJ Γ ts ys) : ∀ acc : Str, acc.length + (ys.map (·.length)).foldr (· + ·) 0 ≤ 100000 → EvX Γ (fun σ H Q => tJs ts acc σ H fun out H1 => Q (.str out) H1) (rS (ys.foldl (· ++ ·) acc)) := by
  induction h with
  | nil => exact fun acc _ σ G en H e Q q => q _ G H (Gr.refl e) rfl
  | @cons t y ts ys h r ih =>
    intro acc hl σ G en H e Q q
    rw [List.map_cons, List.foldr_cons] at hl
    refine h σ G en H e _ fun v G1 H1 g1 hv => ⟨y, hv, by rw [str_len_app, sizeLine_eq]; omega, ?_⟩
    exact ih (acc ++ y) (by rw [str_len_app]; omega) σ G1 (en.mono g1.g) H1 g1.i Q fun v2 G2 H2 g2 hv2 => q v2 G2 H2 (g1.trans g2) hv2
section
variable {Γ : Ctx} {te ts ta tb : TE} {n : Nat} {z : Str} {K : PySem.W.Frag}
end
end Mu

namespace Mu
open PySem PySem.Spec PyProof.Rows L2 He Evl
theorem meets_strIn {prog : Program} {w : World} {v : Value} {S : PySem.Spec} (hs : ∀ (A : Around) (R : Result → Shared → Prop) (s : Shared), S A R s →
      wpAny (model prog w) A.in1 (Builtin.Str.strOf v) (fun r s' => R (.ok (.ret r)) s') (fun e s' => R (.error e) s') s) : MeetsIn prog w (Builtin.«str.__new__» ⟨[.type "str", v], []⟩) S :=
  .of_wp fun A R s h => by
    rw [str_new_tree v]
    refine wpAny_bind (wpAny_pure ?_)
    refine wpAny_bind (wpAny_of_eq isSubtype_str_str ?_)
    exact wpAny_bind (wpAny_mono (hs A R s h) (fun r s' h' => wpAny_pure ⟨_, rfl, h'⟩) fun _ _ e => e)
section
variable {prog : Program} {w : World} {A : Around} {E : Value → Shared → Prop} {s : Shared} {K : PySem.W.Frag} {C f x : Addr} {ox : Obj} {od : Option Obj}
theorem strOf_own {Q : Value → Shared → Prop} (hu : A.units < cLine) (X : K.In s.heap) (I : PySem.W.InstAt s.heap x ox C od) (hs : PySem.W.findIn K (.ref C) "__str__" = some (some (.ref f))) (hf : PySem.W.isFn K (.ref f) = true)
    (h : wpAny (model prog w) A (call (.ref f) [.ref x]) (PySem.W.StrBack Q) E s) : wpAny (model prog w) A (Builtin.Str.strOf (.ref x)) Q E s := by
  unfold Builtin.Str.strOf
  refine wpAny_bind (wpAny_cRoomFor hu ?_)
  refine wpAny_bind (m := callSpecial? (.ref x) (Str.ofString "__str__")) (PySem.W.special_fn X I hs (beq_iff_eq.mp hf) (wpAny_mono h (fun r s' hr => ?_) fun _ _ y => y))
  cases r <;> first | exact hr.elim | skip
  exact wpAny_pure hr
end
section
variable {X : Cx} {CX : CXT} {k : Nat} {f C : Addr} {fd : FuncData} {ps : List Str} {sp : Sp} {E : XK}
def rOwnStr (C : Addr) (sp : Sp) (E : XK) : List V → Hp → VK → Prop := fun xs H Q => ∃ a dx fs, xs = [.ref a] ∧ H a = some (.ins C dx fs) ∧ sp [.ref a] H (fun v H' => ∃ m : Str, v = .str m ∧ Q (.str m) H') E
theorem call_strOwn (d : Dun X.K C "__str__" f) (G : FnOk X.prog X.w X.K X.mg X.base CX k f fd ps sp) (hr : Room (k + 2) X.A) (hu : X.A.units + 2 < cLine) (hb : Binds X.K fd ps []) (hx : Passes CX X E) : CallR X (.type "str") (rOwnStr C sp E) := by
  intro pins s σ H xs us Q I r h
  obtain ⟨a, dx, fs, rfl, ha, q⟩ := h
  obtain ⟨u, rfl, ru⟩ := vals1 r
  cases ru
  obtain ⟨mA, J, _⟩ := ins_get I.hok ha
  obtain ⟨od, J, _⟩ := J.look
  obtain ⟨m0, hF⟩ := I.fr
  have KX := I.ok.mod.kin.keeps hF.keep
  refine callType_newIn PySem.F.called_str (by decide) (PySem.F.typeCall_str_1 _) (PySem.F.newCall_str_1 _) (fun obj => PySem.F.args_object_init_2 obj _) PySem.F.entry_str_new
    (meets_strIn (S := fun A' R s' => A' = X.A.in1 ∧ s' = s ∧ wpAny (model X.prog X.w) A'.in1 (call (.ref f) [.ref a]) (PySem.W.StrBack fun r s'' => R (.ok (.ret r)) s'') (fun e s'' => R (.error e) s'') s') fun A' R s' ⟨e1, e2, hq⟩ => ?_) ⟨rfl, rfl, ?_⟩
  · subst e1 e2
    exact strOf_own (show X.A.units + 1 + 1 < cLine from hu) KX J d.at_ d.fn hq
  · refine wpAny_mono (run_fnA (A := X.A.in1.in1) (vs := [.ref a]) rfl G hr.in1.in1 hb hx I (.cons rfl .nil) q) (fun v s' h => ?_) (fun _ _ z => z)
    obtain ⟨z, H', I', rz, m, rfl, q'⟩ := h
    obtain ⟨t, rfl⟩ := rz
    exact ⟨typeIs_str _ _ _, .str m, H', I', ⟨_, rfl⟩, q'⟩
end
theorem meets_boolIn {prog : Program} {w : World} {v : Value} : MeetsIn prog w (Builtin.«bool.__new__» ⟨[.type "bool", v], []⟩) (fun A R s => wpAny (model prog w) A.in1 (truthy v) (fun b s' => R (.ok (.ret (.bool b))) s') (fun e s' => R (.error e) s') s) :=
  .of_wp fun A R s h => by
    obtain ⟨hp, g, d, tk, os⟩ := s
    have f1 := PySem.F.conv_sub_bool
    unfold Builtin.«bool.__new__»
    repeat (any_goals (first | assumption | (with_reducible refine wpAny_bind (wpAny_mono h (fun b s' h' => ?_) fun e s' h' => ?_)) | wp_step))
    exact ⟨_, rfl, h'⟩
section
variable {X : Cx} {CX : CXT} {k : Nat} {f C : Addr} {fd : FuncData} {ps : List Str} {sp : Sp} {E : XK}
def rOwnBool (C : Addr) (sp : Sp) (E : XK) : List V → Hp → VK → Prop := fun xs H Q => ∃ a dx fs, xs = [.ref a] ∧ H a = some (.ins C dx fs) ∧ sp [.ref a] H (fun v H' => ∃ b : Bool, v = .bl b ∧ Q (.bl b) H') E
theorem call_boolOwn (d : Dun X.K C "__bool__" f) (G : FnOk X.prog X.w X.K X.mg X.base CX k f fd ps sp) (hr : Room (k + 2) X.A) (hb : Binds X.K fd ps []) (hx : Passes CX X E) : CallR X (.type "bool") (rOwnBool C sp E) := by
  intro pins s σ H xs us Q I r h
  obtain ⟨a, dx, fs, rfl, ha, q⟩ := h
  obtain ⟨u, rfl, ru⟩ := vals1 r
  cases ru
  obtain ⟨mA, J, _⟩ := ins_get I.hok ha
  obtain ⟨od, J, _⟩ := J.look
  obtain ⟨m0, hF⟩ := I.fr
  refine callType_newIn PySem.F.called_bool PySem.F.newNe_bool (PySem.F.typeCall_bool_1 _) (PySem.F.newCall_bool_1 _) (fun obj => PySem.F.args_object_init_2 obj _) PySem.F.entry_bool_new meets_boolIn ?_
  refine PySem.W.truthy_K hF I.ok.mod.kin J d.at_ d.fn (wpAny_mono (run_fnA (A := X.A.in1.in1) (vs := [.ref a]) rfl G hr.in1.in1 hb hx I (.cons rfl .nil) q) (fun v s' h => ?_) (fun _ _ z => z))
  obtain ⟨z, H', I', rz, b, rfl, q'⟩ := h
  obtain rfl : v = Value.bool b := rz
  exact ⟨rfl, .bl b, H', I', rfl, q'⟩
end
section
variable {W : WX} {Γ : Ctx} {M : List Re} {κ : KV} {ε : KX} {sp : Sp} {C : Addr} {r0 : Rp}
theorem am_strI {E : XK} {m : Str} (hi : InsC C r0) (h : CM sp [r0] M (fun r M' => r = rS m ∧ κ (rS m) M')) : AM (rOwnStr C sp E) [r0] M κ := fun B G H vs o ra Q q => by
  obtain ⟨x, rfl, hx⟩ := ra1 ra
  obtain ⟨a, dx, fs, rfl, h3⟩ := hi _ _ hx
  refine ⟨a, dx, fs, rfl, o.i _ _ h3, h E B G H _ o ra _ fun v G' H' r M' z o' e hv => ?_⟩
  obtain ⟨rfl, k⟩ := z
  obtain rfl : v = V.str m := hv
  exact ⟨m, rfl, q _ G' H' _ M' k o' e rfl⟩
theorem am_boolI {E : XK} {b : Bool} (hi : InsC C r0) (h : CM sp [r0] M (fun r M' => r = rB b ∧ κ (rB b) M')) : AM (rOwnBool C sp E) [r0] M κ := fun B G H vs o ra Q q => by
  obtain ⟨x, rfl, hx⟩ := ra1 ra
  obtain ⟨a, dx, fs, rfl, h3⟩ := hi _ _ hx
  refine ⟨a, dx, fs, rfl, o.i _ _ h3, h E B G H _ o ra _ fun v G' H' r M' z o' e hv => ?_⟩
  obtain ⟨rfl, k⟩ := z
  obtain rfl : v = V.bl b := hv
  exact ⟨b, rfl, q _ G' H' _ M' k o' e rfl⟩
end
end Mu

namespace Mu
open PySem PySem.Spec PyProof.Rows L2 He Evl
section
variable {X : Cx} {CX : CXT} {k : Nat} {f C : Addr} {fd : FuncData} {ps : List Str} {sp : Sp} {E : XK}
theorem run_fnG {A : Around} {pins : List (Addr × Obj)} {σ : L2.St} {H : Hp} {s : Shared} {Q : VK} {us : List Value} {vs : List V} (hA : A.frames = X.A.frames) (F : FnG X.prog X.w X.K X.mg X.base CX k f fd ps sp) (hgd : A.guards = some []) (hr : Room k A) (hb : Binds X.K fd ps []) (hx : Passes CX X E)
    (I : Inv X pins σ H s) (r : Vals vs us) (h : sp vs H Q E) : wpAny (model X.prog X.w) A (call (.ref f) us) (EP X pins σ Q) X.xe s := by
  have hl : (us ++ []).length = ps.length := by rw [List.append_nil, ← r.length]; exact F.len _ _ _ _ h
  have e := I.env0
  have e0 : Env0 X.prog X.w X.K X.mg X.base A X.stack s H := ⟨by rw [hA]; exact e.frames, e.mod, e.bs, e.bsz, e.funs, e.frf, e.hok, e.bare⟩
  have hbb := hb s us I.kIn hl
  rw [List.append_nil] at hbb
  refine wpAny_call (codeAny_mono (F.run A X.stack s H ⟨us, []⟩ us vs Q E hgd hr e0 hbb r h) fun r s' hq => ?_)
  cases r with
  | error e => exact hx pins σ H s e s' I hq
  | ok fl =>
    cases fl with
    | ret u => exact I.after hq
    | next => exact False.elim hq
    | brk => exact False.elim hq
    | cont => exact False.elim hq
theorem call_reprOwnG (hgd : X.A.guards = some []) (d : Dun X.K C "__repr__" f) (G : FnG X.prog X.w X.K X.mg X.base CX k f fd ps sp) (hr : Room (k + 1) X.A) (hu : X.A.units + 2 < cLine) (hb : Binds X.K fd ps []) (hx : Passes CX X E) : CallR X (.builtin "repr") (rOwnStr C sp E) := by
  intro pins s σ H xs us Q I r h
  obtain ⟨a, dx, fs, rfl, ha, q⟩ := h
  obtain ⟨u, rfl, ru⟩ := vals1 r
  cases ru
  obtain ⟨mA, J, _⟩ := ins_get I.hok ha
  obtain ⟨od, J, _⟩ := J.look
  obtain ⟨m0, hF⟩ := I.fr
  refine PySem.W.repr_K (show X.A.units + 1 < cLine by omega) hF I.ok.mod.kin J d.at_ d.fn (wpAny_mono (run_fnG (A := X.A.in1) (vs := [.ref a]) rfl G hgd hr.in1 hb hx I (.cons rfl .nil) q) (fun v s' h => ?_) (fun _ _ z => z))
  obtain ⟨z, H', I', rz, m, rfl, q'⟩ := h
  obtain ⟨t, rfl⟩ := rz
  exact ⟨.str m, H', I', ⟨_, rfl⟩, q'⟩
end
def tFmtD (K : PySem.W.Frag) (te : TE) : TE := fun σ H Q => te σ H fun x H1 => ∃ (a : Addr) (d : PyData), x = .ref a ∧ Dp K H1 (.ref a) d ∧ d.showable = true ∧ d.hasDict = false ∧ d.depth ≤ 60 ∧ d.shown.length ≤ sizeLine ∧ Q (.str d.shown) H1
theorem pe_fmtD {X : Cx} {K : PySem.W.Frag} {e : Expr} {te : TE} {pos : Pos} (hg : X.A.guards = some []) (hu : X.A.units + 64 < cLine) (he : PE X e te) (hK : X.K = K := by rfl) : PE X (.FormattedValue e (-1) none pos) (tFmtD K te) := by
  subst hK
  refine ⟨fun pins s σ H Q I h => ?_⟩
  refine wpAny_FormattedValue_plain (thn (he.run pins s σ H _ I h) fun v s1 hv => ?_)
  obtain ⟨x, H1, I1, r1, a, d, rfl, hd, hs, hn, h6, hz, q⟩ := hv
  obtain rfl : v = Value.ref a := r1
  obtain ⟨as, rr⟩ := Dp.reads I1 d (.ref a) (.ref a) hd rfl
  exact formatField_of_reads rr hs (PyData.noDict_hsm hn) hg (by omega) (fun _ _ e => e) (fun h' u tk hk => ⟨.str d.shown, H1, I1.kept hk, ⟨u, rfl⟩, q⟩) hz
theorem x_fmtLL {Γ : Ctx} {K : PySem.W.Frag} {te : TE} {ll : List (List Nat)} (ht : EvX Γ te (rLL K ll)) (h : SmL ll) (h6 : ll.length ≤ 6) (hr : ∀ r ∈ ll, r.length ≤ 6) : EvX Γ (tFmtD K te) (rS (txS ll)) := fun σ G en H e Q q => ht σ G en H e _ fun v G1 H1 g1 hv => by
  have hd := dt_ll (K := K) ll
  obtain ⟨a, ws, rfl, h1, h2⟩ := id hv
  exact ⟨a, dLL ll, rfl, hd.as (.ref a) H1 ((rLL K ll).mono g1.i hv), show_ll h, PyData.hasDict_of_canLay _ hd.sh.1, Nat.le_trans hd.sh.2 (by decide), txS_len h h6 hr, q _ G1 H1 g1 rfl⟩
theorem x_fmtI {Γ : Ctx} {te : TE} {n : Nat} (ht : EvX Γ te (nI n)) (h : n.log2 < 1920) : EvX Γ (tFmt te) (rS (Str.ofString (toString ((n : Nat) : Int)))) := fun σ G en H e Q q => ht σ G en H e _ fun v G1 H1 g1 hv => .inr ⟨((n : Nat) : Int), hv, (show (((n : Nat) : Int)).natAbs.log2 < 1920 from (show (((n : Nat) : Int)).natAbs = n by omega) ▸ h), q _ G1 H1 g1 rfl⟩
theorem x_fmtT {Γ : Ctx} {te : TE} {z : Str} (ht : EvX Γ te (rS z)) (h : z.length ≤ sizeLine) : EvX Γ (tFmt te) (rS z) := fun σ G en H e Q q => ht σ G en H e _ fun v G1 H1 g1 hv => .inl ⟨z, hv, h, q _ G1 H1 g1 rfl⟩
end Mu

namespace Mu
open PySem PySem.Spec PyProof.Rows L2 He Evl
section
variable {prog : Program} {w : World} {A : Around} {E : Value → Shared → Prop} {s : Shared} {K : PySem.W.Frag} {C f x : Addr} {ox : Obj} {od : Option Obj} {b tb : Value}
theorem ne_KX (X : K.In s.heap) (I : PySem.W.InstAt s.heap x ox C od) (hb : PySem.W.Looks (model prog w) s.heap (typeOf b) tb) (hn : PySem.W.notFirst K C tb = true) (N : NeD K C) (d : Dun K C "__eq__" f) (hu : A.units + 1 < cLine) {Q : Value → Shared → Prop}
    (hcall : wpAny (model prog w) A.in1 (call (.ref f) [.ref x, b]) (fun v s' => ∃ c, v = .bool c ∧ Q (.bool (!c)) s') E s) :
    wpAny (model prog w) A (richCompare .NotEq (.ref x) b) Q E s := by
  unfold richCompare
  simp only [oneThing_ref]
  refine wpAny_holding (wpAny_bind (wpAny_cRoomFor (Nat.lt_of_succ_lt hu) ?_))
  rw [cmpInfo_NotEq]
  dsimp only
  refine wpAny_bind (I.type.here (wpAny_bind (hb.here ?_)))
  split
  · rename_i q
    have e : PySem.W.subIn K tb (.ref C) = some false := by
      rcases Bool.or_eq_true_iff.mp hn with e | e
      · rw [beq_iff_eq.mp e] at q; simp at q
      · exact beq_iff_eq.mp e
    refine wpAny_bind ((PySem.W.looks_subIn X e).here ?_)
    simp only [Bool.false_eq_true, if_false]
    refine wpAny_bind (tryNe_K X I N d hu (wpAny_mono hcall (fun v s' hv => ?_) fun _ _ e => e))
    obtain ⟨c, rfl, hq⟩ := hv
    first | exact ⟨c, rfl, wpAny_pure hq⟩ | exact ⟨c, rfl, wpAny_pure (wpAny_pure hq)⟩
  · refine wpAny_bind (wpAny_pure ?_)
    simp only [Bool.false_eq_true, if_false]
    refine wpAny_bind (tryNe_K X I N d hu (wpAny_mono hcall (fun v s' hv => ?_) fun _ _ e => e))
    obtain ⟨c, rfl, hq⟩ := hv
    first | exact ⟨c, rfl, wpAny_pure hq⟩ | exact ⟨c, rfl, wpAny_pure (wpAny_pure hq)⟩
end
section
variable {X : Cx} {CX : CXT} {k : Nat} {f C : Addr} {fd : FuncData} {ps : List Str} {sp : Sp} {E : XK} {K : PySem.W.Frag}
def rOwnX (K : PySem.W.Frag) (C : Addr) (sp : Sp) (E : XK) : L2.R2 := fun x y H Q => ∃ a dx fs t, x = .ref a ∧ H a = some (.ins C dx fs) ∧ TyX K H y t ∧ PySem.W.notFirst K C t = true ∧ sp [.ref a, y] H Q E
def rOwnXN (K : PySem.W.Frag) (C : Addr) (sp : Sp) (E : XK) : L2.R2 := fun x y H Q => rOwnX K C sp E x y H (fun v H' => ∃ c, v = .bl c ∧ Q (.bl (!c)) H')
theorem cmp_ownX {op : CmpOp} {m : Str} (hm : (cmpInfo op).2.1 = m) (hop : ∀ a b, compareOp op a b = richCompare op a b) (d : Dun X.K C m f) (F : FnOk X.prog X.w X.K X.mg X.base CX k f fd ps sp) (hr : Room k X.A) (hb : Binds X.K fd ps []) (hx : Passes CX X E) (hK : X.K = K := by rfl) : OpR X (compareOp op) (rOwnX K C sp E) := by
  subst hK
  intro pins s σ H x y u v Q I rx ry h
  obtain ⟨a, dx, fs, t, rfl, ha, ty, hn, q⟩ := h
  cases rx
  obtain ⟨mA, J, _⟩ := ins_get I.hok ha
  obtain ⟨P, Z, p, _⟩ := kit_of I ry ty
  obtain ⟨od, J, _⟩ := J.look
  obtain ⟨m0, hF⟩ := I.fr
  subst hm
  rw [hop]
  refine PySem.W.cmp_K (tb := t) hr.units0 hF I.ok.mod.kin J (Z.ty _ _ I.kIn p) hn d.at_ d.fn ?_
  exact wpAny_mono (run_fnA (vs := [.ref a, y]) rfl F hr hb hx I (.cons rfl (.cons ry .nil)) q) (fun u s' h => ep_back h) (fun _ _ z => z)
theorem ne_ownX (N : NeD X.K C) (d : Dun X.K C "__eq__" f) (F : FnOk X.prog X.w X.K X.mg X.base CX k f fd ps sp) (hr : Room (k + 1) X.A) (hb : Binds X.K fd ps []) (hx : Passes CX X E) (hK : X.K = K := by rfl) : OpR X (compareOp .NotEq) (rOwnXN K C sp E) := by
  subst hK
  intro pins s σ H x y u v Q I rx ry h
  obtain ⟨a, dx, fs, t, rfl, ha, ty, hn, q⟩ := h
  cases rx
  obtain ⟨mA, J, _⟩ := ins_get I.hok ha
  obtain ⟨P, Z, p, _⟩ := kit_of I ry ty
  obtain ⟨od, J, _⟩ := J.look
  obtain ⟨m0, hF⟩ := I.fr
  have kin := I.ok.mod.kin.keeps hF.keep
  show wpAny _ _ (richCompare .NotEq (.ref a) v) _ _ _
  refine ne_KX kin J (Z.ty _ _ I.kIn p) hn N d hr.u1 ?_
  refine wpAny_mono (run_fnA (A := X.A.in1) (vs := [.ref a, y]) rfl F hr.in1 hb hx I (.cons rfl (.cons ry .nil)) q) (fun z s' h => ?_) (fun _ _ z => z)
  obtain ⟨zv, H', I', rz, c, rfl, q'⟩ := h
  cases (show z = Value.bool c from rz)
  exact ⟨c, rfl, .bl (!c), H', I', rfl, q'⟩
end
theorem nf_list {K : PySem.W.Frag} {C : Addr} : PySem.W.notFirst K C (.type "list") = true := by rfl
theorem nf_tup {K : PySem.W.Frag} {C : Addr} : PySem.W.notFirst K C (.type "tuple") = true := by rfl
theorem nf_str {K : PySem.W.Frag} {C : Addr} : PySem.W.notFirst K C (.type "str") = true := by rfl
theorem nf_int {K : PySem.W.Frag} {C : Addr} : PySem.W.notFirst K C (.type "int") = true := by rfl
theorem nf_non {K : PySem.W.Frag} {C : Addr} : PySem.W.notFirst K C (.type "NoneType") = true := by rfl
section
variable {X : Cx} {K : PySem.W.Frag} {Γ : Ctx} {te : TE} {rs : List Rp}
def rBoolT (K : PySem.W.Frag) : List V → Hp → VK → Prop := fun xs H Q => ∃ (a : Addr) (zs : List V), xs = [.ref a] ∧ SqT K H a zs ∧ Q (.bl (!zs.isEmpty)) H
theorem call_boolT (hK : X.K = K := by rfl) : CallR X (.type "bool") (rBoolT K) := by
  subst hK
  intro pins s σ H xs us Q I r h
  obtain ⟨a, zs, rfl, hq, q⟩ := h
  obtain rfl := Vals.ref1 r
  obtain ⟨its, rv, pl, hz⟩ := I.tuple hq
  have hl := line63
  have hlen := rv.length
  refine callType_newIn PySem.F.called_bool PySem.F.newNe_bool (PySem.F.typeCall_bool_1 _) (PySem.F.newCall_bool_1 _) (fun obj => PySem.F.args_object_init_2 obj _) PySem.F.entry_bool_new meets_boolIn ?_
  refine truthy_tuple pl (by simp only [List.size_toArray]; omega) ?_
  refine ⟨rfl, .bl (!zs.isEmpty), H, I.tok _, ?_, q⟩
  show Value.bool _ = Value.bool _
  rw [isEmpty_of rv]
theorem x_boolT (h : EvX Γ te (rT K rs)) : EvX Γ (tCB (rBoolT K) (tCons te tNil)) (rB (!rs.isEmpty)) := fun σ G en H e Q q => h σ G en H e _ fun v G1 H1 g1 hv => by
  obtain ⟨a, vs, rfl, h1, h2⟩ := id hv
  have hl := h2.len
  refine ⟨a, vs, rfl, ?_, q _ G1 H1 g1 ?_⟩
  · exact ex_t g1.i h1
  · show V.bl _ = V.bl _
    cases rs <;> cases vs <;> simp_all
end
end Mu

namespace MuL
open PySem PySem.Spec PyProof.Rows L2 He Evl Mu
structure Tx (P : Program) (K : PySem.W.Frag) (mg : Str → Option Value) where
  C_Table : Addr
  g_Table : mg "Table" = some (.ref C_Table)
  c_Table : Cls K C_Table
  ic_Table : Mu.IsC K C_Table
  sf_Table : PySem.W.selfFirst K C_Table = true
  na_Table_size : NoAttr K C_Table "size"
  na_Table_masks : NoAttr K C_Table "masks"
  na_Table_cells : NoAttr K C_Table "cells"
  f_Table_total : Addr
  fd_Table_total : FuncData
  F_Table_total : FunD K "total" "Table.total" (defArgs s_Table_total) (defBody s_Table_total) (defScope s_Table_total) [] [] f_Table_total fd_Table_total
  pr_Table_total : Mu.PropG K C_Table "total" f_Table_total
  f_Table_certain : Addr
  fd_Table_certain : FuncData
  F_Table_certain : FunD K "certain" "Table.certain" (defArgs s_Table_certain) (defBody s_Table_certain) (defScope s_Table_certain) [] [] f_Table_certain fd_Table_certain
  pr_Table_certain : Mu.PropG K C_Table "certain" f_Table_certain
  f_bits : Addr
  fd_bits : FuncData
  F_bits : FunD K "bits" "bits" (defArgs s_bits) (defBody s_bits) (defScope s_bits) [] [] f_bits fd_bits
  g_bits : mg "bits" = some (.ref f_bits)
  f_mask_of : Addr
  fd_mask_of : FuncData
  F_mask_of : FunD K "mask_of" "mask_of" (defArgs s_mask_of) (defBody s_mask_of) (defScope s_mask_of) [] [] f_mask_of fd_mask_of
  g_mask_of : mg "mask_of" = some (.ref f_mask_of)
  f_masks_of : Addr
  fd_masks_of : FuncData
  F_masks_of : FunD K "masks_of" "masks_of" (defArgs s_masks_of) (defBody s_masks_of) (defScope s_masks_of) [] [] f_masks_of fd_masks_of
  g_masks_of : mg "masks_of" = some (.ref f_masks_of)
  f_check_size : Addr
  fd_check_size : FuncData
  F_check_size : FunD K "check_size" "check_size" (defArgs s_check_size) (defBody s_check_size) (defScope s_check_size) [] [] f_check_size fd_check_size
  g_check_size : mg "check_size" = some (.ref f_check_size)
  f_Table___init__ : Addr
  fd_Table___init__ : FuncData
  F_Table___init__ : FunD K "__init__" "Table.__init__" (defArgs s_Table___init__) (defBody s_Table___init__) (defScope s_Table___init__) [] [] f_Table___init__ fd_Table___init__
  mk_Table : Mk K C_Table f_Table___init__
  f_Table_rows : Addr
  fd_Table_rows : FuncData
  F_Table_rows : FunD K "rows" "Table.rows" (defArgs s_Table_rows) (defBody s_Table_rows) (defScope s_Table_rows) [] [] f_Table_rows fd_Table_rows
  M_Table_rows : Meth K C_Table "rows" f_Table_rows
  d_Table_rows : Mu.Dun K C_Table "rows" f_Table_rows
  f_check_word : Addr
  fd_check_word : FuncData
  F_check_word : FunD K "check_word" "check_word" (defArgs s_check_word) (defBody s_check_word) (defScope s_check_word) [] [] f_check_word fd_check_word
  g_check_word : mg "check_word" = some (.ref f_check_word)
  f_written : Addr
  fd_written : FuncData
  F_written : FunD K "written" "written" (defArgs s_written) (defBody s_written) (defScope s_written) [] [] f_written fd_written
  g_written : mg "written" = some (.ref f_written)
  f_Table___len__ : Addr
  fd_Table___len__ : FuncData
  F_Table___len__ : FunD K "__len__" "Table.__len__" (defArgs s_Table___len__) (defBody s_Table___len__) (defScope s_Table___len__) [] [] f_Table___len__ fd_Table___len__
  M_Table___len__ : Meth K C_Table "__len__" f_Table___len__
  d_Table___len__ : Mu.Dun K C_Table "__len__" f_Table___len__
  f_Table___bool__ : Addr
  fd_Table___bool__ : FuncData
  F_Table___bool__ : FunD K "__bool__" "Table.__bool__" (defArgs s_Table___bool__) (defBody s_Table___bool__) (defScope s_Table___bool__) [] [] f_Table___bool__ fd_Table___bool__
  M_Table___bool__ : Meth K C_Table "__bool__" f_Table___bool__
  d_Table___bool__ : Mu.Dun K C_Table "__bool__" f_Table___bool__
  f_Table___str__ : Addr
  fd_Table___str__ : FuncData
  F_Table___str__ : FunD K "__str__" "Table.__str__" (defArgs s_Table___str__) (defBody s_Table___str__) (defScope s_Table___str__) [] [] f_Table___str__ fd_Table___str__
  M_Table___str__ : Meth K C_Table "__str__" f_Table___str__
  d_Table___str__ : Mu.Dun K C_Table "__str__" f_Table___str__
  f_Table___repr__ : Addr
  fd_Table___repr__ : FuncData
  F_Table___repr__ : FunD K "__repr__" "Table.__repr__" (defArgs s_Table___repr__) (defBody s_Table___repr__) (defScope s_Table___repr__) [] [] f_Table___repr__ fd_Table___repr__
  M_Table___repr__ : Meth K C_Table "__repr__" f_Table___repr__
  d_Table___repr__ : Mu.Dun K C_Table "__repr__" f_Table___repr__
  f_Table___eq__ : Addr
  fd_Table___eq__ : FuncData
  F_Table___eq__ : FunD K "__eq__" "Table.__eq__" (defArgs s_Table___eq__) (defBody s_Table___eq__) (defScope s_Table___eq__) [] [] f_Table___eq__ fd_Table___eq__
  M_Table___eq__ : Meth K C_Table "__eq__" f_Table___eq__
  d_Table___eq__ : Mu.Dun K C_Table "__eq__" f_Table___eq__
  f_Table___contains__ : Addr
  fd_Table___contains__ : FuncData
  F_Table___contains__ : FunD K "__contains__" "Table.__contains__" (defArgs s_Table___contains__) (defBody s_Table___contains__) (defScope s_Table___contains__) [] [] f_Table___contains__ fd_Table___contains__
  M_Table___contains__ : Meth K C_Table "__contains__" f_Table___contains__
  d_Table___contains__ : Mu.Dun K C_Table "__contains__" f_Table___contains__
  f__law_box : Addr
  fd__law_box : FuncData
  F__law_box : FunD K "_law_box" "_law_box" (defArgs s__law_box) (defBody s__law_box) (defScope s__law_box) [] [] f__law_box fd__law_box
  g__law_box : mg "_law_box" = some (.ref f__law_box)
  f__law_take : Addr
  fd__law_take : FuncData
  F__law_take : FunD K "_law_take" "_law_take" (defArgs s__law_take) (defBody s__law_take) (defScope s__law_take) [] [] f__law_take fd__law_take
  g__law_take : mg "_law_take" = some (.ref f__law_take)
  f__law_words : Addr
  fd__law_words : FuncData
  F__law_words : FunD K "_law_words" "_law_words" (defArgs s__law_words) (defBody s__law_words) (defScope s__law_words) [] [] f__law_words fd__law_words
  g__law_words : mg "_law_words" = some (.ref f__law_words)
  f__law_rows : Addr
  fd__law_rows : FuncData
  F__law_rows : FunD K "_law_rows" "_law_rows" (defArgs s__law_rows) (defBody s__law_rows) (defScope s__law_rows) [] [] f__law_rows fd__law_rows
  g__law_rows : mg "_law_rows" = some (.ref f__law_rows)
  f__law_far : Addr
  fd__law_far : FuncData
  F__law_far : FunD K "_law_far" "_law_far" (defArgs s__law_far) (defBody s__law_far) (defScope s__law_far) [] [] f__law_far fd__law_far
  g__law_far : mg "_law_far" = some (.ref f__law_far)
  f__law_is : Addr
  fd__law_is : FuncData
  F__law_is : FunD K "_law_is" "_law_is" (defArgs s__law_is) (defBody s__law_is) (defScope s__law_is) [] [] f__law_is fd__law_is
  g__law_is : mg "_law_is" = some (.ref f__law_is)
  f__law_pairs : Addr
  fd__law_pairs : FuncData
  F__law_pairs : FunD K "_law_pairs" "_law_pairs" (defArgs s__law_pairs) (defBody s__law_pairs) (defScope s__law_pairs) [] [] f__law_pairs fd__law_pairs
  g__law_pairs : mg "_law_pairs" = some (.ref f__law_pairs)
  f__law_entry : Addr
  fd__law_entry : FuncData
  F__law_entry : FunD K "_law_entry" "_law_entry" (defArgs s__law_entry) (defBody s__law_entry) (defScope s__law_entry) [] [] f__law_entry fd__law_entry
  g__law_entry : mg "_law_entry" = some (.ref f__law_entry)
  f__law_members : Addr
  fd__law_members : FuncData
  F__law_members : FunD K "_law_members" "_law_members" (defArgs s__law_members) (defBody s__law_members) (defScope s__law_members) [] [] f__law_members fd__law_members
  g__law_members : mg "_law_members" = some (.ref f__law_members)
  f__law_unlike : Addr
  fd__law_unlike : FuncData
  F__law_unlike : FunD K "_law_unlike" "_law_unlike" (defArgs s__law_unlike) (defBody s__law_unlike) (defScope s__law_unlike) [] [] f__law_unlike fd__law_unlike
  g__law_unlike : mg "_law_unlike" = some (.ref f__law_unlike)
  f_law : Addr
  fd_law : FuncData
  F_law : FunD K "law" "law" (defArgs s_law) (defBody s_law) (defScope s_law) [] [] f_law fd_law
  g_law : mg "law" = some (.ref f_law)
  pf : Mu.PF P "/claim/cut.py"
  m_super : mg "super" = none
  C_UnknownWord : Addr
  g_UnknownWord : mg "UnknownWord" = some (.ref C_UnknownWord)
  f_UnknownWord___init__ : Addr
  fd_UnknownWord___init__ : FuncData
  cda_UnknownWord___init__ : Addr
  cc_UnknownWord___init__ : Addr
  S_UnknownWord___init__ : Mu.FunS K "__init__" "UnknownWord.__init__" (defArgs s_UnknownWord___init__) (defBody s_UnknownWord___init__) (defScope s_UnknownWord___init__) "/claim/cut.py" C_UnknownWord f_UnknownWord___init__ fd_UnknownWord___init__ cda_UnknownWord___init__ cc_UnknownWord___init__
  err_UnknownWord : Mu.ErrC K C_UnknownWord f_UnknownWord___init__
  nf_UnknownWord_word : PySem.W.findIn K (.ref C_UnknownWord) "word" = some none
  xm_UnknownWord : PySem.W.exmOne K (.ref C_UnknownWord) (.ref C_UnknownWord) = some true
  ni_Table_list : PySem.W.kitOne K (.type "list") (.ref C_Table) = some false
  ni_Table_tuple : PySem.W.kitOne K (.type "tuple") (.ref C_Table) = some false
  ni_Table_str : PySem.W.kitOne K (.type "str") (.ref C_Table) = some false
  ni_Table_int : PySem.W.kitOne K (.type "int") (.ref C_Table) = some false
  ni_Table_NoneType : PySem.W.kitOne K (.type "NoneType") (.ref C_Table) = some false
  m_len : mg "len" = none
  m_range : mg "range" = none
  m_tuple : mg "tuple" = none
  m_list : mg "list" = none
  m_int : mg "int" = none
  m_abs : mg "abs" = none
  m_enumerate : mg "enumerate" = none
  m_isinstance : mg "isinstance" = none
  m_bool : mg "bool" = none
  m_str : mg "str" = none
  m_iter : mg "iter" = none
  m_ValueError : mg "ValueError" = none
  m_repr : mg "repr" = none
  gi_GREATEST_SIZE : ∃ t, mg "GREATEST_SIZE" = some (.int 6 t)
  ne_Table : Mu.NeD K C_Table
theorem mkTx {P : Program} {K : PySem.W.Frag} {h : Heap} {mg : Str → Option Value} (pf : Mu.PF P "/claim/cut.py") (X : K.In h) (G : h.Ns mainGlobals mg) (c : Mu.SaysP fa ex fn sn an K) : ∃ T : Tx P K mg, T.f_law = fAd K ("law", none) := by
  obtain ⟨fd_Table_total, F_Table_total⟩ := c.any_ 0 (d := d_Table_total) rfl
  obtain ⟨fd_Table_certain, F_Table_certain⟩ := c.any_ 1 (d := d_Table_certain) rfl
  obtain ⟨fd_bits, F_bits⟩ := c.def_ 0 (d := d_bits) rfl
  obtain ⟨fd_mask_of, F_mask_of⟩ := c.def_ 1 (d := d_mask_of) rfl
  obtain ⟨fd_masks_of, F_masks_of⟩ := c.def_ 2 (d := d_masks_of) rfl
  obtain ⟨fd_check_size, F_check_size⟩ := c.def_ 3 (d := d_check_size) rfl
  obtain ⟨fd_Table___init__, F_Table___init__⟩ := c.def_ 4 (d := d_Table___init__) rfl
  obtain ⟨fd_Table_rows, F_Table_rows⟩ := c.def_ 5 (d := d_Table_rows) rfl
  obtain ⟨fd_check_word, F_check_word⟩ := c.def_ 6 (d := d_check_word) rfl
  obtain ⟨fd_written, F_written⟩ := c.def_ 7 (d := d_written) rfl
  obtain ⟨fd_Table___len__, F_Table___len__⟩ := c.def_ 8 (d := d_Table___len__) rfl
  obtain ⟨fd_Table___bool__, F_Table___bool__⟩ := c.def_ 9 (d := d_Table___bool__) rfl
  obtain ⟨fd_Table___str__, F_Table___str__⟩ := c.def_ 10 (d := d_Table___str__) rfl
  obtain ⟨fd_Table___repr__, F_Table___repr__⟩ := c.def_ 11 (d := d_Table___repr__) rfl
  obtain ⟨fd_Table___eq__, F_Table___eq__⟩ := c.def_ 12 (d := d_Table___eq__) rfl
  obtain ⟨fd_Table___contains__, F_Table___contains__⟩ := c.def_ 13 (d := d_Table___contains__) rfl
  obtain ⟨fd__law_box, F__law_box⟩ := c.def_ 14 (d := d__law_box) rfl
  obtain ⟨fd__law_take, F__law_take⟩ := c.def_ 15 (d := d__law_take) rfl
  obtain ⟨fd__law_words, F__law_words⟩ := c.def_ 16 (d := d__law_words) rfl
  obtain ⟨fd__law_rows, F__law_rows⟩ := c.def_ 17 (d := d__law_rows) rfl
  obtain ⟨fd__law_far, F__law_far⟩ := c.def_ 18 (d := d__law_far) rfl
  obtain ⟨fd__law_is, F__law_is⟩ := c.def_ 19 (d := d__law_is) rfl
  obtain ⟨fd__law_pairs, F__law_pairs⟩ := c.def_ 20 (d := d__law_pairs) rfl
  obtain ⟨fd__law_entry, F__law_entry⟩ := c.def_ 21 (d := d__law_entry) rfl
  obtain ⟨fd__law_members, F__law_members⟩ := c.def_ 22 (d := d__law_members) rfl
  obtain ⟨fd__law_unlike, F__law_unlike⟩ := c.def_ 23 (d := d__law_unlike) rfl
  obtain ⟨fd_law, F_law⟩ := c.def_ 24 (d := d_law) rfl
  obtain ⟨fd_UnknownWord___init__, cda_UnknownWord___init__, cc_UnknownWord___init__, S_UnknownWord___init__⟩ := c.sup_ 0 (d := d_UnknownWord___init__) rfl
  exact ⟨⟨ga K "Table", glo_ok X G (c.fact 0 (f := .glo "Table") rfl), cls_ok (c.fact 1 (f := .cls "Table") rfl), Mu.isCB_ok (cls_ok (c.fact 2 (f := .cls "Table") rfl)) (c.exf 0 (f := (fun K => Mu.isCB K (ga K "Table"))) rfl), (c.exf 1 (f := (fun K => PySem.W.selfFirst K (ga K "Table"))) rfl), noat_ok (c.fact 3 (f := .noat "Table" "size") rfl), noat_ok (c.fact 4 (f := .noat "Table" "masks") rfl), noat_ok (c.fact 5 (f := .noat "Table" "cells") rfl), Mu.pAd K "Table" "total" "property", fd_Table_total, F_Table_total, Mu.propB_ok (c.exf 2 (f := (fun K => Mu.propB K (ga K "Table") "total" (Mu.pAd K "Table" "total" "property"))) rfl), Mu.pAd K "Table" "certain" "property", fd_Table_certain, F_Table_certain, Mu.propB_ok (c.exf 3 (f := (fun K => Mu.propB K (ga K "Table") "certain" (Mu.pAd K "Table" "certain" "property"))) rfl), fAd K ("bits", none), fd_bits, F_bits, glo_ok X G (c.fact 6 (f := .glo "bits") rfl), fAd K ("mask_of", none), fd_mask_of, F_mask_of, glo_ok X G (c.fact 7 (f := .glo "mask_of") rfl), fAd K ("masks_of", none), fd_masks_of, F_masks_of, glo_ok X G (c.fact 8 (f := .glo "masks_of") rfl), fAd K ("check_size", none), fd_check_size, F_check_size, glo_ok X G (c.fact 9 (f := .glo "check_size") rfl), fAd K ("Table", some "__init__"), fd_Table___init__, F_Table___init__, mkr_ok (c.fact 10 (f := .mkr "Table") rfl), fAd K ("Table", some "rows"), fd_Table_rows, F_Table_rows, meth_ok (c.fact 11 (f := .meth "Table" "rows") rfl), ⟨(meth_ok (c.fact 11 (f := .meth "Table" "rows") rfl)).1, (meth_ok (c.fact 11 (f := .meth "Table" "rows") rfl)).2⟩, fAd K ("check_word", none), fd_check_word, F_check_word, glo_ok X G (c.fact 12 (f := .glo "check_word") rfl), fAd K ("written", none), fd_written, F_written, glo_ok X G (c.fact 13 (f := .glo "written") rfl), fAd K ("Table", some "__len__"), fd_Table___len__, F_Table___len__, meth_ok (c.fact 14 (f := .meth "Table" "__len__") rfl), ⟨(meth_ok (c.fact 14 (f := .meth "Table" "__len__") rfl)).1, (meth_ok (c.fact 14 (f := .meth "Table" "__len__") rfl)).2⟩, fAd K ("Table", some "__bool__"), fd_Table___bool__, F_Table___bool__, meth_ok (c.fact 15 (f := .meth "Table" "__bool__") rfl), ⟨(meth_ok (c.fact 15 (f := .meth "Table" "__bool__") rfl)).1, (meth_ok (c.fact 15 (f := .meth "Table" "__bool__") rfl)).2⟩, fAd K ("Table", some "__str__"), fd_Table___str__, F_Table___str__, meth_ok (c.fact 16 (f := .meth "Table" "__str__") rfl), ⟨(meth_ok (c.fact 16 (f := .meth "Table" "__str__") rfl)).1, (meth_ok (c.fact 16 (f := .meth "Table" "__str__") rfl)).2⟩, fAd K ("Table", some "__repr__"), fd_Table___repr__, F_Table___repr__, meth_ok (c.fact 17 (f := .meth "Table" "__repr__") rfl), ⟨(meth_ok (c.fact 17 (f := .meth "Table" "__repr__") rfl)).1, (meth_ok (c.fact 17 (f := .meth "Table" "__repr__") rfl)).2⟩, fAd K ("Table", some "__eq__"), fd_Table___eq__, F_Table___eq__, meth_ok (c.fact 18 (f := .meth "Table" "__eq__") rfl), ⟨(meth_ok (c.fact 18 (f := .meth "Table" "__eq__") rfl)).1, (meth_ok (c.fact 18 (f := .meth "Table" "__eq__") rfl)).2⟩, fAd K ("Table", some "__contains__"), fd_Table___contains__, F_Table___contains__, meth_ok (c.fact 19 (f := .meth "Table" "__contains__") rfl), ⟨(meth_ok (c.fact 19 (f := .meth "Table" "__contains__") rfl)).1, (meth_ok (c.fact 19 (f := .meth "Table" "__contains__") rfl)).2⟩, fAd K ("_law_box", none), fd__law_box, F__law_box, glo_ok X G (c.fact 20 (f := .glo "_law_box") rfl), fAd K ("_law_take", none), fd__law_take, F__law_take, glo_ok X G (c.fact 21 (f := .glo "_law_take") rfl), fAd K ("_law_words", none), fd__law_words, F__law_words, glo_ok X G (c.fact 22 (f := .glo "_law_words") rfl), fAd K ("_law_rows", none), fd__law_rows, F__law_rows, glo_ok X G (c.fact 23 (f := .glo "_law_rows") rfl), fAd K ("_law_far", none), fd__law_far, F__law_far, glo_ok X G (c.fact 24 (f := .glo "_law_far") rfl), fAd K ("_law_is", none), fd__law_is, F__law_is, glo_ok X G (c.fact 25 (f := .glo "_law_is") rfl), fAd K ("_law_pairs", none), fd__law_pairs, F__law_pairs, glo_ok X G (c.fact 26 (f := .glo "_law_pairs") rfl), fAd K ("_law_entry", none), fd__law_entry, F__law_entry, glo_ok X G (c.fact 27 (f := .glo "_law_entry") rfl), fAd K ("_law_members", none), fd__law_members, F__law_members, glo_ok X G (c.fact 28 (f := .glo "_law_members") rfl), fAd K ("_law_unlike", none), fd__law_unlike, F__law_unlike, glo_ok X G (c.fact 29 (f := .glo "_law_unlike") rfl), fAd K ("law", none), fd_law, F_law, glo_ok X G (c.fact 30 (f := .glo "law") rfl), pf, free_ok X G (c.fact 31 (f := .free "super") rfl), ga K "UnknownWord", glo_ok X G (c.fact 32 (f := .glo "UnknownWord") rfl), fAd K ("UnknownWord", some "__init__"), fd_UnknownWord___init__, cda_UnknownWord___init__, cc_UnknownWord___init__, S_UnknownWord___init__, Mu.errB_ok (c.exf 4 (f := (fun K => Mu.errB K (ga K "UnknownWord") (fAd K ("UnknownWord", some "__init__")))) rfl), He.eqO_ok (c.exf 5 (f := (fun K => He.eqO (PySem.W.findIn K (.ref (ga K "UnknownWord")) "word") (some none))) rfl), of_decide_eq_true (c.exf 6 (f := (fun K => decide (PySem.W.exmOne K (.ref (ga K "UnknownWord")) (.ref (ga K "UnknownWord")) = some true))) rfl), of_decide_eq_true (c.exf 7 (f := (fun K => decide (PySem.W.kitOne K (.type "list") (.ref (ga K "Table")) = some false))) rfl), of_decide_eq_true (c.exf 8 (f := (fun K => decide (PySem.W.kitOne K (.type "tuple") (.ref (ga K "Table")) = some false))) rfl), of_decide_eq_true (c.exf 9 (f := (fun K => decide (PySem.W.kitOne K (.type "str") (.ref (ga K "Table")) = some false))) rfl), of_decide_eq_true (c.exf 10 (f := (fun K => decide (PySem.W.kitOne K (.type "int") (.ref (ga K "Table")) = some false))) rfl), of_decide_eq_true (c.exf 11 (f := (fun K => decide (PySem.W.kitOne K (.type "NoneType") (.ref (ga K "Table")) = some false))) rfl), free_ok X G (c.fact 33 (f := .free "len") rfl), free_ok X G (c.fact 34 (f := .free "range") rfl), free_ok X G (c.fact 35 (f := .free "tuple") rfl), free_ok X G (c.fact 36 (f := .free "list") rfl), free_ok X G (c.fact 37 (f := .free "int") rfl), free_ok X G (c.fact 38 (f := .free "abs") rfl), free_ok X G (c.fact 39 (f := .free "enumerate") rfl), free_ok X G (c.fact 40 (f := .free "isinstance") rfl), free_ok X G (c.fact 41 (f := .free "bool") rfl), free_ok X G (c.fact 42 (f := .free "str") rfl), free_ok X G (c.fact 43 (f := .free "iter") rfl), free_ok X G (c.fact 44 (f := .free "ValueError") rfl), free_ok X G (c.fact 45 (f := .free "repr") rfl), int_ok X G (c.fact 46 (f := .int "GREATEST_SIZE" 6) rfl), Mu.neB_ok (c.exf 12 (f := (fun K => Mu.neB K (ga K "Table"))) rfl)⟩, rfl⟩
end MuL

namespace MuL
open PySem PySem.Spec PyProof.Rows L2 He Evl Mu
section
variable {P : Program} {w : World} {K : PySem.W.Frag} {mg : Str → Option Value} {base : Heap}
local macro_rules | `(tactic| wtm_at "s") => `(tactic| first | assumption | omega | exact rfl | decide | wtm_at "s2")
local macro_rules | `(tactic| wtm_at "s2") => `(tactic| (simp only [List.length_map, List.length_range, List.length_cons, List.length_nil, List.length_append, List.length_take, List.length_drop]; omega))
local macro_rules | `(tactic| wtm_at "j") => `(tactic| first | exact List.mem_cons_self | (simp; done))
local macro_rules | `(tactic| wtm_at "tr") => `(tactic| (apply t_is; (focus (wtm_at "t")); exact rfl))
local macro_rules | `(tactic| wtm_at "bs") => `(tactic| first | exact rfl | (simp; done) | (simp [*]; done))
local macro_rules | `(tactic| wtm_at "yes") => `(tactic| (apply w_yes; (focus (apply t_is; (focus (wtm_at "t")); first | exact rfl | (simp; done) | (simp [*]; done)))))
local macro_rules | `(tactic| wtm_at "no") => `(tactic| (apply w_no; (focus (apply t_is; (focus (wtm_at "t")); first | exact rfl | (simp; done) | (simp [*]; done)))))
local macro_rules | `(tactic| wtm_at "nn") => `(tactic| first | exact nn_tab | exact nn_L | exact nn_T | exact nn_I)
local macro_rules | `(tactic| wtm_at "sub") => `(tactic| repeat' first | exact Paired.nil | refine Paired.cons (Or.inr rfl) ?_ | refine Paired.cons (Or.inl rfl) ?_)
local macro_rules | `(tactic| wtm_at "o") => `(tactic| first
    | ((with_reducible show OM (L2.rI CMul _) _ _ _ _); first | refine om (x_mulN (x_v rfl) (x_v rfl) (by first | exact .inl (by wtm_at "s") | exact .inr (by wtm_at "s"))) ?_)
    | ((with_reducible show OM (L2.rI CDiv _) _ _ _ _); first | refine om (x_divN (x_v rfl) (x_v rfl) (by wtm_at "s") (by wtm_at "s")) ?_)
    | ((with_reducible show OM (rI0 _) _ _ _ _); first | refine om (x_addN (x_v rfl) (x_v rfl)) ?_ | refine om (x_subN (x_v rfl) (x_v rfl) (by wtm_at "s")) ?_ | refine om (x_bandN (x_v rfl) (x_v rfl)) ?_ | refine om (x_borN (x_v rfl) (x_v rfl)) ?_ | refine om (x_ltN (x_v rfl) (x_v rfl)) ?_ | refine om (x_leN (x_v rfl) (x_v rfl)) ?_ | refine om (x_gtN (x_v rfl) (x_v rfl)) ?_ | refine om (x_geN (x_v rfl) (x_v rfl)) ?_ | refine om (x_I0 (x_v rfl) (x_v rfl)) ?_)
    | ((with_reducible show OM (L2.rI _ _) _ _ _ _); first | refine om (x_powN (x_v rfl) (x_v rfl) (by wtm_at "s") (by wtm_at "s")) ?_ | refine om (x_shrN (x_v rfl) (x_v rfl)) ?_ | refine om (x_shlN1 (x_v rfl) (x_v rfl) (by wtm_at "s")) ?_ | refine om (x_I (x_v rfl) (x_v rfl) (by wtm_at "s")) ?_)
    | ((with_reducible show OM rEq _ _ _ _); first | refine om (x_eqN (x_v rfl) (x_v rfl)) ?_ | refine om (x_eqI (x_v rfl) (x_v rfl)) ?_ | refine om (x_eqV (x_v rfl) (x_v rfl) rfl) ?_)
    | ((with_reducible show OM rNe _ _ _ _); first | refine om (x_neN (x_v rfl) (x_v rfl)) ?_ | refine om (x_neI (x_v rfl) (x_v rfl)) ?_ | refine om (x_neV (x_v rfl) (x_v rfl) rfl) ?_)
    | ((with_reducible show OM (rIxT _) _ _ _ _); first | refine om (x_ixTn (x_v rfl) (x_v rfl) (by wtm_at "s")) ?_ | refine om (x_ixT (x_v rfl) (x_v rfl) rfl) ?_ | refine om (x_ixTm default (x_v rfl) (x_v rfl) (by wtm_at "s")) ?_)
    | ((with_reducible show OM (rIxL _) _ _ _ _); first | refine om (x_ixB (x_v rfl) (x_v rfl) (by wtm_at "s")) ?_ | refine om (x_ixLn (x_v rfl) (x_v rfl) (by wtm_at "s")) ?_ | refine om (x_ixLL (x_v rfl) (x_v rfl) (by wtm_at "s")) ?_ | refine om_ixOwn 0 rfl (by wtm_at "s") ?_ | refine om_ixOwn 1 rfl (by wtm_at "s") ?_ | refine om_ixOwn 2 rfl (by wtm_at "s") ?_ | refine om_ixOwn 3 rfl (by wtm_at "s") ?_ | refine om (x_ixL (x_v rfl) (x_v rfl) rfl) ?_ | refine om (x_ixL (x_v rfl) (x_v rfl) (by assumption)) ?_ | refine om (x_ixLm default (x_v rfl) (x_v rfl) (by wtm_at "s")) ?_)
    | ((with_reducible show OM (rIn _ _) _ _ _ _); first | refine om (x_inLn (l := [_, _]) (x_v rfl) (x_v rfl)) ?_ | refine om (x_inLn (l := [_, _, _]) (x_v rfl) (x_v rfl)) ?_ | refine om (x_inLn (x_v rfl) (x_v rfl)) ?_ | refine om (x_niLn (x_v rfl) (x_v rfl)) ?_ | refine om (x_niTn (x_v rfl) (x_v rfl)) ?_ | refine om (x_inTi true (x_v rfl) (x_v rfl)) ?_ | refine om (x_inTi false (x_v rfl) (x_v rfl)) ?_ | refine om (x_inLi true (x_v rfl) (x_v rfl)) ?_ | refine om (x_inLi false (x_v rfl) (x_v rfl)) ?_)
    | ((with_reducible show OM (rEqD _) _ _ _ _); first | refine om (x_eqLn0 (x_v rfl) (x_v rfl)) ?_ | refine om (x_eqLn (x_v rfl) (x_v rfl)) ?_ | refine om (x_eqTn (x_v rfl) (x_v rfl)) ?_ | refine om (x_eqLL (x_v rfl) (x_v rfl)) ?_)
    | ((with_reducible show OM (rNeD _) _ _ _ _); first | refine om (x_neLn0 (x_v rfl) (x_v rfl)) ?_ | refine om (x_neLn (x_v rfl) (x_v rfl)) ?_ | refine om (x_neTn (x_v rfl) (x_v rfl)) ?_ | refine om (x_neLL (x_v rfl) (x_v rfl)) ?_ | refine om (x_neP (x_v rfl) (x_v rfl)) ?_)
    | ((with_reducible show OM (rInD _) _ _ _ _); first | refine om (x_inP (x_v rfl) (x_v rfl)) ?_)
    | ((with_reducible show OM (rNotInD _) _ _ _ _); first | refine om (x_niP (x_v rfl) (x_v rfl)) ?_)
    | ((with_reducible show OM (rInTD _) _ _ _ _); first | refine om (x_inTP (x_v rfl) (x_v rfl)) ?_)
    | ((with_reducible show OM rIsB _ _ _ _); first | refine om (x_isB (x_v rfl) (x_v rfl)) ?_)
    | ((with_reducible show OM rNotB _ _ _ _); first | refine om (x_isNB (x_v rfl) (x_v rfl)) ?_)
    | ((with_reducible show OM (fun _ _ _ _ => _ ∧ _) _ _ _ _); first | refine om_isN0 ?_ | refine om_notN0 ?_ | refine om_isN1 (by wtm_at "nn") ?_ | refine om_notN1 (by wtm_at "nn") ?_)
    | ((with_reducible show OM rInS _ _ _ _); first | refine om (x_inS (x_v rfl) (x_v rfl)) ?_)
    | ((with_reducible show OM rNotInS _ _ _ _); first | refine om (x_niS (x_v rfl) (x_v rfl)) ?_)
    | ((with_reducible show OM rLtS _ _ _ _); first | refine om (x_ltS (x_v rfl) (x_v rfl)) ?_)
    | ((with_reducible show OM rAddT _ _ _ _); first | refine om_addL (by wtm_at "s") ?_ | refine om (x_addT (x_v rfl) (x_v rfl) (by wtm_at "s")) ?_)
    | ((with_reducible show OM rIxS _ _ _ _); first | refine om_ixT (by wtm_at "s") (by assumption) ?_ | refine om (x_ixS (x_v rfl) (x_v rfl) (by wtm_at "s") (by assumption)) ?_)
    | ((with_reducible show OM rDIn _ _ _ _); first | refine om_dinF ?_)
    | ((with_reducible show OM rDNotIn _ _ _ _); first | refine om_dniF ?_)
    | ((with_reducible show OM rDGet _ _ _ _); first | refine om_dgetF (by assumption) ?_)
    | ((with_reducible show OM rRep _ _ _ _); first | refine om_rep (by wtm_at "s") (by wtm_at "s") ?_)
    | ((with_reducible show OM rCat _ _ _ _); first | refine om_cat (by wtm_at "s") ?_ | refine om (x_catm (x_v rfl) (x_v rfl) (by wtm_at "s")) ?_))
local macro_rules | `(tactic| wtm_at "a") => `(tactic| first
    | ((with_reducible show AM (rLenS _) _ _ _); first | refine am1 (x_lenLn (x_v rfl)) ?_ | refine am1 (x_lenTn (x_v rfl)) ?_ | refine am1 (x_lenB (x_v rfl)) ?_ | refine am1 (x_lenLL (x_v rfl)) ?_ | refine am1 (x_lenLm (x_v rfl)) ?_ | refine am1 (x_lenTm (x_v rfl)) ?_ | refine am_own 0 rfl (x_lenLm (x_v rfl)) ?_ | refine am_own 1 rfl (x_lenLm (x_v rfl)) ?_ | refine am_own 2 rfl (x_lenLm (x_v rfl)) ?_ | refine am_own 3 rfl (x_lenLm (x_v rfl)) ?_ | refine am_own 1 rfl (x_lenLm' (x_v rfl)) ?_ | refine am_own 2 rfl (x_lenLm' (x_v rfl)) ?_ | refine am1 (x_lenL (x_v rfl)) ?_ | refine am1 (x_lenT (x_v rfl)) ?_)
    | ((with_reducible show AM Mu.rLenT _ _ _); first | refine am_lenL (by wtm_at "s") ?_ | refine am_lenT (Nat.le_of_ble_eq_true rfl) ?_ | refine am_lenT (by wtm_at "s") ?_)
    | ((with_reducible show AM rLenD _ _ _); first | refine am_lenD ?_)
    | ((with_reducible show AM (rTupO _) _ _ _); first | refine am1 (x_tupL (x_v rfl)) ?_)
    | ((with_reducible show AM rListK _ _ _); first | refine am_listK (K := by assumption) (by assumption) ?_)
    | ((with_reducible show AM (rListS _) _ _ _); first | refine am_listL ?_ | refine am_listT ?_ | refine am_listOwn 0 rfl ?_ | refine am_listOwn 1 rfl ?_ | refine am_listOwn 2 rfl ?_)
    | ((with_reducible show AM (rIsi _) _ _ _); first | refine am2c (x_isInt (x_v rfl)) ?_ | refine am2c (x_isList (x_v rfl)) ?_ | refine am2c (x_isTup (x_v rfl)) ?_ | refine am2c (x_isStrS (x_v rfl)) ?_ | refine am2c (x_isIntS (x_v rfl)) ?_ | refine am2c (x_isTab (Tx.ic_Table (by assumption)) (x_v rfl)) ?_ | refine am2c (x_isIns (by assumption) (by assumption) (x_v rfl)) ?_)
    | ((with_reducible show AM _ _ _ _); first | refine am1 (x_int (x_v rfl)) ?_ | refine mk_tab (by assumption) (by wtm_at "s") (by wtm_at "s") ?_))
local macro_rules | `(tactic| wtm_at "c") => `(tactic| fail)

local macro_rules | `(tactic| wtm_at "f") => `(tactic| first
    | refine f_own 0 rfl (by wtm_at "s") (by wtm_at "s") rfl ?_
    | refine f_own _ (by assumption) (by wtm_at "s") (by wtm_at "s") rfl ?_
    | refine f_ins (by wtm_at "s") (by wtm_at "s") rfl ?_
    | refine f_tab (x_size (x_v rfl) (Tx.c_Table (by assumption)) (Tx.na_Table_size (by assumption))) ?_
    | refine f_tab (x_masks (x_v rfl) (Tx.c_Table (by assumption)) (Tx.na_Table_masks (by assumption))) ?_
    | refine f_tab (x_cells (x_v rfl) (Tx.c_Table (by assumption)) (Tx.na_Table_cells (by assumption))) ?_)
local macro_rules | `(tactic| wtm_at "v") => `(tactic| first
    | ((with_reducible show EW _ _ _ (tMakeV _ _ _) _ _); refine e_makeV rfl ?_)
    | ((with_reducible show EW _ _ _ (tCM [_] _ (WE _) _) _ _); refine e_cmS ?_)
    | ((with_reducible show EW _ _ _ (tCM [] _ (WE _) _) _ _); refine e_smS ?_)
    | ((with_reducible show EW _ _ _ (tCM [_] _ _ _) _ _); refine e_cm ?_)
    | ((with_reducible show EW _ _ _ (tCM [] _ _ _) _ _); refine e_sm ?_)
    | ((with_reducible show EW _ _ _ (ClX.tCVal _ _ _) _ _); refine e_cval (by assumption) (by assumption) ?_)
    | ((with_reducible show EW _ _ _ (tVar _) _ _); refine e_v rfl ?_)
    | ((with_reducible show EW _ _ _ (tC (V.int _)) _ _); refine e_cn ?_)
    | ((with_reducible show EW _ _ _ (tC _) _ _); refine e_c ?_)
    | ((with_reducible show EW _ _ _ (tOp _ _ _) _ _); refine e_op ?_)
    | ((with_reducible show EW _ _ _ (tCB _ _) _ _); refine e_cb ?_)
    | ((with_reducible show EW _ _ _ (tCall _ [_] _ _) _ _); refine e_callD0 ?_)
    | ((with_reducible show EW _ _ _ (tCall _ _ _ _) _ _); refine e_call ?_)
    | ((with_reducible show EW _ _ _ (tCallS _ _ _) _ _); refine e_callS ?_)
    | ((with_reducible show EW _ _ _ (tFld _ _ _) _ _); refine e_fld _ ?_)
    | ((with_reducible show EW _ _ _ (tTup _) _ _); refine e_tup (by assumption) ?_)
    | ((with_reducible show EW _ _ _ (tLst _) _ _); refine e_lst (by assumption) ?_)
    | ((with_reducible show EW _ _ _ (tUn _ _) _ _); refine e_un ?_)
    | ((with_reducible show EW _ _ _ (tMake _ (spTab _ _) _ _ _) _ _); refine e_make ?_)
    | ((with_reducible show EW _ _ _ (tMakeS _ _ _ _) _ _); refine e_makeS ?_)
    | ((with_reducible show EW _ _ _ (tMeth _ _ _ _ _ _ _) _ _); refine e_meth ?_)
    | ((with_reducible show EW _ _ _ (tMethS _ _ _ _ _ _) _ _); refine e_methS ?_)
    | ((with_reducible show EW _ _ _ (tProp _ _ _ _ _) _ _); refine e_prop ?_)
    | ((with_reducible show EW _ _ _ (tLc (iList _ _) _ tYes _ _) _ _); apply e_lcL0; (focus (wtm_at "x")); (focus (wtm_at "s")); (focus (intro a ha; wtm_at "x")); (focus (wtm_at "j")))
    | ((with_reducible show EW _ _ _ (tLc (iTup _ _) _ tYes _ _) _ _); apply e_lcT0; (focus (wtm_at "x")); (focus (wtm_at "s")); (focus (intro a ha; wtm_at "x")); (focus (wtm_at "j")))
    | ((with_reducible show EW _ _ _ (tLc (iRng1 _) _ tYes _ _) _ _); apply e_lcR0 (by assumption); (focus (wtm_at "x")); (focus (wtm_at "s")); (focus (intro a ha; wtm_at "x")); (focus (wtm_at "j")))
    | ((with_reducible show EW _ _ _ (tLc (iList _ _) _ _ _ _) _ _); apply e_lcL; (focus (wtm_at "x")); (focus (wtm_at "s")); (focus (intro a ha; wtm_at "tr")); (focus (intro a ha hf; wtm_at "x")); (focus (wtm_at "j")))
    | ((with_reducible show EW _ _ _ (tLc (iTup _ _) _ _ _ _) _ _); apply e_lcT; (focus (wtm_at "x")); (focus (wtm_at "s")); (focus (intro a ha; wtm_at "tr")); (focus (intro a ha hf; wtm_at "x")); (focus (wtm_at "j")))
    | ((with_reducible show EW _ _ _ (tLc (iRng1 _) _ _ _ _) _ _); apply e_lcR (by assumption); (focus (wtm_at "x")); (focus (wtm_at "s")); (focus (intro a ha; wtm_at "tr")); (focus (intro a ha hf; wtm_at "x")); (focus (wtm_at "j")))
    | ((with_reducible show EW _ _ _ (tSl (rSlL _) _ tNoPart (tPart _)) _ _); apply e_slTo; (focus (wtm_at "x")))
    | ((with_reducible show EW _ _ _ (tSl (rSlL _) _ (tPart _) tNoPart) _ _); apply e_slFrom; (focus (wtm_at "x")))
    | ((with_reducible show EW _ _ _ (tSl rSlS _ tNoPart (tPart _)) _ _); apply e_sSTo; (focus (wtm_at "x")))
    | ((with_reducible show EW _ _ _ (tSl rSlS _ (tPart _) tNoPart) _ _); apply e_sSFrom; (focus (wtm_at "x")))
    | ((with_reducible show EW _ _ _ (tAndV _ _) _ _); first | (apply e_and; (focus (wtm_at "x")); (focus (intro hq; wtm_at "x"))) | (apply e_x; (focus (apply x_and0; (focus (wtm_at "x")); wtm_at "bs"))))
    | ((with_reducible show EW _ _ _ (tOrV _ _) _ _); first | (apply e_or; (focus (wtm_at "x")); (focus (intro hq; wtm_at "x"))) | (apply e_x; (focus (apply x_or1; (focus (wtm_at "x")); wtm_at "bs"))))
    | ((with_reducible show EW _ _ _ (tMake _ (spIni _ _) _ _ _) _ _); refine e_makeI ?_ spIni_E)
    | ((with_reducible show EW _ _ _ (tSup _ _ _ _ _ _ _) _ _); refine e_sup rfl (by assumption) ?_)
    | ((with_reducible show EW _ _ _ (tNotV _) _ _); apply e_not; (focus (wtm_at "x")))
    | ((with_reducible show EW _ _ _ (tBM _ _ _ _ _) _ _); first | refine e_app 0 rfl ?_ rfl | refine e_app 1 rfl ?_ rfl | refine e_app 2 rfl ?_ rfl | refine e_app 3 rfl ?_ rfl))
local macro_rules | `(tactic| wtm_at "e1") => `(tactic| first
    | ((with_reducible show EW _ _ _ _ _ _); wtm_at "v")
    | ((with_reducible show EA _ _ _ _ _ _); first | refine a_cons ?_ | refine a_nil ?_)
    | ((with_reducible show OM _ _ _ _ _); first | wtm_at "o" | wtm_at "c")
    | ((with_reducible show AM _ _ _ _); first | wtm_at "a" | wtm_at "c")
    | ((with_reducible show CM _ _ _ _); wtm_at "c")
    | ((with_reducible show XM _ _ _ _ _); wtm_at "c")
    | ((with_reducible show MkM _ _ _ _ _ _); wtm_at "c")
    | ((with_reducible show UM _ _ _ _); first | wtm_at "f" | refine um (x_neg (x_v rfl)) ?_ | wtm_at "c")
    | ((with_reducible show InsR _ _ _ ∧ _); first | refine ⟨ins_tab rfl, ?_⟩ | refine ⟨ins_ins rfl, ?_⟩ | refine ⟨ins_ins (by assumption), ?_⟩)
    | ((with_reducible show (∀ (v : V) (G : Hp), _ → ∃ a dx fs, _) ∧ _); first | refine ⟨ins_is, ?_⟩ | refine ⟨tab_is, ?_⟩)
    | ((with_reducible show And (@LE.le Nat _ _ _) _); refine ⟨Nat.le_of_ble_eq_true rfl, ?_⟩)
    | ((with_reducible show ∃ rs : List Rp, _ ∧ _ ∧ _); refine ⟨_, rfl, by wtm_at "s", ?_⟩)
    | ((with_reducible show ∃ rs : List Rp, _ = rL _ rs ∧ _); refine ⟨_, rfl, ?_⟩)
    | ((with_reducible show ∃ l : List Nat, _ = rV _ ∧ _ ∧ _ ∧ _); refine ⟨_, rfl, by wtm_at "s", by wtm_at "s", ?_⟩)
    | ((with_reducible show ∃ fs : FL, _ ∧ _ ∧ _ ∧ _); refine ⟨_, rfl, rfl, Nat.le_of_ble_eq_true rfl, ?_⟩)
    | ((with_reducible show _ = _ ∧ _ = ([] : List Re)); first | exact ⟨rfl, rfl⟩ | exact ⟨by wtm_at "q", rfl⟩))
local macro_rules | `(tactic| wtm_at "q") => `(tactic| first | rfl | exact congrArg nI (by omega) | exact congrArg Mu.rI (by omega) | exact congrArg rB (by wtm_at "b"))
local macro_rules | `(tactic| wtm_at "b") => `(tactic| first | rfl | (rw [Bool.eq_iff_iff]; simp; omega))
local macro_rules | `(tactic| wtm_at "e") => `(tactic| repeat wtm_at "e1")
local macro_rules | `(tactic| wtm_at "co") => `(tactic| fail)

local macro_rules | `(tactic| wtm_at "eo") => `(tactic| repeat first | ((with_reducible show CM _ _ _ _); wtm_at "co") | ((with_reducible show XM _ _ _ _ _); wtm_at "co") | wtm_at "e1")
local macro_rules | `(tactic| wtm_at "x") => `(tactic| first | exact x_v rfl | exact x_c | (apply EvX.by; intro W ε; (wtm_at "e"); done))
local macro_rules | `(tactic| wtm_at "t") => `(tactic| first
    | ((with_reducible show EvTX _ tYes _); exact t_yes)
    | ((with_reducible show EvTX _ (tAnd _ _) _); first | (apply t_and; (focus (wtm_at "t")); (focus (intro hq; wtm_at "t"))) | (apply t_and0; (focus (wtm_at "t")); wtm_at "bs"))
    | ((with_reducible show EvTX _ (tOr _ _) _); first | (apply t_or; (focus (wtm_at "t")); (focus (intro hq; wtm_at "t"))) | (apply t_or1; (focus (wtm_at "t")); wtm_at "bs"))
    | ((with_reducible show EvTX _ (tNot _) _); apply t_not; wtm_at "t")
    | ((with_reducible show EvTX _ (tTest (tChain _ _ _ _ _)) _); apply t_chain; (focus (wtm_at "x")); (focus (wtm_at "x")); (focus (wtm_at "x")))
    | ((with_reducible show EvTX _ (tTest _) _); apply t_T; wtm_at "x")
    | ((with_reducible show EvTX _ (tB _) _); apply t_B; wtm_at "x"))
local macro_rules | `(tactic| wtm_at "tq") => `(tactic| (apply t_is; (focus (wtm_at "t")); try wtm_at "b"))
local macro_rules | `(tactic| wtm_at "if") => `(tactic| (apply w_if; (focus (wtm_at "t"))))
local macro_rules | `(tactic| wtm_at "ifc") => `(tactic| (refine ws_if ?_; (repeat first | refine w_tNot ?_ | refine w_tB ?_ | refine w_t ?_ | wtm_at "e1" | ((with_reducible show ∃ c : Bool, _ = rB c ∧ _); refine ⟨_, rfl, ?_⟩)); refine ⟨?_, ?_⟩))
local macro_rules | `(tactic| wtm_at "w1") => `(tactic| first
    | ((with_reducible show WP _ _ _ (tSeq _ _) _); refine w_seq ?_)
    | ((with_reducible show WP _ _ _ (tAsg _ (gName _)) _); refine ws_set ?_; (wtm_at "e"); dsimp only [List.set])
    | ((with_reducible show WP _ _ _ (tRet _) _); refine ws_ret ?_; (wtm_at "e"))
    | ((with_reducible show WP _ _ _ (sFld _ (tVar _) _ _) _); refine ws_fld 0 rfl rfl (by wtm_at "s") (by wtm_at "s") ?_; (wtm_at "e"); dsimp only [List.set])
    | ((with_reducible show WP _ _ _ (tDrop _) _); refine ws_do ?_; (wtm_at "e"))
    | ((with_reducible show WP _ _ _ tNext _); (refine w_nx ?_))
    | ((with_reducible show WP _ _ _ tRetN _); refine w_ret0 ?_))
local macro_rules | `(tactic| wtm_at "w") => `(tactic| repeat ((try dsimp only); wtm_at "w1"))
theorem sc_bits : FnScope ["mask", "found", "place"] ["mask"] (defScope s_bits) := ⟨rfl, rfl, rfl, by decide +kernel, rfl, by decide +kernel, by decide +kernel⟩
theorem b_bits (T : Tx P K mg) : Binds K T.fd_bits ["mask"] [] := T.F_bits.bindsN fun _ _ _ _ _ _ us hl => match us, hl with | [_], _ => rfl
def R_bits : List V → Hp → List Rp → Prop := fun vs _ rs => ∃ n : Nat, vs = [.int (n : Int)] ∧ n < 2 ^ 64 ∧ rs = (bitsN n).map nI
theorem ok_bits (T : Tx P K mg) : FnOk P w K mg base CX0 1 T.f_bits T.fd_bits ["mask"] (spN R_bits) := by
  refine T.F_bits.ok sc_bits (fun vs H Q E h => ?_) (fun cdv A outer s H vs Q E hr h => ?_)
  · obtain ⟨G, rs, _, ⟨n, rfl, _⟩, _⟩ := h
    rfl
  · obtain ⟨G, rs, e, ⟨n, rfl, hn, rfl⟩, k⟩ := h
    refine ⟨_, PSs.nox (pss_cons (ps_set (i := 1) sc_bits.nd rfl (Or.inl rfl) (pe_lst pa_nil))
      (pss_cons (ps_set (i := 2) sc_bits.nd rfl (Or.inl rfl) pe_int)
      (pss_cons (ps_while PassesOwn.never (pt_cmpR op_gt (pv 0) pe_int (nomark _)) (pss_cons (ps_if (pt_cmpR op_eq (pe_op op_and (pv 0) pe_int) pe_int (nomark _)) (pss_one (ps_expr (pe_bm PySem.F.plainAttrs_list PySem.F.slot_list_append PySem.F.type_list_append mt_append (pv 1) (pa_cons (pv 2) pa_nil)))) pss_nil)
      (pss_cons (ps_set (i := 0) sc_bits.nd rfl (Or.inl rfl) (pe_op op_shr (pv 0) pe_int))
      (pss_one (ps_set (i := 2) sc_bits.nd rfl (Or.inl rfl) (pe_op op_add (pv 2) pe_int))))))
      (pss_one (ps_ret (pv 1)))))), ?_⟩
    refine sq (s_setN e (en_lst ead_nil (by decide)) fun p vs G1 H1 g1 hp gp h1 ra => ?_)
    cases ra
    refine sq (Mu.s_set g1.i ev_c fun H2 e2 => ?_)
    refine sq (s_while (fun m σ' H' => ∃ i : Nat, σ' = [some (.int ((n / 2 ^ i : Nat) : Int)), some (.ref p), some (.int (i : Int))] ∧ m = n / 2 ^ i ∧ i ≤ 64 ∧ Ex H H' ∧ H' p = some (.lst (((List.range i).filter n.testBit).map fun (j : Nat) => V.int (j : Int)))) n ⟨0, ?_, by simp, by omega, g1.h.trans e2, e2 _ _ h1⟩ fun m σ' H' ⟨i, hσ, hm, hi, eH, hl⟩ => ?_)
    · simp; rfl
    · subst hσ
      refine ⟨_, et_cmp (ev_var rfl) ev_c, fun hb H3 e3 => ?_, fun hb H3 e3 => ?_⟩
      · have hpos : (0 : Int) < ((n / 2 ^ i : Nat) : Int) := of_decide_eq_true hb
        have hi64 : i < 64 := by
          rcases Nat.lt_or_ge i 64 with q | q
          · exact q
          · have e64 : i = 64 := by omega
            subst e64
            rw [Nat.div_eq_of_lt hn] at hpos
            omega
        refine ⟨_, fun _ _ z => z, ?_⟩
        have tl : ∀ H4 ls, Ex H H4 → H4 p = some (.lst ls) → ls = (((List.range (i + 1)).filter n.testBit).map fun (j : Nat) => V.int (j : Int)) → ∀ D : Ends,
            (∀ σ2 H2, (∃ m', m' < m ∧ ∃ i : Nat, σ2 = [some (.int ((n / 2 ^ i : Nat) : Int)), some (.ref p), some (.int (i : Int))] ∧ m' = n / 2 ^ i ∧ i ≤ 64 ∧ Ex H H2 ∧ H2 p = some (.lst (((List.range i).filter n.testBit).map fun (j : Nat) => V.int (j : Int)))) → D.nx σ2 H2) →
            tSeq (tAsg (tOp (rI (fun _ j => 0 ≤ j) fun i j => .int (i / 2 ^ j.toNat)) (tVar 0) (tC (.int 1))) (gName 0)) (tAsg (tOp (rI0 fun i j => .int (i + j)) (tVar 2) (tC (.int 1))) (gName 2)) D [some (.int ((n / 2 ^ i : Nat) : Int)), some (.ref p), some (.int (i : Int))] H4 := by
          intro H4 ls e4 h4 hls D hD
          refine sq (Mu.s_set (Ex.refl H4) (ev_op (ev_var rfl) ev_c (rv_I (by decide))) fun H5 e5 => ?_)
          refine Mu.s_set (Ex.refl H5) (ev_op (ev_var rfl) ev_c rv_I0) fun H6 e6 => ?_
          refine hD _ _ ⟨n / 2 ^ (i + 1), ?_, i + 1, ?_, rfl, by omega, (e4.trans e5).trans e6, by rw [e6 _ _ (e5 _ _ h4), hls]⟩
          · rw [hm, Nat.pow_succ, ← Nat.div_div_eq_div_mul]
            exact Nat.div_lt_self (by omega) (by decide)
          · rw [shr1, Nat.div_div_eq_div_mul, ← Nat.pow_succ]
            rfl
        refine sq (s_ifE (Ex.refl H3) (et_eq (ev_op (ev_var rfl) ev_c rv_I0) ev_c rfl) (fun hb H4 e4 => ?_) (fun hb H4 e4 => ?_))
        · have hbit : n.testBit i = true := by
            have q := of_decide_eq_true hb
            have q2 : Builtin.bitAnd ((n / 2 ^ i : Nat) : Int) 1 = 1 := by injection q
            rw [← bit_test, shr_nat]
            exact decide_eq_true q2
          have hl4 := e4 _ _ (e3 _ _ hl)
          refine s_app hl4 (ev_var rfl) (ev_var rfl) (by have := List.length_filter_le n.testBit (List.range i); rw [List.length_map]; rw [List.length_range] at this; omega) fun H5 e5 => ?_
          refine tl _ _ (Ex.mut ((eH.trans e3).trans (e4.trans e5)) hp) upd_same ?_ _ fun _ _ z => z
          rw [List.range_succ, List.filter_append, List.map_append]
          simp [hbit]
        · have hbit : n.testBit i = false := by
            have q := of_decide_eq_false hb
            cases z : n.testBit i with
            | false => rfl
            | true =>
              refine absurd ?_ q
              rw [← bit_test, shr_nat] at z
              rw [of_decide_eq_true z]
          refine nxt ?_
          refine tl H4 _ ((eH.trans e3).trans e4) (e4 _ _ (e3 _ _ hl)) ?_ _ fun _ _ z => z
          rw [List.range_succ, List.filter_append, List.map_append]
          simp [hbit]
      · have h0 : n / 2 ^ i = 0 := by
          have q := of_decide_eq_false hb
          omega
        have hlt : n < 2 ^ i := by
          rcases Nat.lt_or_ge n (2 ^ i) with q | q
          · exact q
          · have := Nat.div_pos q (Nat.two_pow_pos i)
            omega
        rw [bits_eq hlt] at hl
        refine s_retE (Ex.refl H3) (ev_var rfl) fun H4 e4 => ?_
        exact k p _ G H4 ((Gr.refl e).more ((eH.trans e3).trans e4)) hp (fresh_back e hp) (e4 _ _ (e3 _ _ hl)) ra_nats

theorem c_bits (T : Tx P K mg) {M : List Re} {κ : KV} {n : Nat} (h : n < 2 ^ 64) (k : κ (rLn K (bitsN n)) M) : CM (spN R_bits) [nI n] M κ := cmn (fun vs G ra => by
  obtain ⟨x, rfl, hx⟩ := ra1 ra
  obtain rfl : x = V.int (n : Int) := hx
  exact SpN.of ⟨n, rfl, h, rfl⟩) k
theorem o_bits (T : Tx P K mg) {M : List Re} {κ : KV} {n : Nat} (h : n < 2 ^ 64) (k : ∀ p, κ (rV (.ref p)) (M ++ [lstR p ((bitsN n).map nI)])) : CM (spN R_bits) [nI n] M κ := cmo (fun vs G ra => by
  obtain ⟨x, rfl, hx⟩ := ra1 ra
  obtain rfl : x = V.int (n : Int) := hx
  exact SpN.of ⟨n, rfl, h, rfl⟩) k
local macro_rules | `(tactic| wtm_at "co") => `(tactic| refine o_bits (by assumption) (by wtm_at "s") ?_)
local macro_rules | `(tactic| wtm_at "c") => `(tactic| refine c_bits (by assumption) (by wtm_at "s") ?_)
theorem sc_mask_of : FnScope ["words", "mask", "word"] ["words"] (defScope s_mask_of) := ⟨rfl, rfl, rfl, by decide +kernel, rfl, by decide +kernel, by decide +kernel⟩
theorem b_mask_of (T : Tx P K mg) : Binds K T.fd_mask_of ["words"] [] := T.F_mask_of.bindsN fun _ _ _ _ _ _ us hl => match us, hl with | [_], _ => rfl
def R_mask_of (K : PySem.W.Frag) : List V → Hp → Rp → Prop := fun vs G r => ∃ (x : V) (l : List Nat), vs = [x] ∧ (rLn K l).p x G ∧ (∀ w ∈ l, w < 64) ∧ r = nI (maskN l)
theorem ok_mask_of (T : Tx P K mg) : FnOk P w K mg base CX0 1 T.f_mask_of T.fd_mask_of ["words"] (spD (R_mask_of K)) := by
  refine T.F_mask_of.ok sc_mask_of (fun vs H Q E h => ?_) (fun cdv A outer s H vs Q E hr h => ?_)
  · obtain ⟨G, r, _, ⟨x, l, rfl, _⟩, _⟩ := h
    rfl
  · obtain ⟨G, r, e, ⟨x, l, rfl, hx, hl, rfl⟩, k⟩ := h
    refine ⟨_, PSs.nox (pss_cons (ps_set (i := 1) sc_mask_of.nd rfl (Or.inl rfl) pe_int)
      (pss_cons (ps_for PassesOwn.never rfl (pi_listK K (pv 0)) (pg_name (i := 2) sc_mask_of.nd rfl (Or.inl rfl)) (pss_one (ps_set (i := 1) sc_mask_of.nd rfl (Or.inl rfl) (pe_op op_or (pv 1) (pe_op op_shl pe_int (pv 2))))))
      (pss_one (ps_ret (pv 1))))), ?_⟩
    refine sq (Mu.s_set e ev_c fun H1 e1 => ?_)
    refine sq (Mu.s_forL l nI (e.trans e1) (ed_var rfl hx) (fun G1 i σ' H' => Ex G1 H' ∧ Ex H H' ∧ ∃ u, σ' = [some x, some (.int ((maskN (l.take i) : Nat) : Int)), u]) (fun G1 H2 g => ⟨g.i, e1.trans g.h, none, rfl⟩) (fun _ _ _ _ p => p.1) ?_ ?_)
    · rintro G1 i w y σ' H' eG hi hy ⟨e2, e3, u, rfl⟩
      obtain rfl : y = V.int (w : Int) := hy
      have hw := hl w (List.mem_of_getElem? hi)
      refine Mu.s_set (Ex.refl H') (ev_op (ev_var rfl) (ev_op ev_c (ev_var rfl) (rv_I ⟨by omega, by omega, by decide⟩)) rv_I0) fun H4 e4 => ?_
      refine ⟨e2.trans e4, e3.trans e4, some (.int (w : Int)), ?_⟩
      show [some x, some (.int (Builtin.bitOr ((maskN (l.take i) : Nat) : Int) (1 * 2 ^ ((w : Int)).toNat))), some (.int (w : Int))] = _
      rw [shl_nat, bor_nat, ← maskN_take hi]
    · rintro G1 σ' H' eG ⟨e2, e3, u, rfl⟩
      rw [List.take_length]
      refine s_retE (Ex.refl H') (ev_var rfl) fun H4 e4 => k _ G H4 ((Gr.refl e).more (e3.trans e4)) rfl

theorem c_mask_of (T : Tx P K mg) {M : List Re} {κ : KV} {l : List Nat} (h : ∀ w ∈ l, w < 64) (k : κ (nI (maskN l)) M) : CM (spD (R_mask_of K)) [rLn K l] M κ := cm (fun vs G ra => by
  obtain ⟨x, rfl, hx⟩ := ra1 ra
  exact SpD.of ⟨x, l, rfl, hx, h, rfl⟩) k
local macro_rules | `(tactic| wtm_at "c") => `(tactic| refine c_mask_of (by assumption) (by wtm_at "s") ?_)
theorem sc_masks_of : FnScope ["rows", "row"] ["rows"] (defScope s_masks_of) := ⟨rfl, rfl, rfl, by decide +kernel, rfl, by decide +kernel, by decide +kernel⟩
theorem b_masks_of (T : Tx P K mg) : Binds K T.fd_masks_of ["rows"] [] := T.F_masks_of.bindsN fun _ _ _ _ _ _ us hl => match us, hl with | [_], _ => rfl
def R_masks_of (K : PySem.W.Frag) : List V → Hp → Rp → Prop := fun vs G r => ∃ (x : V) (l : List (List Nat)), vs = [x] ∧ (rLL K l).p x G ∧ l.length ≤ 1000 ∧ (∀ q ∈ l, ∀ w ∈ q, w < 64) ∧ r = rTn K (l.map maskN)
theorem ok_masks_of (T : Tx P K mg) : FnOk P w K mg base CX0 2 T.f_masks_of T.fd_masks_of ["rows"] (spD (R_masks_of K)) := by
  refine T.F_masks_of.ok sc_masks_of (fun vs H Q E h => ?_) (fun cdv A outer s H vs Q E hr h => ?_)
  · obtain ⟨G, r, _, ⟨x, l, rfl, _⟩, _⟩ := h
    rfl
  · obtain ⟨G, r, e, ⟨x, l, rfl, hx, hn, hl, rfl⟩, k⟩ := h
    refine ⟨_, PSs.nox (pss_one (ps_ret (pe_callTy (call_tupK K) (by rfl) T.m_tuple (by decide +kernel) (pa_cons (pe_lc (own := [("row", 1)]) (by rfl) sc_masks_of.nd (pi_listK K (pv 0)) (blkOk_by (N := ["rows", "row"]) (sc := defScope s_masks_of) (by decide +kernel)) (fun _ _ _ _ _ => (pg_name (i := 1) sc_masks_of.nd rfl (Or.inl rfl))) (fun _ _ _ _ _ => pts_nil) (fun _ _ _ _ _ => (pe_call (ok_mask_of T) (hr.mono (by decide)) (by rfl) T.g_mask_of T.F_mask_of.kp (b_mask_of T) .nil pass0 (pa_cons (pv 1) pa_nil)))) pa_nil)))), ?_⟩
    refine s_retD e (ed_is (ed_tupL (EvN.d (en_lcL0 l (rLn K) (fun q => nI (maskN q)) (ed_var rfl hx) (by omega) (fun _ => rfl) fun q y G1 hq e1 hy => ed_call (ead_cons (ed_var rfl hy) ead_nil) fun vs G2 e2 ra => ?_))) ?_) fun v G2 H2 g hv => k v G2 H2 g hv
    · obtain ⟨y, rfl, hy⟩ := ra1 ra
      exact SpD.of ⟨y, q, rfl, hy, hl q hq, rfl⟩
    · unfold rTn
      rw [List.map_map]; rfl
theorem sc_check_size : FnScope ["size"] ["size"] (defScope s_check_size) := ⟨rfl, rfl, rfl, by decide +kernel, rfl, by decide +kernel, by decide +kernel⟩
theorem b_check_size (T : Tx P K mg) : Binds K T.fd_check_size ["size"] [] := T.F_check_size.bindsN fun _ _ _ _ _ _ us hl => match us, hl with | [_], _ => rfl
def R_check_size : List V → Hp → Rp → Prop := fun vs _ r => ∃ n : Nat, vs = [.int (n : Int)] ∧ 1 ≤ n ∧ n ≤ 6 ∧ r = rV .non
theorem ok_check_size (T : Tx P K mg) : FnOk P w K mg base CX0 1 T.f_check_size T.fd_check_size ["size"] (spD R_check_size) := by
  refine T.F_check_size.ok sc_check_size (fun vs H Q E h => ?_) (fun cdv A outer s H vs Q E hr h => ?_)
  · obtain ⟨G, r, _, ⟨n, rfl, _⟩, _⟩ := h
    rfl
  · obtain ⟨G, r, e, ⟨n, rfl, h1, h6, rfl⟩, k⟩ := h
    refine ⟨_, PSs.nox (pss_one (ps_if (PW.pt (pw_or (pt_cmpR op_lt (pv 0) pe_int (nomark _)) (pw_or1 (pt_cmpR op_gt (pv 0) (pe_glob (v := .int 6) (by rfl) T.gi_GREATEST_SIZE.choose_spec ⟨_, rfl⟩) (nomark _))))) (pss_one ps_never) pss_nil)), ?_⟩
    refine s_ifE e (et_or (et_cmp (ev_var rfl) ev_c) fun _ => et_cmp (ev_var rfl) ev_c) (fun hb H1 e1 => ?_) (fun hb H1 e1 => ?_)
    · exfalso
      rcases Bool.or_eq_true_iff.mp hb with q | q
      · have := of_decide_eq_true q; omega
      · have := of_decide_eq_true q; omega
    · exact k _ G H1 ((Gr.refl e).more e1) rfl

theorem c_check_size (T : Tx P K mg) {M : List Re} {κ : KV} {n : Nat} (h1 : 1 ≤ n) (h6 : n ≤ 6) (k : κ (rV .non) M) : CM (spD R_check_size) [nI n] M κ := cm (fun vs G ra => by
  obtain ⟨x, rfl, hx⟩ := ra1 ra
  obtain rfl : x = V.int (n : Int) := hx
  exact SpD.of ⟨n, rfl, h1, h6, rfl⟩) k
local macro_rules | `(tactic| wtm_at "c") => `(tactic| refine c_check_size (by assumption) (by wtm_at "s") (by wtm_at "s") ?_)
theorem sc_Table___init__ : FnScope ["self", "rows", "at", "row", "word", "told", "out"] ["self", "rows"] (defScope s_Table___init__) := ⟨rfl, rfl, rfl, by decide +kernel, rfl, by decide +kernel, by decide +kernel⟩
theorem b_Table___init__ (T : Tx P K mg) : Binds K T.fd_Table___init__ ["self", "rows"] [] := T.F_Table___init__.bindsN fun _ _ _ _ _ _ us hl => match us, hl with | [_, _], _ => rfl
theorem ok_Table___init__ (T : Tx P K mg) : FnOk P w K mg base CX0 3 T.f_Table___init__ T.fd_Table___init__ ["self", "rows"] (spTab K T.C_Table) := by
  refine T.F_Table___init__.ok sc_Table___init__ (fun vs H Q E h => ?_) (fun cdv A outer s H vs Q E hr h => ?_)
  · obtain ⟨p, dx, x, G, rows, rfl, _⟩ := h
    rfl
  · obtain ⟨p, dx, x, G, rows, rfl, hp, e, gp, hx, h1, h6, hrow, k⟩ := h
    have hlen : (rows.map (rLn K)).length = rows.length := List.length_map _
    refine ⟨_, PSs.nox (pss_cons (ps_expr (pe_call (ok_check_size T) (hr.mono (by decide)) (by rfl) T.g_check_size T.F_check_size.kp (b_check_size T) .nil pass0 (pa_cons (pe_callB (call_lenK K) (by rfl) T.m_len PySem.boot_len (pa_cons (pv 1) pa_nil)) pa_nil)))
      (pss_cons (ps_for PassesOwn.never rfl (pi_enum (by rfl) T.m_enumerate (pa_cons (pv 1) pa_nil)) (pg_tup rfl (pgs_cons (pg_name (i := 2) sc_Table___init__.nd rfl (Or.inl rfl)) (pgs_cons (pg_name (i := 3) sc_Table___init__.nd rfl (Or.inl rfl)) pgs_nil))) (pss_one (ps_for PassesOwn.never rfl (pi_listK K (pv 3)) (pg_name (i := 4) sc_Table___init__.nd rfl (Or.inl rfl)) (pss_one (ps_if (PW.pt (pw_or (pt_cmpR op_lt (pv 4) pe_int (nomark _)) (pw_or1 (pt_cmpR op_ge (pv 4) (pe_callB (call_lenK K) (by rfl) T.m_len PySem.boot_len (pa_cons (pv 1) pa_nil)) (nomark _))))) (pss_one ps_never) pss_nil)))))
      (pss_cons (ps_fld (pv 0) (pe_callB (call_lenK K) (by rfl) T.m_len PySem.boot_len (pa_cons (pv 1) pa_nil)) rfl)
      (pss_cons (ps_fld (pv 0) (pe_call (ok_masks_of T) (hr.mono (by decide)) (by rfl) T.g_masks_of T.F_masks_of.kp (b_masks_of T) .nil pass0 (pa_cons (pv 1) pa_nil)) rfl)
      (pss_one (ps_fld (pv 0) (pe_callTy (call_tupK K) (by rfl) T.m_tuple (by decide +kernel) (pa_cons (pe_lc2 (own := [("told", 5), ("out", 6)]) (vs1 := [6]) (by rfl) sc_Table___init__.nd (pi_range1 (by rfl) T.m_range (pa_cons (pe_callB (call_lenK K) (by rfl) T.m_len PySem.boot_len (pa_cons (pv 1) pa_nil)) pa_nil)) (blkOk_by (N := ["self", "rows", "at", "row", "word", "told", "out"]) (sc := defScope s_Table___init__) (by decide +kernel)) (by decide) (fun _ _ _ _ _ => (pg_name (i := 5) sc_Table___init__.nd rfl (Or.inl rfl))) (fun _ _ _ _ _ => pts_nil) (fun _ _ _ _ _ => (pi_listK K (pe_call (ok_bits T) (hr.mono (by decide)) (by rfl) T.g_bits T.F_bits.kp (b_bits T) .nil pass0 (pa_cons (pe_ix (ix_tupK K) (pe_fldK K (pv 0)) (pv 5) (fun _ _ => rfl)) pa_nil)))) (fun _ _ _ _ _ => (pg_name (i := 6) sc_Table___init__.nd rfl (Or.inl rfl))) (fun _ _ _ _ _ => pts_nil) (fun _ _ _ _ _ => (pe_tup (pa_cons (pv 5) (pa_cons (pv 6) pa_nil))))) pa_nil)) rfl)))))), ?_⟩
    -- check_size(len(rows))
    refine sq (s_doE e (ev_callD (v := .non) (ead_cons (Ev.d (ev_lenL (ed_var rfl hx) hlen)) ead_nil) fun vs G2 e2 ra => ?_) fun H1 e1 => ?_)
    · obtain ⟨y, rfl, hy⟩ := ra1 ra
      obtain rfl : y = V.int (rows.length : Int) := hy
      exact SpD.of ⟨rows.length, rfl, h1, h6, rfl⟩
    -- for at, row in enumerate(rows): for word in row
    refine sq (Mu.s_forE rows (rLn K) (e.trans e1) (ead_cons (ed_var rfl hx) ead_nil) (fun G1 i σ' H' => Ex G1 H' ∧ Ex H H' ∧ ∃ a b c d f, σ' = [some (.ref p), some x, a, b, c, d, f]) (fun G1 H2 g => ⟨g.i, e1.trans g.h, _, _, _, _, _, rfl⟩) (fun _ _ _ _ q => q.1) (fun G1 i σ' H' H'' q z => ⟨q.1.trans z, q.2.1.trans z, q.2.2⟩) ?_ ?_)
    · rintro G1 i row y σ' H' eG hi hy ⟨e2, e3, a, b, c, d, f, rfl⟩
      have hw := (hrow row (List.mem_of_getElem? hi)).2
      refine Mu.s_forL row nI e2 (ed_var rfl hy) (fun G2 i' σ' H' => Ex G2 H' ∧ Ex G1 H' ∧ Ex H H' ∧ ∃ a b c d f, σ' = [some (.ref p), some x, a, b, c, d, f]) (fun G2 H2 g => ⟨g.i, g.g.trans g.i, e3.trans g.h, _, _, _, _, _, rfl⟩) (fun _ _ _ _ q => q.1) ?_ ?_
      · rintro G2 i' w z σ' H2 eG2 hi' hz ⟨e4, e5, e6, a', b', c', d', f', rfl⟩
        obtain rfl : z = V.int (w : Int) := hz
        have hlt := hw w (List.mem_of_getElem? hi')
        refine s_ifE (Ex.refl H2) (et_or (et_cmp (ev_var rfl) ev_c) fun _ => et_cmp (ev_var rfl) (ev_lenL (ed_var rfl ((rLL K rows).mono (e.trans e6) hx)) hlen)) (fun hb H3 e7 => ?_) (fun hb H3 e7 => ?_)
        · exfalso
          rcases Bool.or_eq_true_iff.mp hb with q | q
          · have := of_decide_eq_true q; omega
          · have := of_decide_eq_true q; omega
        · exact nxt ⟨e4.trans e7, e5.trans e7, e6.trans e7, _, _, _, _, _, rfl⟩
      · rintro G2 σ' H2 eG2 ⟨e4, e5, e6, a', b', c', d', f', rfl⟩
        exact ⟨e5, e6, _, _, _, _, _, rfl⟩
    · rintro G1 σ' H2 eG ⟨e2, e3, a, b, c, d, f, rfl⟩
      have hp2 := e3 _ _ hp
      -- self.size = len(rows)
      refine sq (s_fld (e.trans e3) hp2 gp (Ev.d (ev_lenL (ed_var rfl hx) hlen)) (ev_var rfl) T.c_Table T.na_Table_size (by decide) fun y G2 H3 eg2 k2 i2 n2 gp2 hy hp3 => ?_)
      obtain rfl : y = V.int (rows.length : Int) := hy
      -- self.masks = masks_of(rows)
      refine sq (s_fld (r := rTn K (rows.map maskN)) i2 hp3 gp2 (ed_call (ead_cons (ed_var rfl ((rLL K rows).mono eg2 hx)) ead_nil) fun vs G3 e3 ra => ?_) (ev_var rfl) T.c_Table T.na_Table_masks (by show 1 < 1000; decide) fun y G3 H4 eg3 k3 i3 n3 gp3 hy hp4 => ?_)
      · obtain ⟨y, rfl, hy⟩ := ra1 ra
        exact SpD.of ⟨y, rows, rfl, hy, by omega, fun q hq w hw => by have := (hrow q hq).2 w hw; omega, rfl⟩
      obtain ⟨tm, hm⟩ : ∃ tm, y = V.ref tm := by
        obtain ⟨a, _, h, _⟩ := hy
        exact ⟨a, h⟩
      subst hm
      have wf : ∀ a, ((rows.map maskN).getD a 0) < 2 ^ 6 := fun a => by
        rw [List.getD_eq_getElem?_getD, List.getElem?_map]
        cases q : rows[a]? with
        | none => exact Nat.two_pow_pos 6
        | some r => exact maskN_lt fun w hw => by have := (hrow r (List.mem_of_getElem? q)).2 w hw; omega
      have eF : putF "masks" (V.ref tm) (putF "size" (V.int (rows.length : Int)) []) = [(("size" : Str), V.int (rows.length : Int)), ("masks", V.ref tm)] := by
        have c1 : ¬ (("size" : Str) = "masks") := by decide +kernel
        show (if ("size" : Str) = "masks" then _ else (("size" : Str), V.int (rows.length : Int)) :: putF "masks" (V.ref tm) []) = _
        rw [if_neg c1]; rfl
      have lk : (putF "masks" (V.ref tm) (putF "size" (V.int (rows.length : Int)) [])).lookup ("masks" : Str) = some (V.ref tm) := by
        have c1 : (("masks" : Str) == ("size" : Str)) = false := by decide +kernel
        rw [eF]
        simp [List.lookup, c1]
      -- self.cells = tuple([..])
      refine s_fldS i3 hp4 gp3 (r := rT K ((pairsN (rows.map maskN)).map (rP K))) (ed_is (ed_tupL (EvN.d (en_lc2R rows.length (fun a => bitsN ((rows.map maskN).getD a 0)) nI (fun a b => rP K (a, b)) (ea_cons (ev_lenL (ed_var rfl ((rLL K rows).mono ((eg2.trans eg3).trans (Ex.new gp3)) hx)) hlen) ea_nil) (by omega) (fun a _ => Nat.le_trans (bits_len (wf a)) (by decide)) (fun _ => rfl) (fun _ _ => rfl) ?_ ?_))) ?_) (fun y G4 hG hy => rP_off hG hy) (ev_var rfl) T.c_Table T.na_Table_cells (by rw [eF]; show 2 < 1000; decide) fun y G4 H5 eg4 k4 i4 n4 gp4 hy' hp5 => ?_
      · intro a0 G5 ha e5
        have hg5 : G5 p = some (.ins T.C_Table dx (putF "masks" (V.ref tm) (putF "size" (V.int (rows.length : Int)) []))) := e5 _ _ upd_same
        have hm5 : (rTn K (rows.map maskN)).p (.ref tm) G5 := (rTn K _).mono ((Ex.new gp3).trans e5) hy
        have hself : EvD (tFld K (tVar 0) "masks") ((wipe [some (V.ref p), some x, a, b, c, d, f] [5, 6]).set 5 (some (.int (a0 : Int)))) G5 (rTn K (rows.map maskN)) := fun H6 e6 Q q => ⟨.ref p, rfl, p, T.C_Table, dx, _, .ref tm, rfl, e6 _ _ hg5, T.c_Table, T.na_Table_masks, lk, q _ G5 H6 (Gr.refl e6) hm5⟩
        refine EvN.d (en_call (ead_cons (ed_ixT hself (ev_var rfl) (r := nI ((rows.map maskN).getD a0 0)) ?_) ead_nil) fun vs G6 e6 ra => ?_)
        · rw [List.getElem?_map, List.getD_eq_getElem?_getD, List.getElem?_eq_getElem (by rw [List.length_map]; exact ha)]; rfl
        · obtain ⟨z, rfl, hz⟩ := ra1 ra
          obtain rfl : z = V.int (((rows.map maskN).getD a0 0 : Nat) : Int) := hz
          exact SpN.of ⟨_, rfl, Nat.lt_of_lt_of_le (wf a0) (by decide), rfl⟩
      · intro a b' z G5 ha hb e5 hz
        obtain rfl : z = V.int (b' : Int) := hz
        exact ed_tup (ead_cons (Ev.d (ev_var rfl)) (ead_cons (Ev.d (ev_var rfl)) ead_nil)) (by show 2 ≤ 100000; decide)
      · unfold pairsN
        rw [List.map_flatMap, List.length_map]
        congr 2
        funext a
        rw [List.map_map]; rfl
      obtain ⟨tc, hc, -⟩ : ∃ tc, y = V.ref tc ∧ True := by
        obtain ⟨a, _, h, _⟩ := hy'
        exact ⟨a, h, trivial⟩
      subst hc
      refine k H5 G4 tm tc ((eg2.trans eg3).trans eg4) (fun a o z n => k4 a o (k3 a o (k2 a o (e3 a o z) n) n) n) i4 (fun a o z t y => ?_) ?_ ((rTn K _).mono eg4 hy) hy'
      · have y2 := n2 a o (e3 a o z) t y
        by_cases q : a = p
        · subst q; exact gp4
        · have y3 := n3 a o (k2 a o (e3 a o z) q) t y2
          exact n4 a o (k3 a o (k2 a o (e3 a o z) q) q) t y3
      · rw [hp5, eF]
        have c1 : ¬ (("size" : Str) = "cells") := by decide +kernel
        have c2 : ¬ (("masks" : Str) = "cells") := by decide +kernel
        show some (HO.ins _ _ (if ("size" : Str) = "cells" then _ else (("size" : Str), V.int (rows.length : Int)) :: (if ("masks" : Str) = "cells" then _ else (("masks" : Str), V.ref tm) :: putF "cells" (V.ref tc) []))) = _
        rw [if_neg c1, if_neg c2]; rfl
theorem sc_Table_rows : FnScope ["self", "mask"] ["self"] (defScope s_Table_rows) := ⟨rfl, rfl, rfl, by decide +kernel, rfl, by decide +kernel, by decide +kernel⟩
theorem b_Table_rows (T : Tx P K mg) : Binds K T.fd_Table_rows ["self"] [] := T.F_Table_rows.bindsN fun _ _ _ _ _ _ us hl => match us, hl with | [_], _ => rfl
def R_rows (K : PySem.W.Frag) (C : Addr) : List V → Hp → List Rp → Prop := fun vs G rs => ∃ (x : V) (m : List Nat), vs = [x] ∧ (rTab K C m).p x G ∧ m.length ≤ 1000 ∧ (∀ q ∈ m, q < 2 ^ 64) ∧ rs = (m.map bitsN).map (rLn K)
theorem ok_Table_rows (T : Tx P K mg) : FnOk P w K mg base CX0 2 T.f_Table_rows T.fd_Table_rows ["self"] (spN (R_rows K T.C_Table)) := by
  refine T.F_Table_rows.ok sc_Table_rows (fun vs H Q E h => ?_) (fun cdv A outer s H vs Q E hr h => ?_)
  · obtain ⟨G, rs, _, ⟨x, m, rfl, _⟩, _⟩ := h
    rfl
  · obtain ⟨G, rs, e, ⟨x, m, rfl, hx, h6, hw, rfl⟩, k⟩ := h
    refine ⟨_, PSs.nox (pss_one (ps_ret (pe_lc (own := [("mask", 1)]) (by rfl) sc_Table_rows.nd (pi_tupK K (pe_fldK K (pv 0))) (blkOk_by (N := ["self", "mask"]) (sc := defScope s_Table_rows) (by decide +kernel)) (fun _ _ _ _ _ => (pg_name (i := 1) sc_Table_rows.nd rfl (Or.inl rfl))) (fun _ _ _ _ _ => pts_nil) (fun _ _ _ _ _ => (pe_call (ok_bits T) (hr.mono (by decide)) (by rfl) T.g_bits T.F_bits.kp (b_bits T) .nil pass0 (pa_cons (pv 1) pa_nil)))))), ?_⟩
    refine s_retN e (en_is (en_lcT0 m nI (fun q => rLn K (bitsN q)) (ed_masks (ed_var rfl hx) T.c_Table T.na_Table_masks) (by omega) (fun _ => rfl) fun q y G1 hq e1 hy => EvN.d (en_call (ead_cons (ed_var rfl hy) ead_nil) fun vs G2 e2 ra => ?_)) (by rw [List.map_map]; rfl)) fun p ws G2 H2 g hp gp h2 ra => k p ws G2 H2 g hp gp h2 ra
    obtain ⟨u, rfl, hu⟩ := ra1 ra
    obtain rfl : u = V.int (q : Int) := hu
    exact SpN.of ⟨q, rfl, hw q hq, rfl⟩
def wordO {α : Type} (U : Addr) (n : Nat) (w : Int) (x : α ⊕ (Value × List (Str × V))) : α ⊕ (Value × List (Str × V)) := if badW n w = true then .inr (.ref U, [("word", .int w)]) else x
def R_check_word (T : Tx P K mg) : List V → Hp → Out → Prop := fun vs G o => ∃ (n : Nat) (w : Int), RA G vs [nI n, Mu.rI w] ∧ o = wordO T.C_UnknownWord n w (.inl (rV .non))
theorem c_check_word (T : Tx P K mg) {M : List Re} {κ : KV} {n : Nat} {w : Int}  {r : Rp} (eo : wordO T.C_UnknownWord n w (.inl (rV .non)) = .inl r) (k : κ r M) : CM (spO (R_check_word T)) [nI n, Mu.rI w] M κ := cmO (fun vs G ra => ⟨n, w, ra, eo.symm⟩) k
theorem xq_check_word (T : Tx P K mg) {M : List Re} {κ : KV} {ε : KX} {n : Nat} {w : Int}  {r : Rp} (eo : wordO T.C_UnknownWord n w (.inl (rV .non)) = .inl r) (k : κ r M) : XM (spO (R_check_word T)) [nI n, Mu.rI w] M κ ε := xm (fun vs G ra => ⟨n, w, ra, eo.symm⟩) k
theorem xe_check_word (T : Tx P K mg) {M : List Re} {κ : KV} {ε : KX} {n : Nat} {w : Int}  {c : Value} {fs : List (Str × V)} (eo : wordO T.C_UnknownWord n w (.inl (rV .non)) = .inr (c, fs)) (k : ε c fs M) : XM (spO (R_check_word T)) [nI n, Mu.rI w] M κ ε := xmx (fun vs G ra => ⟨n, w, ra, eo.symm⟩) k
local macro_rules | `(tactic| wtm_at "c") => `(tactic| refine xe_check_word _  (by assumption) ?_)
local macro_rules | `(tactic| wtm_at "c") => `(tactic| refine xq_check_word _  (by assumption) ?_)
local macro_rules | `(tactic| wtm_at "c") => `(tactic| refine c_check_word _  (by assumption) ?_)
theorem sc_written : FnScope ["word", "words", "outs", "out"] ["word", "words"] (defScope s_written) := ⟨rfl, rfl, rfl, by decide +kernel, rfl, by decide +kernel, by decide +kernel⟩
theorem b_written (T : Tx P K mg) : Binds K T.fd_written ["word", "words"] [] := T.F_written.bindsN fun _ _ _ _ _ _ us hl => match us, hl with | [_, _], _ => rfl
def txW (n : Nat) : Str := Str.ofString (toString ((n : Nat) : Int))
theorem x_strI {Γ : Mu.Ctx} {te : TE} {n : Nat} (hn : n.log2 < 1920) (h : EvX Γ te (nI n)) : EvX Γ (tCB (fun xs H Q => ∃ i, xs = [V.int i] ∧ i.natAbs.log2 < 1920 ∧ Q (V.str (toString i)) H) (tCons te tNil)) (rS (txW n)) := fun σ G en H e Q q => h σ G en H e _ fun v G1 H1 g1 hv => by
  obtain rfl : v = V.int (n : Int) := hv
  exact ⟨_, rfl, by rw [Int.natAbs_natCast]; exact hn, q _ G1 H1 g1 rfl⟩
def outsS (l : List Nat) : Str := if l = [] then Str.ofString "-" else Txt.join (Str.ofString ",") (l.map txW)
def entS (w : Nat) (l : List Nat) : Str := [txW w, Str.ofString ">", outsS l].foldl (· ++ ·) Str.empty
def tabS (m : List Nat) : Str := Txt.join (Str.ofString " ") ((List.range m.length).map fun w => entS w (bitsN (m.getD w 0)))
theorem txW_len : ∀ n : Nat, n < 64 → (txW n).length ≤ 2 ∧ 1 ≤ (txW n).length := by decide +kernel
theorem txW_lg {n : Nat} (h : n < 64) : n.log2 < 1920 := Nat.lt_of_le_of_lt (Nat.log2_le_self n) (by omega)
theorem txs_sum {l : List Nat} (h : ∀ n ∈ l, n < 64) : ((l.map txW).map (·.length)).sum ≤ 2 * l.length := by
  induction l with
  | nil => exact Nat.le_refl _
  | cons a l ih =>
    have h1 := (txW_len a (h a List.mem_cons_self)).1
    have h2 := ih fun n hn => h n (List.mem_cons_of_mem _ hn)
    simp only [List.map_cons, List.sum_cons, List.length_cons]
    omega
theorem fold_size (s : Array Nat) : ∀ (parts : List Str) (acc : Array Nat), (parts.foldl (fun acc p => acc ++ s ++ p.cps) acc).size = acc.size + parts.length * s.size + (parts.map (·.length)).sum
  | [], acc => by simp
  | p :: parts, acc => by
    rw [List.foldl_cons, fold_size s parts, Array.size_append, Array.size_append]
    simp only [List.map_cons, List.sum_cons, List.length_cons, Nat.add_mul, Nat.one_mul]
    show _ + p.cps.size + _ + _ = _ + (_ + _) + (p.cps.size + _)
    omega
theorem joinT_len (a : Str) (y : Str) (ys : List Str) : (Txt.join a (y :: ys)).length = y.length + ys.length * a.length + (ys.map (·.length)).sum := fold_size a.cps ys y.cps
theorem outs_ne {l : List Nat} (h : ∀ n ∈ l, n < 64) : Txt.join (Str.ofString ",") (l.map txW) = Str.ofString "" ↔ l = [] := by
  cases l with
  | nil => exact ⟨fun _ => rfl, fun _ => rfl⟩
  | cons a l =>
    refine ⟨fun z => ?_, fun z => nomatch z⟩
    have h1 := (txW_len a (h a List.mem_cons_self)).2
    have h2 := congrArg Str.length z
    rw [List.map_cons, joinT_len] at h2
    have h3 : (Str.ofString "").length = 0 := by decide
    omega
theorem outs_len {l : List Nat} (h : ∀ n ∈ l, n < 64) (h6 : l.length ≤ 64) : (outsS l).length ≤ 200 := by
  unfold outsS
  cases l with
  | nil => decide
  | cons a l =>
    rw [if_neg (fun z => nomatch z), List.map_cons, joinT_len, List.length_map]
    have h1 := (txW_len a (h a List.mem_cons_self)).1
    have h2 := txs_sum fun n hn => h n (List.mem_cons_of_mem a hn)
    have h3 : (Str.ofString ",").length = 1 := by decide
    rw [List.length_cons] at h6
    rw [h3]
    omega

def R_written (T : Tx P K mg) : List V → Hp → Rp → Prop := fun vs G r => ∃ (w : Nat) (l : List Nat), RA G vs [nI w, rLn K l] ∧ (w < 64) ∧ (∀ n ∈ l, n < 64) ∧ (l.length ≤ 64) ∧ r = rS (entS w l)
theorem ok_written (T : Tx P K mg) : FnOk P w K mg base CX0 1 T.f_written T.fd_written ["word", "words"] (spD (R_written T)) := by
  refine T.F_written.ok sc_written (fun vs H Q E h => ?_) (fun cdv A outer s H vs Q E hr h => ?_)
  · obtain ⟨G, r, _, ⟨w, l, ra, _⟩, _⟩ := h
    exact ra.len
  · obtain ⟨G, r, e, ⟨w, l, ra, q0, q1, q2, rfl⟩, k⟩ := h
    refine ⟨_, PSs.nox (pss_cons (ps_set (i := 2) sc_written.nd rfl (Or.inl rfl) (pe_m1 PySem.F.slot_str_join PySem.F.type_str_join (mt_joinK K) pe_str (pe_lc (own := [("out", 3)]) (by rfl) sc_written.nd (pi_listK K (pv 1)) (blkOk_by (N := ["word", "words", "outs", "out"]) (sc := defScope s_written) (by decide +kernel)) (fun _ _ _ _ _ => (pg_name (i := 3) sc_written.nd rfl (Or.inl rfl))) (fun _ _ _ _ _ => pts_nil) (fun _ _ _ _ _ => (pe_callTy call_str_int (by rfl) T.m_str (by decide +kernel) (pa_cons (pv 3) pa_nil))))))
      (pss_cons (ps_if (pt_cmpR op_eq (pv 2) pe_str (nomark _)) (pss_one (ps_set (i := 2) sc_written.nd rfl (Or.inl rfl) pe_str)) pss_nil)
      (pss_one (ps_ret (pe_joined (.cons (pe_fmt (pv 0)) (.cons pe_str (.cons (pe_fmt (pv 2)) .nil)))))))), ?_⟩
    refine run_D (W := fun _ _ _ _ => False) (Γ := [some (nI w), some (rLn K l), none, none]) ?_ e (En.start (k := 2) _ (rs := [nI w, rLn K l]) ra (by rw [ra.len]; rfl)) k
    clear ra e k
    have hs := txs_sum q1
    have h1 : (Str.ofString ",").length = 1 := by decide
    refine w_seq (ws_set (e_x (r := rS (Txt.join (Str.ofString ",") (l.map txW))) (x_join (K := K) x_c (x_is (EvNX.d (K := K) (xn_lcL0 (K := K) l nI (fun n => rS (txW n)) (x_v rfl) (by omega) (fun n hn => x_strI (txW_lg (q1 n hn)) (x_v rfl)) (by simp))) (by rw [List.map_map]; rfl)) (by rw [h1, List.length_map]; omega)) ?_))
    try dsimp only [List.set]
    refine w_cut (fun _ : Unit => True) (fun _ => [some (nI w), some (rLn K l), some (rS (outsS l)), none]) ?_ fun _ _ => ?_
    · apply w_if (b := decide (l = []))
      · exact t_T (x_is (x_eqV (x := V.str (Txt.join (Str.ofString ",") (l.map txW))) (y := V.str (Str.ofString "")) (x_v rfl) (x_is x_c rfl)) (congrArg rB (decide_eq_decide.mpr ⟨fun z => (outs_ne q1).mp (V.str.inj z), fun z => congrArg V.str ((outs_ne q1).mpr z)⟩)))
      · intro hb
        have hb := of_decide_eq_true hb
        refine ws_set (e_x (r := rS (outsS l)) (by unfold outsS; rw [if_pos hb]; exact x_is x_c rfl) ⟨(), trivial, by wtm_at "sub", rfl⟩)
      · intro hb
        have hb := of_decide_eq_false hb
        refine w_nx ⟨(), trivial, ?_, rfl⟩
        have : outsS l = Txt.join (Str.ofString ",") (l.map txW) := by unfold outsS; rw [if_neg hb]
        rw [this]
        wtm_at "sub"
    have hol := outs_len q1 q2
    have hw := (txW_len w q0).1
    refine ws_ret (e_x (r := rS (entS w l)) (ev_js (.cons (x_fmtI (n := w) (x_v rfl) (txW_lg q0)) (.cons x_c (.cons (x_fmtT (z := outsS l) (x_v rfl) (by rw [sizeLine_eq]; omega)) .nil))) Str.empty ?_) rfl)
    have h4 : (Str.ofString ">").length = 1 := by decide
    have h5 : Str.empty.length = 0 := by decide
    unfold txW at hw
    simp only [List.map_cons, List.map_nil, List.foldr_cons, List.foldr_nil]
    omega
theorem c_written (T : Tx P K mg) {M : List Re} {κ : KV} {w : Nat} {l : List Nat} (q0 : w < 64) (q1 : ∀ n ∈ l, n < 64) (q2 : l.length ≤ 64) (k : κ (rS (entS w l)) M) : CM (spD (R_written T)) [nI w, rLn K l] M κ := cm (fun vs G ra => SpD.of ⟨w, l, ra, q0, q1, q2, rfl⟩) k
local macro_rules | `(tactic| wtm_at "c") => `(tactic| refine c_written _ (by wtm_at "s") (by wtm_at "s") (by wtm_at "s") ?_)
theorem sc_Table___len__ : FnScope ["self"] ["self"] (defScope s_Table___len__) := ⟨rfl, rfl, rfl, by decide +kernel, rfl, by decide +kernel, by decide +kernel⟩
theorem b_Table___len__ (T : Tx P K mg) : Binds K T.fd_Table___len__ ["self"] [] := T.F_Table___len__.bindsN fun _ _ _ _ _ _ us hl => match us, hl with | [_], _ => rfl
theorem pairs_len {n : Nat} {m : List Nat} (wm : Wf n m) (h6 : n ≤ 6) : (pairsN m).length ≤ 36 := by
  have z := pairsTo_len (m := m) (n := n) (fun a => wm.get a) m.length
  have e : pairsTo m m.length = pairsN m := rfl
  rw [e, wm.len] at z
  exact Nat.le_trans z (Nat.mul_le_mul h6 h6)

def R_Table__len (T : Tx P K mg) : List V → Hp → Rp → Prop := fun vs G r => ∃ (m : List Nat), RA G vs [rTab K T.C_Table m] ∧ ((pairsN m).length ≤ 1000) ∧ r = nI (pairsN m).length
theorem ok_Table___len__ (T : Tx P K mg) : FnOk P w K mg base CX0 1 T.f_Table___len__ T.fd_Table___len__ ["self"] (spD (R_Table__len T)) := by
  refine T.F_Table___len__.ok sc_Table___len__ (fun vs H Q E h => ?_) (fun cdv A outer s H vs Q E hr h => ?_)
  · obtain ⟨G, r, _, ⟨m, ra, _⟩, _⟩ := h
    exact ra.len
  · obtain ⟨G, r, e, ⟨m, ra, q0, rfl⟩, k⟩ := h
    refine ⟨_, PSs.nox (pss_one (ps_ret (pe_callB (call_lenK K) (by rfl) T.m_len PySem.boot_len (pa_cons (pe_fldK K (pv 0)) pa_nil)))), ?_⟩
    refine run_D (W := fun _ _ _ _ => False) (Γ := [some (rTab K T.C_Table m)]) ?_ e (En.start (k := 0) _ (rs := [rTab K T.C_Table m]) ra (by rw [ra.len]; rfl)) k
    clear ra e k
    exact ws_ret (e_x (x_is (x_lenT (rs := (pairsN m).map (rP K)) (x_cells (x_v rfl) T.c_Table T.na_Table_cells)) (by rw [List.length_map])) rfl)
theorem c_Table__len (T : Tx P K mg) {M : List Re} {κ : KV} {m : List Nat} (q0 : (pairsN m).length ≤ 1000) (k : κ (nI (pairsN m).length) M) : CM (spD (R_Table__len T)) [rTab K T.C_Table m] M κ := cm (fun vs G ra => SpD.of ⟨m, ra, q0, rfl⟩) k
local macro_rules | `(tactic| wtm_at "c") => `(tactic| refine c_Table__len _ (by wtm_at "s") ?_)
theorem sc_Table___bool__ : FnScope ["self"] ["self"] (defScope s_Table___bool__) := ⟨rfl, rfl, rfl, by decide +kernel, rfl, by decide +kernel, by decide +kernel⟩
theorem b_Table___bool__ (T : Tx P K mg) : Binds K T.fd_Table___bool__ ["self"] [] := T.F_Table___bool__.bindsN fun _ _ _ _ _ _ us hl => match us, hl with | [_], _ => rfl
def R_Table__bool (T : Tx P K mg) : List V → Hp → Rp → Prop := fun vs G r => ∃ (m : List Nat), RA G vs [rTab K T.C_Table m] ∧ r = rB (!((pairsN m).map (rP K)).isEmpty)
theorem ok_Table___bool__ (T : Tx P K mg) : FnOk P w K mg base CX0 1 T.f_Table___bool__ T.fd_Table___bool__ ["self"] (spD (R_Table__bool T)) := by
  refine T.F_Table___bool__.ok sc_Table___bool__ (fun vs H Q E h => ?_) (fun cdv A outer s H vs Q E hr h => ?_)
  · obtain ⟨G, r, _, ⟨m, ra, _⟩, _⟩ := h
    exact ra.len
  · obtain ⟨G, r, e, ⟨m, ra, rfl⟩, k⟩ := h
    refine ⟨_, PSs.nox (pss_one (ps_ret (pe_callTy (call_boolT (K := K)) (by rfl) T.m_bool (by decide +kernel) (pa_cons (pe_fldK K (pv 0)) pa_nil)))), ?_⟩
    refine run_D (W := fun _ _ _ _ => False) (Γ := [some (rTab K T.C_Table m)]) ?_ e (En.start (k := 0) _ (rs := [rTab K T.C_Table m]) ra (by rw [ra.len]; rfl)) k
    clear ra e k
    exact ws_ret (e_x (x_boolT (rs := (pairsN m).map (rP K)) (x_cells (x_v rfl) T.c_Table T.na_Table_cells)) rfl)
theorem c_Table__bool (T : Tx P K mg) {M : List Re} {κ : KV} {m : List Nat}  (k : κ (rB (!((pairsN m).map (rP K)).isEmpty)) M) : CM (spD (R_Table__bool T)) [rTab K T.C_Table m] M κ := cm (fun vs G ra => SpD.of ⟨m, ra, rfl⟩) k
local macro_rules | `(tactic| wtm_at "c") => `(tactic| refine c_Table__bool _  ?_)
theorem sc_Table_total : FnScope ["self"] ["self"] (defScope s_Table_total) := ⟨rfl, rfl, rfl, by decide +kernel, rfl, by decide +kernel, by decide +kernel⟩
theorem b_Table_total (T : Tx P K mg) : Binds K T.fd_Table_total ["self"] [] := T.F_Table_total.bindsN fun _ _ _ _ _ _ us hl => match us, hl with | [_], _ => rfl
def R_Table_total (T : Tx P K mg) : List V → Hp → Rp → Prop := fun vs G r => ∃ (m : List Nat), RA G vs [rTab K T.C_Table m] ∧ r = rB (!decide (0 ∈ m))
theorem ok_Table_total (T : Tx P K mg) : FnOk P w K mg base CX0 1 T.f_Table_total T.fd_Table_total ["self"] (spD (R_Table_total T)) := by
  refine T.F_Table_total.ok sc_Table_total (fun vs H Q E h => ?_) (fun cdv A outer s H vs Q E hr h => ?_)
  · obtain ⟨G, r, _, ⟨m, ra, _⟩, _⟩ := h
    exact ra.len
  · obtain ⟨G, r, e, ⟨m, ra, rfl⟩, k⟩ := h
    refine ⟨_, PSs.nox (pss_one (ps_ret (pe_cmpR (op_notInK K) pe_int (pe_fldK K (pv 0)) rfl))), ?_⟩
    refine run_D (W := fun _ _ _ _ => False) (Γ := [some (rTab K T.C_Table m)]) ?_ e (En.start (k := 0) _ (rs := [rTab K T.C_Table m]) ra (by rw [ra.len]; rfl)) k
    clear ra e k
    wtm_at "w"
    rfl
theorem c_Table_total (T : Tx P K mg) {M : List Re} {κ : KV} {m : List Nat}  (k : κ (rB (!decide (0 ∈ m))) M) : CM (spD (R_Table_total T)) [rTab K T.C_Table m] M κ := cm (fun vs G ra => SpD.of ⟨m, ra, rfl⟩) k
local macro_rules | `(tactic| wtm_at "c") => `(tactic| refine c_Table_total _  ?_)
theorem sc_Table_certain : FnScope ["self", "mask"] ["self"] (defScope s_Table_certain) := ⟨rfl, rfl, rfl, by decide +kernel, rfl, by decide +kernel, by decide +kernel⟩
theorem b_Table_certain (T : Tx P K mg) : Binds K T.fd_Table_certain ["self"] [] := T.F_Table_certain.bindsN fun _ _ _ _ _ _ us hl => match us, hl with | [_], _ => rfl
def lowN (a : Nat) : Nat := (Builtin.bitAnd (a : Int) (-(a : Int))).toNat
def certB (m : List Nat) : Bool := m.all fun a => decide ((bitsN a).length ≤ 1)
theorem low_nat : ∀ a : Nat, a < 64 → Builtin.bitAnd (a : Int) (-(a : Int)) = ((lowN a : Nat) : Int) := by decide +kernel
theorem low_eq : ∀ a : Nat, a < 64 → decide (a = lowN a) = decide ((bitsN a).length ≤ 1) := by decide +kernel
theorem cert_eq {m : List Nat} (h : ∀ a ∈ m, a < 64) : decide (m = m.map lowN) = certB m := by
  unfold certB
  induction m with
  | nil => rfl
  | cons a m ih =>
    rw [List.all_cons, ← ih fun x hx => h x (List.mem_cons_of_mem _ hx), ← low_eq a (h a List.mem_cons_self), List.map_cons]
    simp

def R_Table_certain (T : Tx P K mg) : List V → Hp → Rp → Prop := fun vs G r => ∃ (m : List Nat), RA G vs [rTab K T.C_Table m] ∧ (m |> Wf m.length) ∧ (m.length ≤ 6) ∧ r = rB (certB m)
theorem ok_Table_certain (T : Tx P K mg) : FnOk P w K mg base CX0 1 T.f_Table_certain T.fd_Table_certain ["self"] (spD (R_Table_certain T)) := by
  refine T.F_Table_certain.ok sc_Table_certain (fun vs H Q E h => ?_) (fun cdv A outer s H vs Q E hr h => ?_)
  · obtain ⟨G, r, _, ⟨m, ra, _⟩, _⟩ := h
    exact ra.len
  · obtain ⟨G, r, e, ⟨m, ra, q0, q1, rfl⟩, k⟩ := h
    refine ⟨_, PSs.nox (pss_one (ps_ret (pe_cmpR (op_eqK K hr.units) (pe_fldK K (pv 0)) (pe_callTy (call_tupK K) (by rfl) T.m_tuple (by decide +kernel) (pa_cons (pe_lc (own := [("mask", 1)]) (by rfl) sc_Table_certain.nd (pi_tupK K (pe_fldK K (pv 0))) (blkOk_by (N := ["self", "mask"]) (sc := defScope s_Table_certain) (by decide +kernel)) (fun _ _ _ _ _ => (pg_name (i := 1) sc_Table_certain.nd rfl (Or.inl rfl))) (fun _ _ _ _ _ => pts_nil) (fun _ _ _ _ _ => (pe_op op_and (pv 1) (pe_un un_neg (pv 1))))) pa_nil)) (nomark _)))), ?_⟩
    refine run_D (W := fun _ _ _ _ => False) (Γ := [some (rTab K T.C_Table m), none]) ?_ e (En.start (k := 1) _ (rs := [rTab K T.C_Table m]) ra (by rw [ra.len]; rfl)) k
    clear ra e k
    have hlt : ∀ a ∈ m, a < 64 := fun a ha => Nat.lt_of_lt_of_le (q0.lt a ha) (Nat.le_trans (Nat.pow_le_pow_right (by decide) q1) (by decide))
    refine ws_ret (e_x (r := rB (certB m)) (x_is (x_eqTn (l := m) (m := m.map lowN) (x_masks (x_v rfl) T.c_Table T.na_Table_masks) (x_is (x_tupL (EvNX.d (K := K) (xn_lcT0 (K := K) m nI (fun a => nI (lowN a)) (x_masks (x_v rfl) T.c_Table T.na_Table_masks) (by omega) (fun a ha => x_is (x_I0 (x_v rfl) (x_neg (x_v rfl))) (congrArg Mu.rI (low_nat a (hlt a ha)))) (by simp)))) (by unfold rTn; rw [List.map_map]; rfl))) (congrArg rB (cert_eq hlt))) rfl)
theorem c_Table_certain (T : Tx P K mg) {M : List Re} {κ : KV} {m : List Nat} (q0 : m |> Wf m.length) (q1 : m.length ≤ 6) (k : κ (rB (certB m)) M) : CM (spD (R_Table_certain T)) [rTab K T.C_Table m] M κ := cm (fun vs G ra => SpD.of ⟨m, ra, q0, q1, rfl⟩) k
local macro_rules | `(tactic| wtm_at "c") => `(tactic| refine c_Table_certain _ (by wtm_at "s") (by wtm_at "s") ?_)
theorem sc_Table___str__ : FnScope ["self", "word"] ["self"] (defScope s_Table___str__) := ⟨rfl, rfl, rfl, by decide +kernel, rfl, by decide +kernel, by decide +kernel⟩
theorem b_Table___str__ (T : Tx P K mg) : Binds K T.fd_Table___str__ ["self"] [] := T.F_Table___str__.bindsN fun _ _ _ _ _ _ us hl => match us, hl with | [_], _ => rfl
theorem entS_len {w : Nat} {l : List Nat} (hw : w < 64) (h : ∀ n ∈ l, n < 64) (h6 : l.length ≤ 64) : (entS w l).length ≤ 300 := by
  have h1 := (txW_len w hw).1
  have h2 := outs_len h h6
  have h4 : (Str.ofString ">").length = 1 := by decide
  have h5 : Str.empty.length = 0 := by decide
  unfold entS
  simp only [List.foldl_cons, List.foldl_nil, str_len_app]
  omega
theorem sum_le {l : List Nat} {c : Nat} (h : ∀ x ∈ l, x ≤ c) : l.sum ≤ l.length * c := by
  induction l with
  | nil => exact Nat.zero_le _
  | cons a l ih =>
    have h1 := h a List.mem_cons_self
    have h2 := ih fun x hx => h x (List.mem_cons_of_mem _ hx)
    rw [List.sum_cons, List.length_cons, Nat.add_mul, Nat.one_mul]
    omega

def R_Table__str (T : Tx P K mg) : List V → Hp → Rp → Prop := fun vs G r => ∃ (m : List Nat), RA G vs [rTab K T.C_Table m] ∧ (m |> Wf m.length) ∧ (m.length ≤ 6) ∧ r = rS (tabS m)
theorem ok_Table___str__ (T : Tx P K mg) : FnOk P w K mg base CX0 2 T.f_Table___str__ T.fd_Table___str__ ["self"] (spD (R_Table__str T)) := by
  refine T.F_Table___str__.ok sc_Table___str__ (fun vs H Q E h => ?_) (fun cdv A outer s H vs Q E hr h => ?_)
  · obtain ⟨G, r, _, ⟨m, ra, _⟩, _⟩ := h
    exact ra.len
  · obtain ⟨G, r, e, ⟨m, ra, q0, q1, rfl⟩, k⟩ := h
    refine ⟨_, PSs.nox (pss_one (ps_ret (pe_m1 PySem.F.slot_str_join PySem.F.type_str_join (mt_joinK K) pe_str (pe_lc (own := [("word", 1)]) (by rfl) sc_Table___str__.nd (pi_range1 (by rfl) T.m_range (pa_cons (pe_fldK K (pv 0)) pa_nil)) (blkOk_by (N := ["self", "word"]) (sc := defScope s_Table___str__) (by decide +kernel)) (fun _ _ _ _ _ => (pg_name (i := 1) sc_Table___str__.nd rfl (Or.inl rfl))) (fun _ _ _ _ _ => pts_nil) (fun _ _ _ _ _ => (pe_call (ok_written T) (hr.mono (by decide)) (by rfl) T.g_written T.F_written.kp (b_written T) .nil pass0 (pa_cons (pv 1) (pa_cons (pe_call (ok_bits T) (hr.mono (by decide)) (by rfl) T.g_bits T.F_bits.kp (b_bits T) .nil pass0 (pa_cons (pe_ix (ix_tupK K) (pe_fldK K (pv 0)) (pv 1) (fun _ _ => rfl)) pa_nil)) pa_nil)))))))), ?_⟩
    refine run_D (W := fun _ _ _ _ => False) (Γ := [some (rTab K T.C_Table m), none]) ?_ e (En.start (k := 1) _ (rs := [rTab K T.C_Table m]) ra (by rw [ra.len]; rfl)) k
    clear ra e k
    have hb : ∀ w, m.getD w 0 < 2 ^ m.length := fun w => Wf.get q0 w
    have h64 : ∀ w, m.getD w 0 < 2 ^ 64 := fun w => Nat.lt_of_lt_of_le (hb w) (Nat.pow_le_pow_right (by decide) (by omega))
    have hm : ∀ w, ∀ z ∈ bitsN (m.getD w 0), z < 64 := fun w z hz => by
      have h1 := mem_bits.mp hz
      rcases Nat.lt_or_ge z 64 with q | q
      · exact q
      · rw [Nat.testBit_lt_two_pow (Nat.lt_of_lt_of_le (hb w) (Nat.pow_le_pow_right (by decide) (by omega)))] at h1
        exact nomatch h1
    have hl : ∀ w, (bitsN (m.getD w 0)).length ≤ 64 := fun w => Nat.le_trans (bits_len (hb w)) (by omega)
    refine ws_ret (e_x (r := rS (tabS m)) (x_join (K := K) x_c (x_is (EvNX.d (K := K) (xn_lcR0 m.length (fun w => rS (entS w (bitsN (m.getD w 0)))) (x_size (x_v rfl) T.c_Table T.na_Table_size) (by omega) (fun w hw => EvX.by fun W ε => ?_) (by simp))) (by rw [List.map_map]; rfl)) ?_) rfl)
    · exact e_call (a_cons (e_v rfl (a_cons (e_call (a_cons (e_x (x_ixTn (x_masks (x_v rfl) T.c_Table T.na_Table_masks) (x_v rfl) hw) (a_nil (c_bits T (h64 w) (a_nil (c_written T (by omega) (hm w) (hl w) ⟨rfl, rfl⟩))))))))))
    · have h1 : (Str.ofString " ").length = 1 := by decide
      rw [h1, List.length_map, List.length_range]
      have h2 : ∀ x ∈ ((List.range m.length).map fun w => entS w (bitsN (m.getD w 0))).map (·.length), x ≤ 300 := fun x hx => by
        obtain ⟨y, hy, rfl⟩ := List.mem_map.mp hx
        obtain ⟨w, hw, rfl⟩ := List.mem_map.mp hy
        exact entS_len (by have := List.mem_range.mp hw; omega) (hm w) (hl w)
      have h3 := sum_le h2
      rw [List.length_map, List.length_map, List.length_range] at h3
      omega
theorem c_Table__str (T : Tx P K mg) {M : List Re} {κ : KV} {m : List Nat} (q0 : m |> Wf m.length) (q1 : m.length ≤ 6) (k : κ (rS (tabS m)) M) : CM (spD (R_Table__str T)) [rTab K T.C_Table m] M κ := cm (fun vs G ra => SpD.of ⟨m, ra, q0, q1, rfl⟩) k
local macro_rules | `(tactic| wtm_at "c") => `(tactic| refine c_Table__str _ (by wtm_at "s") (by wtm_at "s") ?_)
theorem sc_Table___repr__ : FnScope ["self"] ["self"] (defScope s_Table___repr__) := ⟨rfl, rfl, rfl, by decide +kernel, rfl, by decide +kernel, by decide +kernel⟩
theorem b_Table___repr__ (T : Tx P K mg) : Binds K T.fd_Table___repr__ ["self"] [] := T.F_Table___repr__.bindsN fun _ _ _ _ _ _ us hl => match us, hl with | [_], _ => rfl
theorem smL {n : Nat} {x : List Nat} (w : Wf n x) (h6 : n ≤ 6) : SmL (x.map bitsN) := fun r hr z hz => by
  obtain ⟨v, hv, rfl⟩ := List.mem_map.mp hr
  have := bit_lt (w.lt v hv) (mem_bits.mp hz)
  omega
theorem rows6 {n : Nat} {x : List Nat} (w : Wf n x) (h6 : n ≤ 6) : ∀ r ∈ x.map bitsN, r.length ≤ 6 := fun r hr => by
  obtain ⟨v, hv, rfl⟩ := List.mem_map.mp hr
  have := bits_len (w.lt v hv)
  omega
theorem c_rowsI (T : Tx P K mg) {M : List Re} {κ : KV} {m : List Nat} {n : Nat} (wm : Wf n m) (h6 : n ≤ 6) (k : κ (rLL K (m.map bitsN)) M) : CM (spN (R_rows K T.C_Table)) [rTab K T.C_Table m] M κ := cmn (K := K) (fun vs G ra => by
  obtain ⟨x, rfl, hx⟩ := ra1 ra
  exact SpN.of ⟨x, m, rfl, hx, by rw [wm.len]; omega, fun q hq => Nat.lt_of_lt_of_le (wm.lt q hq) (Nat.pow_le_pow_right (by decide) (by omega)), rfl⟩) k
theorem x_rowsT (T : Tx P K mg) {Γ : Mu.Ctx} {te : TE} {E : XK} {m : List Nat} {n : Nat} (h : EvX Γ te (rTab K T.C_Table m)) (wm : Wf n m) (h6 : n ≤ 6) : EvX Γ (tMeth T.C_Table "rows" (spN (R_rows K T.C_Table)) [] E te tNil) (rLL K (m.map bitsN)) := EvX.by fun W ε => e_meth (e_x h ⟨ins_tab rfl, a_nil (c_rowsI T wm h6 ⟨rfl, rfl⟩)⟩)

def repS (m : List Nat) : Str := [Str.ofString "Table(", txS (m.map bitsN), Str.ofString ")"].foldl (· ++ ·) Str.empty
theorem txS_len2 {ll : List (List Nat)} (h : SmL ll) (h6 : ll.length ≤ 6) (hr : ∀ r ∈ ll, r.length ≤ 6) : (txS ll).length ≤ 134 := by
  have e : (txS ll).length = (txS ll).cps.toList.length := rfl
  rw [e, cps_ll h]
  have h1 : ∀ r ∈ ll.map enc1, r.length ≤ 20 := fun r hr' => by
    obtain ⟨q, hq, rfl⟩ := List.mem_map.mp hr'
    have h2 := flatN_len (w := 1) (q.map encN) 0 fun t ht => by
      obtain ⟨z, _, rfl⟩ := List.mem_map.mp ht
      exact Nat.le_refl _
    have h3 := hr q hq
    show (91 :: (flatN 0 (q.map encN) ++ [93])).length ≤ 20
    rw [List.length_cons, List.length_append, List.length_singleton]
    rw [List.length_map] at h2
    omega
  have h2 := flatN_len (ll.map enc1) 0 h1
  rw [List.length_map] at h2
  show (91 :: (flatN 0 (ll.map enc1) ++ [93])).length ≤ 134
  rw [List.length_cons, List.length_append, List.length_singleton]
  omega

def R_Table__repr (T : Tx P K mg) : List V → Hp → Rp → Prop := fun vs G r => ∃ (m : List Nat), RA G vs [rTab K T.C_Table m] ∧ (m |> Wf m.length) ∧ (m.length ≤ 6) ∧ r = rS (repS m)
theorem ok_Table___repr__ (T : Tx P K mg) : FnG P w K mg base CX0 3 T.f_Table___repr__ T.fd_Table___repr__ ["self"] (spD (R_Table__repr T)) := by
  refine okG T.F_Table___repr__ sc_Table___repr__ (fun vs H Q E h => ?_) (fun cdv A outer s H vs Q E hgd hr h => ?_)
  · obtain ⟨G, r, _, ⟨m, ra, _⟩, _⟩ := h
    exact ra.len
  · obtain ⟨G, r, e, ⟨m, ra, q0, q1, rfl⟩, k⟩ := h
    refine ⟨_, PSs.nox (pss_one (ps_ret (pe_joined (.cons pe_str (.cons (pe_fmtD (K := K) hgd hr.units (pe_meth0 (pv 0) T.c_Table T.M_Table_rows (ok_Table_rows T) (hr.mono (by decide)) (b_Table_rows T) .nil pass0)) (.cons pe_str .nil)))))), ?_⟩
    refine run_D (W := fun _ _ _ _ => False) (Γ := [some (rTab K T.C_Table m)]) ?_ e (En.start (k := 0) _ (rs := [rTab K T.C_Table m]) ra (by rw [ra.len]; rfl)) k
    clear ra e k
    have hS := smL q0 q1
    have hR := rows6 q0 q1
    have hL : (m.map bitsN).length ≤ 6 := by rw [List.length_map]; exact q1
    have hz := txS_len hS hL hR
    have hz2 := txS_len2 hS hL hR
    refine ws_ret (e_x (r := rS (repS m)) (ev_js (.cons x_c (.cons (x_fmtLL (x_rowsT T (x_v rfl) q0 q1) hS hL hR) (.cons x_c .nil))) Str.empty ?_) rfl)
    have h4 : (Str.ofString "Table(").length = 6 := by decide
    have h3 : (Str.ofString ")").length = 1 := by decide
    have h5 : Str.empty.length = 0 := by decide
    simp only [List.map_cons, List.map_nil, List.foldr_cons, List.foldr_nil]
    omega
theorem c_Table__repr (T : Tx P K mg) {M : List Re} {κ : KV} {m : List Nat} (q0 : m |> Wf m.length) (q1 : m.length ≤ 6) (k : κ (rS (repS m)) M) : CM (spD (R_Table__repr T)) [rTab K T.C_Table m] M κ := cm (fun vs G ra => SpD.of ⟨m, ra, q0, q1, rfl⟩) k
local macro_rules | `(tactic| wtm_at "c") => `(tactic| refine c_Table__repr _ (by wtm_at "s") (by wtm_at "s") ?_)
theorem sc_Table___eq__ : FnScope ["self", "other"] ["self", "other"] (defScope s_Table___eq__) := ⟨rfl, rfl, rfl, by decide +kernel, rfl, by decide +kernel, by decide +kernel⟩
theorem b_Table___eq__ (T : Tx P K mg) : Binds K T.fd_Table___eq__ ["self", "other"] [] := T.F_Table___eq__.bindsN fun _ _ _ _ _ _ us hl => match us, hl with | [_, _], _ => rfl
def R_Table_eq (K : PySem.W.Frag) (C : Addr) : List V → Hp → Rp → Prop := fun vs G r => ∃ (x y : V) (f w : List Nat), vs = [x, y] ∧ (rTab K C f).p x G ∧ (rTab K C w).p y G ∧ r = rB (decide (f = w))
theorem ok_Table___eq__ (T : Tx P K mg) : FnOk P w K mg base CX0 1 T.f_Table___eq__ T.fd_Table___eq__ ["self", "other"] (spD (R_Table_eq K T.C_Table)) := by
  refine T.F_Table___eq__.ok sc_Table___eq__ (fun vs H Q E h => ?_) (fun cdv A outer s H vs Q E hr h => ?_)
  · obtain ⟨G, r, _, ⟨x, y, f, w, rfl, _⟩, _⟩ := h
    rfl
  · obtain ⟨G, r, e, ⟨x, y, f, w, rfl, hx, hy, rfl⟩, k⟩ := h
    refine ⟨_, PSs.nox (pss_one (ps_ret (pe_and (pe_callB (call_isiK K) (by rfl) T.m_isinstance (by decide +kernel) (pa_cons (pv 1) (pa_cons (pe_glob (v := .ref T.C_Table) (by rfl) T.g_Table rfl) pa_nil))) (pe_one (pe_cmpR (op_eqK K hr.units) (pe_fldK K (pv 0)) (pe_fldK K (pv 1)) (nomark _)))))), ?_⟩
    refine run_D (W := fun _ _ _ _ => False) (Γ := [some (rTab K T.C_Table f), some (rTab K T.C_Table w)]) ?_ e (En.start (k := 0) _ (rs := [rTab K T.C_Table f, rTab K T.C_Table w]) (.cons hx (.cons hy .nil)) rfl) k
    exact w_ret (x_and (x_isTab T.ic_Table (x_v rfl)) fun _ => x_eqTn (x_masks (x_v rfl) T.c_Table T.na_Table_masks) (x_masks (x_v rfl) T.c_Table T.na_Table_masks)) rfl
theorem x_teq (T : Tx P K mg) {Γ : Mu.Ctx} {ta tb : TE} {E : XK} {f w : List Nat} (ha : EvX Γ ta (rTab K T.C_Table f)) (hb : EvX Γ tb (rTab K T.C_Table w)) : EvX Γ (tOp (rOwn2 T.C_Table (spD (R_Table_eq K T.C_Table)) E) ta tb) (rB (decide (f = w))) := x_own2 ha hb fun x y G hx hy => SpD.of ⟨x, y, f, w, rfl, hx, hy, rfl⟩
theorem x_tneq (T : Tx P K mg) {Γ : Mu.Ctx} {ta tb : TE} {E : XK} {f w : List Nat} (ha : EvX Γ ta (rTab K T.C_Table f)) (hb : EvX Γ tb (rTab K T.C_Table w)) : EvX Γ (tOp (rOwnNe T.C_Table (spD (R_Table_eq K T.C_Table)) E) ta tb) (rB (!decide (f = w))) := x_tne ha hb fun x y G hx hy => SpD.of ⟨x, y, f, w, rfl, hx, hy, rfl⟩
local macro_rules | `(tactic| wtm_at "c") => `(tactic| refine om (x_teq _ (x_v rfl) (x_v rfl)) ?_)
local macro_rules | `(tactic| wtm_at "c") => `(tactic| refine om (x_tneq _ (x_v rfl) (x_v rfl)) ?_)
def NoTab (K : PySem.W.Frag) (C : Addr) (z : Rp) : Prop := ∀ v H, z.p v H → ∃ t, TyX K H v t ∧ PySem.W.kitOne K t (.ref C) = some false ∧ PySem.W.notFirst K C t = true
theorem x_isNo {Γ : Mu.Ctx} {te : TE} {K : PySem.W.Frag} {C : Addr} {z : Rp} (h : EvX Γ te z) (hz : NoTab K C z) : EvX Γ (tCB (rIsi K) (tCons te (tCons (tC (.ref C)) tNil))) (rB false) := fun σ G en => Ev.d (ev_isi (h σ G en) (.own _) fun v H hv => by
  obtain ⟨t, h1, h2, _⟩ := hz v H hv
  exact ⟨t, h1, h2⟩)

def R_Table__eq_x (T : Tx P K mg) : List V → Hp → Rp → Prop := fun vs G r => ∃ (m : List Nat) (z : Rp), RA G vs [rTab K T.C_Table m, z] ∧ (z |> NoTab K T.C_Table) ∧ r = rB false
theorem ok_Table___eq__x (T : Tx P K mg) : FnOk P w K mg base CX0 1 T.f_Table___eq__ T.fd_Table___eq__ ["self", "other"] (spD (R_Table__eq_x T)) := by
  refine T.F_Table___eq__.ok sc_Table___eq__ (fun vs H Q E h => ?_) (fun cdv A outer s H vs Q E hr h => ?_)
  · obtain ⟨G, r, _, ⟨m, z, ra, _⟩, _⟩ := h
    exact ra.len
  · obtain ⟨G, r, e, ⟨m, z, ra, q0, rfl⟩, k⟩ := h
    refine ⟨_, PSs.nox (pss_one (ps_ret (pe_and (pe_callB (call_isiK K) (by rfl) T.m_isinstance (by decide +kernel) (pa_cons (pv 1) (pa_cons (pe_glob (v := .ref T.C_Table) (by rfl) T.g_Table rfl) pa_nil))) (pe_one (pe_cmpR (op_eqK K hr.units) (pe_fldK K (pv 0)) (pe_fldK K (pv 1)) (nomark _)))))), ?_⟩
    refine run_D (W := fun _ _ _ _ => False) (Γ := [some (rTab K T.C_Table m), some (z)]) ?_ e (En.start (k := 0) _ (rs := [rTab K T.C_Table m, z]) ra (by rw [ra.len]; rfl)) k
    clear ra e k
    exact ws_ret (e_x (x_is (x_and (c := false) (d := false) (x_isNo (x_v rfl) q0) (fun h => nomatch h)) rfl) rfl)
theorem c_Table__eq_x (T : Tx P K mg) {M : List Re} {κ : KV} {m : List Nat} {z : Rp} (q0 : z |> NoTab K T.C_Table) (k : κ (rB false) M) : CM (spD (R_Table__eq_x T)) [rTab K T.C_Table m, z] M κ := cm (fun vs G ra => SpD.of ⟨m, z, ra, q0, rfl⟩) k

theorem nt_list (T : Tx P K mg) {rs : List Rp} : NoTab K T.C_Table (rL K rs) := fun v H h => ⟨_, ty_list h, T.ni_Table_list, nf_list⟩
theorem nt_tup (T : Tx P K mg) {rs : List Rp} : NoTab K T.C_Table (rT K rs) := fun v H h => ⟨_, ty_tup h, T.ni_Table_tuple, nf_tup⟩
theorem nt_str (T : Tx P K mg) {a : Str} : NoTab K T.C_Table (rS a) := fun v H h => ⟨_, by obtain rfl : v = V.str a := h; exact .base (.str a), T.ni_Table_str, nf_str⟩
theorem nt_int (T : Tx P K mg) {a : Int} : NoTab K T.C_Table (Mu.rI a) := fun v H h => ⟨_, by obtain rfl : v = V.int a := h; exact .base (.int a), T.ni_Table_int, nf_int⟩
theorem nt_non (T : Tx P K mg) : NoTab K T.C_Table (rV .non) := fun v H h => ⟨_, by obtain rfl : v = V.non := h; exact .base .non, T.ni_Table_NoneType, nf_non⟩
theorem x_eqX (T : Tx P K mg) {Γ : Mu.Ctx} {ta tb : TE} {E : XK} {m : List Nat} {z : Rp} (ha : EvX Γ ta (rTab K T.C_Table m)) (hb : EvX Γ tb z) (hz : NoTab K T.C_Table z) : EvX Γ (tOp (rOwnX K T.C_Table (spD (R_Table__eq_x T)) E) ta tb) (rB false) := fun σ G en =>
  ed_op (ha σ G en) (hb σ G en) fun x y G2 H e1 e2 hx hy Q q => by
    obtain ⟨a, dx, t, c', rfl, h2, _⟩ := id hx
    obtain ⟨tt, y1, y2, y3⟩ := hz y H (z.mono e2 hy)
    exact ⟨a, dx, _, tt, rfl, e2 _ _ h2, y1, y3, (SpD.of (R := R_Table__eq_x T) (r := rB false) ⟨m, z, .cons hx (.cons hy .nil), hz, rfl⟩) H e2 _ (fun v G3 H3 g hv => q v G3 H3 g hv) E⟩
theorem x_neX (T : Tx P K mg) {Γ : Mu.Ctx} {ta tb : TE} {E : XK} {m : List Nat} {z : Rp} (ha : EvX Γ ta (rTab K T.C_Table m)) (hb : EvX Γ tb z) (hz : NoTab K T.C_Table z) : EvX Γ (tOp (rOwnXN K T.C_Table (spD (R_Table__eq_x T)) E) ta tb) (rB true) := fun σ G en =>
  ed_op (ha σ G en) (hb σ G en) fun x y G2 H e1 e2 hx hy Q q => by
    obtain ⟨a, dx, t, c', rfl, h2, _⟩ := id hx
    obtain ⟨tt, y1, y2, y3⟩ := hz y H (z.mono e2 hy)
    refine ⟨a, dx, _, tt, rfl, e2 _ _ h2, y1, y3, (SpD.of (R := R_Table__eq_x T) (r := rB false) ⟨m, z, .cons hx (.cons hy .nil), hz, rfl⟩) H e2 _ (fun v G3 H3 g hv => ?_) E⟩
    obtain rfl : v = V.bl false := hv
    exact ⟨false, rfl, q _ G3 H3 g rfl⟩
local macro_rules | `(tactic| wtm_at "c") => `(tactic| refine c_Table__eq_x _ (by wtm_at "s") ?_)
theorem sc_Table___contains__ : FnScope ["self", "pair"] ["self", "pair"] (defScope s_Table___contains__) := ⟨rfl, rfl, rfl, by decide +kernel, rfl, by decide +kernel, by decide +kernel⟩
theorem b_Table___contains__ (T : Tx P K mg) : Binds K T.fd_Table___contains__ ["self", "pair"] [] := T.F_Table___contains__.bindsN fun _ _ _ _ _ _ us hl => match us, hl with | [_, _], _ => rfl
def rPi (K : PySem.W.Frag) (q : Int × Int) : Rp := rT K [Mu.rI q.1, Mu.rI q.2]
def dPi (q : Int × Int) : PyData := .tuple [.int q.1, .int q.2]
theorem asd_pi {K : PySem.W.Frag} (p : Int × Int) : AsD K (rPi K p) (dPi p) := fun v H q => by
  obtain ⟨a, vs, rfl, h1, h2⟩ := q
  obtain ⟨x, y, rfl, hx, hy⟩ := ra2 h2
  obtain rfl : x = V.int p.1 := hx
  obtain rfl : y = V.int p.2 := hy
  exact .tup h1 (.cons (.int _) (.cons (.int _) .nil))
theorem sh_pi (p : Int × Int) : Sh 2 (dPi p) := sh_tup (fun a : Int => sh_int a) [p.1, p.2]
theorem eqv_pi (a b : Int × Int) : PyData.eqv (dPi a) (dPi b) = decide (a = b) := by
  obtain ⟨a1, a2⟩ := a
  obtain ⟨b1, b2⟩ := b
  show PyData.eqv (.tuple _) (.tuple _) = _
  rw [PyData.eqv, Bool.eq_iff_iff]
  simp [PyData.eqvAll, PyData.eqv]
theorem any_pi (p : Int × Int) (l : List (Int × Int)) : ((l.map dPi).any fun z => PyData.eqv z (dPi p)) = decide (p ∈ l) := by
  rw [List.any_map, Bool.eq_iff_iff, List.any_eq_true, decide_eq_true_iff]
  constructor
  · rintro ⟨x, hx, h⟩
    have h2 : PyData.eqv (dPi x) (dPi p) = true := h
    rw [eqv_pi] at h2
    rw [← of_decide_eq_true h2]; exact hx
  · intro h
    exact ⟨p, h, by show PyData.eqv (dPi p) (dPi p) = true; rw [eqv_pi]; simp⟩
theorem x_inTPi {Γ : Mu.Ctx} {ta tb : TE} {p : Int × Int} {l : List (Int × Int)} (ha : EvX Γ ta (rPi K p)) (hb : EvX Γ tb (rT K (l.map (rPi K)))) : EvX Γ (tOp (rInTD K) ta tb) (rB (decide (p ∈ l))) := fun σ G en =>
  Ev.d (ev_op2 (ha σ G en) (hb σ G en) fun x y H hx hy Q q => ⟨dPi p, l.map dPi, asd_pi p x H hx, asd_tup asd_pi l y H hy, (sh_pi p).ok (by decide), (sh_tup sh_pi l).ok (by decide), by rw [any_pi]; exact q⟩)
theorem x_pi {Γ : Mu.Ctx} {ta tb : TE} {a b : Int} (ha : EvX Γ ta (Mu.rI a)) (hb : EvX Γ tb (Mu.rI b)) : EvX Γ (tTup (tCons ta (tCons tb tNil))) (rPi K (a, b)) := x_tup (xa_cons ha (xa_cons hb xa_nil)) (by show 2 ≤ 100000; decide)
def cI (m : List Nat) : List (Int × Int) := (pairsN m).map fun p => ((p.1 : Int), (p.2 : Int))
theorem cells_i (K : PySem.W.Frag) (m : List Nat) : rT K ((pairsN m).map (rP K)) = rT K ((cI m).map (rPi K)) := by
  unfold cI
  rw [List.map_map]; rfl
def R_Table_contains (K : PySem.W.Frag) (C : Addr) : List V → Hp → Rp → Prop := fun vs G r => ∃ (x y : V) (m : List Nat) (p : Int × Int), vs = [x, y] ∧ (rTab K C m).p x G ∧ (rPi K p).p y G ∧ r = rB (decide (p ∈ cI m))
theorem ok_Table___contains__ (T : Tx P K mg) : FnOk P w K mg base CX0 1 T.f_Table___contains__ T.fd_Table___contains__ ["self", "pair"] (spD (R_Table_contains K T.C_Table)) := by
  refine T.F_Table___contains__.ok sc_Table___contains__ (fun vs H Q E h => ?_) (fun cdv A outer s H vs Q E hr h => ?_)
  · obtain ⟨G, r, _, ⟨x, y, m, p, rfl, _⟩, _⟩ := h
    rfl
  · obtain ⟨G, r, e, ⟨x, y, m, p, rfl, hx, hy, rfl⟩, k⟩ := h
    refine ⟨_, PSs.nox (pss_one (ps_ret (pe_cmpR (op_inTDK K hr.u65) (pv 1) (pe_fldK K (pv 0)) rfl))), ?_⟩
    refine run_D (W := fun _ _ _ _ => False) (Γ := [some (rTab K T.C_Table m), some (rPi K p)]) ?_ e (En.start (k := 0) _ (rs := [rTab K T.C_Table m, rPi K p]) (.cons hx (.cons hy .nil)) rfl) k
    exact w_ret (x_inTPi (x_v rfl) (x_is (x_cells (x_v rfl) T.c_Table T.na_Table_cells) (cells_i K m))) rfl
theorem x_contains (T : Tx P K mg) {Γ : Mu.Ctx} {ta tb : TE} {E : XK} {m : List Nat} {p : Int × Int} (ha : EvX Γ ta (rPi K p)) (hb : EvX Γ tb (rTab K T.C_Table m)) : EvX Γ (tOp (rOwnIn T.C_Table false (spD (R_Table_contains K T.C_Table)) E) ta tb) (rB (decide (p ∈ cI m))) := x_inOwn ha hb fun x y G hx hy => SpD.of ⟨y, x, m, p, rfl, hy, hx, rfl⟩
theorem x_inLPi {Γ : Mu.Ctx} {ta tb : TE} {p : Int × Int} {l : List (Int × Int)} (ha : EvX Γ ta (rPi K p)) (hb : EvX Γ tb (rL K (l.map (rPi K)))) : EvX Γ (tOp (rInD K) ta tb) (rB (decide (p ∈ l))) := fun σ G en =>
  Ev.d (ev_op2 (ha σ G en) (hb σ G en) fun x y H hx hy Q q => ⟨dPi p, l.map dPi, asd_pi p x H hx, asd_list asd_pi l y H hy, (sh_pi p).ok (by decide), (sh_list sh_pi l).ok (by decide), by rw [any_pi]; exact q⟩)
theorem cells_l (K : PySem.W.Frag) (m : List Nat) : rL K ((pairsN m).map (rP K)) = rL K ((cI m).map (rPi K)) := by
  unfold cI
  rw [List.map_map]; rfl
theorem sc__law_box : FnScope ["_law_script", "_law_cell"] ["_law_script"] (defScope s__law_box) := ⟨rfl, rfl, rfl, by decide +kernel, rfl, by decide +kernel, by decide +kernel⟩
theorem b__law_box (T : Tx P K mg) : Binds K T.fd__law_box ["_law_script"] [] := T.F__law_box.bindsN fun _ _ _ _ _ _ us hl => match us, hl with | [_], _ => rfl
theorem ok__law_box (T : Tx P K mg) : FnOk P w K mg base CX0 1 T.f__law_box T.fd__law_box ["_law_script"] (spBoxMk K) := by
  refine T.F__law_box.ok sc__law_box (fun vs H Q E h => ?_) (fun cdv A outer s H vs Q E hr h => ?_)
  · obtain ⟨a, ns, rfl, _⟩ := h
    rfl
  · obtain ⟨a, ns, rfl, hS, hl, k⟩ := h
    refine ⟨_, PSs.nox (pss_one (ps_ret (pe_lst (pa_cons (pe_lc (own := [("_law_cell", 1)]) (by rfl) sc__law_box.nd (pi_listK K (pe_slice (sl_listK K) (pv 0) po_none (po_some pe_int))) (blkOk_by (N := ["_law_script", "_law_cell"]) (sc := defScope s__law_box) (by decide +kernel)) (fun _ _ _ _ _ => (pg_name (i := 1) sc__law_box.nd rfl (Or.inl rfl))) (fun _ _ _ _ _ => pts_nil) (fun _ _ _ _ _ => (pe_callB call_abs (by rfl) T.m_abs (by decide +kernel) (pa_cons (pe_callTy call_int1 (by rfl) T.m_int (by decide +kernel) (pa_cons (pv 1) pa_nil)) pa_nil)))) (pa_cons pe_int (pa_cons pe_int (pa_cons pe_int pa_nil))))))), ?_⟩
    have hcut : cutR (ns.map Mu.rI) none (some 63) = (cutR ns none (some 63)).map Mu.rI := cutR_map _ _ _ _
    have hcl : (cutR ns none (some 63)).length ≤ 63 := by
      unfold cutR
      rw [List.length_take, List.length_drop]; omega
    have src : EvD (tSl (rSlL K) (tVar 0) tNoPart (tPart (tC (.int 63)))) [some (V.ref a), none] H (rL K ((cutR ns none (some 63)).map Mu.rI)) := hcut ▸ EvN.d (en_slL (ed_var (r := rLs K (ns.map Mu.rI)) rfl ⟨a, _, rfl, hS, ra_ints⟩) (fun _ _ => eo_none) (fun _ _ => eo_some ev_c))
    have lc := en_lcL0 (cutR ns none (some 63)) Mu.rI (fun i => Mu.rI (if i < 0 then -i else i)) src (by omega) (vs := [1]) (j := 1) (fun _ => rfl) (te := tCB (fun xs H Q => ∃ i, xs = [.int i] ∧ Q (.int (if i < 0 then -i else i)) H) (tCons (tCB (fun xs H Q => (∃ i, xs = [.int i] ∧ Q (.int i) H) ∨ ∃ k, xs = [.bl k] ∧ Q (.int (if k then 1 else 0)) H) (tCons (tVar 1) tNil)) tNil)) fun i y G1 hi e1 hy => by
      obtain rfl : y = V.int i := hy
      exact Ev.d (ev_abs (ev_int (ev_var rfl)))
    refine s_retN (Ex.refl H) (en_lst (ead_cons (EvN.d (K := K) lc) (ead_cons (Ev.d ev_c) (ead_cons (Ev.d ev_c) (ead_cons (Ev.d ev_c) ead_nil)))) (by show 4 ≤ 100000; decide)) fun p vs G2 H2 g hp gp h2 ra => ?_
    cases ra with
    | cons h1 t1 =>
      obtain ⟨x, y, z, rfl, hx, hy, hz⟩ := ra3 t1
      obtain rfl : x = V.int 0 := hx
      obtain rfl : y = V.int 0 := hy
      obtain rfl : z = V.int 0 := hz
      obtain ⟨c, ws, rfl, hc, rc⟩ := h1
      rw [show (cutR ns none (some 63)).map (fun i => Mu.rI (if i < 0 then -i else i)) = ((cutR ns none (some 63)).map (fun i => if i < 0 then -i else i)).map Mu.rI by rw [List.map_map]; rfl] at rc
      have ew := ra_ints_eq rc
      subst ew
      refine k p G2 H2 g.g g.i hp gp ⟨c, _, 0, 0, 0, h2, hc, fun z hz => ?_, by omega, by omega, by omega, by omega⟩
      obtain ⟨i, _, rfl⟩ := List.mem_map.mp hz
      split <;> omega
theorem sc__law_take : FnScope ["_law_box_here", "_law_many", "_law_digit", "_law_cell"] ["_law_box_here", "_law_many"] (defScope s__law_take) := ⟨rfl, rfl, rfl, by decide +kernel, rfl, by decide +kernel, by decide +kernel⟩
theorem b__law_take (T : Tx P K mg) : Binds K T.fd__law_take ["_law_box_here", "_law_many"] [] := T.F__law_take.bindsN fun _ _ _ _ _ _ us hl => match us, hl with | [_, _], _ => rfl
theorem ok__law_take (T : Tx P K mg) : FnOk P w K mg base CX0 1 T.f__law_take T.fd__law_take ["_law_box_here", "_law_many"] (spT K) := by
  refine T.F__law_take.ok sc__law_take (fun vs H Q E h => ?_) (fun cdv A outer s H vs Q E hr h => ?_)
  · obtain ⟨G, b, m, rfl, _⟩ := h
    rfl
  · obtain ⟨G, b, m, rfl, e, gb, hbox, h0, h1, k⟩ := h
    obtain ⟨c, cells, i, x, y, hb, hc, hcp, hi, hx, hy, hy2⟩ := hbox.ex
    refine ⟨_, PSs.nox (pss_cons (ps_if (pt_cmpR op_gt (pe_ix (ix_listK K) (pv 0) pe_int (fun _ _ => rfl)) pe_int (nomark _)) (pss_cons (ps_set (i := 2) sc__law_take.nd rfl (Or.inl rfl) (pe_op op_mod (pe_callTy call_int1 (by rfl) T.m_int (by decide +kernel) (pa_cons (pe_ix (ix_listK K) (pv 0) pe_int (fun _ _ => rfl)) pa_nil)) (pv 1)))
      (pss_cons (ps_asg (pe_op op_fdiv (pe_ix (ix_listK K) (pv 0) pe_int (fun _ _ => rfl)) (pv 1)) (pg_sub (pv 0) pe_int set_list))
      (pss_one (ps_ret (pv 2))))) pss_nil)
      (pss_cons (ps_set (i := 3) sc__law_take.nd rfl (Or.inl rfl) pe_int)
      (pss_cut (ps_if (pt_cmpR op_lt (pe_ix (ix_listK K) (pv 0) pe_int (fun _ _ => rfl)) (pe_callB (call_lenK K) (by rfl) T.m_len PySem.boot_len (pa_cons (pe_ix (ix_listK K) (pv 0) pe_int (fun _ _ => rfl)) pa_nil)) (nomark _)) (pss_cons (ps_set (i := 3) sc__law_take.nd rfl (Or.inl rfl) (pe_ix (ix_listK K) (pe_ix (ix_listK K) (pv 0) pe_int (fun _ _ => rfl)) (pe_ix (ix_listK K) (pv 0) pe_int (fun _ _ => rfl)) (fun _ _ => rfl)))
      (pss_one (ps_asg (pe_op op_add (pe_ix (ix_listK K) (pv 0) pe_int (fun _ _ => rfl)) pe_int) (pg_sub (pv 0) pe_int set_list)))) pss_nil)
      (pss_cons (ps_if (pt_cmpR op_ge (pv 3) (pe_op op_pow pe_int pe_int) (nomark _)) (pss_cons (ps_asg (pe_op op_fdiv (pv 3) (pv 1)) (pg_sub (pv 0) pe_int set_list))
      (pss_one (ps_ret (pe_op op_mod (pe_callTy call_int1 (by rfl) T.m_int (by decide +kernel) (pa_cons (pv 3) pa_nil)) (pv 1))))) pss_nil)
      (pss_cons (ps_asg (pe_op op_mod (pe_callTy call_int1 (by rfl) T.m_int (by decide +kernel) (pa_cons (pe_op op_add (pe_op op_mul (pe_ix (ix_listK K) (pv 0) pe_int (fun _ _ => rfl)) pe_int) (pv 3)) pa_nil)) pe_int) (pg_sub (pv 0) pe_int set_list))
      (pss_one (ps_ret (pe_op op_mod (pe_callTy call_int1 (by rfl) T.m_int (by decide +kernel) (pa_cons (pe_op op_fdiv (pe_op op_mod (pe_callTy call_int1 (by rfl) T.m_int (by decide +kernel) (pa_cons (pe_op op_mul (pe_ix (ix_listK K) (pv 0) pe_int (fun _ _ => rfl)) pe_int) pa_nil)) pe_int) pe_int) pa_nil)) (pv 1))))))))), ?_⟩
    have fin : ∀ (i' x' y' : Int) (H' : Hp) (d : Int), H' b = some (.lst [.ref c, .int i', .int x', .int y']) → 0 ≤ i' → 0 ≤ x' → 0 ≤ y' → y' < 2147483647 → (∀ a o, H a = some o → a ≠ b → H' a = some o) → 0 ≤ d → d < (m : Int) → Q (.int d) H' := by
      intro i' x' y' H' d h1 h2 h3 h4 h5 h6 h7 h8
      have z := k d.toNat H' (by omega) h6 fun G' hb' => by
        obtain ⟨c2, cells2, i2, x2, y2, b1, b2, b3, _⟩ := hb'.ex
        rw [hb] at b1
        injection b1 with b1
        injection b1 with b1
        injection b1 with b1 _
        injection b1 with b1
        subst b1
        exact ⟨c, cells2, i', x', y', h1, b2, b3, h2, h3, h4, h5⟩
      rwa [Int.toNat_of_nonneg h7] at z
    have mp : (0 : Int) < (m : Int) := by omega
    have md : CDiv x (m : Int) := ⟨mp, by omega⟩
    -- if box[2] > 0
    refine sq (s_ifE (Ex.refl H) (et_cmp (ev_op (ev_var rfl) ev_c (rv_ixL (sq_of hb) rfl)) ev_c) (fun hb1 H1 e1 => ?_) (fun hb1 H1 e1 => ?_))
    · refine sq (Mu.s_set e1 (ev_op (ev_int (ev_op (ev_var rfl) ev_c (rv_ixL (sq_of hb) rfl))) (ev_var rfl) (rv_I mp)) fun H2 e2 => ?_)
      have hb2 := e2 _ _ (e1 _ _ hb)
      refine sq (s_setL (j := 2) hb2 (ev_op (ev_op (ev_var rfl) ev_c (rv_ixL (sq_of hb2) rfl)) (ev_var rfl) (rv_I md)) (ev_var rfl) ev_c (by show 2 < 4; decide) fun H3 e3 => ?_)
      refine s_retE (Ex.refl _) (ev_var rfl) fun H4 e4 => ?_
      refine fin i (x / (m : Int)) y H4 _ (e4 _ _ upd_same) hi (Int.ediv_nonneg hx (by omega)) hy hy2 (fun a o z n => e4 _ _ (by rw [upd_ne n]; exact e3 _ _ (e2 _ _ (e1 _ _ z)))) (Int.emod_nonneg _ (by omega)) (Int.emod_lt_of_pos _ mp)
    -- cell = 0
    refine nxt ?_
    dsimp only
    refine sq (Mu.s_set e1 ev_c fun H2 e2 => ?_)
    have hb2 := e2 _ _ (e1 _ _ hb)
    have eG2 : Ex G H2 := e.trans (e1.trans e2)
    have hx0 : x ≤ 0 := by
      have q := of_decide_eq_false hb1
      omega
    have hcl : EvD (tOp (rIxL K) (tVar 0) (tC (.int 0))) [some (V.ref b), some (V.int (m : Int)), none, some (V.int 0)] (upd G b (.lst [.ref c, .int i, .int x, .int y])) (rL K (cells.map Mu.rI)) := fun H' e' Q' q' => by
      refine ⟨.ref b, rfl, b, _, 0, .ref c, rfl, rfl, sq_of (e' _ _ upd_same), rfl, q' (.ref c) _ H' (Gr.refl e') ⟨c, _, rfl, (Ex.new gb) _ _ hc, ra_ints⟩⟩
    have eB : Ex (upd G b (.lst [.ref c, .int i, .int x, .int y])) H2 := ex_add eG2 hb2
    -- if box[1] < len(box[0])
    refine ⟨fun σ' H' => ∃ i' cell : Int, σ' = [some (V.ref b), some (V.int (m : Int)), none, some (V.int cell)] ∧ H' b = some (.lst [.ref c, .int i', .int x, .int y]) ∧ 0 ≤ i' ∧ 0 ≤ cell ∧ (∀ a o, H a = some o → a ≠ b → H' a = some o), s_ifE eB (et_cmp (ev_op (ev_var rfl) ev_c (rv_ixL (sq_of upd_same) rfl)) (ev_lenL hcl (List.length_map _))) (fun hb3 H3 e3 => ?_) (fun hb3 H3 e3 => ?_), ?_⟩
    · have hlt : i < (cells.length : Int) := of_decide_eq_true hb3
      have hil : i.toNat < cells.length := by omega
      have ei : ((i.toNat : Nat) : Int) = i := Int.toNat_of_nonneg hi
      have hget : (cells.map Mu.rI)[i.toNat]? = some (Mu.rI cells[i.toNat]) := by rw [List.getElem?_map, List.getElem?_eq_getElem hil]; rfl
      refine sq (Mu.s_set (eB.trans e3) (EvD.ev (ed_ixL hcl (by rw [ei]; exact ev_op (ev_var rfl) ev_c (rv_ixL (sq_of upd_same) rfl)) hget)) fun H4 e4 => ?_)
      have hb4 := e4 _ _ (e3 _ _ hb2)
      refine s_setL (j := 1) hb4 (ev_op (ev_op (ev_var rfl) ev_c (rv_ixL (sq_of hb4) rfl)) ev_c rv_I0) (ev_var rfl) ev_c (by show 1 < 4; decide) fun H5 e5 => ?_
      exact ⟨i + 1, cells[i.toNat], rfl, upd_same, by omega, hcp _ (List.getElem_mem hil), fun a o z n => by rw [upd_ne n]; exact e5 _ _ (e4 _ _ (e3 _ _ (e2 _ _ (e1 _ _ z))))⟩
    · exact nxt ⟨i, 0, rfl, e3 _ _ hb2, hi, by omega, fun a o z n => e3 _ _ (e2 _ _ (e1 _ _ z))⟩
    · rintro σ' H3 ⟨i', cell, rfl, hb3, hi3, hcell, keep⟩
      refine sq (s_ifE (Ex.refl H3) (et_cmp (ev_var rfl) (ev_op ev_c ev_c (rv_I ⟨by decide, by decide, by decide⟩))) (fun hb4 H4 e4 => ?_) (fun hb4 H4 e4 => ?_))
      · have hb4' := e4 _ _ hb3
        refine sq (s_setL (j := 2) hb4' (ev_op (ev_var rfl) (ev_var rfl) (rv_I ⟨mp, by omega⟩)) (ev_var rfl) ev_c (by show 2 < 4; decide) fun H5 e5 => ?_)
        dsimp only
        refine s_retE (Ex.refl _) (ev_op (ev_int (ev_var rfl)) (ev_var rfl) (rv_I mp)) fun H6 e6 => ?_
        exact fin i' (cell / (m : Int)) y H6 _ (e6 _ _ upd_same) hi3 (Int.ediv_nonneg hcell (by omega)) hy hy2 (fun a o z n => e6 _ _ (by rw [upd_ne n]; exact e5 _ _ (e4 _ _ (keep a o z n)))) (Int.emod_nonneg _ (by omega)) (Int.emod_lt_of_pos _ mp)
      · have hb4' := e4 _ _ hb3
        have hc18 : cell < 10 ^ 18 := by
          have q := of_decide_eq_false hb4
          have q2 : ¬ ((10 : Int) ^ (18 : Int).toNat ≤ cell) := q
          have q3 : (10 : Int) ^ (18 : Int).toNat = 10 ^ 18 := rfl
          rw [q3] at q2
          omega
        refine nxt ?_
        dsimp only
        refine sq (s_setL (j := 3) hb4' (ev_op (ev_int (ev_op (ev_op (ev_op (ev_var rfl) ev_c (rv_ixL (sq_of hb4') rfl)) ev_c (rv_I (Or.inl ⟨by omega, by omega⟩))) (ev_var rfl) rv_I0)) ev_c (rv_I (by decide))) (ev_var rfl) ev_c (by show 3 < 4; decide) fun H5 e5 => ?_)
        have ny0 : (0 : Int) ≤ (y * 48271 + cell) % 2147483647 := Int.emod_nonneg _ (by decide)
        have ny1 : (y * 48271 + cell) % 2147483647 < 2147483647 := Int.emod_lt_of_pos _ (by decide)
        have hb6 : (upd H5 b (.lst ([V.ref c, .int i', .int x, .int y].set 3 (.int ((y * 48271 + cell) % 2147483647))))) b = some (.lst [.ref c, .int i', .int x, .int ((y * 48271 + cell) % 2147483647)]) := upd_same
        dsimp only
        refine s_retE (Ex.refl _) (ev_op (ev_int (ev_op (ev_op (ev_int (ev_op (ev_op (ev_var rfl) ev_c (rv_ixL (sq_of hb6) rfl)) ev_c (rv_I (Or.inl ⟨by omega, by omega⟩)))) ev_c (rv_I (by decide))) ev_c (rv_I ⟨by decide, by decide⟩))) (ev_var rfl) (rv_I mp)) fun H6 e6 => ?_
        exact fin i' x _ H6 _ (e6 _ _ hb6) hi3 hx ny0 ny1 (fun a o z n => e6 _ _ (by rw [upd_ne n]; exact e5 _ _ (e4 _ _ (keep a o z n)))) (Int.emod_nonneg _ (by omega)) (Int.emod_lt_of_pos _ mp)
local macro_rules | `(tactic| wtm_at "c") => `(tactic| refine c_take 0 (by assumption) (by wtm_at "s") (by wtm_at "s") ?_)
local macro_rules | `(tactic| wtm_at "c") => `(tactic| refine c_take 0 rfl (by wtm_at "s") (by wtm_at "s") ?_)
local macro_rules | `(tactic| wtm_at "c") => `(tactic| refine c_take 1 rfl (by wtm_at "s") (by wtm_at "s") ?_)
theorem sc__law_words : FnScope ["_law_box_here", "_law_n", "_law_least", "_law_mask", "_law_word"] ["_law_box_here", "_law_n", "_law_least"] (defScope s__law_words) := ⟨rfl, rfl, rfl, by decide +kernel, rfl, by decide +kernel, by decide +kernel⟩
theorem b__law_words (T : Tx P K mg) : Binds K T.fd__law_words ["_law_box_here", "_law_n", "_law_least"] [] := T.F__law_words.bindsN fun _ _ _ _ _ _ us hl => match us, hl with | [_, _, _], _ => rfl
def R_words : List V → Hp → (List Rp → Prop) → Prop := fun ws _ PP => ∃ n least : Nat, ws = [.int (n : Int), .int (least : Int)] ∧ n ≤ 6 ∧ least < 2 ^ n ∧ PP = fun rs => ∃ mask, least ≤ mask ∧ mask < 2 ^ n ∧ rs = (bitsN mask).map nI
theorem ok__law_words (T : Tx P K mg) : FnOk P w K mg base CX0 2 T.f__law_words T.fd__law_words ["_law_box_here", "_law_n", "_law_least"] (spBN K R_words) := by
  refine T.F__law_words.ok sc__law_words (fun vs H Q E h => ?_) (fun cdv A outer s H vs Q E hr h => ?_)
  · obtain ⟨G, b, ws, PP, rfl, _, _, _, ⟨n, least, rfl, _⟩, _⟩ := h
    rfl
  · obtain ⟨G, b, ws, PP, rfl, e, gb, hbox, ⟨n, least, rfl, hn, hl, rfl⟩, k⟩ := h
    refine ⟨_, PSs.nox (pss_cons (ps_set (i := 3) sc__law_words.nd rfl (Or.inr rfl) (pe_op op_add (pv 2) (pe_call (ok__law_take T) (hr.mono (by decide)) (by rfl) T.g__law_take T.F__law_take.kp (b__law_take T) .nil pass0 (pa_cons (pv 0) (pa_cons (pe_op op_sub (pe_ix (ix_listK K) (pe_lst (pa_cons pe_int (pa_cons pe_int (pa_cons pe_int (pa_cons pe_int (pa_cons pe_int (pa_cons pe_int (pa_cons pe_int pa_nil)))))))) (pv 1) (fun _ _ => rfl)) (pv 2)) pa_nil)))))
      (pss_one (ps_ret (pe_lc (own := [("_law_word", 4)]) (by rfl) sc__law_words.nd (pi_range1 (by rfl) T.m_range (pa_cons (pv 1) pa_nil)) (blkOk_by (N := ["_law_box_here", "_law_n", "_law_least", "_law_mask", "_law_word"]) (sc := defScope s__law_words) (by decide +kernel)) (fun _ _ _ _ _ => (pg_name (i := 4) sc__law_words.nd rfl (Or.inl rfl))) (fun _ _ _ _ _ => (pts_one (pt_cmpR op_eq (pe_op op_mod (pe_callTy call_int1 (by rfl) T.m_int (by decide +kernel) (pa_cons (pe_op op_fdiv (pv 3) (pe_ix (ix_listK K) (pe_lst (pa_cons pe_int (pa_cons pe_int (pa_cons pe_int (pa_cons pe_int (pa_cons pe_int (pa_cons pe_int pa_nil))))))) (pv 4) (fun _ _ => rfl))) pa_nil)) pe_int) pe_int (nomark _)))) (fun _ _ _ _ _ => (pv 4)))))), ?_⟩
    have p6 : (2 : Nat) ^ n ≤ 2 ^ 6 := Nat.pow_le_pow_right (by decide) hn
    have e0 : ((2 ^ n : Nat) : Int) - (least : Int) = ((2 ^ n - least : Nat) : Int) := by omega
    refine sq (s_setB e gb hbox (eb_opN (ev_var rfl) (eb_take (m := 2 ^ n - least) rfl (by rw [← e0]; exact ev_op (EvD.ev (ed_ixL (K := K) (EvN.d (en_lst (ead_cons (Ev.d ev_c) (ead_cons (Ev.d ev_c) (ead_cons (Ev.d ev_c) (ead_cons (Ev.d ev_c) (ead_cons (Ev.d ev_c) (ead_cons (Ev.d ev_c) (ead_cons (Ev.d ev_c) ead_nil))))))) (by show 7 ≤ 100000; decide))) (ev_var rfl) (pow_list hn))) (ev_var rfl) rv_I0) (by omega) (by omega)) (fun d => .int ((least : Int) + (d : Int))) fun d _ H Q q => ⟨_, _, rfl, rfl, q⟩) fun r v G2 H2 hP g hb2 hv => ?_)
    obtain ⟨d, hd, rfl⟩ := hP
    obtain rfl : v = V.int ((least : Int) + (d : Int)) := hv
    have em : (least : Int) + (d : Int) = ((least + d : Nat) : Int) := by omega
    rw [em]
    refine s_retN (rs := (bitsN (least + d)).map nI) g.i (en_is (en_lcR n (fun w => (least + d).testBit w) nI (ea_cons (ev_var rfl) ea_nil) (by omega) (fun _ => rfl) (fun w G1 hw e1 => ?_) (fun w G1 hw _ e1 => Ev.d (ev_var rfl))) ?_) fun p vs G3 H3 g3 hp gp h3 ra => ?_
    · refine et_is (et_eq (ev_op (ev_int (ev_op (ev_var rfl) (EvD.ev (ed_ixL (K := K) (EvN.d (en_lst (ead_cons (Ev.d ev_c) (ead_cons (Ev.d ev_c) (ead_cons (Ev.d ev_c) (ead_cons (Ev.d ev_c) (ead_cons (Ev.d ev_c) (ead_cons (Ev.d ev_c) ead_nil)))))) (by show 6 ≤ 100000; decide))) (ev_var rfl) (pow_list6 (by omega)))) (rv_I ⟨?_, ?_⟩))) ev_c (rv_I (by decide))) ev_c rfl) ?_
      · have := Nat.two_pow_pos w; omega
      · have : (2 : Nat) ^ w ≤ 2 ^ 5 := Nat.pow_le_pow_right (by decide) (by omega)
        omega
      · rw [← test_div]
        simp
    · rw [bits_eq (show least + d < 2 ^ n by omega)]
    · have hpH := (g.fresh hb2.at_ hp).1
      exact k _ p vs G3 H3 ⟨least + d, by omega, by omega, rfl⟩ (g.trans gb hbox.at_ g3.b hb2.at_) (hb2.mono g3.g g3.h) hpH gp h3 ra

theorem c_words (T : Tx P K mg) {M : List Re} {κ : KV} {b : Addr} {n least : Nat} (hk : M[0]? = some (boxR K b)) (h6 : n ≤ 6) (hl : least < 2 ^ n) (k : ∀ mask, least ≤ mask → mask < 2 ^ n → κ (rLn K (bitsN mask)) M) : CM (spBN K R_words) [rV (.ref b), nI n, nI least] M κ := c_BNf K 0 hk (fun ws G ra => by
  obtain ⟨x, y, rfl, hx, hy⟩ := ra2 ra
  obtain rfl : x = V.int (n : Int) := hx
  obtain rfl : y = V.int (least : Int) := hy
  exact ⟨n, least, rfl, h6, hl, rfl⟩) fun ss h => by
  obtain ⟨m, w, hm, rfl⟩ := h
  exact k m w hm
theorem o_words (T : Tx P K mg) {M : List Re} {κ : KV} {b : Addr} {n least : Nat} (hk : M[0]? = some (boxR K b)) (h6 : n ≤ 6) (hl : least < 2 ^ n) (k : ∀ mask, least ≤ mask → mask < 2 ^ n → ∀ p, κ (rV (.ref p)) (M ++ [lstR p ((bitsN mask).map nI)])) : CM (spBN K R_words) [rV (.ref b), nI n, nI least] M κ := c_BN 0 hk (fun ws G ra => by
  obtain ⟨x, y, rfl, hx, hy⟩ := ra2 ra
  obtain rfl : x = V.int (n : Int) := hx
  obtain rfl : y = V.int (least : Int) := hy
  exact ⟨n, least, rfl, h6, hl, rfl⟩) fun ss h p => by
  obtain ⟨m, w, hm, rfl⟩ := h
  exact k m w hm p
local macro_rules | `(tactic| wtm_at "co") => `(tactic| refine o_words (by assumption) rfl (by wtm_at "s") (by wtm_at "s") ?_)
local macro_rules | `(tactic| wtm_at "c") => `(tactic| refine c_words (by assumption) rfl (by wtm_at "s") (by wtm_at "s") ?_)
theorem sc__law_rows : FnScope ["_law_box_here", "_law_n", "_law_least", "_law_rows_here", "_law_k"] ["_law_box_here", "_law_n", "_law_least"] (defScope s__law_rows) := ⟨rfl, rfl, rfl, by decide +kernel, rfl, by decide +kernel, by decide +kernel⟩
theorem b__law_rows (T : Tx P K mg) : Binds K T.fd__law_rows ["_law_box_here", "_law_n", "_law_least"] [] := T.F__law_rows.bindsN fun _ _ _ _ _ _ us hl => match us, hl with | [_, _, _], _ => rfl
def R_lrows (K : PySem.W.Frag) : List V → Hp → (List Rp → Prop) → Prop := fun ws _ PP => ∃ n least : Nat, ws = [.int (n : Int), .int (least : Int)] ∧ 1 ≤ n ∧ n ≤ 6 ∧ least ≤ 1 ∧ PP = fun rs => ∃ m, Wf n m ∧ (∀ x ∈ m, least ≤ x) ∧ rs = (m.map bitsN).map (rLn K)
def lrowsI (K : PySem.W.Frag) (G0 H0 : Hp) (b p : Addr) (n least i : Nat) (σ' : L2.St) (H' : Hp) : Prop := ∃ (G' : Hp) (ws : List V) (m : List Nat) (u : Option V), σ' = [some (V.ref b), some (.int (n : Int)), some (.int (least : Int)), some (.ref p), u] ∧ GrB b G0 H0 G' H' ∧ Box K G' H' b ∧ G' p = none ∧ H' p = some (.lst ws) ∧ RA G' ws ((m.map bitsN).map (rLn K)) ∧ m.length = i ∧ ∀ x ∈ m, least ≤ x ∧ x < 2 ^ n
theorem lrows_app {K : PySem.W.Frag} {G0 H0 G H : Hp} {b p : Addr} {n least i : Nat} {ws : List V} {m : List Nat} {te : TE} {D : Ends} {u : Option V} (hp0 : H0 p = none) (gb0 : G0 b = none) (hb0 : ∃ o, H0 b = some o ∧ Mt o) (pb : p ≠ b) (g : GrB b G0 H0 G H) (hbx : Box K G H b) (gp : G p = none) (hp : H p = some (.lst ws)) (ra : RA G ws ((m.map bitsN).map (rLn K))) (hlen : m.length = i) (hi : i < 100) (hm : ∀ x ∈ m, least ≤ x ∧ x < 2 ^ n)
    (hte : EvB K te [some (V.ref b), some (.int (n : Int)), some (.int (least : Int)), some (.ref p), u] b G (fun r => ∃ x, least ≤ x ∧ x < 2 ^ n ∧ r = rLn K (bitsN x))) (hD : ∀ σ' H', lrowsI K G0 H0 b p n least (i + 1) σ' H' → D.nx σ' H') :
    tDrop (tBM K "list" rAppend (tVar 3) (tCons te tNil)) D [some (V.ref b), some (.int (n : Int)), some (.int (least : Int)), some (.ref p), u] H := by
  refine s_appB g.i (g.out gb0 hb0) hbx hp gp pb ra (ev_var rfl) hte (by rw [List.length_map, List.length_map, hlen]; omega) fun r ws' G3 H3 hP e3 k3 i3 n3 hb3 hp3 ra3 => ?_
  obtain ⟨x, hx1, hx2, rfl⟩ := hP
  refine hD _ _ ⟨G3, ws', m ++ [x], _, rfl, g.app hp0 gb0 hb0 hbx.at_ e3 k3 i3 n3, hb3, n3 p _ hp mt_lst gp, hp3, ?_, by rw [List.length_append, hlen]; rfl, fun y hy => ?_⟩
  · rw [List.map_append, List.map_append]; exact ra3
  · rcases List.mem_append.mp hy with q | q
    · exact hm y q
    · simp at q; subst q; exact ⟨hx1, hx2⟩
theorem ok__law_rows (T : Tx P K mg) : FnOk P w K mg base CX0 3 T.f__law_rows T.fd__law_rows ["_law_box_here", "_law_n", "_law_least"] (spBN K (R_lrows K)) := by
  refine T.F__law_rows.ok sc__law_rows (fun vs H Q E h => ?_) (fun cdv A outer s H vs Q E hr h => ?_)
  · obtain ⟨G, b, ws, PP, rfl, _, _, _, ⟨n, least, rfl, _⟩, _⟩ := h
    rfl
  · obtain ⟨G, b, ws, PP, rfl, e, gb, hbox, ⟨n, least, rfl, h1, hn, hl, rfl⟩, k⟩ := h
    refine ⟨_, PSs.nox (pss_cons (ps_set (i := 3) sc__law_rows.nd rfl (Or.inl rfl) (pe_lst pa_nil))
      (pss_cons (ps_for PassesOwn.never rfl (pi_range1 (by rfl) T.m_range (pa_cons (pv 1) pa_nil)) (pg_name (i := 4) sc__law_rows.nd rfl (Or.inl rfl)) (pss_one (ps_if (pt_cmpR op_eq (pe_call (ok__law_take T) (hr.mono (by decide)) (by rfl) T.g__law_take T.F__law_take.kp (b__law_take T) .nil pass0 (pa_cons (pv 0) (pa_cons pe_int pa_nil))) pe_int (nomark _)) (pss_one (ps_expr (pe_bm PySem.F.plainAttrs_list PySem.F.slot_list_append PySem.F.type_list_append mt_append (pv 3) (pa_cons (pe_lst (pa_cons (pe_call (ok__law_take T) (hr.mono (by decide)) (by rfl) T.g__law_take T.F__law_take.kp (b__law_take T) .nil pass0 (pa_cons (pv 0) (pa_cons (pv 1) pa_nil))) pa_nil)) pa_nil)))) (pss_one (ps_expr (pe_bm PySem.F.plainAttrs_list PySem.F.slot_list_append PySem.F.type_list_append mt_append (pv 3) (pa_cons (pe_call (ok__law_words T) (hr.mono (by decide)) (by rfl) T.g__law_words T.F__law_words.kp (b__law_words T) .nil pass0 (pa_cons (pv 0) (pa_cons (pv 1) (pa_cons (pv 2) pa_nil)))) pa_nil)))))))
      (pss_one (ps_ret (pv 3))))), ?_⟩
    have p1 : 2 ≤ (2 : Nat) ^ n := by
      have : (2 : Nat) ^ 1 ≤ 2 ^ n := Nat.pow_le_pow_right (by decide) h1
      omega
    refine sq (s_setN e (en_lst ead_nil (by decide)) fun p vs G1 H1 g1 hp gp h2 ra => ?_)
    cases ra
    have hpb : p ≠ b := fun z => by
      subst z
      obtain ⟨o, z2, _⟩ := hbox.at_
      rw [z2] at hp; cases hp
    refine sq (Mu.s_forR n g1.i (ea_cons (ev_var rfl) ea_nil) (by omega) (fun i σ' H' => lrowsI K G H b p n least i σ' H') (fun H2 e2 => ⟨G1, [], [], none, rfl, (g1.more e2).b, hbox.mono g1.g (g1.h.trans e2), gp, e2 _ _ h2, .nil, rfl, fun x hx => nomatch hx⟩) ?_ ?_)
    · rintro i σ' H' hi ⟨G', ws, m, u, rfl, g, hbx, gp', hp', ra, hlen, hm⟩
      have gb' : G' b = none := g.out gb hbox.at_
      refine s_ifB g.i gb' hbx (et_bN (f := fun d => decide (V.int (d : Int) = V.int 1)) (eb_opN' (eb_take (m := 3) rfl ev_c (by decide) (by decide)) (fun _ _ => ev_c) (fun d => .bl (decide (V.int (d : Int) = V.int 1))) fun d _ H Q q => ⟨rfl, q⟩)) (fun _ G2 H2 g2 hb2 => ?_) (fun _ G2 H2 g2 hb2 => ?_)
      · refine lrows_app (m := m) hp gb hbox.at_ hpb (g.trans gb hbox.at_ g2 hbx.at_) hb2 (g2.n _ _ hp' mt_lst gp') (g2.h _ _ hp' hpb) (ra.mono g2.g) hlen (by omega) hm (EvB.imp (EvBN.d (ebn_lst1 (eb_take rfl (ev_var rfl) (by omega) (by omega)))) fun r hP => ?_) fun _ _ z => z
        obtain ⟨rs, ⟨d, hd, rfl⟩, rfl⟩ := hP
        refine ⟨2 ^ d, ?_, Nat.pow_lt_pow_right (by decide) hd, by rw [bits_pow]; rfl⟩
        have := Nat.two_pow_pos d
        omega
      · refine lrows_app (m := m) hp gb hbox.at_ hpb (g.trans gb hbox.at_ g2 hbx.at_) hb2 (g2.n _ _ hp' mt_lst gp') (g2.h _ _ hp' hpb) (ra.mono g2.g) hlen (by omega) hm (EvB.imp (EvBN.d (ebn_call (P := fun rs => ∃ mask, least ≤ mask ∧ mask < 2 ^ n ∧ rs = (bitsN mask).map nI) rfl (ead_cons (Ev.d (ev_var rfl)) (ead_cons (Ev.d (ev_var rfl)) ead_nil)) fun ws G3 e3 ra3 => ?_)) fun r hP => ?_) fun _ _ z => z
        · obtain ⟨x, y, rfl, hx, hy⟩ := ra2 ra3
          obtain rfl : x = V.int (n : Int) := hx
          obtain rfl : y = V.int (least : Int) := hy
          exact ⟨n, least, rfl, hn, by omega, rfl⟩
        · obtain ⟨rs, ⟨x, h1, h2, rfl⟩, rfl⟩ := hP
          exact ⟨x, h1, h2, rfl⟩
    · rintro σ' H' ⟨G', ws, m, u, rfl, g, hbx, gp', hp', ra, hlen, hm⟩
      refine s_retE (Ex.refl H') (ev_var rfl) fun H4 e4 => ?_
      exact k _ p ws G' H4 ⟨m, ⟨hlen, fun x hx => (hm x hx).2⟩, fun x hx => (hm x hx).1, rfl⟩ (g.more e4) (hbx.mono (Ex.refl _) e4) hp gp' (e4 _ _ hp') ra

theorem c_lrows (T : Tx P K mg) {M : List Re} {κ : KV} {b : Addr} {n least : Nat} (hk : M[0]? = some (boxR K b)) (h1 : 1 ≤ n) (h6 : n ≤ 6) (hl : least ≤ 1) (k : ∀ m, Wf n m → (∀ x ∈ m, least ≤ x) → κ (rLL K (m.map bitsN)) M) : CM (spBN K (R_lrows K)) [rV (.ref b), nI n, nI least] M κ := c_BNf K 0 hk (fun ws G ra => by
  obtain ⟨x, y, rfl, hx, hy⟩ := ra2 ra
  obtain rfl : x = V.int (n : Int) := hx
  obtain rfl : y = V.int (least : Int) := hy
  exact ⟨n, least, rfl, h1, h6, hl, rfl⟩) fun ss h => by
  obtain ⟨m, w, hm, rfl⟩ := h
  exact k m w hm
theorem o_lrows (T : Tx P K mg) {M : List Re} {κ : KV} {b : Addr} {n least : Nat} (hk : M[0]? = some (boxR K b)) (h1 : 1 ≤ n) (h6 : n ≤ 6) (hl : least ≤ 1) (k : ∀ m, Wf n m → (∀ x ∈ m, least ≤ x) → ∀ p, κ (rV (.ref p)) (M ++ [lstR p ((m.map bitsN).map (rLn K))])) : CM (spBN K (R_lrows K)) [rV (.ref b), nI n, nI least] M κ := c_BN 0 hk (fun ws G ra => by
  obtain ⟨x, y, rfl, hx, hy⟩ := ra2 ra
  obtain rfl : x = V.int (n : Int) := hx
  obtain rfl : y = V.int (least : Int) := hy
  exact ⟨n, least, rfl, h1, h6, hl, rfl⟩) fun ss h p => by
  obtain ⟨m, w, hm, rfl⟩ := h
  exact k m w hm p
local macro_rules | `(tactic| wtm_at "co") => `(tactic| refine o_lrows (by assumption) rfl (by wtm_at "s") (by wtm_at "s") (by wtm_at "s") ?_)
local macro_rules | `(tactic| wtm_at "c") => `(tactic| refine c_lrows (by assumption) rfl (by wtm_at "s") (by wtm_at "s") (by wtm_at "s") ?_)
theorem sc__law_far : FnScope ["_law_box_here", "_law_n"] ["_law_box_here", "_law_n"] (defScope s__law_far) := ⟨rfl, rfl, rfl, by decide +kernel, rfl, by decide +kernel, by decide +kernel⟩
theorem b__law_far (T : Tx P K mg) : Binds K T.fd__law_far ["_law_box_here", "_law_n"] [] := T.F__law_far.bindsN fun _ _ _ _ _ _ us hl => match us, hl with | [_, _], _ => rfl
def R_far : List V → Hp → (Rp → Prop) → Prop := fun ws _ PP => ∃ n : Nat, ws = [.int (n : Int)] ∧ PP = fun r => ∃ a : Int, badW n a = true ∧ r = rI a
theorem ok__law_far (T : Tx P K mg) : FnOk P w K mg base CX0 2 T.f__law_far T.fd__law_far ["_law_box_here", "_law_n"] (spB K R_far) := by
  refine T.F__law_far.ok sc__law_far (fun vs H Q E h => ?_) (fun cdv A outer s H vs Q E hr h => ?_)
  · obtain ⟨G, b, ws, PP, rfl, _, _, _, ⟨n, rfl, _⟩, _⟩ := h
    rfl
  · obtain ⟨G, b, ws, PP, rfl, e, gb, hbox, ⟨n, rfl, rfl⟩, k⟩ := h
    refine ⟨_, PSs.nox (pss_cons (ps_if (pt_cmpR op_eq (pe_call (ok__law_take T) (hr.mono (by decide)) (by rfl) T.g__law_take T.F__law_take.kp (b__law_take T) .nil pass0 (pa_cons (pv 0) (pa_cons pe_int pa_nil))) pe_int (nomark _)) (pss_one (ps_ret (pe_op op_sub (pe_un un_neg pe_int) (pe_call (ok__law_take T) (hr.mono (by decide)) (by rfl) T.g__law_take T.F__law_take.kp (b__law_take T) .nil pass0 (pa_cons (pv 0) (pa_cons (pe_op op_pow pe_int pe_int) pa_nil)))))) pss_nil)
      (pss_one (ps_ret (pe_op op_add (pv 1) (pe_call (ok__law_take T) (hr.mono (by decide)) (by rfl) T.g__law_take T.F__law_take.kp (b__law_take T) .nil pass0 (pa_cons (pv 0) (pa_cons (pe_op op_pow pe_int pe_int) pa_nil))))))), ?_⟩
    refine run_B (W := fun _ _ _ _ => False) (K := K) (b := b) (P := fun r => ∃ a : Int, badW n a = true ∧ r = rI a) (Γ := [some (rV (.ref b)), some (nI n)]) ?_ e gb hbox (En.start (k := 0) _ (rs := [rV (.ref b), nI n]) (.cons rfl (.cons rfl .nil)) rfl) k
    have mil : ∀ Γ, EvX Γ (tOp (L2.rI CPow fun i j => .int (i ^ j.toNat)) (tC (.int 10)) (tC (.int 6))) (nI 1000000) := fun Γ => x_is (x_I x_c x_c ⟨by decide, by decide, by decide⟩) rfl
    refine w_seq (w_ifD (d_T (d_opL (f := fun d : Nat => .bl (decide (V.int (d : Int) = V.int 1))) (d_take (k := 0) rfl rfl (x_cn 2) (by decide) (by decide)) x_c fun d _ H Q q => ⟨rfl, q⟩)) (fun d hd hb => ?_) (fun d hd hb => ?_))
    · refine w_retD (d_opR (f := fun d : Nat => .int (-1 - (d : Int))) (x_neg x_c) (d_take (k := 0) rfl rfl (mil _) (by decide) (by decide)) fun d _ H Q q => ⟨_, _, rfl, rfl, q⟩) fun d hd => ⟨⟨-1 - (d : Int), ?_, rfl⟩, rfl⟩
      unfold badW
      rw [decide_eq_true (by omega)]; rfl
    · refine w_nx ?_
      dsimp only
      refine w_retD (d_opR (f := fun d : Nat => .int ((n : Int) + (d : Int))) (x_v rfl) (d_take (k := 0) rfl rfl (mil _) (by decide) (by decide)) fun d _ H Q q => ⟨_, _, rfl, rfl, q⟩) fun d hd => ⟨⟨(n : Int) + (d : Int), ?_, rfl⟩, rfl⟩
      unfold badW
      rw [Bool.or_eq_true]
      exact .inr (decide_eq_true (by omega))

theorem c_far (T : Tx P K mg) {M : List Re} {κ : KV} {b : Addr} {n : Nat} (hk : M[0]? = some (boxR K b)) (k : ∀ a : Int, badW n a = true → κ (Mu.rI a) M) : CM (spB K R_far) [rV (.ref b), nI n] M κ := c_B 0 hk (fun ws G ra => by
  obtain ⟨x, rfl, hx⟩ := ra1 ra
  obtain rfl : x = V.int (n : Int) := hx
  exact ⟨n, rfl, rfl⟩) fun r h => by
  obtain ⟨a, ha, rfl⟩ := h
  exact k a ha
local macro_rules | `(tactic| wtm_at "c") => `(tactic| refine c_far (by assumption) rfl ?_)
theorem sc__law_is : FnScope ["_law_value", "_law_due"] ["_law_value", "_law_due"] (defScope s__law_is) := ⟨rfl, rfl, rfl, by decide +kernel, rfl, by decide +kernel, by decide +kernel⟩
theorem b__law_is (T : Tx P K mg) : Binds K T.fd__law_is ["_law_value", "_law_due"] [] := T.F__law_is.bindsN fun _ _ _ _ _ _ us hl => match us, hl with | [_, _], _ => rfl
def R_is : List V → Hp → Rp → Prop := fun vs _ r => ∃ a b : Bool, vs = [.bl a, .bl b] ∧ r = rB (decide (a = b))
theorem ok__law_is (T : Tx P K mg) : FnOk P w K mg base CX0 1 T.f__law_is T.fd__law_is ["_law_value", "_law_due"] (spD R_is) := by
  refine T.F__law_is.ok sc__law_is (fun vs H Q E h => ?_) (fun cdv A outer s H vs Q E hr h => ?_)
  · obtain ⟨G, r, _, ⟨a, b, rfl, _⟩, _⟩ := h
    rfl
  · obtain ⟨G, r, e, ⟨a, b, rfl, rfl⟩, k⟩ := h
    refine ⟨_, PSs.nox (pss_cons (ps_if (pt_val (pv 1)) (pss_one (ps_ret (pe_cmpR op_isBl (pv 0) pe_bl (nomark _)))) pss_nil)
      (pss_one (ps_ret (pe_cmpR op_isBl (pv 0) pe_bl (nomark _))))), ?_⟩
    refine sq (s_ifE (b := b) e (et_B (ev_var rfl)) (fun hb H1 e1 => ?_) (fun hb H1 e1 => ?_))
    · subst hb
      exact s_retE (e.trans e1) (ev_isB (ev_var rfl) ev_c) fun H2 e2 => k _ G H2 ((Gr.refl e).more (e1.trans e2)) rfl
    · subst hb
      refine nxt ?_
      dsimp only
      exact s_retE (e.trans e1) (ev_isB (ev_var rfl) ev_c) fun H2 e2 => k _ G H2 ((Gr.refl e).more (e1.trans e2)) rfl

theorem c_is (T : Tx P K mg) {M : List Re} {κ : KV} {a b : Bool} (k : κ (rB (decide (a = b))) M) : CM (spD R_is) [rB a, rB b] M κ := cm (fun vs G ra => by
  obtain ⟨x, y, rfl, hx, hy⟩ := ra2 ra
  obtain rfl : x = V.bl a := hx
  obtain rfl : y = V.bl b := hy
  exact SpD.of ⟨a, b, rfl, rfl⟩) k

local macro_rules | `(tactic| wtm_at "c") => `(tactic| refine c_is (by assumption) ?_)
theorem sc__law_pairs : FnScope ["_law_rows_here", "_law_found", "_law_told", "_law_out"] ["_law_rows_here"] (defScope s__law_pairs) := ⟨rfl, rfl, rfl, by decide +kernel, rfl, by decide +kernel, by decide +kernel⟩
theorem b__law_pairs (T : Tx P K mg) : Binds K T.fd__law_pairs ["_law_rows_here"] [] := T.F__law_pairs.bindsN fun _ _ _ _ _ _ us hl => match us, hl with | [_], _ => rfl
def R_pairs (K : PySem.W.Frag) : List V → Hp → Rp → Prop := fun vs G r => ∃ (x : V) (m : List Nat) (n : Nat), vs = [x] ∧ (rLL K (m.map bitsN)).p x G ∧ Wf n m ∧ n ≤ 6 ∧ r = rL K ((pairsN m).map (rP K))
theorem ok__law_pairs (T : Tx P K mg) : FnOk P w K mg base CX0 1 T.f__law_pairs T.fd__law_pairs ["_law_rows_here"] (spD (R_pairs K)) := by
  refine T.F__law_pairs.ok sc__law_pairs (fun vs H Q E h => ?_) (fun cdv A outer s H vs Q E hr h => ?_)
  · obtain ⟨G, rs, _, ⟨x, m, n, rfl, _⟩, _⟩ := h
    rfl
  · obtain ⟨G, rs, e, ⟨x, m, n, rfl, hx, wm, h6, rfl⟩, k⟩ := h
    refine ⟨_, PSs.nox (pss_cons (ps_set (i := 1) sc__law_pairs.nd rfl (Or.inl rfl) (pe_lst pa_nil))
      (pss_cons (ps_for PassesOwn.never rfl (pi_range1 (by rfl) T.m_range (pa_cons (pe_callB (call_lenK K) (by rfl) T.m_len PySem.boot_len (pa_cons (pv 0) pa_nil)) pa_nil)) (pg_name (i := 2) sc__law_pairs.nd rfl (Or.inr rfl)) (pss_one (ps_set (i := 1) sc__law_pairs.nd rfl (Or.inl rfl) (pe_op op_cat (pv 1) (pe_lc (own := [("_law_out", 3)]) (by rfl) sc__law_pairs.nd (pi_listK K (pe_ix (ix_listK K) (pv 0) (pv 2) (fun _ _ => rfl))) (blkOk_by (N := ["_law_rows_here", "_law_found", "_law_told", "_law_out"]) (sc := defScope s__law_pairs) (by decide +kernel)) (fun _ _ _ _ _ => (pg_name (i := 3) sc__law_pairs.nd rfl (Or.inl rfl))) (fun _ _ _ _ _ => pts_nil) (fun _ _ _ _ _ => (pe_tup (pa_cons (pv 2) (pa_cons (pv 3) pa_nil)))))))))
      (pss_one (ps_ret (pv 1))))), ?_⟩
    have lenM : ((m.map bitsN).map (rLn K)).length = m.length := by rw [List.length_map, List.length_map]
    have getM : ∀ i, i < m.length → ((m.map bitsN).map (rLn K))[i]? = some (rLn K (bitsN (m.getD i 0))) := fun i hi => by
      rw [List.map_map, List.getElem?_map, List.getD_eq_getElem?_getD, List.getElem?_eq_getElem hi]; rfl
    have hl := wm.len
    refine sq (s_setD e (EvN.d (K := K) (rs := ([] : List (Nat × Nat)).map (rP K)) (en_lst ead_nil (by show 0 ≤ 100000; decide))) fun q G1 H1 g1 hq => ?_)
    refine sq (Mu.s_forR m.length g1.i (ea_cons (ev_lenL (ed_var rfl ((rLL K _).mono g1.g hx)) lenM) ea_nil) (by omega) (fun i σ' H' => ∃ G' q u v, σ' = [some x, some q, u, v] ∧ Gr G H G' H' ∧ (rL K ((pairsTo m i).map (rP K))).p q G') (fun H2 e2 => ⟨G1, q, _, _, rfl, g1.more e2, hq⟩) ?_ ?_)
    · rintro i σ' H' hi ⟨G', q, u, v, rfl, g, hq⟩
      have hpl := pairsTo_len wm.get i
      have hin : i * n ≤ 36 := Nat.le_trans (Nat.mul_le_mul (show i ≤ 6 by omega) h6) (by decide)
      have hbl := bits_len (wm.get i)
      refine s_setD g.i (EvN.d (K := K) (en_cat (K := K) (ed_var rfl hq) (EvN.d (K := K) (en_lcL0 (bitsN (m.getD i 0)) nI (fun b => rP K (i, b)) (ed_ixL (ed_var rfl ((rLL K _).mono g.g hx)) (ev_var rfl) (getM i hi)) (by omega) (fun _ => rfl) fun b zz G5 hb e5 hzz => ed_tup (ead_cons (Ev.d (ev_var rfl)) (ead_cons (ed_var rfl hzz) ead_nil)) (by show 2 ≤ 100000; decide))) ?_)) fun q' G3 H3 g3 hq' => ?_
      · rw [List.length_map, List.length_map]
        omega
      · refine ⟨G3, q', _, _, rfl, g.trans g3, ?_⟩
        rw [pairsTo_succ, List.map_append, List.map_map]
        exact hq'
    · rintro σ' H' ⟨G', q, u, v, rfl, g, hq⟩
      dsimp only
      refine s_retD g.i (ed_var rfl hq) fun v G2 H2 g2 hv => k v G2 H2 (g.trans g2) hv

theorem c_lpairs (T : Tx P K mg) {M : List Re} {κ : KV} {m : List Nat} {n : Nat} (wm : Wf n m) (h6 : n ≤ 6) (k : κ (rL K ((pairsN m).map (rP K))) M) : CM (spD (R_pairs K)) [rLL K (m.map bitsN)] M κ := cm (fun vs G ra => by
  obtain ⟨x, rfl, hx⟩ := ra1 ra
  exact SpD.of ⟨x, m, n, rfl, hx, wm, h6, rfl⟩) k
theorem sc__law_entry : FnScope ["_law_word", "_law_outs", "_law_out"] ["_law_word", "_law_outs"] (defScope s__law_entry) := ⟨rfl, rfl, rfl, by decide +kernel, rfl, by decide +kernel, by decide +kernel⟩
theorem b__law_entry (T : Tx P K mg) : Binds K T.fd__law_entry ["_law_word", "_law_outs"] [] := T.F__law_entry.bindsN fun _ _ _ _ _ _ us hl => match us, hl with | [_, _], _ => rfl
theorem str_app (a b c : Str) : a ++ (b ++ c) = a ++ b ++ c := by
  cases a; cases b; cases c
  show (⟨_⟩ : Str) = ⟨_⟩
  congr 1
  exact Array.append_assoc.symm
theorem str_emp {a : Str} : Str.empty ++ a = a := by
  cases a with
  | mk c =>
    show (⟨#[] ++ c⟩ : Str) = ⟨c⟩
    simp
theorem ent_min (w : Nat) : txW w ++ Str.ofString ">-" = [txW w, Str.ofString ">", Str.ofString "-"].foldl (· ++ ·) Str.empty := by
  rw [List.foldl_cons, str_emp, List.foldl_cons, List.foldl_cons, List.foldl_nil, ← str_app]
  congr 1

def R_law_entry (T : Tx P K mg) : List V → Hp → Rp → Prop := fun vs G r => ∃ (w : Nat) (l : List Nat), RA G vs [nI w, rLn K l] ∧ (w < 64) ∧ (∀ n ∈ l, n < 64) ∧ (l.length ≤ 64) ∧ r = rS (entS w l)
theorem ok__law_entry (T : Tx P K mg) : FnOk P w K mg base CX0 1 T.f__law_entry T.fd__law_entry ["_law_word", "_law_outs"] (spD (R_law_entry T)) := by
  refine T.F__law_entry.ok sc__law_entry (fun vs H Q E h => ?_) (fun cdv A outer s H vs Q E hr h => ?_)
  · obtain ⟨G, r, _, ⟨w, l, ra, _⟩, _⟩ := h
    exact ra.len
  · obtain ⟨G, r, e, ⟨w, l, ra, q0, q1, q2, rfl⟩, k⟩ := h
    refine ⟨_, PSs.nox (pss_cons (ps_if (pt_cmpR (op_eqK K hr.units) (pv 1) (pe_lst pa_nil) (nomark _)) (pss_one (ps_ret (pe_op op_addT (pe_callTy call_str_int (by rfl) T.m_str (by decide +kernel) (pa_cons (pv 0) pa_nil)) pe_str))) pss_nil)
      (pss_one (ps_ret (pe_op op_addT (pe_op op_addT (pe_callTy call_str_int (by rfl) T.m_str (by decide +kernel) (pa_cons (pv 0) pa_nil)) pe_str) (pe_m1 PySem.F.slot_str_join PySem.F.type_str_join (mt_joinK K) pe_str (pe_lc (own := [("_law_out", 2)]) (by rfl) sc__law_entry.nd (pi_listK K (pv 1)) (blkOk_by (N := ["_law_word", "_law_outs", "_law_out"]) (sc := defScope s__law_entry) (by decide +kernel)) (fun _ _ _ _ _ => (pg_name (i := 2) sc__law_entry.nd rfl (Or.inl rfl))) (fun _ _ _ _ _ => pts_nil) (fun _ _ _ _ _ => (pe_callTy call_str_int (by rfl) T.m_str (by decide +kernel) (pa_cons (pv 2) pa_nil))))))))), ?_⟩
    refine run_D (W := fun _ _ _ _ => False) (Γ := [some (nI w), some (rLn K l), none]) ?_ e (En.start (k := 1) _ (rs := [nI w, rLn K l]) ra (by rw [ra.len]; rfl)) k
    clear ra e k
    have hw := (txW_len w q0).1
    have hs := txs_sum q1
    have h1 : (Str.ofString ",").length = 1 := by decide
    have hg : (Str.ofString ">").length = 1 := by decide
    have hd : (Str.ofString ">-").length = 2 := by decide
    refine w_seq (ws_if (w_t (e_x (r := rB (decide (l = []))) (x_is (x_eqLn0 (x_v rfl) ?_) rfl) ⟨_, rfl, fun hb => ?_, fun hb => w_nx ?_⟩)))
    · exact x_lst xa_nil (by decide)
    · have hb := of_decide_eq_true hb
      refine ws_ret (e_x (r := rS (entS w l)) (x_is (x_addT (x_strI (txW_lg q0) (x_v rfl)) x_c (by (try simp only [str_len_app]); omega)) (congrArg rS ?_)) rfl)
      unfold entS outsS
      rw [if_pos hb]
      exact ent_min w
    · have hb := of_decide_eq_false hb
      have hol := outs_len q1 q2
      have eo : outsS l = Txt.join (Str.ofString ",") (l.map txW) := by unfold outsS; rw [if_neg hb]
      refine ws_ret (e_x (r := rS (entS w l)) (x_is (x_addT (x_addT (x_strI (txW_lg q0) (x_v rfl)) x_c (by (try simp only [str_len_app]); omega)) (x_join (K := K) x_c (x_is (EvNX.d (K := K) (xn_lcL0 (K := K) l nI (fun n => rS (txW n)) (x_v rfl) (by omega) (fun n hn => x_strI (txW_lg (q1 n hn)) (x_v rfl)) (by simp))) (by rw [List.map_map]; rfl)) (by rw [h1, List.length_map]; omega)) (by rw [← eo]; (try simp only [str_len_app]); omega)) (congrArg rS ?_)) rfl)
      rw [← eo]
      unfold entS
      rw [List.foldl_cons, str_emp]
      rfl
theorem c_law_entry (T : Tx P K mg) {M : List Re} {κ : KV} {w : Nat} {l : List Nat} (q0 : w < 64) (q1 : ∀ n ∈ l, n < 64) (q2 : l.length ≤ 64) (k : κ (rS (entS w l)) M) : CM (spD (R_law_entry T)) [nI w, rLn K l] M κ := cm (fun vs G ra => SpD.of ⟨w, l, ra, q0, q1, q2, rfl⟩) k
local macro_rules | `(tactic| wtm_at "c") => `(tactic| refine c_law_entry _ (by wtm_at "s") (by wtm_at "s") (by wtm_at "s") ?_)
theorem sc__law_members : FnScope ["_law_table", "_law_n", "_law_pairs_here", "_law_told", "_law_out"] ["_law_table", "_law_n", "_law_pairs_here"] (defScope s__law_members) := ⟨rfl, rfl, rfl, by decide +kernel, rfl, by decide +kernel, by decide +kernel⟩
theorem b__law_members (T : Tx P K mg) : Binds K T.fd__law_members ["_law_table", "_law_n", "_law_pairs_here"] [] := T.F__law_members.bindsN fun _ _ _ _ _ _ us hl => match us, hl with | [_, _, _], _ => rfl
def R_law_members (T : Tx P K mg) : List V → Hp → Rp → Prop := fun vs G r => ∃ (m : List Nat) (n : Nat), RA G vs [rTab K T.C_Table m, nI n, rL K ((pairsN m).map (rP K))] ∧ (n ≤ 6) ∧ r = rB true
theorem ok__law_members (T : Tx P K mg) : FnOk P w K mg base CX0 2 T.f__law_members T.fd__law_members ["_law_table", "_law_n", "_law_pairs_here"] (spD (R_law_members T)) := by
  refine T.F__law_members.ok sc__law_members (fun vs H Q E h => ?_) (fun cdv A outer s H vs Q E hr h => ?_)
  · obtain ⟨G, r, _, ⟨m, n, ra, _⟩, _⟩ := h
    exact ra.len
  · obtain ⟨G, r, e, ⟨m, n, ra, q0, rfl⟩, k⟩ := h
    refine ⟨_, PSs.nox (pss_cons (ps_for PassesOwn.never rfl (pi_range2 (by rfl) T.m_range (pa_cons (pe_un un_neg pe_int) (pa_cons (pe_op op_add (pv 1) pe_int) pa_nil))) (pg_name (i := 3) sc__law_members.nd rfl (Or.inl rfl)) (pss_one (ps_for PassesOwn.never rfl (pi_range2 (by rfl) T.m_range (pa_cons (pe_un un_neg pe_int) (pa_cons (pe_op op_add (pv 1) pe_int) pa_nil))) (pg_name (i := 4) sc__law_members.nd rfl (Or.inl rfl)) (pss_one (ps_if (pt_not (pt_val (pe_call (ok__law_is T) (hr.mono (by decide)) (by rfl) T.g__law_is T.F__law_is.kp (b__law_is T) .nil pass0 (pa_cons (pe_cmpR (in_own T.d_Table___contains__ (ok_Table___contains__ T) (hr.mono (by decide)) (b_Table___contains__ T) pass0) (pe_tup (pa_cons (pv 3) (pa_cons (pv 4) pa_nil))) (pv 0) rfl) (pa_cons (pe_cmpR (op_inDK K hr.u65) (pe_tup (pa_cons (pv 3) (pa_cons (pv 4) pa_nil))) (pv 2) rfl) pa_nil))))) (pss_one (ps_ret pe_bl)) pss_nil)))))
      (pss_one (ps_ret pe_bl))), ?_⟩
    refine run_D (W := fun _ _ _ _ => False) (Γ := [some (rTab K T.C_Table m), some (nI n), some (rL K ((pairsN m).map (rP K))), none, none]) ?_ e (En.start (k := 2) _ (rs := [rTab K T.C_Table m, nI n, rL K ((pairsN m).map (rP K))]) ra (by rw [ra.len]; rfl)) k
    clear ra e k
    refine w_seq (w_forI (l := List.range (n + 2)) (ρ := fun k => Mu.rI (-1 + (k : Int))) (fun _ (_ : Unit) => True) (fun _ _ => [some (rTab K T.C_Table m), some (nI n), some (rL K ((pairsN m).map (rP K))), none, none]) (fun _ _ => _) (ix_R2 (i0 := -1) (j0 := -1 + ((n + 2 : Nat) : Int)) (n := n + 2) (x_is (x_neg (x_cn 1)) rfl) (x_is (x_addN (x_v rfl) (x_cn 1)) (by show Mu.rI _ = Mu.rI _; congr 1; omega)) (by decide) rfl (by omega)) () trivial (by wtm_at "sub") rfl (fun i _ a hi _ => ?_) (fun _ _ => ?_))
    · dsimp only [List.set]
      refine w_forI (l := List.range (n + 2)) (ρ := fun k => Mu.rI (-1 + (k : Int))) (fun _ (_ : Unit) => True) (fun _ _ => [some (rTab K T.C_Table m), some (nI n), some (rL K ((pairsN m).map (rP K))), some (Mu.rI (-1 + (a : Int))), none]) (fun _ _ => _) (ix_R2 (i0 := -1) (j0 := -1 + ((n + 2 : Nat) : Int)) (n := n + 2) (x_is (x_neg (x_cn 1)) rfl) (x_is (x_addN (x_v rfl) (x_cn 1)) (by show Mu.rI _ = Mu.rI _; congr 1; omega)) (by decide) rfl (by omega)) () trivial (by wtm_at "sub") rfl (fun j _ c hj _ => ?_) (fun _ _ => ⟨(), trivial, by wtm_at "sub", rfl⟩)
      dsimp only [List.set]
      exact w_no (t_is (t_not (t_B (EvX.by fun W ε => e_call (a_cons (e_x (x_contains T (x_pi (x_v rfl) (x_v rfl)) (x_v rfl)) (a_cons (e_x (x_inLPi (x_pi (x_v rfl) (x_v rfl)) (x_is (x_v rfl) (cells_l K m))) (a_nil (c_is T ⟨rfl, rfl⟩))))))))) (by simp)) (w_nx ⟨(), trivial, by wtm_at "sub", rfl⟩)
    · exact ws_ret (e_c rfl)
theorem c_law_members (T : Tx P K mg) {M : List Re} {κ : KV} {m : List Nat} {n : Nat} (q0 : n ≤ 6) (k : κ (rB true) M) : CM (spD (R_law_members T)) [rTab K T.C_Table m, nI n, rL K ((pairsN m).map (rP K))] M κ := cm (fun vs G ra => SpD.of ⟨m, n, ra, q0, rfl⟩) k
local macro_rules | `(tactic| wtm_at "c") => `(tactic| refine c_law_members _ (by wtm_at "s") ?_)
theorem sc__law_unlike : FnScope ["_law_table", "_law_rows_here", "_law_n", "_law_pairs_here", "_law_others", "_law_row", "_law_other"] ["_law_table", "_law_rows_here", "_law_n"] (defScope s__law_unlike) := ⟨rfl, rfl, rfl, by decide +kernel, rfl, by decide +kernel, by decide +kernel⟩
theorem b__law_unlike (T : Tx P K mg) : Binds K T.fd__law_unlike ["_law_table", "_law_rows_here", "_law_n"] [] := T.F__law_unlike.bindsN fun _ _ _ _ _ _ us hl => match us, hl with | [_, _, _], _ => rfl
def R_law_unlike (T : Tx P K mg) : List V → Hp → Rp → Prop := fun vs G r => ∃ (m : List Nat) (n : Nat), RA G vs [rTab K T.C_Table m, rLL K (m.map bitsN), nI n] ∧ (Wf n m) ∧ (1 ≤ n) ∧ (n ≤ 6) ∧ r = rB true
theorem ok__law_unlike (T : Tx P K mg) : FnOk P w K mg base CX0 5 T.f__law_unlike T.fd__law_unlike ["_law_table", "_law_rows_here", "_law_n"] (spD (R_law_unlike T)) := by
  refine T.F__law_unlike.ok sc__law_unlike (fun vs H Q E h => ?_) (fun cdv A outer s H vs Q E hr h => ?_)
  · obtain ⟨G, r, _, ⟨m, n, ra, _⟩, _⟩ := h
    exact ra.len
  · obtain ⟨G, r, e, ⟨m, n, ra, q0, q1, q2, rfl⟩, k⟩ := h
    refine ⟨_, PSs.nox (pss_cons (ps_set (i := 3) sc__law_unlike.nd rfl (Or.inl rfl) (pe_call (ok__law_pairs T) (hr.mono (by decide)) (by rfl) T.g__law_pairs T.F__law_pairs.kp (b__law_pairs T) .nil pass0 (pa_cons (pv 1) pa_nil)))
      (pss_cons (ps_set (i := 4) sc__law_unlike.nd rfl (Or.inl rfl) (pe_lst (pa_cons (pv 1) (pa_cons (pv 3) (pa_cons (pe_callTy (call_tupK K) (by rfl) T.m_tuple (by decide +kernel) (pa_cons (pv 3) pa_nil)) (pa_cons (pe_callTy (call_tupK K) (by rfl) T.m_tuple (by decide +kernel) (pa_cons (pe_lc (own := [("_law_row", 5)]) (by rfl) sc__law_unlike.nd (pi_listK K (pv 1)) (blkOk_by (N := ["_law_table", "_law_rows_here", "_law_n", "_law_pairs_here", "_law_others", "_law_row", "_law_other"]) (sc := defScope s__law_unlike) (by decide +kernel)) (fun _ _ _ _ _ => (pg_name (i := 5) sc__law_unlike.nd rfl (Or.inl rfl))) (fun _ _ _ _ _ => pts_nil) (fun _ _ _ _ _ => (pe_callTy (call_tupK K) (by rfl) T.m_tuple (by decide +kernel) (pa_cons (pv 5) pa_nil)))) pa_nil)) (pa_cons (pe_callTy (call_strOwn T.d_Table___str__ (ok_Table___str__ T) (hr.mono (by decide)) hr.u2 (b_Table___str__ T) pass0) (by rfl) T.m_str (by decide +kernel) (pa_cons (pv 0) pa_nil)) (pa_cons (pv 2) (pa_cons pe_non pa_nil)))))))))
      (pss_cons (ps_for PassesOwn.never rfl (pi_listK K (pv 4)) (pg_name (i := 6) sc__law_unlike.nd rfl (Or.inl rfl)) (pss_one (ps_if (PW.pt (pw_or (pt_cmpR (cmp_ownX (K := K) (by decide +kernel) (fun _ _ => rfl) T.d_Table___eq__ (ok_Table___eq__x T) (hr.mono (by decide)) (b_Table___eq__ T) pass0) (pv 0) (pv 6) (nomark _)) (pw_or1 (pt_not (pt_cmpR (ne_ownX (K := K) T.ne_Table T.d_Table___eq__ (ok_Table___eq__x T) (hr.mono (by decide)) (b_Table___eq__ T) pass0) (pv 0) (pv 6) (nomark _)))))) (pss_one (ps_ret pe_bl)) pss_nil)))
      (pss_one (ps_ret pe_bl))))), ?_⟩
    refine run_D (W := fun _ _ _ _ => False) (Γ := [some (rTab K T.C_Table m), some (rLL K (m.map bitsN)), some (nI n), none, none, none, none]) ?_ e (En.start (k := 4) _ (rs := [rTab K T.C_Table m, rLL K (m.map bitsN), nI n]) ra (by rw [ra.len]; rfl)) k
    clear ra e k
    have l_m := q0.len
    have l_m := q0.len
    have wm' : Wf m.length m := l_m.symm ▸ q0
    refine w_seq (ws_set (e_call (a_cons (e_v rfl (a_nil (c_lpairs T q0 q2 ?_))))))
    try dsimp only [List.set]
    have hpl : ((pairsN m).map (rP K)).length ≤ 50000 := by
      rw [List.length_map]
      exact Nat.le_trans (pairs_len q0 q2) (by decide)
    refine w_seq (ws_set (e_x (r := rL K [rLL K (m.map bitsN), rL K ((pairsN m).map (rP K)), rT K ((pairsN m).map (rP K)), rT K ((m.map bitsN).map fun r => rT K (r.map nI)), rS (tabS m), nI n, rV .non]) (x_lst (xa_cons (x_v rfl) (xa_cons (x_v rfl) (xa_cons (x_tupL (x_v rfl)) (xa_cons (x_tupL (EvNX.d (K := K) (xn_lcL0 (K := K) (m.map bitsN) (rLn K) (fun r => rT K (r.map nI)) (x_v rfl) (by rw [List.length_map]; omega) (fun r hr => x_tupL (x_v rfl)) (by simp)))) (xa_cons (EvX.by fun W ε => e_cb (a_cons (e_v rfl (a_nil (am_strI insC_tab (c_Table__str T wm' (by omega) ⟨rfl, ⟨rfl, rfl⟩⟩)))))) (xa_cons (x_v rfl) (xa_cons x_c xa_nil))))))) (by show 7 ≤ 100000; decide)) ?_))
    try dsimp only [List.set]
    refine w_seq (w_forL [rLL K (m.map bitsN), rL K ((pairsN m).map (rP K)), rT K ((pairsN m).map (rP K)), rT K ((m.map bitsN).map fun r => rT K (r.map nI)), rS (tabS m), nI n, rV .non] id (fun _ (_ : Unit) => True) (fun _ _ => [some (rTab K T.C_Table m), some (rLL K (m.map bitsN)), some (nI n), none, none, none, none]) (fun _ _ => _) (x_is (x_v rfl) (by rw [List.map_id])) () trivial (by wtm_at "sub") rfl (fun i _ z hz _ => ?_) (fun _ _ => ?_))
    · have hn : NoTab K T.C_Table z := by
        have := List.mem_of_getElem? hz
        simp only [List.mem_cons, List.not_mem_nil, or_false] at this
        rcases this with rfl | rfl | rfl | rfl | rfl | rfl | rfl
        · exact nt_list T
        · exact nt_list T
        · exact nt_tup T
        · exact nt_tup T
        · exact nt_str T
        · exact nt_int T
        · exact nt_non T
      dsimp only [List.set]
      exact w_no (t_is (t_or (t_T (x_eqX T (x_v rfl) (x_v rfl) hn)) fun _ => t_not (t_T (x_neX T (x_v rfl) (x_v rfl) hn))) rfl) (w_nx ⟨(), trivial, by wtm_at "sub", rfl⟩)
    · exact ws_ret (e_c rfl)
theorem c_law_unlike (T : Tx P K mg) {M : List Re} {κ : KV} {m : List Nat} {n : Nat} (q0 : Wf n m) (q1 : 1 ≤ n) (q2 : n ≤ 6) (k : κ (rB true) M) : CM (spD (R_law_unlike T)) [rTab K T.C_Table m, rLL K (m.map bitsN), nI n] M κ := cm (fun vs G ra => SpD.of ⟨m, n, ra, q0, q1, q2, rfl⟩) k
local macro_rules | `(tactic| wtm_at "c") => `(tactic| refine c_law_unlike _ (by wtm_at "s") (by wtm_at "s") (by wtm_at "s") ?_)
theorem sc_law : FnScope ["_law_script", "_law_box_here", "_law_n", "_law_rows_here", "_law_table", "_law_row", "_law_pairs_here", "_law_far_here", "_law_total", "_law_certain", "_law_word", "_law_others", "_law_kind", "_law_at", "_law_out", "_law_other", "_law_wider"] ["_law_script"] (defScope s_law) := ⟨rfl, rfl, rfl, by decide +kernel, rfl, by decide +kernel, by decide +kernel⟩
def sp_law (K : PySem.W.Frag) : Sp := fun vs H Q _ => ∃ (a : Addr) (ns : List Int), vs = [.ref a] ∧ SqL K H a (ns.map V.int) ∧ ns.length ≤ 63 ∧ ∀ H', Q (.bl true) H'
theorem bits_inj {F W : List Nat} : F.map bitsN = W.map bitsN ↔ F = W := by
  constructor
  · intro h
    rw [← masks_bits F, ← masks_bits W, h]
  · intro h; rw [h]
theorem bits_acc (n : Nat) (c : Nat → Bool) : bitsN (accTo c n) = (List.range n).filter c := by
  rw [← bits_eq (accTo_lt c n)]
  refine List.filter_congr fun i hi => ?_
  rw [accTo_bit, decide_eq_true (List.mem_range.mp hi), Bool.true_and]
theorem wf_set {n i x : Nat} {W : List Nat} (w : Wf n W) (h : x < 2 ^ n) : Wf n (W.set i x) := ⟨by rw [List.length_set]; exact w.len, fun y hy => by
  rcases List.mem_or_eq_of_mem_set hy with z | z
  · exact w.lt y z
  · rw [z]; exact h⟩

theorem cI_lt2 {n : Nat} {m : List Nat} (w : Wf n m) {p : Int × Int} (h : p ∈ cI m) : (0 ≤ p.1 ∧ p.1 < (n : Int)) ∧ (0 ≤ p.2 ∧ p.2 < (n : Int)) := by
  obtain ⟨q, h1, rfl⟩ := List.mem_map.mp h
  obtain ⟨h2, h3⟩ := mem_pairs.mp h1
  have h4 := w.bit h3
  dsimp only
  omega
theorem eqv_lp (l m : List (Nat × Nat)) : PyData.eqv (.list (l.map dP)) (.list (m.map dP)) = decide (l = m) := by
  rw [PyData.eqv, eqv_all eqv_p]
theorem x_neLP {Γ : Mu.Ctx} {ta tb : TE} {l m : List (Nat × Nat)} (ha : EvX Γ ta (rL K (l.map (rP K)))) (hb : EvX Γ tb (rL K (m.map (rP K)))) : EvX Γ (tOp (rNeD K) ta tb) (rB (!decide (l = m))) := x_is (x_neD ha hb (asd_list asd_p l) (asd_list asd_p m) ((sh_list sh_p l).ok (by decide)) ((sh_list sh_p m).ok (by decide))) (by rw [eqv_lp])
theorem bits_nil {a : Nat} : bitsN a = [] ↔ a = 0 := by
  constructor
  · intro h
    refine Nat.eq_of_testBit_eq fun i => ?_
    rw [Nat.zero_testBit]
    cases q : a.testBit i with
    | false => rfl
    | true =>
      have := mem_bits.mpr q
      rw [h] at this
      exact nomatch this
  · rintro rfl; decide
theorem tot_law (m : List Nat) : decide (((m.map bitsN).filter fun r => decide (r = [])).length = 0) = !decide (0 ∈ m) := by
  rw [Bool.eq_iff_iff, decide_eq_true_iff, Bool.not_eq_true', decide_eq_false_iff_not, List.length_eq_zero_iff, List.filter_eq_nil_iff]
  constructor
  · intro h z
    exact h _ (List.mem_map.mpr ⟨0, z, rfl⟩) (decide_eq_true (bits_nil.mpr rfl))
  · intro h r hr z
    obtain ⟨a, ha, rfl⟩ := List.mem_map.mp hr
    rw [bits_nil.mp (of_decide_eq_true z)] at ha
    exact h ha
theorem cert_law (m : List Nat) : decide (((m.map bitsN).filter fun r => decide (1 < r.length)).length = 0) = certB m := by
  unfold certB
  rw [Bool.eq_iff_iff, decide_eq_true_iff, List.length_eq_zero_iff, List.filter_eq_nil_iff, List.all_eq_true]
  constructor
  · intro h a ha
    have := h _ (List.mem_map.mpr ⟨a, ha, rfl⟩)
    exact decide_eq_true (by simpa using this)
  · intro h r hr z
    obtain ⟨a, ha, rfl⟩ := List.mem_map.mp hr
    have h1 := of_decide_eq_true (h a ha)
    have h2 := of_decide_eq_true z
    omega

theorem ok_law (T : Tx P K mg) : FnG P w K mg base CX0 6 T.f_law T.fd_law ["_law_script"] (sp_law K) := by
  refine okG T.F_law sc_law (fun vs H Q E h => ?_) (fun cdv A outer s H vs Q E hgd hr h => ?_)
  · obtain ⟨a, ns, rfl, _⟩ := h
    rfl
  · obtain ⟨a, ns, rfl, hS, hl, k⟩ := h
    refine ⟨_, PSs.nox (pss_cons (ps_set (i := 1) sc_law.nd rfl (Or.inl rfl) (pe_call (ok__law_box T) (hr.mono (by decide)) (by rfl) T.g__law_box T.F__law_box.kp (b__law_box T) .nil pass0 (pa_cons (pv 0) pa_nil)))
      (pss_cons (ps_set (i := 2) sc_law.nd rfl (Or.inl rfl) (pe_op op_add pe_int (pe_call (ok__law_take T) (hr.mono (by decide)) (by rfl) T.g__law_take T.F__law_take.kp (b__law_take T) .nil pass0 (pa_cons (pv 1) (pa_cons pe_int pa_nil)))))
      (pss_cons (ps_set (i := 3) sc_law.nd rfl (Or.inr rfl) (pe_call (ok__law_rows T) (hr.mono (by decide)) (by rfl) T.g__law_rows T.F__law_rows.kp (b__law_rows T) .nil pass0 (pa_cons (pv 1) (pa_cons (pv 2) (pa_cons pe_int pa_nil)))))
      (pss_cons (ps_set (i := 4) sc_law.nd rfl (Or.inl rfl) (pe_make T.mk_Table (ok_Table___init__ T) (hr.mono (by decide)) (by rfl) T.g_Table (b_Table___init__ T) .nil pass0 (pa_cons (pe_lc (own := [("_law_row", 5)]) (by rfl) sc_law.nd (pi_listK K (pv 3)) (blkOk_by (N := ["_law_script", "_law_box_here", "_law_n", "_law_rows_here", "_law_table", "_law_row", "_law_pairs_here", "_law_far_here", "_law_total", "_law_certain", "_law_word", "_law_others", "_law_kind", "_law_at", "_law_out", "_law_other", "_law_wider"]) (sc := defScope s_law) (by decide +kernel)) (fun _ _ _ _ _ => (pg_name (i := 5) sc_law.nd rfl (Or.inl rfl))) (fun _ _ _ _ _ => pts_nil) (fun _ _ _ _ _ => (pe_callTy (call_listK K) (by rfl) T.m_list (by decide +kernel) (pa_cons (pv 5) pa_nil)))) pa_nil)))
      (pss_cons (ps_set (i := 6) sc_law.nd rfl (Or.inl rfl) (pe_call (ok__law_pairs T) (hr.mono (by decide)) (by rfl) T.g__law_pairs T.F__law_pairs.kp (b__law_pairs T) .nil pass0 (pa_cons (pv 3) pa_nil)))
      (pss_cons (ps_if (PW.pt (pw_or (pt_cmpR op_ne (pe_callB (call_lenOwn T.d_Table___len__ (ok_Table___len__ T) (hr.mono (by decide)) (b_Table___len__ T) pass0) (by rfl) T.m_len (by decide +kernel) (pa_cons (pv 4) pa_nil)) (pe_callB (call_lenK K) (by rfl) T.m_len PySem.boot_len (pa_cons (pv 6) pa_nil)) (nomark _)) (pw_or1 (pt_cmpR op_ne (pe_callTy (call_boolOwn T.d_Table___bool__ (ok_Table___bool__ T) (hr.mono (by decide)) (b_Table___bool__ T) pass0) (by rfl) T.m_bool (by decide +kernel) (pa_cons (pv 4) pa_nil)) (pe_cmpR (op_neK K hr.units) (pv 6) (pe_lst pa_nil) (nomark _)) (nomark _))))) (pss_one (ps_ret pe_bl)) pss_nil)
      (pss_cons (ps_set (i := 7) sc_law.nd rfl (Or.inl rfl) (pe_call (ok__law_far T) (hr.mono (by decide)) (by rfl) T.g__law_far T.F__law_far.kp (b__law_far T) .nil pass0 (pa_cons (pv 1) (pa_cons (pv 2) pa_nil))))
      (pss_cons (ps_if (PW.pt (pw_or (pt_cmpR (in_own T.d_Table___contains__ (ok_Table___contains__ T) (hr.mono (by decide)) (b_Table___contains__ T) pass0) (pe_tup (pa_cons (pv 7) (pa_cons pe_int pa_nil))) (pv 4) rfl) (pw_or (pt_cmpR (in_own T.d_Table___contains__ (ok_Table___contains__ T) (hr.mono (by decide)) (b_Table___contains__ T) pass0) (pe_tup (pa_cons pe_int (pa_cons (pv 7) pa_nil))) (pv 4) rfl) (pw_or1 (pt_not (pt_val (pe_call (ok__law_members T) (hr.mono (by decide)) (by rfl) T.g__law_members T.F__law_members.kp (b__law_members T) .nil pass0 (pa_cons (pv 4) (pa_cons (pv 2) (pa_cons (pv 6) pa_nil)))))))))) (pss_one (ps_ret pe_bl)) pss_nil)
      (pss_cons (ps_set (i := 8) sc_law.nd rfl (Or.inl rfl) (pe_cmpR op_eq (pe_callB (call_lenK K) (by rfl) T.m_len PySem.boot_len (pa_cons (pe_lc (own := [("_law_row", 5)]) (by rfl) sc_law.nd (pi_listK K (pv 3)) (blkOk_by (N := ["_law_script", "_law_box_here", "_law_n", "_law_rows_here", "_law_table", "_law_row", "_law_pairs_here", "_law_far_here", "_law_total", "_law_certain", "_law_word", "_law_others", "_law_kind", "_law_at", "_law_out", "_law_other", "_law_wider"]) (sc := defScope s_law) (by decide +kernel)) (fun _ _ _ _ _ => (pg_name (i := 5) sc_law.nd rfl (Or.inl rfl))) (fun _ _ _ _ _ => (pts_one (pt_cmpR (op_eqK K hr.units) (pv 5) (pe_lst pa_nil) (nomark _)))) (fun _ _ _ _ _ => pe_int)) pa_nil)) pe_int (nomark _)))
      (pss_cons (ps_set (i := 9) sc_law.nd rfl (Or.inl rfl) (pe_cmpR op_eq (pe_callB (call_lenK K) (by rfl) T.m_len PySem.boot_len (pa_cons (pe_lc (own := [("_law_row", 5)]) (by rfl) sc_law.nd (pi_listK K (pv 3)) (blkOk_by (N := ["_law_script", "_law_box_here", "_law_n", "_law_rows_here", "_law_table", "_law_row", "_law_pairs_here", "_law_far_here", "_law_total", "_law_certain", "_law_word", "_law_others", "_law_kind", "_law_at", "_law_out", "_law_other", "_law_wider"]) (sc := defScope s_law) (by decide +kernel)) (fun _ _ _ _ _ => (pg_name (i := 5) sc_law.nd rfl (Or.inl rfl))) (fun _ _ _ _ _ => (pts_one (pt_cmpR op_gt (pe_callB (call_lenK K) (by rfl) T.m_len PySem.boot_len (pa_cons (pv 5) pa_nil)) pe_int (nomark _)))) (fun _ _ _ _ _ => pe_int)) pa_nil)) pe_int (nomark _)))
      (pss_cons (ps_if (PW.pt (pw_or (pt_not (pt_val (pe_call (ok__law_is T) (hr.mono (by decide)) (by rfl) T.g__law_is T.F__law_is.kp (b__law_is T) .nil pass0 (pa_cons (pe_propG (pv 4) T.c_Table T.pr_Table_total (ok_Table_total T) (hr.mono (by decide)) (b_Table_total T) pass0) (pa_cons (pv 8) pa_nil))))) (pw_or1 (pt_not (pt_val (pe_call (ok__law_is T) (hr.mono (by decide)) (by rfl) T.g__law_is T.F__law_is.kp (b__law_is T) .nil pass0 (pa_cons (pe_propG (pv 4) T.c_Table T.pr_Table_certain (ok_Table_certain T) (hr.mono (by decide)) (b_Table_certain T) pass0) (pa_cons (pv 9) pa_nil)))))))) (pss_one (ps_ret pe_bl)) pss_nil)
      (pss_cons (ps_if (pt_cmpR op_ne (pe_callTy (call_strOwn T.d_Table___str__ (ok_Table___str__ T) (hr.mono (by decide)) hr.u2 (b_Table___str__ T) pass0) (by rfl) T.m_str (by decide +kernel) (pa_cons (pv 4) pa_nil)) (pe_m1 PySem.F.slot_str_join PySem.F.type_str_join (mt_joinK K) pe_str (pe_lc (own := [("_law_word", 10)]) (by rfl) sc_law.nd (pi_range1 (by rfl) T.m_range (pa_cons (pv 2) pa_nil)) (blkOk_by (N := ["_law_script", "_law_box_here", "_law_n", "_law_rows_here", "_law_table", "_law_row", "_law_pairs_here", "_law_far_here", "_law_total", "_law_certain", "_law_word", "_law_others", "_law_kind", "_law_at", "_law_out", "_law_other", "_law_wider"]) (sc := defScope s_law) (by decide +kernel)) (fun _ _ _ _ _ => (pg_name (i := 10) sc_law.nd rfl (Or.inl rfl))) (fun _ _ _ _ _ => pts_nil) (fun _ _ _ _ _ => (pe_call (ok__law_entry T) (hr.mono (by decide)) (by rfl) T.g__law_entry T.F__law_entry.kp (b__law_entry T) .nil pass0 (pa_cons (pv 10) (pa_cons (pe_ix (ix_listK K) (pv 3) (pv 10) (fun _ _ => rfl)) pa_nil)))))) (nomark _)) (pss_one (ps_ret pe_bl)) pss_nil)
      (pss_cons (ps_if (pt_cmpR op_ne (pe_callB (call_reprOwnG hgd T.d_Table___repr__ (ok_Table___repr__ T) (hr.mono (by decide)) hr.u2 (b_Table___repr__ T) pass0) (by rfl) T.m_repr (by decide +kernel) (pa_cons (pv 4) pa_nil)) (pe_op op_addT (pe_op op_addT pe_str (pe_callTy (call_strD (K := K) hgd hr.units) (by rfl) T.m_str (by decide +kernel) (pa_cons (pv 3) pa_nil))) pe_str) (nomark _)) (pss_one (ps_ret pe_bl)) pss_nil)
      (pss_cons (ps_setLc (i := 11) (own := [("_law_row", 5)]) (by rfl) sc_law.nd rfl rfl (sw_true rfl rfl rfl (by decide +kernel)) (pi_listK K (pv 3)) (blkOk_by (N := ["_law_script", "_law_box_here", "_law_n", "_law_rows_here", "_law_table", "_law_row", "_law_pairs_here", "_law_far_here", "_law_total", "_law_certain", "_law_word", "_law_others", "_law_kind", "_law_at", "_law_out", "_law_other", "_law_wider"]) (sc := defScope s_law) (by decide +kernel)) (fun _ _ _ _ _ => (pg_name (i := 5) sc_law.nd rfl (Or.inl rfl))) (fun _ _ _ _ _ => pts_nil) (fun _ _ _ _ _ => (pe_callTy (call_listK K) (by rfl) T.m_list (by decide +kernel) (pa_cons (pv 5) pa_nil))))
      (pss_cons (ps_set (i := 12) sc_law.nd rfl (Or.inl rfl) (pe_call (ok__law_take T) (hr.mono (by decide)) (by rfl) T.g__law_take T.F__law_take.kp (b__law_take T) .nil pass0 (pa_cons (pv 1) (pa_cons pe_int pa_nil))))
      (pss_cons (ps_if (pt_cmpR op_eq (pv 12) pe_int (nomark _)) (pss_cons (ps_set (i := 13) sc_law.nd rfl (Or.inr rfl) (pe_call (ok__law_take T) (hr.mono (by decide)) (by rfl) T.g__law_take T.F__law_take.kp (b__law_take T) .nil pass0 (pa_cons (pv 1) (pa_cons (pv 2) pa_nil))))
      (pss_cons (ps_set (i := 10) sc_law.nd rfl (Or.inr rfl) (pe_call (ok__law_take T) (hr.mono (by decide)) (by rfl) T.g__law_take T.F__law_take.kp (b__law_take T) .nil pass0 (pa_cons (pv 1) (pa_cons (pv 2) pa_nil))))
      (pss_one (ps_asg (pe_lc (own := [("_law_out", 14)]) (by rfl) sc_law.nd (pi_range1 (by rfl) T.m_range (pa_cons (pv 2) pa_nil)) (blkOk_by (N := ["_law_script", "_law_box_here", "_law_n", "_law_rows_here", "_law_table", "_law_row", "_law_pairs_here", "_law_far_here", "_law_total", "_law_certain", "_law_word", "_law_others", "_law_kind", "_law_at", "_law_out", "_law_other", "_law_wider"]) (sc := defScope s_law) (by decide +kernel)) (fun _ _ _ _ _ => (pg_name (i := 14) sc_law.nd rfl (Or.inl rfl))) (fun _ _ _ _ _ => (pts_one (pt_cmpR op_ne (pe_cmpR (op_inK K) (pv 14) (pe_ix (ix_listK K) (pv 3) (pv 13) (fun _ _ => rfl)) rfl) (pe_cmpR op_eq (pv 14) (pv 10) (nomark _)) (nomark _)))) (fun _ _ _ _ _ => (pv 14))) (pg_sub (pv 11) (pv 13) set_list))))) pss_nil)
      (pss_cons (ps_if (pt_cmpR op_eq (pv 12) pe_int (nomark _)) (pss_one (ps_set (i := 11) sc_law.nd rfl (Or.inl rfl) (pe_call (ok__law_rows T) (hr.mono (by decide)) (by rfl) T.g__law_rows T.F__law_rows.kp (b__law_rows T) .nil pass0 (pa_cons (pv 1) (pa_cons (pv 2) (pa_cons pe_int pa_nil)))))) pss_nil)
      (pss_cons (ps_set (i := 15) sc_law.nd rfl (Or.inl rfl) (pe_make T.mk_Table (ok_Table___init__ T) (hr.mono (by decide)) (by rfl) T.g_Table (b_Table___init__ T) .nil pass0 (pa_cons (pe_lc (own := [("_law_row", 5)]) (by rfl) sc_law.nd (pi_listK K (pv 11)) (blkOk_by (N := ["_law_script", "_law_box_here", "_law_n", "_law_rows_here", "_law_table", "_law_row", "_law_pairs_here", "_law_far_here", "_law_total", "_law_certain", "_law_word", "_law_others", "_law_kind", "_law_at", "_law_out", "_law_other", "_law_wider"]) (sc := defScope s_law) (by decide +kernel)) (fun _ _ _ _ _ => (pg_name (i := 5) sc_law.nd rfl (Or.inl rfl))) (fun _ _ _ _ _ => pts_nil) (fun _ _ _ _ _ => (pe_callTy (call_listK K) (by rfl) T.m_list (by decide +kernel) (pa_cons (pv 5) pa_nil)))) pa_nil)))
      (pss_cons (ps_if (PW.pt (pw_or (pt_not (pt_val (pe_call (ok__law_is T) (hr.mono (by decide)) (by rfl) T.g__law_is T.F__law_is.kp (b__law_is T) .nil pass0 (pa_cons (pe_cmpR (cmp_own (by decide +kernel) (fun _ _ => rfl) T.d_Table___eq__ (ok_Table___eq__ T) (hr.mono (by decide)) (b_Table___eq__ T) pass0) (pv 4) (pv 15) (nomark _)) (pa_cons (pe_cmpR (op_eqK K hr.units) (pv 3) (pv 11) (nomark _)) pa_nil))))) (pw_or1 (pt_not (pt_val (pe_call (ok__law_is T) (hr.mono (by decide)) (by rfl) T.g__law_is T.F__law_is.kp (b__law_is T) .nil pass0 (pa_cons (pe_cmpR (ne_own T.ne_Table T.d_Table___eq__ (ok_Table___eq__ T) (hr.mono (by decide)) (b_Table___eq__ T) pass0) (pv 4) (pv 15) (nomark _)) (pa_cons (pe_cmpR (op_neK K hr.units) (pv 3) (pv 11) (nomark _)) pa_nil)))))))) (pss_one (ps_ret pe_bl)) pss_nil)
      (pss_cons (ps_if (pt_cmpR op_lt (pv 2) pe_int (nomark _)) (pss_cons (ps_set (i := 16) sc_law.nd rfl (Or.inl rfl) (pe_make T.mk_Table (ok_Table___init__ T) (hr.mono (by decide)) (by rfl) T.g_Table (b_Table___init__ T) .nil pass0 (pa_cons (pe_op op_cat (pe_lc (own := [("_law_row", 5)]) (by rfl) sc_law.nd (pi_listK K (pv 3)) (blkOk_by (N := ["_law_script", "_law_box_here", "_law_n", "_law_rows_here", "_law_table", "_law_row", "_law_pairs_here", "_law_far_here", "_law_total", "_law_certain", "_law_word", "_law_others", "_law_kind", "_law_at", "_law_out", "_law_other", "_law_wider"]) (sc := defScope s_law) (by decide +kernel)) (fun _ _ _ _ _ => (pg_name (i := 5) sc_law.nd rfl (Or.inl rfl))) (fun _ _ _ _ _ => pts_nil) (fun _ _ _ _ _ => (pe_callTy (call_listK K) (by rfl) T.m_list (by decide +kernel) (pa_cons (pv 5) pa_nil)))) (pe_lst (pa_cons (pe_lst pa_nil) pa_nil))) pa_nil)))
      (pss_one (ps_if (PW.pt (pw_or (pt_cmpR (cmp_own (by decide +kernel) (fun _ _ => rfl) T.d_Table___eq__ (ok_Table___eq__ T) (hr.mono (by decide)) (b_Table___eq__ T) pass0) (pv 4) (pv 16) (nomark _)) (pw_or1 (pt_cmpR (cmp_own (by decide +kernel) (fun _ _ => rfl) T.d_Table___eq__ (ok_Table___eq__ T) (hr.mono (by decide)) (b_Table___eq__ T) pass0) (pv 16) (pv 4) (nomark _))))) (pss_one (ps_ret pe_bl)) pss_nil))) pss_nil)
      (pss_one (ps_ret (pe_call (ok__law_unlike T) (hr.mono (by decide)) (by rfl) T.g__law_unlike T.F__law_unlike.kp (b__law_unlike T) .nil pass0 (pa_cons (pv 4) (pa_cons (pv 3) (pa_cons (pv 2) pa_nil)))))))))))))))))))))))))), ?_⟩
    refine run_law (W := fun _ _ _ _ => False) (n := 16) (i := 1) hS hl rfl rfl (by decide) k fun b => ?_
    change WP _ [none, some (rV (.ref b)), none, none, none, none, none, none, none, none, none, none, none, none, none, none, none] [boxR K b] _ _
    clear k hS hl
    refine w_seq (ws_set ?_)
    wtm_at "e"
    intro d hd
    wtm_at "e"
    obtain ⟨n, hn⟩ : ∃ n, n = 1 + d := ⟨_, rfl⟩
    rw [← hn]
    have h1 : 1 ≤ n := by omega
    have h6 : n ≤ 6 := by omega
    clear hn hd d
    try dsimp only [List.set]

    wtm_at "w"
    intro m wm hm0
    clear hm0
    try dsimp only [List.set]
    have l_m := wm.len
    have wm' : Wf m.length m := l_m.symm ▸ wm
    have h6' : m.length ≤ 6 := by omega
    have hplen := pairs_len wm h6
    have hb : ∀ w, m.getD w 0 < 2 ^ n := fun w => wm.get w
    have hm : ∀ w, ∀ z ∈ bitsN (m.getD w 0), z < 64 := fun w z hz => by
      have h1 := mem_bits.mp hz
      have := bit_lt (hb w) h1
      omega
    have hl : ∀ w, (bitsN (m.getD w 0)).length ≤ 64 := fun w => Nat.le_trans (bits_len (hb w)) (by omega)
    have hjn : (((List.range n).map fun w => entS w (bitsN (m.getD w 0))).map (·.length)).sum + ((List.range n).map fun w => entS w (bitsN (m.getD w 0))).length * (Str.ofString " ").length ≤ 16777216 := by
      have h1 : (Str.ofString " ").length = 1 := by decide
      rw [h1, List.length_map, List.length_range]
      have h2 : ∀ x ∈ ((List.range n).map fun w => entS w (bitsN (m.getD w 0))).map (·.length), x ≤ 300 := fun x hx => by
        obtain ⟨y, hy, rfl⟩ := List.mem_map.mp hx
        obtain ⟨w, hw, rfl⟩ := List.mem_map.mp hy
        exact entS_len (by have := List.mem_range.mp hw; omega) (hm w) (hl w)
      have h3 := sum_le h2
      rw [List.length_map, List.length_map, List.length_range] at h3
      omega
    clear hb
    refine w_seq (ws_set (e_x (r := rTab K T.C_Table m) (x_tabRows (EvNX.d (K := K) (xn_lcL0 (m.map bitsN) (rLn K) (rLn K) (x_v rfl) (by rw [List.length_map]; omega) (fun a _ => EvNX.d (K := K) (xn_list (K := K) (x_v rfl))) (by simp))) wm h1 h6) ?_))
    try dsimp only [List.set]
    refine w_seq (ws_set (e_call (a_cons (e_v rfl (a_nil (c_lpairs T wm h6 ?_))))))
    try dsimp only [List.set]
    have hemp : (!((pairsN m).map (rP K)).isEmpty) = !decide (pairsN m = []) := by cases pairsN m <;> simp
    refine w_seq (w_no (t_is (t_or (t_T (x_neI (a := ((pairsN m).length : Int)) (b := ((pairsN m).length : Int)) (EvX.by fun W ε => e_cb (a_cons (e_v rfl (a_nil (am_lenI insC_tab (by omega) (c_Table__len T (by omega) ⟨rfl, ⟨rfl, rfl⟩⟩)))))) (x_lenLm (l := pairsN m) (ρ := rP K) (x_v rfl)))) fun _ => t_T (x_neV (x := .bl (!((pairsN m).map (rP K)).isEmpty)) (y := .bl (!decide (pairsN m = []))) (EvX.by fun W ε => e_cb (a_cons (e_v rfl (a_nil (am_boolI insC_tab (c_Table__bool T ⟨rfl, ⟨rfl, rfl⟩⟩)))))) (x_neLP (l := pairsN m) (m := []) (x_v rfl) (x_lst xa_nil (by show 0 ≤ 100000; decide))))) (by rw [hemp]; simp)) (w_nx ?_))
    try dsimp only
    refine w_seq (ws_set (e_call (a_cons (e_v rfl (a_cons (e_v rfl (a_nil (c_far T rfl fun a ha => ?_))))))))
    try dsimp only [List.set]
    have ha0 : ¬ (0 ≤ a ∧ a < (n : Int)) := by
      unfold badW at ha
      simp at ha
      omega
    have hi1 : decide ((a, (0 : Int)) ∈ cI m) = false := decide_eq_false fun z => ha0 (by have := cI_lt2 wm z; exact this.1)
    have hi2 : decide (((0 : Int), a) ∈ cI m) = false := decide_eq_false fun z => ha0 (by have := cI_lt2 wm z; exact this.2)
    refine w_seq (w_no (t_is (t_or (t_T (x_contains T (x_pi (x_v rfl) (x_cn 0)) (x_v rfl))) fun _ => t_or (t_T (x_contains T (x_pi (x_cn 0) (x_v rfl)) (x_v rfl))) fun _ => t_not (t_B (c := true) (EvX.by fun W ε => e_call (a_cons (e_v rfl (a_cons (e_v rfl (a_cons (e_v rfl (a_nil (c_law_members T h6 ⟨rfl, rfl⟩))))))))))) (by rw [show decide ((a, ((0 : Nat) : Int)) ∈ cI m) = false from hi1, show decide ((((0 : Nat) : Int), a) ∈ cI m) = false from hi2]; rfl)) (w_nx ?_))
    try dsimp only
    refine w_seq (ws_set (e_x (r := rB (!decide (0 ∈ m))) (x_is (x_eqN (x_lenLm (l := (m.map bitsN).filter fun r => decide (r = [])) (ρ := fun _ => nI 1) (EvNX.d (K := K) (xn_lcL (m.map bitsN) (rLn K) (fun r => decide (r = [])) (fun _ => nI 1) (x_v rfl) (by rw [List.length_map]; omega) (fun r _ => t_T (x_eqLn0 (x_v rfl) (x_lst xa_nil (by decide)))) (fun r _ _ => x_cn 1) (by simp)))) (x_cn 0)) (by rw [tot_law])) ?_))
    try dsimp only [List.set]
    refine w_seq (ws_set (e_x (r := rB (certB m)) (x_is (x_eqN (x_lenLm (l := (m.map bitsN).filter fun r => decide (1 < r.length)) (ρ := fun _ => nI 1) (EvNX.d (K := K) (xn_lcL (m.map bitsN) (rLn K) (fun r => decide (1 < r.length)) (fun _ => nI 1) (x_v rfl) (by rw [List.length_map]; omega) (fun r _ => t_T (x_gtN (x_lenLn (x_v rfl)) (x_cn 1))) (fun r _ _ => x_cn 1) (by simp)))) (x_cn 0)) (by rw [cert_law])) ?_))
    try dsimp only [List.set]
    refine w_seq (w_no (t_is (t_or (t_not (t_B (EvX.by fun W ε => e_call (a_cons (e_prop (e_v rfl ⟨insC_tab, c_Table_total T (a_cons (e_v rfl (a_nil (c_is T ⟨rfl, rfl⟩))))⟩)))))) fun _ => t_not (t_B (EvX.by fun W ε => e_call (a_cons (e_prop (e_v rfl ⟨insC_tab, c_Table_certain T wm' h6' (a_cons (e_v rfl (a_nil (c_is T ⟨rfl, rfl⟩))))⟩))))) ) (by simp)) (w_nx ?_))
    try dsimp only
    refine w_seq (w_no (t_is (t_T (x_neV (x := .str (tabS m)) (y := .str (tabS m)) (EvX.by fun W ε => e_cb (a_cons (e_v rfl (a_nil (am_strI insC_tab (c_Table__str T wm' h6' ⟨rfl, ⟨rfl, rfl⟩⟩)))))) (x_is (r := rS (Txt.join (Str.ofString " ") ((List.range n).map fun w => entS w (bitsN (m.getD w 0))))) (x_join (K := K) x_c (x_is (EvNX.d (xn_lcR0 n (fun w => rS (entS w (bitsN (m.getD w 0)))) (x_v rfl) (by omega) (fun w hw => EvX.by fun W ε => e_call (a_cons (e_v rfl (a_cons (e_x (x_ixB (x_v rfl) (x_v rfl) (by omega)) (a_nil (c_law_entry T (by omega) (hm w) (hl w) ⟨rfl, rfl⟩))))))) (by simp))) (by rw [List.map_map]; rfl)) hjn) (by unfold tabS; rw [l_m])))) (by simp)) (w_nx ?_))
    try dsimp only
    refine w_seq (w_no (t_is (t_T (x_neV (x := .str (repS m)) (y := .str (repS m)) (EvX.by fun W ε => e_cb (a_cons (e_v rfl (a_nil (am_strI insC_tab (c_Table__repr T wm' h6' ⟨rfl, ⟨rfl, rfl⟩⟩)))))) (x_is (x_addT (x_addT x_c (EvX.by fun W ε => e_cb (a_cons (e_v rfl (a_nil (am_strLL (smL wm' h6') (by rw [List.length_map]; exact h6') (rows6 wm' h6') ⟨rfl, rfl⟩))))) ?_) x_c ?_) ?_))) (by simp)) (w_nx ?_))
    · have := txS_len2 (smL wm' h6') (by rw [List.length_map]; exact h6') (rows6 wm' h6')
      have h4 : (Str.ofString "Table(").length = 6 := by decide
      omega
    · try simp only [str_len_app]
      have := txS_len2 (smL wm' h6') (by rw [List.length_map]; exact h6') (rows6 wm' h6')
      have h4 : (Str.ofString "Table(").length = 6 := by decide
      have h3 : (Str.ofString ")").length = 1 := by decide
      omega
    · unfold repS
      rw [List.foldl_cons, str_emp]
      rfl
    try dsimp only
    refine w_seq (ws_set ?_)
    refine e_n (xn_lcL0 (m.map bitsN) (rLn K) (rLn K) (x_v rfl) (by rw [List.length_map]; omega) (fun a _ => EvNX.d (K := K) (xn_list (K := K) (x_v rfl))) (by simp)) fun p => ?_
    try dsimp only [List.set, List.cons_append, List.nil_append]
    refine w_seq (ws_set ?_)
    wtm_at "e"
    intro kd hkd
    try dsimp only [List.set]
    refine w_cutM (fun W => Wf n W) (fun _ => [none, some (rV (.ref b)), some (nI n), some (rLL K (m.map bitsN)), some (rTab K T.C_Table m), none, none, none, none, none, none, some (rV (.ref p)), some (nI kd), none, none, none, none]) (fun W => [boxR K b, lstR p ((W.map bitsN).map (rLn K))]) ?_ fun W1 ww1 => ?_
    · wtm_at "if"
      all_goals intro hb
      · wtm_at "w"
        intro at_ hat
        wtm_at "w"
        intro wo hwo
        try dsimp only [List.set]
        refine w_setNI (K := K) (l := (List.range n).filter fun o => !decide (V.bl (decide (o ∈ bitsN (m.getD at_ 0))) = V.bl (decide (o = wo)))) 1 rfl rfl (xn_lcR n (fun o => !decide (V.bl (decide (o ∈ bitsN (m.getD at_ 0))) = V.bl (decide (o = wo)))) nI (x_v rfl) (by omega) (fun a _ => t_ne (x_inLn (x_v rfl) (x_ixB (x_v rfl) (x_v rfl) (by omega))) (x_eqN (x_v rfl) (x_v rfl))) (fun a _ _ => x_v rfl)) (x_v rfl) (by rw [List.length_map, List.length_map]; omega) ⟨m.set at_ (accTo (fun o => !decide (V.bl (decide (o ∈ bitsN (m.getD at_ 0))) = V.bl (decide (o = wo)))) n), wf_set wm (accTo_lt _ n), by wtm_at "sub", ?_⟩
        try dsimp only [List.set]
        rw [List.map_set, List.map_set, bits_acc]
      · exact w_nx ⟨m, wm, by wtm_at "sub", rfl⟩
    have l_W1 := ww1.len
    try dsimp only
    refine w_cutM (fun W => Wf n W) (fun W => [none, some (rV (.ref b)), some (nI n), some (rLL K (m.map bitsN)), some (rTab K T.C_Table m), none, none, none, none, none, none, some (rLL K (W.map bitsN)), none, none, none, none, none]) (fun W => [boxR K b]) ?_ fun W ww => ?_
    · wtm_at "if"
      all_goals intro hb
      · refine w_few [boxR K b] _ ?_
        refine ws_set ?_
        wtm_at "e"
        intro W2 ww2 _
        exact ⟨W2, ww2, by wtm_at "sub", rfl⟩
      · refine w_frz K 1 11 rfl rfl ?_
        try dsimp only [List.set, List.eraseIdx]
        rw [show rL K ((W1.map bitsN).map (rLn K)) = rLL K (W1.map bitsN) from rfl]
        exact w_nx ⟨W1, ww1, by wtm_at "sub", rfl⟩
    have l_W := ww.len
    refine w_seq (ws_set (e_x (r := rTab K T.C_Table W) (x_tabRows (EvNX.d (K := K) (xn_lcL0 (W.map bitsN) (rLn K) (rLn K) (x_v rfl) (by rw [List.length_map]; omega) (fun a _ => EvNX.d (K := K) (xn_list (K := K) (x_v rfl))) (by simp))) ww h1 h6) ?_))
    try dsimp only [List.set]
    have hbi : decide (m.map bitsN = W.map bitsN) = decide (m = W) := decide_eq_decide.mpr bits_inj
    refine w_seq (w_no (t_is (t_or (t_not (t_B (EvX.by fun W' ε => e_call (a_cons (e_x (x_teq T (x_v rfl) (x_v rfl)) (a_cons (e_x (x_is (x_eqLL (x_v rfl) (x_v rfl)) (congrArg rB hbi)) (a_nil (c_is T ⟨rfl, rfl⟩))))))))) fun _ => t_not (t_B (EvX.by fun W' ε => e_call (a_cons (e_x (x_tneq T (x_v rfl) (x_v rfl)) (a_cons (e_x (x_is (x_neLL (x_v rfl) (x_v rfl)) (by rw [hbi])) (a_nil (c_is T ⟨rfl, rfl⟩))))))))) (by simp)) (w_nx ?_))
    try dsimp only
    refine w_cut (fun _ : Unit => True) (fun _ => [none, some (rV (.ref b)), some (nI n), some (rLL K (m.map bitsN)), some (rTab K T.C_Table m), none, none, none, none, none, none, some (rLL K (W.map bitsN)), none, none, none, none, none]) ?_ fun _ _ => ?_
    · wtm_at "if"
      all_goals intro hb
      · have w7 : Wf (n + 1) (m ++ [0]) := ⟨by rw [List.length_append, l_m]; rfl, fun x hx => by
          rcases List.mem_append.mp hx with z | z
          · exact Nat.lt_of_lt_of_le (wm.lt x z) (Nat.pow_le_pow_right (by decide) (by omega))
          · rw [List.mem_singleton.mp z]; exact Nat.two_pow_pos _⟩
        have hb2 : n + 1 ≤ 6 := of_decide_eq_true hb
        refine w_seq (ws_set (e_x (r := rTab K T.C_Table (m ++ [0])) (x_tabRows (x_is (x_catm (l := m.map bitsN) (l' := [[]]) (ρ := rLn K) (EvNX.d (K := K) (xn_lcL0 (m.map bitsN) (rLn K) (rLn K) (x_v rfl) (by rw [List.length_map]; omega) (fun a _ => EvNX.d (K := K) (xn_list (K := K) (x_v rfl))) (by simp))) (x_lst (rs := [rLn K []]) (xa_cons (x_lst xa_nil (by decide)) xa_nil) (by show 1 ≤ 100000; decide)) ?_) (by unfold rLL; rw [List.map_append (f := bitsN), show ([0] : List Nat).map bitsN = [[]] by decide, List.map_append (f := rLn K)])) w7 (by omega) hb2) ?_))
        · simp; omega
        try dsimp only [List.set]
        refine w_no (t_is (t_or (t_T (x_teq T (x_v rfl) (x_v rfl))) fun _ => t_T (x_teq T (x_v rfl) (x_v rfl))) ?_) (w_nx ⟨(), trivial, by wtm_at "sub", rfl⟩)
        simp
      · exact w_nx ⟨(), trivial, by wtm_at "sub", rfl⟩
    exact ws_ret (e_call (a_cons (e_v rfl (a_cons (e_v rfl (a_cons (e_v rfl (a_nil (c_law_unlike T wm h1 h6 rfl)))))))))
end
end MuL

set_option maxHeartbeats 0
open PySem PySem.W PySem.Calls PyProof.Rows
set_option maxRecDepth 100000 in
set_option maxHeartbeats 0 in
theorem PySem.Challenge.cw_murmurline_k04_table_truths_holds : PySem.Challenge.rw_murmurline_k04_table_truths.Holds := by
  w_on; o_law
  refine HandSHeadRun.head_any (r := OpenLaw.row PySem.Challenge.rw_murmurline_k04_table_truths) (q := view (OpenLaw.row PySem.Challenge.rw_murmurline_k04_table_truths).prog [37]) (H := MuL.hk) (ob := MuL.ob) (M := 40000) (loose := MuL.loose) (d := HandSHeadRun.topDef (OpenLaw.row PySem.Challenge.rw_murmurline_k04_table_truths).prog 37) (kwd := []) MuL.ob_eq
    (by kernel_rfl) (fun s => by kernel_rfl) MuL.run (by kernel_rfl) (by kernel_rfl) (by kernel_rfl) (by rfl) (by first | assumption | decide +kernel) (by decide +kernel) ⟨rfl, rfl, rfl, rfl, rfl, by decide +kernel⟩ ?hw ?hc
  case hw => w_witness2
  case hc =>
    refine Mu.walk_ofG (l := PySem.Challenge.rw_murmurline_k04_table_truths) (n := 63) (k := 6) (x := "_law_script") (CX := L2.CX0) rfl (by decide) (by kernel_rfl) ⟨rfl, by decide, by decide⟩ ?F (fun _ _ _ _ z => z)
    intro w mg fa h Y G hmg0
    obtain ⟨K, KX, c⟩ := Y
    have hmg : mg ("law" : PySem.Str) = some (.ref fa) := by
      have e : (HandSHeadRun.topDef (OpenLaw.row PySem.Challenge.rw_murmurline_k04_table_truths).prog 37).name = ("law" : PySem.Str) := by kernel_rfl
      rw [← e]
      exact hmg0
    obtain ⟨T, hT⟩ := MuL.mkTx (P := PySem.Challenge.rw_murmurline_k04_table_truths.prog) ⟨by kernel_rfl, by kernel_rfl⟩ KX G c
    have e := hmg.symm.trans T.g_law
    cases e
    exact ⟨K, T.fd_law, MuL.sp_law K, KX, fun s v => T.F_law.bindsA (ps := ["_law_script"]) (fun _ _ _ _ _ _ us hl => match us, hl with | [_], _ => rfl) s [v] rfl, fun H a ns hl _ hS => ⟨a, ns, rfl, hS, hl, fun _ => rfl⟩, fun base _ _ => MuL.ok_law T⟩
#print axioms PySem.Challenge.cw_murmurline_k04_table_truths_holds
