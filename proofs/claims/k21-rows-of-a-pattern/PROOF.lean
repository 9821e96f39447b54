import PyProof.Rows.All
import Wide.All
import OpenK.AllK
import Wide.FinOn
import KE.KStateDown
import Lean
import HandS.ForMost
import HandS.ForExc
import HandS.Evl
import HandS.IsInst
import HandS.Wide
import HandS.Defaults
import HandS.Conv
import HandS.Head0
import HandS.Head1
import HandS.Head2
import HandS.HeadEnd
import HandS.HeadHook1
import HandS.HeadHook2
import HandS.Star
import HandS.Deep
import HandS.Style
import KE.KExcSuper
import HandS.ExcInit
import HandS.ExcField
import HandS.ExcIs
import HandS.HotCalls
import KE.KExcIs
import HandS.Property
import HandS.ForDict
import HandS.Text
import HandS.RaiseMore
import KE.GoesMore
import HandS.Conv
import HandS.IterVal
import HandS.ClsMeth
import HandS.OwnIter
import HandS.CallLocal
import HandS.TupLen
import HandS.DictComp
import HandS.MakeKwOnly
import KE.KDictDisplayH
import PyProof.Rows.StrMul
import PyProof.StrLawsIn
import KE.DataMinMax
import PyProof.Rows.SetFrom
import HandS.SetFor
import HandS.Strs
import HandS.Comp
import KE.KDictCopyH
import KE.KDictOf
import KE.KRevSl
import HandS.TupAny
import KE.KOpsOwn
import HandS.GenList
import PySem.Challenge.RW_murmurline_k21_rows_of_a_pattern
set_option Elab.async false
set_option linter.all false
set_option maxRecDepth 100000
set_option maxHeartbeats 4000000

namespace Mu
open PySem PySem.Spec PyProof.Rows L2 He
abbrev FactB := PySem.W.Frag → Bool
abbrev FnS : Type := Option (Str × Str × Arguments × FuncBody × Scope × Addr × List Str × Addr)
def fnS (K : PySem.W.Frag) (p : Str × Option Str) : FnS := match K.lookup (fAd K p) with
  | some ⟨_, _, .func fd, _⟩ => some (fd.name, fd.qualname, fd.params, fd.body, fd.scope, fd.globals, fd.closure.map (·.1), fd.builtins)
  | _ => none
structure DefS where
  at_ : Str × Option Str
  name : Str
  qual : Str
  params : Arguments
  body : List Stmt
  scope : Scope
  cls : Str
  file : Str
def DefS.val (d : DefS) : FnS := some (d.name, d.qual, d.params, .stmts d.body, d.scope, mainGlobals, [("__class__" : Str)], builtinsNs)
def cellB (K : PySem.W.Frag) (cc D : Addr) : Bool := match K.lookup cc with
  | some ⟨_, _, .cell (some (.ref d)), _⟩ => d == D
  | _ => false
def fileB (K : PySem.W.Frag) (cda : Addr) (file : Str) : Bool := match K.lookup cda with
  | some ⟨_, _, .fields vs, _⟩ => (match (vs[2]? : Option Value) with | some (Value.str x _) => x == file | _ => false)
  | _ => false
def supB (K : PySem.W.Frag) (q : Str) (D : Addr) (file : Str) (cl : List (Str × Addr)) (cd : Value) : Bool := match cl, cd with
  | [(_, cc)], .ref cda => PySem.W.codeIn K (.ref cda) q && (cellB K cc D && fileB K cda file)
  | _, _ => false
def DefS.ok (K : PySem.W.Frag) (d : DefS) : Bool := PySem.W.keepIn K (.ref (fAd K d.at_)) && ((PySem.W.clsIn K (ga K d.cls)).isSome && (decide (PySem.W.nsIn K cStatics "thirdparty.any" = some none) && (match K.lookup (fAd K d.at_) with
  | some ⟨_, _, .func fd, _⟩ => decide (fd.defaults = Value.none) && supB K d.qual (ga K d.cls) d.file fd.closure fd.code
  | _ => false)))
abbrev AlS : Type := Bool × List FnW × List FnS
def obsS (fa : List Fa) (ex : List FactB) (fn : List DefD) (sn : List DefS) (K : PySem.W.Frag) : AlS := ((((fa.all fun f => f.ok K) && ex.all fun f => f K) && fn.all fun d => d.ok K) && sn.all fun d => d.ok K, fn.map fun d => fnW K d.at_, sn.map fun d => fnS K d.at_)
def valS (fn : List DefD) (sn : List DefS) : AlS := (true, fn.map DefD.val, sn.map DefS.val)
def SaysS (fa : List Fa) (ex : List FactB) (fn : List DefD) (sn : List DefS) (K : PySem.W.Frag) : Prop := obsS fa ex fn sn K = valS fn sn
def isCB (K : PySem.W.Frag) (C : Addr) : Bool := He.eqO (PySem.W.findIn K (.ref C) "__class__") (some (some (.builtin "object.__class__"))) && (He.eqO (PySem.W.specialIn K (.builtin "object.__class__") "__get__") (some (some (.builtin "getset_descriptor.__get__"))) &&
  (decide (PySem.W.takesIn K (.builtin "object.__class__") = some true) && decide (PySem.W.mroIn K C (.type "object") = some true)))
def oexB (K : PySem.W.Frag) (C : Addr) : Bool := (match K.lookup C with
  | some ⟨.type "type", _, .cls cd, sl⟩ => (match cd.mro, sl.toList with
    | .ref C' :: bm, [_, _, _, _, some (.builtin n), _] => C' == C && (n == "ValueError.__new__" && (!cd.hasDel && (cd.hasDict && PySem.HandSPX.refsVE bm)))
    | _, _ => false)
  | _ => false) && (He.eqO (PySem.W.findIn K (.ref C) "__setattr__") (some (some (.builtin "object.__setattr__"))) && (decide (PySem.W.subIn K (.ref C) (.type "BaseException") = some true) && (decide (PySem.W.typeIn K (.ref C) = some (.type "type")) && PySem.W.keepIn K (.ref C))))
def errB (K : PySem.W.Frag) (C fI : Addr) : Bool := oexB K C && (He.eqO (PySem.W.findIn K (.ref C) "__init__") (some (some (.ref fI))) && (decide (PySem.W.typeIn K (.ref fI) = some (.type "function")) && (decide (PySem.W.mroIn K C (.ref C) = some true) && (He.eqO (PySem.W.ks_superIn K C C "__init__") (some (some (.builtin "ValueError.__init__"))) &&
  (decide (PySem.W.subIn K (.ref C) (.type "ValueError") = some true) && (xfB K C && (He.eqO (PySem.W.findIn K (.ref C) "__class__") (some (some (.builtin "object.__class__"))) && (He.eqO (PySem.W.specialIn K (.builtin "object.__class__") "__get__") (some (some (.builtin "getset_descriptor.__get__"))) &&
  (decide (PySem.W.takesIn K (.builtin "object.__class__") = some true) && decide (PySem.W.mroIn K C (.type "object") = some true))))))))))
def mkB (K : PySem.W.Frag) (C f : Addr) : Bool := PySem.W.makesIn K C && (He.eqO (PySem.W.findIn K (.ref C) "__init__") (some (some (.ref f))) && (PySem.W.isFn K (.ref f) && PySem.W.keepIn K (.ref C)))
def methB (K : PySem.W.Frag) (C : Addr) (m : Str) (f : Addr) : Bool := He.eqO (PySem.W.findIn K (.ref C) m) (some (some (.ref f))) && (PySem.W.isFn K (.ref f) && PySem.W.keepIn K (.ref f))
def supFB (K : PySem.W.Frag) (C D : Addr) (m : Str) (f : Addr) : Bool := decide (PySem.W.mroIn K C (.ref D) = some true) && He.eqO (PySem.W.ks_superIn K C D m) (some (some (.ref f)))
def pAd (K : PySem.W.Frag) (c f : Str) (T : String) : Addr := match PySem.W.findIn K (.ref (ga K c)) f with
  | some (some (.ref p)) => (match PySem.W.recIn K p T with
    | some (.ref g :: _) => g
    | _ => 0)
  | _ => 0
structure DefA where
  at_ : PySem.W.Frag → Addr
  name : Str
  qual : Str
  params : Arguments
  body : List Stmt
  scope : Scope
def fnA (K : PySem.W.Frag) (a : Addr) : FnW := match K.lookup a with
  | some ⟨_, _, .func fd, _⟩ => some (fd.name, fd.qualname, fd.params, fd.body, fd.scope, fd.globals, fd.closure, fd.builtins)
  | _ => none
def DefA.val (d : DefA) : FnW := some (d.name, d.qual, d.params, .stmts d.body, d.scope, mainGlobals, [], builtinsNs)
def DefA.ok (K : PySem.W.Frag) (d : DefA) : Bool := PySem.W.keepIn K (.ref (d.at_ K)) && (match K.lookup (d.at_ K) with
  | some ⟨_, _, .func fd, _⟩ => PySem.W.codeIn K fd.code d.qual && (dflB K fd.defaults [] && kwdB K fd.kwdefaults [])
  | _ => false)
abbrev AlP : Type := Bool × List FnW × List FnS × List FnW
def obsP (fa : List Fa) (ex : List FactB) (fn : List DefD) (sn : List DefS) (an : List DefA) (K : PySem.W.Frag) : AlP := (((((fa.all fun f => f.ok K) && ex.all fun f => f K) && fn.all fun d => d.ok K) && sn.all fun d => d.ok K) && an.all fun d => d.ok K, fn.map fun d => fnW K d.at_, sn.map fun d => fnS K d.at_, an.map fun d => fnA K (d.at_ K))
def valP (fn : List DefD) (sn : List DefS) (an : List DefA) : AlP := (true, fn.map DefD.val, sn.map DefS.val, an.map DefA.val)
def SaysP (fa : List Fa) (ex : List FactB) (fn : List DefD) (sn : List DefS) (an : List DefA) (K : PySem.W.Frag) : Prop := obsP fa ex fn sn an K = valP fn sn an
def propB (K : PySem.W.Frag) (C : Addr) (f : Str) (g : Addr) : Bool := match PySem.W.findIn K (.ref C) f with
  | some (some (.ref p)) => eqO (PySem.W.specialIn K (.ref p) "__get__") (some (some (.builtin "property.__get__"))) && (decide (PySem.W.takesIn K (.ref p) = some true) && (match PySem.W.recIn K p "property" with
    | some (.ref g' :: _) => g' == g
    | _ => false))
  | _ => false
def refQ (g : Addr → Option Obj) (a : Addr) : List Addr := match g a with
  | some o => refsD o
  | none => []
def lvA (g : Addr → Option Obj) (nm : List Str) : List Addr := nm.map (ga (frG g [mainGlobals]))
def lvB (g : Addr → Option Obj) (l1 : List Addr) : List Addr := (l1 ++ l1.flatMap (refQ g)).eraseDups
def lvC (g : Addr → Option Obj) (l2 : List Addr) (ds : List (Str × Option Str)) : List Addr := ds.map (fAd (frG g (mainGlobals :: l2)))
def refT (g : Addr → Option Obj) (l : List Addr) : List Addr := l.flatMap (refQ g)
def conT1 (g : Addr → Option Obj) (l2 lc lr : List Addr) : List Addr := mainGlobals :: cStatics :: (l2 ++ (lc ++ (lr ++ refT g lr)))
def conT2 (g : Addr → Option Obj) (l2 lc : List Addr) : List Addr := conT1 g l2 lc (refT g lc)
def conT3 (g : Addr → Option Obj) (ds : List (Str × Option Str)) (l2 : List Addr) : List Addr := conT2 g l2 (lvC g l2 ds)
def conT (nm : List Str) (ds : List (Str × Option Str)) (g : Addr → Option Obj) : List Addr := conT3 g ds (lvB g (lvA g nm))
def hookPT (nm : List Str) (ds : List (Str × Option Str)) (fa : List Fa) (ex : List FactB) (fn : List DefD) (sn : List DefS) (an : List DefA) : PySem.W.Hook where
  α := AlP
  obs := fun s => obsP fa ex fn sn an (frG s.heap.get? (conT nm ds s.heap.get?))
  val := fun _ => valP fn sn an
  says := fun _ h => ∃ K : PySem.W.Frag, K.In h ∧ SaysP fa ex fn sn an K
  of := fun _ _ e => ⟨_, frG_in, e⟩
  keeps := fun _ _ _ ⟨K, hK, c⟩ k => ⟨K, PySem.W.Frag.In.keeps hK k, c⟩
def obsPT (nm : List Str) (ds : List (Str × Option Str)) (fa : List Fa) (ex : List FactB) (fn : List DefD) (sn : List DefS) (an : List DefA) (g : Addr → Option Obj) : AlP := obsP fa ex fn sn an (frG g (conT nm ds g))
theorem obsPT_eq {nm : List Str} {ds : List (Str × Option Str)} {fa : List Fa} {ex : List FactB} {fn : List DefD} {sn : List DefS} {an : List DefA} {g : Addr → Option Obj} {s : Shared} (h : ∀ a, g a = s.heap.get? a) : obsPT nm ds fa ex fn sn an g = (hookPT nm ds fa ex fn sn an).obs s := by
  have e : g = s.heap.get? := funext h
  rw [e] <;> rfl
end Mu

namespace MuL
open PySem PySem.Spec PyProof.Rows L2 He Evl Mu
def top (i : Nat) : Stmt := PySem.Challenge.pw_murmurline_k21_rows_of_a_pattern.main.body.getD i (.Pass ⟨0, 0, 0, 0⟩)
abbrev s_bits : Stmt := top 13
abbrev s_mask_of : Stmt := top 14
abbrev s_masks_of : Stmt := top 15
abbrev s_check_size : Stmt := top 23
abbrev s_check_sizes : Stmt := top 26
abbrev s_Table___init__ : Stmt := inClass (top 29) 1
abbrev s_all_words : Stmt := top 39
abbrev s_check_person : Stmt := top 40
abbrev s_Person___init__ : Stmt := inClass (top 41) 0
abbrev s_check_word : Stmt := top 24
abbrev s_Person_heard : Stmt := inClass (top 41) 1
abbrev s_Person_said : Stmt := inClass (top 41) 2
abbrev s_Person_table : Stmt := inClass (top 41) 3
abbrev s_Cast_put : Stmt := inClass (top 48) 1
abbrev s_Cast___init__ : Stmt := inClass (top 48) 0
abbrev s__law_box : Stmt := top 50
abbrev s__law_take : Stmt := top 51
abbrev s__law_words : Stmt := top 53
abbrev s__law_outs : Stmt := top 54
abbrev s__law_person : Stmt := top 55
abbrev s__law_letters : Stmt := top 52
abbrev s__law_folk : Stmt := top 56
abbrev s__law_own : Stmt := top 57
abbrev s__law_made : Stmt := top 58
abbrev s__law_cast : Stmt := top 59
abbrev s_Cast_letters : Stmt := inClass (top 48) 4
abbrev s_Cast___contains__ : Stmt := inClass (top 48) 10
abbrev s_check_pattern : Stmt := top 33
abbrev s_open_places : Stmt := top 34
abbrev s_next_places : Stmt := top 35
abbrev s__law_all_rows : Stmt := top 61
abbrev s_could_end : Stmt := top 36
abbrev s_rows_of : Stmt := top 37
abbrev s__law_pattern : Stmt := top 60
abbrev s__law_matches : Stmt := top 62
abbrev s__law_first_of_forty : Stmt := top 63
abbrev s_law : Stmt := top 64
abbrev s_Knower___init__ : Stmt := inClass (top 42) 0
abbrev s_Doubter_said : Stmt := inClass (top 43) 0
abbrev s_Knower_said : Stmt := inClass (top 42) 1
abbrev s_KnowingDoubter_said : Stmt := inClass (top 44) 0
abbrev s_UnknownPerson___init__ : Stmt := inClass (top 9) 0
abbrev s_BadPerson___init__ : Stmt := inClass (top 7) 0
abbrev s_UnknownWord___init__ : Stmt := inClass (top 5) 0
abbrev s_BadPattern___init__ : Stmt := inClass (top 11) 0
def d_Person_table : Mu.DefA := ⟨fun K => Mu.pAd K "Person" "table" "property", "table", "Person.table", defArgs s_Person_table, defBody s_Person_table, defScope s_Person_table⟩
def d_bits : He.DefD := ⟨("bits", none), "bits", "bits", defArgs s_bits, defBody s_bits, defScope s_bits, [], []⟩
def d_mask_of : He.DefD := ⟨("mask_of", none), "mask_of", "mask_of", defArgs s_mask_of, defBody s_mask_of, defScope s_mask_of, [], []⟩
def d_masks_of : He.DefD := ⟨("masks_of", none), "masks_of", "masks_of", defArgs s_masks_of, defBody s_masks_of, defScope s_masks_of, [], []⟩
def d_check_size : He.DefD := ⟨("check_size", none), "check_size", "check_size", defArgs s_check_size, defBody s_check_size, defScope s_check_size, [], []⟩
def d_check_sizes : He.DefD := ⟨("check_sizes", none), "check_sizes", "check_sizes", defArgs s_check_sizes, defBody s_check_sizes, defScope s_check_sizes, [], []⟩
def d_Table___init__ : He.DefD := ⟨("Table", some "__init__"), "__init__", "Table.__init__", defArgs s_Table___init__, defBody s_Table___init__, defScope s_Table___init__, [], []⟩
def d_all_words : He.DefD := ⟨("all_words", none), "all_words", "all_words", defArgs s_all_words, defBody s_all_words, defScope s_all_words, [], []⟩
def d_check_person : He.DefD := ⟨("check_person", none), "check_person", "check_person", defArgs s_check_person, defBody s_check_person, defScope s_check_person, [], []⟩
def d_Person___init__ : He.DefD := ⟨("Person", some "__init__"), "__init__", "Person.__init__", defArgs s_Person___init__, defBody s_Person___init__, defScope s_Person___init__, [], []⟩
def d_check_word : He.DefD := ⟨("check_word", none), "check_word", "check_word", defArgs s_check_word, defBody s_check_word, defScope s_check_word, [], []⟩
def d_Person_heard : He.DefD := ⟨("Person", some "heard"), "heard", "Person.heard", defArgs s_Person_heard, defBody s_Person_heard, defScope s_Person_heard, [], []⟩
def d_Person_said : He.DefD := ⟨("Person", some "said"), "said", "Person.said", defArgs s_Person_said, defBody s_Person_said, defScope s_Person_said, [], []⟩
def d_Cast_put : He.DefD := ⟨("Cast", some "put"), "put", "Cast.put", defArgs s_Cast_put, defBody s_Cast_put, defScope s_Cast_put, [], []⟩
def d_Cast___init__ : He.DefD := ⟨("Cast", some "__init__"), "__init__", "Cast.__init__", defArgs s_Cast___init__, defBody s_Cast___init__, defScope s_Cast___init__, [], []⟩
def d__law_box : He.DefD := ⟨("_law_box", none), "_law_box", "_law_box", defArgs s__law_box, defBody s__law_box, defScope s__law_box, [], []⟩
def d__law_take : He.DefD := ⟨("_law_take", none), "_law_take", "_law_take", defArgs s__law_take, defBody s__law_take, defScope s__law_take, [], []⟩
def d__law_words : He.DefD := ⟨("_law_words", none), "_law_words", "_law_words", defArgs s__law_words, defBody s__law_words, defScope s__law_words, [], []⟩
def d__law_outs : He.DefD := ⟨("_law_outs", none), "_law_outs", "_law_outs", defArgs s__law_outs, defBody s__law_outs, defScope s__law_outs, [], []⟩
def d__law_person : He.DefD := ⟨("_law_person", none), "_law_person", "_law_person", defArgs s__law_person, defBody s__law_person, defScope s__law_person, [], []⟩
def d__law_letters : He.DefD := ⟨("_law_letters", none), "_law_letters", "_law_letters", defArgs s__law_letters, defBody s__law_letters, defScope s__law_letters, [], []⟩
def d__law_folk : He.DefD := ⟨("_law_folk", none), "_law_folk", "_law_folk", defArgs s__law_folk, defBody s__law_folk, defScope s__law_folk, [], []⟩
def d__law_own : He.DefD := ⟨("_law_own", none), "_law_own", "_law_own", defArgs s__law_own, defBody s__law_own, defScope s__law_own, [], []⟩
def d__law_made : He.DefD := ⟨("_law_made", none), "_law_made", "_law_made", defArgs s__law_made, defBody s__law_made, defScope s__law_made, [.int 0], []⟩
def d__law_cast : He.DefD := ⟨("_law_cast", none), "_law_cast", "_law_cast", defArgs s__law_cast, defBody s__law_cast, defScope s__law_cast, [], []⟩
def d_Cast_letters : He.DefD := ⟨("Cast", some "letters"), "letters", "Cast.letters", defArgs s_Cast_letters, defBody s_Cast_letters, defScope s_Cast_letters, [], []⟩
def d_Cast___contains__ : He.DefD := ⟨("Cast", some "__contains__"), "__contains__", "Cast.__contains__", defArgs s_Cast___contains__, defBody s_Cast___contains__, defScope s_Cast___contains__, [], []⟩
def d_check_pattern : He.DefD := ⟨("check_pattern", none), "check_pattern", "check_pattern", defArgs s_check_pattern, defBody s_check_pattern, defScope s_check_pattern, [], []⟩
def d_open_places : He.DefD := ⟨("open_places", none), "open_places", "open_places", defArgs s_open_places, defBody s_open_places, defScope s_open_places, [], []⟩
def d_next_places : He.DefD := ⟨("next_places", none), "next_places", "next_places", defArgs s_next_places, defBody s_next_places, defScope s_next_places, [], []⟩
def d__law_all_rows : He.DefD := ⟨("_law_all_rows", none), "_law_all_rows", "_law_all_rows", defArgs s__law_all_rows, defBody s__law_all_rows, defScope s__law_all_rows, [], []⟩
def d_could_end : He.DefD := ⟨("could_end", none), "could_end", "could_end", defArgs s_could_end, defBody s_could_end, defScope s_could_end, [], []⟩
def d_rows_of : He.DefD := ⟨("rows_of", none), "rows_of", "rows_of", defArgs s_rows_of, defBody s_rows_of, defScope s_rows_of, [], []⟩
def d__law_pattern : He.DefD := ⟨("_law_pattern", none), "_law_pattern", "_law_pattern", defArgs s__law_pattern, defBody s__law_pattern, defScope s__law_pattern, [], []⟩
def d__law_matches : He.DefD := ⟨("_law_matches", none), "_law_matches", "_law_matches", defArgs s__law_matches, defBody s__law_matches, defScope s__law_matches, [], []⟩
def d__law_first_of_forty : He.DefD := ⟨("_law_first_of_forty", none), "_law_first_of_forty", "_law_first_of_forty", defArgs s__law_first_of_forty, defBody s__law_first_of_forty, defScope s__law_first_of_forty, [], []⟩
def d_law : He.DefD := ⟨("law", none), "law", "law", defArgs s_law, defBody s_law, defScope s_law, [], []⟩
def d_UnknownPerson___init__ : Mu.DefS := ⟨("UnknownPerson", some "__init__"), "__init__", "UnknownPerson.__init__", defArgs s_UnknownPerson___init__, defBody s_UnknownPerson___init__, defScope s_UnknownPerson___init__, "UnknownPerson", "/claim/cut.py"⟩
def d_BadPerson___init__ : Mu.DefS := ⟨("BadPerson", some "__init__"), "__init__", "BadPerson.__init__", defArgs s_BadPerson___init__, defBody s_BadPerson___init__, defScope s_BadPerson___init__, "BadPerson", "/claim/cut.py"⟩
def d_UnknownWord___init__ : Mu.DefS := ⟨("UnknownWord", some "__init__"), "__init__", "UnknownWord.__init__", defArgs s_UnknownWord___init__, defBody s_UnknownWord___init__, defScope s_UnknownWord___init__, "UnknownWord", "/claim/cut.py"⟩
def d_BadPattern___init__ : Mu.DefS := ⟨("BadPattern", some "__init__"), "__init__", "BadPattern.__init__", defArgs s_BadPattern___init__, defBody s_BadPattern___init__, defScope s_BadPattern___init__, "BadPattern", "/claim/cut.py"⟩
def d_Knower___init__ : Mu.DefS := ⟨("Knower", some "__init__"), "__init__", "Knower.__init__", defArgs s_Knower___init__, defBody s_Knower___init__, defScope s_Knower___init__, "Knower", "/claim/cut.py"⟩
def d_Doubter_said : Mu.DefS := ⟨("Doubter", some "said"), "said", "Doubter.said", defArgs s_Doubter_said, defBody s_Doubter_said, defScope s_Doubter_said, "Doubter", "/claim/cut.py"⟩
def d_Knower_said : Mu.DefS := ⟨("Knower", some "said"), "said", "Knower.said", defArgs s_Knower_said, defBody s_Knower_said, defScope s_Knower_said, "Knower", "/claim/cut.py"⟩
def d_KnowingDoubter_said : Mu.DefS := ⟨("KnowingDoubter", some "said"), "said", "KnowingDoubter.said", defArgs s_KnowingDoubter_said, defBody s_KnowingDoubter_said, defScope s_KnowingDoubter_said, "KnowingDoubter", "/claim/cut.py"⟩
def fa : List He.Fa := [.glo "Table", .cls "Table", .cls "Table", .noat "Table" "size", .noat "Table" "masks", .noat "Table" "cells", .glo "Person", .cls "Person", .noat "Person" "size", .noat "Person" "ears", .noat "Person" "mouths", .glo "Cast", .cls "Cast", .noat "Cast" "size", .noat "Cast" "folk", .noat "Cast" "roster", .glo "Knower", .cls "Knower", .noat "Knower" "size", .noat "Knower" "ears", .noat "Knower" "mouths", .noat "Knower" "sure_words", .glo "Doubter", .cls "Doubter", .noat "Doubter" "size", .noat "Doubter" "ears", .noat "Doubter" "mouths", .glo "KnowingDoubter", .cls "KnowingDoubter", .noat "KnowingDoubter" "size", .noat "KnowingDoubter" "ears", .noat "KnowingDoubter" "mouths", .noat "KnowingDoubter" "sure_words", .glo "bits", .glo "mask_of", .glo "masks_of", .glo "check_size", .glo "check_sizes", .mkr "Table", .glo "all_words", .glo "check_person", .mkr "Person", .glo "check_word", .meth "Person" "heard", .meth "Person" "said", .meth "Cast" "put", .mkr "Cast", .glo "_law_box", .glo "_law_take", .glo "_law_words", .glo "_law_outs", .glo "_law_person", .glo "_law_letters", .glo "_law_folk", .glo "_law_own", .glo "_law_made", .glo "_law_cast", .meth "Cast" "letters", .meth "Cast" "__contains__", .glo "check_pattern", .glo "open_places", .glo "next_places", .glo "_law_all_rows", .glo "could_end", .glo "rows_of", .glo "_law_pattern", .glo "_law_matches", .glo "_law_first_of_forty", .glo "law", .free "super", .glo "UnknownPerson", .glo "BadPerson", .glo "UnknownWord", .glo "BadPattern", .mkr "Knower", .meth "Doubter" "said", .meth "Knower" "said", .meth "KnowingDoubter" "said", .free "len", .free "range", .free "tuple", .free "list", .free "int", .free "abs", .free "enumerate", .free "isinstance", .free "bool", .free "str", .free "sorted", .free "iter", .free "min", .free "ValueError", .int "GREATEST_SIZE" 6, .int "MOST_PEOPLE" 8, .int "MOST_SIGNS" 12, .str "LETTERS" "abcdefghijklmnopqrstuvwxyz"]
def ex : List Mu.FactB := [(fun K => Mu.isCB K (ga K "Table")), (fun K => PySem.W.selfFirst K (ga K "Table")), (fun K => Mu.propB K (ga K "Person") "table" (Mu.pAd K "Person" "table" "property")), (fun K => Mu.propB K (ga K "Knower") "table" (Mu.pAd K "Person" "table" "property")), (fun K => Mu.propB K (ga K "Doubter") "table" (Mu.pAd K "Person" "table" "property")), (fun K => Mu.propB K (ga K "KnowingDoubter") "table" (Mu.pAd K "Person" "table" "property")), (fun K => Mu.errB K (ga K "UnknownPerson") (fAd K ("UnknownPerson", some "__init__"))), (fun K => He.eqO (PySem.W.findIn K (.ref (ga K "UnknownPerson")) "letter") (some none)), (fun K => He.eqO (PySem.W.findIn K (.ref (ga K "UnknownPerson")) "place") (some none)), (fun K => decide (PySem.W.exmOne K (.ref (ga K "UnknownPerson")) (.ref (ga K "UnknownPerson")) = some true)), (fun K => Mu.errB K (ga K "BadPerson") (fAd K ("BadPerson", some "__init__"))), (fun K => He.eqO (PySem.W.findIn K (.ref (ga K "BadPerson")) "part") (some none)), (fun K => decide (PySem.W.exmOne K (.ref (ga K "BadPerson")) (.ref (ga K "BadPerson")) = some true)), (fun K => Mu.errB K (ga K "UnknownWord") (fAd K ("UnknownWord", some "__init__"))), (fun K => He.eqO (PySem.W.findIn K (.ref (ga K "UnknownWord")) "word") (some none)), (fun K => decide (PySem.W.exmOne K (.ref (ga K "UnknownWord")) (.ref (ga K "UnknownWord")) = some true)), (fun K => Mu.errB K (ga K "BadPattern") (fAd K ("BadPattern", some "__init__"))), (fun K => He.eqO (PySem.W.findIn K (.ref (ga K "BadPattern")) "place") (some none)), (fun K => decide (PySem.W.exmOne K (.ref (ga K "BadPattern")) (.ref (ga K "BadPattern")) = some true)), (fun K => Mu.mkB K (ga K "Doubter") (fAd K ("Person", some "__init__"))), (fun K => Mu.mkB K (ga K "KnowingDoubter") (fAd K ("Knower", some "__init__"))), (fun K => Mu.methB K (ga K "Knower") "heard" (fAd K ("Person", some "heard"))), (fun K => Mu.methB K (ga K "Doubter") "heard" (fAd K ("Person", some "heard"))), (fun K => Mu.methB K (ga K "KnowingDoubter") "heard" (fAd K ("Person", some "heard"))), (fun K => Mu.supFB K (ga K "Knower") (ga K "Knower") "__init__" (fAd K ("Person", some "__init__"))), (fun K => Mu.supFB K (ga K "KnowingDoubter") (ga K "Knower") "__init__" (fAd K ("Person", some "__init__"))), (fun K => Mu.supFB K (ga K "Doubter") (ga K "Doubter") "said" (fAd K ("Person", some "said"))), (fun K => Mu.supFB K (ga K "KnowingDoubter") (ga K "Doubter") "said" (fAd K ("Person", some "said"))), (fun K => Mu.supFB K (ga K "Knower") (ga K "Knower") "said" (fAd K ("Person", some "said"))), (fun K => Mu.supFB K (ga K "KnowingDoubter") (ga K "Knower") "said" (fAd K ("Doubter", some "said"))), (fun K => Mu.supFB K (ga K "KnowingDoubter") (ga K "KnowingDoubter") "said" (fAd K ("Knower", some "said"))), (fun K => decide (PySem.W.typeIn K (.ref (fAd K ("Doubter", some "said"))) = some (.type "function"))), (fun K => decide (PySem.W.typeIn K (.ref (fAd K ("Knower", some "said"))) = some (.type "function"))), (fun K => decide (PySem.W.typeIn K (.ref (fAd K ("Person", some "__init__"))) = some (.type "function"))), (fun K => decide (PySem.W.typeIn K (.ref (fAd K ("Person", some "said"))) = some (.type "function")))]
def fn : List He.DefD := [d_bits, d_mask_of, d_masks_of, d_check_size, d_check_sizes, d_Table___init__, d_all_words, d_check_person, d_Person___init__, d_check_word, d_Person_heard, d_Person_said, d_Cast_put, d_Cast___init__, d__law_box, d__law_take, d__law_words, d__law_outs, d__law_person, d__law_letters, d__law_folk, d__law_own, d__law_made, d__law_cast, d_Cast_letters, d_Cast___contains__, d_check_pattern, d_open_places, d_next_places, d__law_all_rows, d_could_end, d_rows_of, d__law_pattern, d__law_matches, d__law_first_of_forty, d_law]
def sn : List Mu.DefS := [d_UnknownPerson___init__, d_BadPerson___init__, d_UnknownWord___init__, d_BadPattern___init__, d_Knower___init__, d_Doubter_said, d_Knower_said, d_KnowingDoubter_said]
def an : List Mu.DefA := [d_Person_table]
end MuL

set_option maxHeartbeats 0
namespace MuL
open PySem PySem.Spec PyProof.Rows L2 He Evl Mu
def nm0 : List Str := ["abcdefghijklmnopqrstuvwxyz", "Table", "Person", "Cast", "Knower", "Doubter", "KnowingDoubter", "bits", "mask_of", "masks_of", "check_size", "check_sizes", "all_words", "check_person", "check_word", "_law_box", "_law_take", "_law_words", "_law_outs", "_law_person", "_law_letters", "_law_folk", "_law_own", "_law_made", "_law_cast", "check_pattern", "open_places", "next_places", "_law_all_rows", "could_end"]
def nm1 : List Str := ["rows_of", "_law_pattern", "_law_matches", "_law_first_of_forty", "law", "UnknownPerson", "BadPerson", "UnknownWord", "BadPattern", "LETTERS", "MurmurError"]
def nm : List Str := nm0 ++ nm1
def ds0 : List (Str × Option Str) := [("Table", some "__init__"), ("Person", some "__init__"), ("Person", some "heard"), ("Person", some "said"), ("Cast", some "put"), ("Cast", some "__init__"), ("Cast", some "letters"), ("Cast", some "__contains__"), ("UnknownPerson", some "__init__"), ("BadPerson", some "__init__"), ("UnknownWord", some "__init__"), ("BadPattern", some "__init__"), ("Knower", some "__init__"), ("Doubter", some "said"), ("Knower", some "said"), ("KnowingDoubter", some "said"), ("Person", some "table")]
def ds : List (Str × Option Str) := ds0
def loose0 : List Str := ["_wall", "MurmurError", "BadSize", "BadTable", "UnknownWord", "SizeMismatch", "BadPerson", "BadLetter", "UnknownPerson", "TooMany", "BadPattern", "bits", "mask_of", "masks_of", "image", "product", "converse", "greatest_behind", "greatest_ahead", "GREATEST_SIZE", "check_size", "check_word", "check_words", "check_sizes", "written", "table_of_masks", "Table", "product_inside", "MOST_SIGNS", "check_pattern"]
def loose1 : List Str := ["open_places", "next_places", "could_end", "rows_of", "all_words", "check_person", "Person", "Knower", "Doubter", "KnowingDoubter", "LETTERS", "MOST_PEOPLE", "Cast", "_law_box", "_law_take", "_law_letters", "_law_words", "_law_outs", "_law_person", "_law_folk", "_law_own", "_law_made", "_law_cast", "_law_pattern", "_law_all_rows", "_law_matches", "_law_first_of_forty"]
def loose : List Str := loose0 ++ loose1
abbrev R : PySem.W.OpenRow := PySem.W.OpenLaw.row PySem.Challenge.rw_murmurline_k21_rows_of_a_pattern
abbrev hk : PySem.W.Hook := Mu.hookPT nm ds fa ex fn sn an
def ob (s : PySem.W.SharedT) : Mu.AlP := Mu.obsPT nm ds fa ex fn sn an (HandSHeadRun.getT s)
theorem ob_eq (s : PySem.W.SharedT) : ob s = hk.obs s.abs := Mu.obsPT_eq (HandSHeadRun.getT_eq s)
theorem run (w : World) : HandSHeadRun.RunEq R (PySem.W.view R.prog [64]) hk ob 40000 loose w := by
  intro os
  kernel_rfl
end MuL

set_option maxHeartbeats 4000000
namespace Mu
open PySem L2 Evl

def Mt (o : HO) : Prop := ∀ xs, o ≠ .tup xs
theorem mt_lst {ws : List V} : Mt (.lst ws) := fun _ z => nomatch z
theorem mt_ins {C dx : Addr} {fs : List (Str × V)} : Mt (.ins C dx fs) := fun _ z => nomatch z
theorem mt_frz {o : Obj} {u : HO} : Mt (.frz o u) := fun _ z => nomatch z
structure Gr (G H G2 H2 : Hp) : Prop where
  g : Ex G G2
  h : Ex H H2
  i : Ex G2 H2
  n : ∀ a o, H a = some o → Mt o → G a = none → G2 a = none
theorem Gr.refl {G H : Hp} (e : Ex G H) : Gr G H G H := ⟨Ex.refl _, Ex.refl _, e, fun _ _ _ _ n => n⟩
theorem Gr.trans {G H G2 H2 G3 H3 : Hp} (a : Gr G H G2 H2) (b : Gr G2 H2 G3 H3) : Gr G H G3 H3 :=
  ⟨a.g.trans b.g, a.h.trans b.h, b.i, fun c o q t z => b.n c o (a.h c o q) t (a.n c o q t z)⟩
theorem Gr.more {G H G2 H2 H3 : Hp} (a : Gr G H G2 H2) (e : Ex H2 H3) : Gr G H G2 H3 := ⟨a.g, a.h.trans e, a.i.trans e, a.n⟩
theorem Gr.new {G H : Hp} {p : Addr} {o : HO} (e : Ex G H) (hp : H p = none) : Gr G H (upd G p o) (upd H p o) where
  g := Ex.new (fresh_back e hp)
  h := Ex.new hp
  i := fun a u z => by
    by_cases q : a = p
    · subst q
      rw [upd_same] at z ⊢
      exact z
    · rw [upd_ne q] at z ⊢
      exact e a u z
  n := fun a u z _ y => by rw [upd_ne (ne_of_none z hp)]; exact y
theorem Gr.out {G H : Hp} {p : Addr} {o : HO} (e : Ex G H) (hp : H p = none) : Gr G H G (upd H p o) := (Gr.refl e).more (Ex.new hp)
def un (A B : Hp) : Hp := fun a => match A a with
  | some o => some o
  | none => B a
theorem un_l {A B : Hp} {a : Addr} {o : HO} (h : A a = some o) : un A B a = some o := by unfold un; rw [h]
theorem un_r {A B : Hp} {a : Addr} (h : A a = none) : un A B a = B a := by unfold un; rw [h]
theorem ex_un_l {A B : Hp} : Ex A (un A B) := fun _ _ h => un_l h
theorem ex_un_r {A B H : Hp} (ha : Ex A H) (hb : Ex B H) : Ex B (un A B) := fun a o h => by
  cases q : A a with
  | none => rw [un_r q]; exact h
  | some u =>
    have h1 := ha a u q
    have h2 := hb a o h
    rw [h1] at h2
    rw [un_l q]
    exact h2
theorem un_in {A B H : Hp} (ha : Ex A H) (hb : Ex B H) : Ex (un A B) H := fun a o h => by
  cases q : A a with
  | none => rw [un_r q] at h; exact hb a o h
  | some u => rw [un_l q] at h; exact ha a o (q.trans h)
theorem Gr.up {G G' H G2 H2 : Hp} (e : Ex G G') (e' : Ex G' H) (a : Gr G H G2 H2) : Gr G' H (un G' G2) H2 where
  g := ex_un_l
  h := a.h
  i := un_in (e'.trans a.h) a.i
  n := fun c o q t z => by rw [un_r z]; exact a.n c o q t (fresh_back e z)
theorem Gr.upr {G G' H G2 H2 : Hp} (e' : Ex G' H) (a : Gr G H G2 H2) : Ex G2 (un G' G2) := ex_un_r (e'.trans a.h) a.i

structure Rp where
  p : V → Hp → Prop
  mono : ∀ {v : V} {H H' : Hp}, Ex H H' → p v H → p v H'
abbrev RA (H : Hp) : List V → List Rp → Prop := Paired fun v r => r.p v H
theorem RA.mono {H H' : Hp} (e : Ex H H') : ∀ {vs : List V} {rs : List Rp}, RA H vs rs → RA H' vs rs
  | _, _, .nil => .nil
  | _, _, .cons (b := r) h t => .cons (r.mono e h) (RA.mono e t)
theorem RA.len {H : Hp} {vs : List V} {rs : List Rp} (h : RA H vs rs) : vs.length = rs.length := Paired.length h
theorem RA.get {H : Hp} : ∀ {vs : List V} {rs : List Rp} {i : Nat} {r : Rp}, RA H vs rs → rs[i]? = some r → ∃ v, vs[i]? = some v ∧ r.p v H
  | _, _, _, _, .nil, e => by simp at e
  | _, _, 0, _, .cons h t, e => by simp at e; subst e; exact ⟨_, rfl, h⟩
  | _, _, i + 1, r, .cons h t, e => by
    obtain ⟨v, h1, h2⟩ := RA.get (i := i) (r := r) t (by simpa using e)
    exact ⟨v, by simpa using h1, h2⟩
theorem RA.getV {H : Hp} : ∀ {vs : List V} {rs : List Rp} {i : Nat} {v : V}, RA H vs rs → vs[i]? = some v → ∃ r, rs[i]? = some r ∧ r.p v H
  | _, _, _, _, .nil, e => by simp at e
  | _, _, 0, _, .cons h t, e => by simp at e; subst e; exact ⟨_, rfl, h⟩
  | _, _, i + 1, v, .cons h t, e => by
    obtain ⟨r, h1, h2⟩ := RA.getV (i := i) (v := v) t (by simpa using e)
    exact ⟨r, by simpa using h1, h2⟩
theorem RA.snoc {H : Hp} {vs : List V} {rs : List Rp} {v : V} {r : Rp} (h : RA H vs rs) (q : r.p v H) : RA H (vs ++ [v]) (rs ++ [r]) := Paired.snoc h q
theorem RA.append {H : Hp} : ∀ {vs ws : List V} {rs ss : List Rp}, RA H vs rs → RA H ws ss → RA H (vs ++ ws) (rs ++ ss)
  | _, _, _, _, .nil, q => q
  | _, _, _, _, .cons h t, q => .cons h (RA.append t q)
theorem RA.set {H : Hp} {v : V} {r : Rp} (q : r.p v H) : ∀ {vs : List V} {rs : List Rp} (i : Nat), RA H vs rs → RA H (vs.set i v) (rs.set i r)
  | _, _, _, .nil => .nil
  | _, _, 0, .cons _ t => .cons q t
  | _, _, i + 1, .cons h t => .cons h (RA.set q i t)

def rV (v : V) : Rp := ⟨fun x _ => x = v, fun _ h => h⟩
abbrev rI (i : Int) : Rp := rV (.int i)
abbrev rB (b : Bool) : Rp := rV (.bl b)
abbrev rS (s : Str) : Rp := rV (.str s)
def rL (_K : PySem.W.Frag) (rs : List Rp) : Rp := ⟨fun v H => ∃ a vs, v = .ref a ∧ H a = some (.lst vs) ∧ RA H vs rs, fun e ⟨a, vs, h1, h2, h3⟩ => ⟨a, vs, h1, e _ _ h2, h3.mono e⟩⟩
section
variable (K : PySem.W.Frag)
def rLs (rs : List Rp) : Rp := ⟨fun v H => ∃ a vs, v = .ref a ∧ SqL K H a vs ∧ RA H vs rs, fun e ⟨a, vs, h1, h2, h3⟩ => ⟨a, vs, h1, ex_l e h2, h3.mono e⟩⟩
def rT (rs : List Rp) : Rp := ⟨fun v H => ∃ a vs, v = .ref a ∧ SqT K H a vs ∧ RA H vs rs, fun e ⟨a, vs, h1, h2, h3⟩ => ⟨a, vs, h1, ex_t e h2, h3.mono e⟩⟩
abbrev nI (n : Nat) : Rp := rI (n : Int)
def rLn (l : List Nat) : Rp := rL K (l.map nI)
def rTn (l : List Nat) : Rp := rT K (l.map nI)
def rLL (l : List (List Nat)) : Rp := rL K (l.map (rLn K))
end
theorem ra_nats {H : Hp} : ∀ {l : List Nat}, RA H (l.map fun (n : Nat) => V.int (n : Int)) (l.map nI)
  | [] => .nil
  | _ :: r => .cons rfl (ra_nats (l := r))
theorem ra_nats_eq {H : Hp} : ∀ {l : List Nat} {vs : List V}, RA H vs (l.map nI) → vs = l.map fun (n : Nat) => V.int (n : Int)
  | [], _, .nil => rfl
  | n :: r, _, .cons h t => by
    have e1 := ra_nats_eq (l := r) t
    have e2 : _ = V.int (n : Int) := h
    rw [e1, e2]; rfl

def EvD (te : TE) (σ : L2.St) (G : Hp) (r : Rp) : Prop := ∀ H, Ex G H → ∀ Q : VK, (∀ v G2 H2, Gr G H G2 H2 → r.p v G2 → Q v H2) → te σ H Q
def EvN (te : TE) (σ : L2.St) (G : Hp) (rs : List Rp) : Prop := ∀ H, Ex G H → ∀ Q : VK, (∀ p vs G2 H2, Gr G H G2 H2 → H p = none → G2 p = none → H2 p = some (.lst vs) → RA G2 vs rs → Q (.ref p) H2) → te σ H Q
def EvAD (ta : TA) (σ : L2.St) (G : Hp) (rs : List Rp) : Prop := ∀ H, Ex G H → ∀ Q : List V → Hp → Prop, (∀ vs G2 H2, Gr G H G2 H2 → RA G2 vs rs → Q vs H2) → ta σ H Q
section
variable {σ : L2.St} {G G' : Hp} {te ta tb : TE} {r r1 r2 : Rp} {v w x y z : V} {K : PySem.W.Frag}
theorem EvD.mono (e : Ex G G') (h : EvD te σ G r) : EvD te σ G' r := fun H e' Q q =>
  h H (e.trans e') Q fun v G2 H2 g hp => q v (un G' G2) H2 (g.up e e') (r.mono (g.upr e') hp)
theorem EvN.mono {rs : List Rp} (e : Ex G G') (h : EvN te σ G rs) : EvN te σ G' rs := fun H e' Q q =>
  h H (e.trans e') Q fun p vs G2 H2 g hp gp h2 ra => q p vs (un G' G2) H2 (g.up e e') hp (by rw [un_r (fresh_back e' hp)]; exact gp) h2 (ra.mono (g.upr e'))
theorem EvAD.mono {ta : TA} {rs : List Rp} (e : Ex G G') (h : EvAD ta σ G rs) : EvAD ta σ G' rs := fun H e' Q q =>
  h H (e.trans e') Q fun vs G2 H2 g hp => q vs (un G' G2) H2 (g.up e e') (hp.mono (g.upr e'))
theorem Ev.d (h : Ev te σ G v) : EvD te σ G (rV v) := fun H e Q q => h H e Q fun H2 e2 => q v G H2 ((Gr.refl e).more e2) rfl
theorem EvD.ev (h : EvD te σ G (rV v)) : Ev te σ G v := fun H e Q q => h H e Q fun v' G2 H2 g (hv : v' = v) => by subst hv; exact q H2 g.h
theorem ed_var {i : Nat} (h : σ[i]? = some (some v)) (hr : r.p v G) : EvD (tVar i) σ G r := fun H e Q q => ⟨v, h, q v G H (Gr.refl e) hr⟩
theorem EvN.d {rs : List Rp} (h : EvN te σ G rs) : EvD te σ G (rL K rs) := fun H e Q q => h H e Q fun p vs G2 H2 g hp gp h2 ra => by
  have e2 : Ex (upd G2 p (.lst vs)) H2 := fun a u z => by
    by_cases c : a = p
    · subst c
      rw [upd_same] at z
      rw [h2]; exact z
    · rw [upd_ne c] at z
      exact g.i a u z
  refine q (.ref p) (upd G2 p (.lst vs)) H2 ⟨g.g.trans (Ex.new gp), g.h, e2, fun a u z t y => ?_⟩ ⟨p, vs, rfl, upd_same, ra.mono (Ex.new gp)⟩
  rw [upd_ne (ne_of_none z hp)]
  exact g.n a u z t y
theorem ead_nil : EvAD tNil σ G [] := fun H e Q q => q [] G H (Gr.refl e) .nil
theorem ead_cons {tr : TA} {rs : List Rp} (h : EvD te σ G r) (hr : EvAD tr σ G rs) : EvAD (tCons te tr) σ G (r :: rs) := fun H e Q q =>
  h H e _ fun v G2 H2 g hv => (hr.mono g.g) H2 g.i _ fun vs G3 H3 g3 hvs => q (v :: vs) G3 H3 (g.trans g3) (.cons (r.mono g3.g hv) hvs)
def SpD (sp : Sp) (vs : List V) (G : Hp) (r : Rp) : Prop := ∀ H, Ex G H → ∀ Q : VK, (∀ v G2 H2, Gr G H G2 H2 → r.p v G2 → Q v H2) → ∀ E : XK, sp vs H Q E
def SpN (sp : Sp) (vs : List V) (G : Hp) (rs : List Rp) : Prop := ∀ H, Ex G H → ∀ Q : VK, (∀ p vs G2 H2, Gr G H G2 H2 → H p = none → G2 p = none → H2 p = some (.lst vs) → RA G2 vs rs → Q (.ref p) H2) → ∀ E : XK, sp vs H Q E
theorem ed_call {sp : Sp} {E : XK} {ta : TA} {rs : List Rp} (h : EvAD ta σ G rs) (hs : ∀ vs G2, Ex G G2 → RA G2 vs rs → SpD sp vs G2 r) : EvD (tCall sp [] E ta) σ G r := fun H e Q q =>
  h H e _ fun vs G2 H2 g hv => by
    rw [List.append_nil]
    exact hs vs G2 g.g hv H2 g.i Q (fun v G3 H3 g3 hv3 => q v G3 H3 (g.trans g3) hv3) E
theorem en_call {sp : Sp} {E : XK} {ta : TA} {rs ss : List Rp} (h : EvAD ta σ G rs) (hs : ∀ vs G2, Ex G G2 → RA G2 vs rs → SpN sp vs G2 ss) : EvN (tCall sp [] E ta) σ G ss := fun H e Q q =>
  h H e _ fun vs G2 H2 g hv => by
    rw [List.append_nil]
    exact hs vs G2 g.g hv H2 g.i Q (fun p ws G3 H3 g3 hp gp h3 ra => q p ws G3 H3 (g.trans g3) (fresh_back g.h hp) gp h3 ra) E
theorem ed_op {rr : R2} (ha : EvD ta σ G r1) (hb : EvD tb σ G r2) (hs : ∀ x y G2 H, Ex G G2 → Ex G2 H → r1.p x G2 → r2.p y G2 → ∀ Q : VK, (∀ v G3 H3, Gr G2 H G3 H3 → r.p v G3 → Q v H3) → rr x y H Q) : EvD (tOp rr ta tb) σ G r := fun H e Q q =>
  ha H e _ fun x G2 H2 g hx => (hb.mono g.g) H2 g.i _ fun y G3 H3 g3 hy => hs x y G3 H3 (g.g.trans g3.g) g3.i (r1.mono g3.g hx) hy Q fun v G4 H4 g4 hv => q v G4 H4 ((g.trans g3).trans g4) hv
theorem en_op {rr : R2} {ss : List Rp} (ha : EvD ta σ G r1) (hb : EvD tb σ G r2) (hs : ∀ x y G2 H, Ex G G2 → Ex G2 H → r1.p x G2 → r2.p y G2 → ∀ Q : VK, (∀ p ws G3 H3, Gr G2 H G3 H3 → H p = none → G3 p = none → H3 p = some (.lst ws) → RA G3 ws ss → Q (.ref p) H3) → rr x y H Q) : EvN (tOp rr ta tb) σ G ss := fun H e Q q =>
  ha H e _ fun x G2 H2 g hx => (hb.mono g.g) H2 g.i _ fun y G3 H3 g3 hy => hs x y G3 H3 (g.g.trans g3.g) g3.i (r1.mono g3.g hx) hy Q fun p ws G4 H4 g4 hp gp h4 ra => q p ws G4 H4 ((g.trans g3).trans g4) (fresh_back (g.h.trans g3.h) hp) gp h4 ra
theorem ev_op2 {rr : R2} (ha : EvD ta σ G r1) (hb : EvD tb σ G r2) (hs : ∀ x y H, r1.p x H → r2.p y H → ∀ Q : VK, Q z H → rr x y H Q) : Ev (tOp rr ta tb) σ G z := EvD.ev (ed_op ha hb fun x y G2 H _ e hx hy Q q => hs x y H (r1.mono e hx) (r2.mono e hy) Q (q z G2 H (Gr.refl e) rfl))
theorem ed_ixT {rs : List Rp} {i : Nat} (ha : EvD ta σ G (rT K rs)) (hb : Ev tb σ G (.int (i : Int))) (hi : rs[i]? = some r) : EvD (tOp (rIxT K) ta tb) σ G r :=
  ed_op ha (Ev.d hb) fun x y G2 H _ e hx hy Q q => by
    obtain ⟨a, vs, rfl, h1, h2⟩ := hx
    obtain ⟨v, h3, h4⟩ := h2.get hi
    have hy' : y = .int (i : Int) := hy
    subst hy'
    exact ⟨a, vs, (i : Int), v, rfl, rfl, ex_t e h1, atI_nat h3, q v G2 H (Gr.refl e) h4⟩
theorem ed_ixL {rs : List Rp} {i : Nat} (ha : EvD ta σ G (rL K rs)) (hb : Ev tb σ G (.int (i : Int))) (hi : rs[i]? = some r) : EvD (tOp (rIxL K) ta tb) σ G r :=
  ed_op ha (Ev.d hb) fun x y G2 H _ e hx hy Q q => by
    obtain ⟨a, vs, rfl, h1, h2⟩ := hx
    obtain ⟨v, h3, h4⟩ := h2.get hi
    have hy' : y = .int (i : Int) := hy
    subst hy'
    exact ⟨a, vs, (i : Int), v, rfl, rfl, sq_of (e _ _ h1), atI_nat h3, q v G2 H (Gr.refl e) h4⟩
def rTupO (K : PySem.W.Frag) : List V → Hp → VK → Prop := fun xs H Q => ∃ p ys, xs = [.ref p] ∧ ((SqL K H p ys ∧ ∀ l, H l = none → Q (.ref l) (upd H l (.tup ys))) ∨ (SqT K H p ys ∧ Q (.ref p) H))
theorem ev_lenL {rs : List Rp} {n : Nat} (h : EvD te σ G (rL K rs)) (hn : rs.length = n) : Ev (tCB (rLenS K) (tCons te tNil)) σ G (.int (n : Int)) := fun H e Q q =>
  h H e _ fun v G2 H2 g ⟨a, vs, hv, h1, h2⟩ => by
    subst hv
    refine ⟨a, vs, rfl, Or.inl (sq_of (g.i _ _ h1)), ?_⟩
    rw [h2.len, hn]
    exact q H2 g.h
theorem ev_lenT {rs : List Rp} {n : Nat} (h : EvD te σ G (rT K rs)) (hn : rs.length = n) : Ev (tCB (rLenS K) (tCons te tNil)) σ G (.int (n : Int)) := fun H e Q q =>
  h H e _ fun v G2 H2 g ⟨a, vs, hv, h1, h2⟩ => by
    subst hv
    refine ⟨a, vs, rfl, Or.inr (ex_t g.i h1), ?_⟩
    rw [h2.len, hn]
    exact q H2 g.h
theorem en_listL {rs : List Rp} (h : EvD te σ G (rL K rs)) : EvN (tCB (rListS K) (tCons te tNil)) σ G rs := fun H e Q q =>
  h H e _ fun v G2 H2 g ⟨a, vs, hv, h1, h2⟩ => by
    subst hv
    exact ⟨a, vs, rfl, Or.inl (sq_of (g.i _ _ h1)), fun l hl => q l vs G2 _ (g.more (Ex.new hl)) (fresh_back g.h hl) (fresh_back g.i hl) upd_same h2⟩
theorem en_listT {rs : List Rp} (h : EvD te σ G (rT K rs)) : EvN (tCB (rListS K) (tCons te tNil)) σ G rs := fun H e Q q =>
  h H e _ fun v G2 H2 g ⟨a, vs, hv, h1, h2⟩ => by
    subst hv
    exact ⟨a, vs, rfl, Or.inr (ex_t g.i h1), fun l hl => q l vs G2 _ (g.more (Ex.new hl)) (fresh_back g.h hl) (fresh_back g.i hl) upd_same h2⟩
theorem ed_tupL {rs : List Rp} (h : EvD te σ G (rL K rs)) : EvD (tCB (rTupO K) (tCons te tNil)) σ G (rT K rs) := fun H e Q q =>
  h H e _ fun v G2 H2 g ⟨a, vs, hv, h1, h2⟩ => by
    subst hv
    refine ⟨a, vs, rfl, Or.inl ⟨sq_of (g.i _ _ h1), fun l hl => ?_⟩⟩
    have g3 := Gr.new (o := .tup vs) g.i hl
    exact q (.ref l) _ _ (g.trans g3) ⟨l, vs, rfl, st_of upd_same, h2.mono g3.g⟩
theorem ed_tup {ta : TA} {rs : List Rp} (h : EvAD ta σ G rs) (hl : rs.length ≤ 100000) : EvD (tTup ta) σ G (rT K rs) := fun H e Q q =>
  h H e _ fun vs G2 H2 g hv => ⟨sz_of (by rw [hv.len]; exact hl), fun p hp => by
    have g3 := Gr.new (o := .tup vs) g.i hp
    exact q (.ref p) _ _ (g.trans g3) ⟨p, vs, rfl, st_of upd_same, hv.mono g3.g⟩⟩
theorem en_lst {ta : TA} {rs : List Rp} (h : EvAD ta σ G rs) (hl : rs.length ≤ 100000) : EvN (tLst ta) σ G rs := fun H e Q q =>
  h H e _ fun vs G2 H2 g hv => ⟨sz_of (by rw [hv.len]; exact hl), fun p hp => q p vs G2 _ (g.more (Ex.new hp)) (fresh_back g.h hp) (fresh_back g.i hp) upd_same hv⟩
end

section
variable {σ : L2.St} {G : Hp} {te tl : TE} {t : TT} {K : PySem.W.Frag} {α : Type} {j : Nat} {vs : List Nat}
def Cm (G0 H0 : Hp) (Dl : Addr) (rs : List Rp) (H' : Hp) : Prop := H0 Dl = none ∧ ∃ G' ws, Gr G0 H0 G' H' ∧ G' Dl = none ∧ H' Dl = some (.lst ws) ∧ RA G' ws rs
theorem cm_turn {G0 H0 H' : Hp} {Dl : Addr} {rs : List Rp} {b : Bool} {r : Rp} {σ2 : L2.St} (hz : rs.length < 50000) (p : Cm G0 H0 Dl rs H') (ht : ∀ G1, Ex G0 G1 → Ex G1 H' → EvT t σ2 G1 b) (he : b = true → ∀ G1, Ex G0 G1 → Ex G1 H' → EvD te σ2 G1 r) :
    t σ2 H' fun b H3 => if b = true then te σ2 H3 fun y H4 => ∃ acc, H4 Dl = some (.lst acc) ∧ acc.length < sizeLine ∧ Cm G0 H0 Dl (rs ++ (if true = true then [r] else [])) (upd H4 Dl (.lst (acc ++ [y]))) else Cm G0 H0 Dl rs H3 := by
  obtain ⟨p1, G', ws, g, hG, hD, ra⟩ := p
  refine ht G' g.g g.i H' g.i _ fun H3 e3 => ?_
  cases b with
  | true =>
    show te σ2 H3 fun y H4 => _
    refine he rfl G' g.g g.i H3 (g.i.trans e3) _ fun y G4 H4 g4 hy => ⟨ws, g4.h _ _ (e3 _ _ hD), sz_lt (by rw [ra.len]; omega), p1, G4, ws ++ [y], ?_, g4.n _ _ (e3 _ _ hD) mt_lst hG, upd_same, (ra.mono g4.g).snoc hy⟩
    have q := (g.more e3).trans g4
    exact ⟨q.g, Ex.mut q.h p1, Ex.mut q.i (g4.n _ _ (e3 _ _ hD) mt_lst hG), q.n⟩
  | false =>
    show Cm G0 H0 Dl rs H3
    exact ⟨p1, G', ws, g.more e3, hG, e3 _ _ hD, ra⟩
theorem filter_take_succ {l : List α} {f : α → Bool} {rr : α → Rp} {i : Nat} {a : α} (h : l[i]? = some a) : ((l.take (i + 1)).filter f).map rr = ((l.take i).filter f).map rr ++ (if f a = true then [rr a] else []) := by
  rw [List.take_add_one, h, List.filter_append, List.map_append]
  congr 1
  cases q : f a <;> simp [q]
theorem cm_step {l : List α} {f : α → Bool} {rr : α → Rp} {G0 H0 H' : Hp} {Dl : Addr} {i : Nat} {a : α} {σ2 : L2.St} (h : l[i]? = some a) (hz : l.length ≤ 40000) (p : Cm G0 H0 Dl (((l.take i).filter f).map rr) H')
    (ht : ∀ G1, Ex G0 G1 → Ex G1 H' → EvT t σ2 G1 (f a)) (he : f a = true → ∀ G1, Ex G0 G1 → Ex G1 H' → EvD te σ2 G1 (rr a)) :
    t σ2 H' fun b H3 => if b = true then te σ2 H3 fun y H4 => ∃ acc, H4 Dl = some (.lst acc) ∧ acc.length < sizeLine ∧ Cm G0 H0 Dl (((l.take (i + 1)).filter f).map rr) (upd H4 Dl (.lst (acc ++ [y]))) else Cm G0 H0 Dl (((l.take (i + 1)).filter f).map rr) H3 := by
  rw [filter_take_succ h]
  have hl : (((l.take i).filter f).map rr).length < 50000 := by
    rw [List.length_map]
    have h1 := List.length_filter_le f (l.take i)
    have h2 := List.length_take_le i l
    have h3 : (l.take i).length ≤ l.length := by rw [List.length_take]; omega
    omega
  have z := cm_turn (t := t) (te := te) (r := rr a) (b := f a) hl p ht he
  cases q : f a with
  | true =>
    rw [q] at ht
    obtain ⟨p1, G', ws, g, hG, hD, ra⟩ := p
    refine ht G' g.g g.i H' g.i _ fun H3 e3 => ?_
    show te σ2 H3 fun y H4 => _
    refine he q G' g.g g.i H3 (g.i.trans e3) _ fun y G4 H4 g4 hy => ⟨ws, g4.h _ _ (e3 _ _ hD), sz_lt (by rw [ra.len]; omega), p1, G4, ws ++ [y], ?_, g4.n _ _ (e3 _ _ hD) mt_lst hG, upd_same, (ra.mono g4.g).snoc hy⟩
    have q := (g.more e3).trans g4
    exact ⟨q.g, Ex.mut q.h p1, Ex.mut q.i (g4.n _ _ (e3 _ _ hD) mt_lst hG), q.n⟩
  | false =>
    rw [q] at ht
    obtain ⟨p1, G', ws, g, hG, hD, ra⟩ := p
    refine ht G' g.g g.i H' g.i _ fun H3 e3 => ?_
    show Cm G0 H0 Dl (_ ++ []) H3
    rw [List.append_nil]
    exact ⟨p1, G', ws, g.more e3, hG, e3 _ _ hD, ra⟩
theorem cm_start {G0 H0 : Hp} {Dl : Addr} (e : Ex G0 H0) (h : H0 Dl = none) : Cm G0 H0 Dl [] (upd H0 Dl (.lst [])) := ⟨h, G0, [], Gr.out e h, fresh_back e h, upd_same, .nil⟩
theorem en_lcL (l : List α) (ρ : α → Rp) (f : α → Bool) (rr : α → Rp) (h : EvD tl σ G (rL K (l.map ρ))) (hz : l.length ≤ 40000) (hw : ∀ x, wipe ((wipe σ vs).set j (some x)) vs = wipe σ vs)
    (ht : ∀ a x G1, a ∈ l → Ex G G1 → (ρ a).p x G1 → EvT t ((wipe σ vs).set j (some x)) G1 (f a)) (he : ∀ a x G1, a ∈ l → f a = true → Ex G G1 → (ρ a).p x G1 → EvD te ((wipe σ vs).set j (some x)) G1 (rr a)) :
    EvN (tLc (iList K tl) (gName j) t te vs) σ G ((l.filter f).map rr) := fun H0 e Q q => h H0 e _ fun v G1 H1 g1 ⟨a, xs, hv, h1, h2⟩ => by
  subst hv
  refine ⟨a, rfl, ⟨xs, sq_of (g1.i _ _ h1)⟩, fun Dl hD => lc_list (xs := xs) (fun i H' => Cm G1 H1 Dl (((l.take i).filter f).map rr) H') (cm_start g1.i hD) (fun i H' _ p => ?_) (fun i x H' hi p => ⟨hw x, ?_⟩) (fun H' p => ?_)⟩
  · obtain ⟨_, G', ws, g, _, _, _⟩ := p
    exact sq_of ((g.g.trans g.i) _ _ h1)
  · obtain ⟨r, hr, hx⟩ := h2.getV hi
    rw [List.getElem?_map] at hr
    cases q2 : l[i]? with
    | none => rw [q2] at hr; cases hr
    | some b =>
      rw [q2] at hr
      have hr' : ρ b = r := Option.some.inj hr
      subst hr'
      have hm : b ∈ l := List.mem_of_getElem? q2
      exact cm_step q2 hz p (fun G2 e1 e2 => ht b x G2 hm (g1.g.trans e1) ((ρ b).mono e1 hx)) (fun hf G2 e1 e2 => he b x G2 hm hf (g1.g.trans e1) ((ρ b).mono e1 hx))
  · obtain ⟨p1, G', ws, g, hG, hD', ra⟩ := p
    have el : xs.length = l.length := by rw [h2.len, List.length_map]
    rw [el, List.take_length] at ra
    exact q Dl ws G' H' (g1.trans g) (fresh_back g1.h p1) hG hD' ra
theorem en_lcT (l : List α) (ρ : α → Rp) (f : α → Bool) (rr : α → Rp) (h : EvD tl σ G (rT K (l.map ρ))) (hz : l.length ≤ 40000) (hw : ∀ x, wipe ((wipe σ vs).set j (some x)) vs = wipe σ vs)
    (ht : ∀ a x G1, a ∈ l → Ex G G1 → (ρ a).p x G1 → EvT t ((wipe σ vs).set j (some x)) G1 (f a)) (he : ∀ a x G1, a ∈ l → f a = true → Ex G G1 → (ρ a).p x G1 → EvD te ((wipe σ vs).set j (some x)) G1 (rr a)) :
    EvN (tLc (iTup K tl) (gName j) t te vs) σ G ((l.filter f).map rr) := fun H0 e Q q => h H0 e _ fun v G1 H1 g1 ⟨a, xs, hv, h1, h2⟩ => by
  subst hv
  refine ⟨a, rfl, ⟨xs, ex_t g1.i h1⟩, fun Dl hD => lc_tup (xs := xs) (fun i H' => Cm G1 H1 Dl (((l.take i).filter f).map rr) H') (cm_start g1.i hD) (fun i H' _ p => ?_) (fun i x H' hi p => ⟨hw x, ?_⟩) (fun H' p => ?_)⟩
  · obtain ⟨_, G', ws, g, _, _, _⟩ := p
    exact ex_t (g.g.trans g.i) h1
  · obtain ⟨r, hr, hx⟩ := h2.getV hi
    rw [List.getElem?_map] at hr
    cases q2 : l[i]? with
    | none => rw [q2] at hr; cases hr
    | some b =>
      rw [q2] at hr
      have hr' : ρ b = r := Option.some.inj hr
      subst hr'
      have hm : b ∈ l := List.mem_of_getElem? q2
      exact cm_step q2 hz p (fun G2 e1 e2 => ht b x G2 hm (g1.g.trans e1) ((ρ b).mono e1 hx)) (fun hf G2 e1 e2 => he b x G2 hm hf (g1.g.trans e1) ((ρ b).mono e1 hx))
  · obtain ⟨p1, G', ws, g, hG, hD', ra⟩ := p
    have el : xs.length = l.length := by rw [h2.len, List.length_map]
    rw [el, List.take_length] at ra
    exact q Dl ws G' H' (g1.trans g) (fresh_back g1.h p1) hG hD' ra
theorem range_get {n i : Nat} (h : i < n) : (List.range n)[i]? = some i := by rw [List.getElem?_range h]
theorem en_lcR {ta : TA} (n : Nat) (f : Nat → Bool) (rr : Nat → Rp) (h : EvA ta σ G [.int (n : Int)]) (hz : n ≤ 40000) (hw : ∀ x, wipe ((wipe σ vs).set j (some x)) vs = wipe σ vs)
    (ht : ∀ (a : Nat) G1, a < n → Ex G G1 → EvT t ((wipe σ vs).set j (some (.int (a : Int)))) G1 (f a)) (he : ∀ (a : Nat) G1, a < n → f a = true → Ex G G1 → EvD te ((wipe σ vs).set j (some (.int (a : Int)))) G1 (rr a)) :
    EvN (tLc (iRng1 ta) (gName j) t te vs) σ G (((List.range n).filter f).map rr) := fun H0 e Q q => h H0 e _ fun H1 e1 => by
  refine ⟨(n : Int), rfl, by omega, by omega, fun Dl hD => ?_⟩
  have g1 := (Gr.refl e).more e1
  rw [Int.toNat_natCast]
  refine lc_range (lo := 0) (n := n) (fun i H' => Cm G H1 Dl ((((List.range n).take i).filter f).map rr) H') (cm_start g1.i hD) (fun i H' hi p => ?_) (fun H' p => ?_)
  · have e0 : (0 : Int) + (i : Int) = (i : Int) := Int.zero_add _
    rw [e0]
    exact ⟨hw _, cm_step (range_get hi) (by rw [List.length_range]; exact hz) p (fun G2 e1 e2 => ht i G2 hi e1) (fun hf G2 e1 e2 => he i G2 hi hf e1)⟩
  · obtain ⟨p1, G', ws, g, hG, hD', ra⟩ := p
    have el : (List.range n).length = n := List.length_range
    rw [show (List.range n).take n = List.range n by rw [List.take_of_length_le (by rw [el]; omega)]] at ra
    exact q Dl ws G' H' (g1.trans (⟨g.g, g.h, g.i, g.n⟩ : Gr G H1 G' H')) (fresh_back e1 p1) hG hD' ra
theorem yes_T {b : Bool} (h : b = true) : EvT tYes σ G b := fun H e Q q => by subst h; exact q H (Ex.refl H)
theorem en_is {rs ss : List Rp} (h : EvN te σ G rs) (e : rs = ss) : EvN te σ G ss := e ▸ h
theorem ed_is {r s : Rp} (h : EvD te σ G r) (e : r = s) : EvD te σ G s := e ▸ h
end

section
variable {σ : L2.St} {G H : Hp} {te ta : TE} {t : TT} {K : PySem.W.Frag} {D : Ends} {tu tw : TS} {v : V} {r : Rp} {i : Nat}
theorem s_set (e : Ex G H) (h : Ev te σ G v) (k : ∀ H1, Ex H H1 → D.nx (σ.set i (some v)) H1) : tAsg te (gName i) D σ H := h H e _ fun H1 e1 => k H1 e1
theorem s_setN {rs : List Rp} (e : Ex G H) (h : EvN te σ G rs) (k : ∀ p vs G2 H2, Gr G H G2 H2 → H p = none → G2 p = none → H2 p = some (.lst vs) → RA G2 vs rs → D.nx (σ.set i (some (.ref p))) H2) : tAsg te (gName i) D σ H := h H e _ k
theorem s_retE (e : Ex G H) (h : Ev te σ G v) (k : ∀ H1, Ex H H1 → D.rt v H1) : tRet te D σ H := h H e _ k
theorem s_retD (e : Ex G H) (h : EvD te σ G r) (k : ∀ v G2 H2, Gr G H G2 H2 → r.p v G2 → D.rt v H2) : tRet te D σ H := h H e _ k
theorem s_retN {rs : List Rp} (e : Ex G H) (h : EvN te σ G rs) (k : ∀ p vs G2 H2, Gr G H G2 H2 → H p = none → G2 p = none → H2 p = some (.lst vs) → RA G2 vs rs → D.rt (.ref p) H2) : tRet te D σ H := h H e _ k
theorem s_ifE {b : Bool} (e : Ex G H) (h : EvT t σ G b) (h1 : b = true → ∀ H1, Ex H H1 → tu D σ H1) (h2 : b = false → ∀ H1, Ex H H1 → tw D σ H1) : tIfS t tu tw D σ H := h H e _ fun H1 e1 => by
  cases b with
  | true =>
    show tu D σ H1
    exact h1 rfl H1 e1
  | false =>
    show tw D σ H1
    exact h2 rfl H1 e1
theorem s_doE (e : Ex G H) (h : Ev te σ G v) (k : ∀ H1, Ex H H1 → D.nx σ H1) : tDrop te D σ H := h H e _ k
end
end Mu

namespace Mu
open PySem PySem.Spec PyProof.Rows L2 Evl
section
variable {X : Cx} {CX : CXT} {k : Nat} {f C : Addr} {fd : FuncData} {ps : List Str} {sp : Sp} {E : XK}
theorem run_fnA {A : Around} {pins : List (Addr × Obj)} {σ : L2.St} {H : Hp} {s : Shared} {Q : VK} {us : List Value} {vs : List V} (hA : A.frames = X.A.frames) (F : FnOk X.prog X.w X.K X.mg X.base CX k f fd ps sp) (hr : Room k A) (hb : Binds X.K fd ps []) (hx : Passes CX X E)
    (I : Inv X pins σ H s) (r : Vals vs us) (h : sp vs H Q E) : wpAny (model X.prog X.w) A (call (.ref f) us) (EP X pins σ Q) X.xe s := by
  have hl : (us ++ []).length = ps.length := by rw [List.append_nil, ← r.length]; exact F.len _ _ _ _ h
  have e := I.env0
  have e0 : Env0 X.prog X.w X.K X.mg X.base A X.stack s H := ⟨by rw [hA]; exact e.frames, e.mod, e.bs, e.bsz, e.funs, e.frf, e.hok, e.bare⟩
  have hbb := hb s us I.kIn hl
  rw [List.append_nil] at hbb
  refine wpAny_call (codeAny_mono (F.run A X.stack s H ⟨us, []⟩ us vs Q E hr e0 hbb r h) fun r s' hq => ?_)
  cases r with
  | error e => exact hx pins σ H s e s' I hq
  | ok fl =>
    cases fl with
    | ret u => exact I.after hq
    | next => exact False.elim hq
    | brk => exact False.elim hq
    | cont => exact False.elim hq
structure Dun (K : PySem.W.Frag) (C : Addr) (m : Str) (f : Addr) : Prop where
  at_ : PySem.W.findIn K (.ref C) m = some (some (.ref f))
  fn : PySem.W.isFn K (.ref f) = true
def rOwnIn (C : Addr) (neg : Bool) (sp : Sp) (E : XK) : R2 := fun x y H Q => ∃ a dx fs, y = .ref a ∧ H a = some (.ins C dx fs) ∧ sp [.ref a, x] H (fun v H' => ∃ b, v = .bl b ∧ Q (.bl (if neg then !b else b)) H') E
theorem notIn_own (d : Dun X.K C "__contains__" f) (F : FnOk X.prog X.w X.K X.mg X.base CX k f fd ps sp) (hr : Room k X.A) (hb : Binds X.K fd ps []) (hx : Passes CX X E) : OpR X (compareOp .NotIn) (rOwnIn C true sp E) := by
  intro pins s σ H x y u v Q I rx ry h
  obtain ⟨a, dx, fs, rfl, ha, q⟩ := h
  cases ry
  obtain ⟨mA, J, _⟩ := ins_get I.hok ha
  obtain ⟨od, J, _⟩ := J.look
  obtain ⟨m0, hF⟩ := I.fr
  refine PySem.W.notIn_K hF I.ok.mod.kin J d.at_ d.fn (wpAny_mono (run_fnA (vs := [.ref a, x]) rfl F hr hb hx I (.cons rfl (.cons rx .nil)) q) (fun w s' h => ?_) (fun _ _ z => z))
  obtain ⟨z, H', I', rz, b, rfl, q'⟩ := h
  cases (show w = Value.bool b from rz)
  exact wpAny_truthy_bool ⟨.bl (!b), H', I', rfl, q'⟩
end
section
variable {X : Cx} {CX : CXT} {k : Nat} {f C : Addr} {fd : FuncData} {ps : List Str} {sp : Sp} {E : XK} {e fe : Expr} {es : List Expr} {tf : TE} {t : TA} {pos : Pos}
end
section
variable {X : Cx} (K : PySem.W.Frag) {tg l e a b o : Expr} {tl ta tb te to : TE} {f : Str} {pos : Pos}
theorem pi_listK (hl : PE X l tl) (hK : X.K = K := by rfl) : PI X tg l (iList K tl) := hK ▸ pi_list hl
theorem ix_listK (hK : X.K = K := by rfl) : IxR X (rIxL K) := hK ▸ ix_list
theorem ix_tupK (hK : X.K = K := by rfl) : IxR X (rIxT K) := hK ▸ ix_tup
theorem pe_fldK (he : PE X e ta) (hb : attributeBase e f X.env (eval e X.env) = eval e X.env := by rfl) (hK : X.K = K := by rfl) : PE X (.Attribute e f pos) (tFld K ta f) := hK ▸ pe_fld he hb
theorem call_lenK (hK : X.K = K := by rfl) : CallR X (.builtin "len") (rLenS K) := hK ▸ call_len_seq
theorem call_tupK (hK : X.K = K := by rfl) : CallR X (.type "tuple") (rTupO K) := hK ▸ call_tuple_of
theorem call_listK (hK : X.K = K := by rfl) : CallR X (.type "list") (rListS K) := hK ▸ call_list_of
theorem call_isiK (hK : X.K = K := by rfl) : CallR X (.builtin "isinstance") (rIsi K) := hK ▸ call_isi
theorem op_inK (hK : X.K = K := by rfl) : OpR X (compareOp .In) (rIn K false) := hK ▸ op_in_seq
theorem op_notInK (hK : X.K = K := by rfl) : OpR X (compareOp .NotIn) (rIn K true) := hK ▸ op_notIn_seq
theorem op_eqK (hu : X.A.units + 64 < cLine) (hK : X.K = K := by rfl) : OpR X (compareOp .Eq) (rEqD K) := hK ▸ op_eqD hu
theorem op_neK (hu : X.A.units + 64 < cLine) (hK : X.K = K := by rfl) : OpR X (compareOp .NotEq) (rNeD K) := hK ▸ op_neD hu
theorem sl_listK (hK : X.K = K := by rfl) : SlR X (rSlL K) := hK ▸ sl_list
end
end Mu

namespace Mu
open PySem PySem.Spec PyProof.Rows L2 He
def obsM (fa : List Fa) (ex : List FactB) (fn : List DefD) (K : PySem.W.Frag) : AlD := (((fa.all fun f => f.ok K) && ex.all fun f => f K) && fn.all fun d => d.ok K, fn.map fun d => fnW K d.at_)
def SaysM (fa : List Fa) (ex : List FactB) (fn : List DefD) (K : PySem.W.Frag) : Prop := obsM fa ex fn K = valD fn
section
variable {fa : List Fa} {ex : List FactB} {fn : List DefD} {K : PySem.W.Frag}
theorem SaysM.fact (c : SaysM fa ex fn K) (i : Nat) {f : Fa} (h : fa[i]? = some f := by rfl) : f.ok K = true := by
  have c1 := (ba (ba (show (((fa.all fun f => f.ok K) && ex.all fun f => f K) && fn.all fun d => d.ok K) = true from congrArg (fun z : AlD => z.1) c)).1).1
  exact List.all_eq_true.mp c1 f (List.mem_of_getElem? h)
theorem SaysM.exf (c : SaysM fa ex fn K) (i : Nat) {f : FactB} (h : ex[i]? = some f := by rfl) : f K = true := by
  have c1 := (ba (ba (show (((fa.all fun f => f.ok K) && ex.all fun f => f K) && fn.all fun d => d.ok K) = true from congrArg (fun z : AlD => z.1) c)).1).2
  exact List.all_eq_true.mp c1 f (List.mem_of_getElem? h)
theorem SaysM.def_ (c : SaysM fa ex fn K) (i : Nat) {d : DefD} (h : fn[i]? = some d := by rfl) : ∃ fd, FunD K d.name d.qual d.params d.body d.scope (d.dvs K) (d.kws K) (fAd K d.at_) fd := by
  have c2 := (ba (show (((fa.all fun f => f.ok K) && ex.all fun f => f K) && fn.all fun d => d.ok K) = true from congrArg (fun z : AlD => z.1) c)).2
  have e : fn.map (fun d => fnW K d.at_) = fn.map DefD.val := congrArg (fun z : AlD => z.2) c
  have e2 : (fn.map fun d => fnW K d.at_)[i]? = (fn.map DefD.val)[i]? := by rw [e]
  rw [List.getElem?_map, List.getElem?_map, h] at e2
  exact DefD.funD (Option.some.inj e2) (List.all_eq_true.mp c2 d (List.mem_of_getElem? h))
end
end Mu

namespace Mu
open PySem
theorem band_nat (a b : Nat) : Builtin.bitAnd (a : Int) (b : Int) = ((a &&& b : Nat) : Int) := by simp [Builtin.bitAnd]
theorem bor_nat (a b : Nat) : Builtin.bitOr (a : Int) (b : Int) = ((a ||| b : Nat) : Int) := by
  unfold Builtin.bitOr
  have h1 : ¬ (0 : Int) ≤ Builtin.bitNot (a : Int) := by unfold Builtin.bitNot; omega
  have h2 : ¬ (0 : Int) ≤ Builtin.bitNot (b : Int) := by unfold Builtin.bitNot; omega
  have n1 : Builtin.bitNot (Builtin.bitNot (a : Int)) = (a : Int) := by unfold Builtin.bitNot; omega
  have n2 : Builtin.bitNot (Builtin.bitNot (b : Int)) = (b : Int) := by unfold Builtin.bitNot; omega
  have e : Builtin.bitAnd (Builtin.bitNot (a : Int)) (Builtin.bitNot (b : Int)) = Builtin.bitNot (((a ||| b : Nat)) : Int) := by
    unfold Builtin.bitAnd
    rw [decide_eq_false h1, decide_eq_false h2]
    simp [n1, n2]
  rw [e]
  unfold Builtin.bitNot; omega
theorem shl_nat (k : Nat) : (1 : Int) * 2 ^ ((k : Int)).toNat = ((2 ^ k : Nat) : Int) := by
  rw [Int.toNat_natCast, Int.one_mul, Int.natCast_pow]; rfl
theorem shr_nat (n k : Nat) : (n : Int) / 2 ^ ((k : Int)).toNat = ((n / 2 ^ k : Nat) : Int) := by
  rw [Int.toNat_natCast, Int.natCast_ediv, Int.natCast_pow]; rfl
theorem shr1 (n : Nat) : (n : Int) / 2 ^ ((1 : Int)).toNat = ((n / 2 : Nat) : Int) := by
  have := shr_nat n 1
  simpa using this
theorem and1_test (n : Nat) : ((n &&& 1 : Nat) : Int) = 1 ↔ n.testBit 0 = true := by
  rw [Nat.and_one_is_mod, Nat.testBit_zero]
  simp
  omega
theorem shr_test (n k : Nat) : (n / 2 ^ k).testBit 0 = n.testBit k := by
  rw [← Nat.shiftRight_eq_div_pow, Nat.testBit_shiftRight]
  simp
theorem bit_test (n k : Nat) : decide (Builtin.bitAnd ((n : Int) / 2 ^ ((k : Int)).toNat) 1 = 1) = n.testBit k := by
  rw [shr_nat, show (1 : Int) = ((1 : Nat) : Int) from rfl, band_nat]
  rw [Bool.eq_iff_iff, decide_eq_true_iff]
  rw [show ((1 : Nat) : Int) = 1 from rfl, and1_test, shr_test]
theorem lt_pow_of_bits {n k : Nat} (h : ∀ i, n.testBit i = true → i < k) : n < 2 ^ k := by
  refine Nat.lt_pow_two_of_testBit n fun i hi => ?_
  cases q : n.testBit i with
  | false => rfl
  | true => exact absurd (h i q) (Nat.not_lt.mpr hi)
theorem bit_lt {n k i : Nat} (h : n < 2 ^ k) (hi : n.testBit i = true) : i < k := by
  rcases Nat.lt_or_ge i k with q | q
  · exact q
  · rw [Nat.testBit_lt_two_pow (Nat.lt_of_lt_of_le h (Nat.pow_le_pow_right (by decide) q))] at hi
    cases hi
def bitsN (n : Nat) : List Nat := (List.range n).filter n.testBit
theorem bits_more {n k : Nat} (h : n < 2 ^ k) : ∀ d : Nat, (List.range (k + d)).filter n.testBit = (List.range k).filter n.testBit
  | 0 => rfl
  | d + 1 => by
    rw [← Nat.add_assoc, List.range_succ, List.filter_append, bits_more h d]
    have z : n.testBit (k + d) = false := Nat.testBit_lt_two_pow (Nat.lt_of_lt_of_le h (Nat.pow_le_pow_right (by decide) (by omega)))
    simp [z]
theorem bits_eq {n k : Nat} (h : n < 2 ^ k) : (List.range k).filter n.testBit = bitsN n := by
  rcases Nat.le_total k n with q | q
  · have e := bits_more h (n - k)
    rw [show k + (n - k) = n by omega] at e
    exact e.symm
  · have e := bits_more (Nat.lt_two_pow_self (n := n)) (k - n)
    rw [show n + (k - n) = k by omega] at e
    exact e
theorem mem_bits {n i : Nat} : i ∈ bitsN n ↔ n.testBit i = true := by
  unfold bitsN
  rw [List.mem_filter, List.mem_range]
  exact ⟨fun h => h.2, fun h => ⟨bit_lt Nat.lt_two_pow_self h, h⟩⟩
theorem bits_len {n k : Nat} (h : n < 2 ^ k) : (bitsN n).length ≤ k := by
  rw [← bits_eq h]
  have := List.length_filter_le n.testBit (List.range k)
  rw [List.length_range] at this
  exact this
def maskN (l : List Nat) : Nat := l.foldl (fun m w => m ||| 2 ^ w) 0
theorem maskN_from (l : List Nat) : ∀ m i, (l.foldl (fun m w => m ||| 2 ^ w) m).testBit i = (m.testBit i || decide (i ∈ l)) := by
  induction l with
  | nil => intro m i; simp
  | cons w r ih =>
    intro m i
    rw [List.foldl_cons, ih, Nat.testBit_or, Nat.testBit_two_pow]
    simp only [List.mem_cons]
    by_cases h1 : w = i <;> by_cases h2 : i ∈ r <;> simp [h1, h2, eq_comm]
theorem maskN_bit (l : List Nat) (i : Nat) : (maskN l).testBit i = decide (i ∈ l) := by
  unfold maskN
  rw [maskN_from]; simp
theorem maskN_lt {l : List Nat} {k : Nat} (h : ∀ w ∈ l, w < k) : maskN l < 2 ^ k := lt_pow_of_bits fun i hi => by
  rw [maskN_bit] at hi
  exact h i (of_decide_eq_true hi)
theorem maskN_take {l : List Nat} {i : Nat} {w : Nat} (h : l[i]? = some w) : maskN (l.take (i + 1)) = maskN (l.take i) ||| 2 ^ w := by
  unfold maskN
  rw [List.take_add_one, h, List.foldl_append]
  rfl
structure Wf (n : Nat) (m : List Nat) : Prop where
  len : m.length = n
  lt : ∀ x ∈ m, x < 2 ^ n
theorem Wf.get {n : Nat} {m : List Nat} (h : Wf n m) (a : Nat) : m.getD a 0 < 2 ^ n := by
  rw [List.getD_eq_getElem?_getD]
  cases q : m[a]? with
  | none => exact Nat.two_pow_pos n
  | some x => exact h.lt x (List.mem_of_getElem? q)
end Mu
namespace Mu
theorem maskN_bits (n : Nat) : maskN (bitsN n) = n := Nat.eq_of_testBit_eq fun i => by
  rw [maskN_bit, Bool.eq_iff_iff, decide_eq_true_iff, mem_bits]
end Mu
namespace Mu
end Mu

namespace Mu
open PySem L2 Evl
def spN (R : List V → Hp → List Rp → Prop) : Sp := fun vs H Q _ => ∃ G rs, Ex G H ∧ R vs G rs ∧ ∀ p ws G2 H2, Gr G H G2 H2 → H p = none → G2 p = none → H2 p = some (.lst ws) → RA G2 ws rs → Q (.ref p) H2
def spD (R : List V → Hp → Rp → Prop) : Sp := fun vs H Q _ => ∃ G r, Ex G H ∧ R vs G r ∧ ∀ v G2 H2, Gr G H G2 H2 → r.p v G2 → Q v H2
theorem SpN.of {R : List V → Hp → List Rp → Prop} {vs : List V} {G : Hp} {rs : List Rp} (h : R vs G rs) : SpN (spN R) vs G rs := fun H e Q q _ => ⟨G, rs, e, h, q⟩
theorem SpD.of {R : List V → Hp → Rp → Prop} {vs : List V} {G : Hp} {r : Rp} (h : R vs G r) : SpD (spD R) vs G r := fun H e Q q _ => ⟨G, r, e, h, q⟩
section
variable {σ : L2.St} {G H : Hp} {te ta tb : TE} {t u : TT} {K : PySem.W.Frag} {D : Ends} {tu tw : TS} {v x y z : V} {r : Rp} {i : Nat}
theorem sq {t1 t2 : TS} (h : t1 { D with nx := t2 D } σ H) : tSeq t1 t2 D σ H := h
theorem nxt (h : D.nx σ H) : tNext D σ H := h
theorem et_cmp {p : Int → Int → Bool} {a b : Int} (ha : Ev ta σ G (.int a)) (hb : Ev tb σ G (.int b)) : EvT (tTest (tOp (rI0 fun i j => .bl (p i j)) ta tb)) σ G (p a b) := et_test (ev_op ha hb rv_I0)
theorem et_eq (ha : Ev ta σ G x) (hb : Ev tb σ G y) (hs : scal x y = true) : EvT (tTest (tOp rEq ta tb)) σ G (decide (x = y)) := et_test (ev_op ha hb (rv_eq hs))
theorem et_ne (ha : Ev ta σ G x) (hb : Ev tb σ G y) (hs : scal x y = true) : EvT (tTest (tOp rNe ta tb)) σ G (!decide (x = y)) := et_test (ev_op ha hb (rv_ne hs))
theorem ev_callD {sp : Sp} {E : XK} {ta : TA} {rs : List Rp} (h : EvAD ta σ G rs) (hs : ∀ vs G2, Ex G G2 → RA G2 vs rs → SpD sp vs G2 (rV v)) : Ev (tCall sp [] E ta) σ G v := EvD.ev (ed_call h hs)
theorem ra1 {G : Hp} {vs : List V} {r : Rp} (h : RA G vs [r]) : ∃ v, vs = [v] ∧ r.p v G := by
  cases h with
  | cons h t => cases t; exact ⟨_, rfl, h⟩
theorem ra2 {G : Hp} {vs : List V} {r r' : Rp} (h : RA G vs [r, r']) : ∃ v w, vs = [v, w] ∧ r.p v G ∧ r'.p w G := by
  cases h with
  | cons h t =>
    obtain ⟨w, e, hw⟩ := ra1 t
    exact ⟨_, w, by rw [e], h, hw⟩
theorem ra3 {G : Hp} {vs : List V} {r r' r'' : Rp} (h : RA G vs [r, r', r'']) : ∃ v w x, vs = [v, w, x] ∧ r.p v G ∧ r'.p w G ∧ r''.p x G := by
  cases h with
  | cons h t =>
    obtain ⟨w, x, e, hw⟩ := ra2 t
    exact ⟨_, w, x, by rw [e], h, hw⟩
end
section
variable {σ : L2.St} {G H : Hp} {tl : TE} {K : PySem.W.Frag} {D : Ends} {tu : TS} {j : Nat} {α : Type} {ta : TA}
theorem s_forL (l : List α) (ρ : α → Rp) (e : Ex G H) (h : EvD tl σ G (rL K (l.map ρ))) (Pv : Hp → Nat → L2.St → Hp → Prop) (h0 : ∀ G1 H1, Gr G H G1 H1 → Pv G1 0 σ H1) (hk : ∀ G1 i σ' H', Pv G1 i σ' H' → Ex G1 H')
    (hs : ∀ G1 i a x σ' H', Ex G G1 → l[i]? = some a → (ρ a).p x G1 → Pv G1 i σ' H' → tu { D with nx := Pv G1 (i + 1), ct := Pv G1 (i + 1), bk := D.nx } (σ'.set j (some x)) H') (hd : ∀ G1 σ' H', Ex G G1 → Pv G1 l.length σ' H' → D.nx σ' H') :
    tFor (iList K tl) (gName j) tu D σ H := h H e _ fun v G1 H1 g1 ⟨a, vs, hv, h1, h2⟩ => by
  subst hv
  have el : vs.length = l.length := by rw [h2.len, List.length_map]
  refine ⟨a, rfl, ⟨vs, sq_of (g1.i _ _ h1)⟩, for_list (xs := vs) (Pv G1) (h0 G1 H1 g1) (fun i σ' H' _ p => sq_of ((hk G1 i σ' H' p) _ _ h1)) (fun i x σ' H' hi p => ?_) (fun σ' H' p => hd G1 σ' H' g1.g (el ▸ p))⟩
  obtain ⟨r, hr, hx⟩ := h2.getV hi
  rw [List.getElem?_map] at hr
  cases q2 : l[i]? with
  | none => rw [q2] at hr; cases hr
  | some b =>
    rw [q2] at hr
    have hr' : ρ b = r := Option.some.inj hr
    subst hr'
    exact hs G1 i b x σ' H' g1.g q2 hx p
theorem s_forR (n : Nat) (e : Ex G H) (h : EvA ta σ G [.int (n : Int)]) (hn : n ≤ 100000) (Pv : Nat → L2.St → Hp → Prop) (h0 : ∀ H1, Ex H H1 → Pv 0 σ H1)
    (hs : ∀ (i : Nat) σ' H', i < n → Pv i σ' H' → tu { D with nx := Pv (i + 1), ct := Pv (i + 1), bk := D.nx } (σ'.set j (some (.int (i : Int)))) H') (hd : ∀ σ' H', Pv n σ' H' → D.nx σ' H') : tFor (iRng1 ta) (gName j) tu D σ H :=
  h H e _ fun H1 e1 => ⟨(n : Int), rfl, by omega, by omega, by
    rw [Int.toNat_natCast]
    refine for_range (lo := 0) (n := n) Pv (h0 H1 e1) (fun i σ' H' hi p => ?_) hd
    rw [Int.zero_add]
    exact hs i σ' H' hi p⟩
theorem s_forE {ta : TA} {j' : Nat} (l : List α) (ρ : α → Rp) (e : Ex G H) (h : EvAD ta σ G [rL K (l.map ρ)]) (Pv : Hp → Nat → L2.St → Hp → Prop) (h0 : ∀ G1 H1, Gr G H G1 H1 → Pv G1 0 σ H1) (hk : ∀ G1 i σ' H', Pv G1 i σ' H' → Ex G1 H')
    (hm : ∀ G1 i σ' H' H'', Pv G1 i σ' H' → Ex H' H'' → Pv G1 i σ' H'')
    (hs : ∀ G1 i a x σ' H', Ex G G1 → l[i]? = some a → (ρ a).p x G1 → Pv G1 i σ' H' → tu { D with nx := Pv G1 (i + 1), ct := Pv G1 (i + 1), bk := D.nx } ((σ'.set j (some (.int (i : Int)))).set j' (some x)) H') (hd : ∀ G1 σ' H', Ex G G1 → Pv G1 l.length σ' H' → D.nx σ' H') :
    tFor (iEnum K ta) (gTup K 2 (gCons (gName j) (gCons (gName j') gNil))) tu D σ H := h H e _ fun ws G1 H1 g1 hw => by
  obtain ⟨v, rfl, a, vs, rfl, h1, h2⟩ := ra1 hw
  have el : vs.length = l.length := by rw [h2.len, List.length_map]
  refine ⟨a, vs, rfl, sq_of (g1.i _ _ h1), fun i m σ' H' => m = vs.length - i ∧ i ≤ vs.length ∧ Pv G1 i σ' H', ⟨vs.length, by simp, Nat.zero_le _, h0 G1 H1 g1⟩, ?_⟩
  rintro i m σ' H' ⟨rfl, hi, p⟩
  have q : SqL K H' a vs := sq_of ((hk G1 i σ' H' p) _ _ h1)
  by_cases hlt : i < vs.length
  · refine .inr ⟨⟨vs, vs[i], q, by simp [hlt]⟩, Pv G1 (i + 1), fun σ2 H2 p' => ⟨vs.length - (i + 1), by omega, rfl, hlt, p'⟩, fun x H2 y => ?_⟩
    obtain ⟨T, x', rfl, hT, rfl, y⟩ := y
    have hx := y vs q
    refine ⟨T, _, rfl, st_of upd_same, rfl, _, _, rfl, _, _, rfl, rfl, ?_⟩
    obtain ⟨r, hr, hx'⟩ := h2.getV hx
    rw [List.getElem?_map] at hr
    cases q2 : l[i]? with
    | none => rw [q2] at hr; cases hr
    | some b =>
      rw [q2] at hr
      have hr' : ρ b = r := Option.some.inj hr
      subst hr'
      exact hs G1 i b x' σ' _ g1.g q2 hx' (hm G1 i σ' H' _ p (Ex.new hT))
  · have e : i = vs.length := by omega
    subst e
    exact .inl ⟨⟨vs, q, Nat.le_refl _⟩, hd G1 σ' H' g1.g (el ▸ p)⟩
end
end Mu

namespace Mu
open PySem L2 Evl
section
variable {σ : L2.St} {G H : Hp} {te tl ta : TE} {t : TT} {K : PySem.W.Frag} {α : Type} {j : Nat} {vs : List Nat}
theorem yes_ite {σ : L2.St} {H : Hp} {A B : Hp → Prop} (h : A H) : tYes σ H (fun b H3 => if b = true then A H3 else B H3) := by
  show (if true = true then A H else B H)
  rw [if_pos rfl]
  exact h
theorem filter_yes {l : List α} {rr : α → Rp} : (l.filter fun _ => true).map rr = l.map rr := by
  congr 1
  exact List.filter_eq_self.mpr fun _ _ => rfl
theorem en_lcL0 (l : List α) (ρ : α → Rp) (rr : α → Rp) (h : EvD tl σ G (rL K (l.map ρ))) (hz : l.length ≤ 40000) (hw : ∀ x, wipe ((wipe σ vs).set j (some x)) vs = wipe σ vs)
    (he : ∀ a x G1, a ∈ l → Ex G G1 → (ρ a).p x G1 → EvD te ((wipe σ vs).set j (some x)) G1 (rr a)) : EvN (tLc (iList K tl) (gName j) tYes te vs) σ G (l.map rr) :=
  en_is (en_lcL l ρ (fun _ => true) rr h hz hw (fun _ _ _ _ _ _ => yes_T rfl) fun a x G1 hm _ e hx => he a x G1 hm e hx) filter_yes
theorem en_lc2R {ta : TA} {te1 tl1 : TE} {j1 : Nat} {vs vs1 : List Nat} (n : Nat) (l : Nat → List α) (ρ : α → Rp) (rr : Nat → α → Rp) (h : EvA ta σ G [.int (n : Int)]) (hz : n ≤ 100) (hz1 : ∀ a, a < n → (l a).length ≤ 100)
    (hw : ∀ x, wipe ((wipe σ vs).set j (some x)) vs = wipe σ vs) (hw1 : ∀ x y, wipe ((wipe ((wipe σ vs).set j (some x)) vs1).set j1 (some y)) vs1 = wipe ((wipe σ vs).set j (some x)) vs1)
    (hl : ∀ (a : Nat) G1, a < n → Ex G G1 → EvD tl1 ((wipe σ vs).set j (some (.int (a : Int)))) G1 (rL K ((l a).map ρ)))
    (he : ∀ (a : Nat) (b : α) x G1, a < n → b ∈ l a → Ex G G1 → (ρ b).p x G1 → EvD te1 ((wipe ((wipe σ vs).set j (some (.int (a : Int)))) vs1).set j1 (some x)) G1 (rr a b)) :
    EvN (tLc2 (iRng1 ta) (gName j) tYes (iList K tl1) (gName j1) tYes te1 vs vs1) σ G ((List.range n).flatMap fun a => (l a).map (rr a)) := fun H0 e Q q => h H0 e _ fun H1 e1 => by
  refine ⟨(n : Int), rfl, by omega, by omega, fun Dl hD => ?_⟩
  have g1 := (Gr.refl e).more e1
  rw [Int.toNat_natCast]
  have hsz : ∀ i, ((List.range i).flatMap fun a => (l a).map (rr a)).length ≤ i * 100 ∨ n < i := fun i => by
    induction i with
    | zero => exact .inl (by simp)
    | succ i ih =>
      rcases ih with ih | ih
      · rcases Nat.lt_or_ge i n with z | z
        · refine .inl ?_
          rw [List.range_succ, List.flatMap_append, List.length_append]
          have := hz1 i z
          rw [List.flatMap_cons, List.flatMap_nil, List.append_nil, List.length_map]
          omega
        · exact .inr (by omega)
      · exact .inr (by omega)
  refine ⟨fun i m H' => m = n - i ∧ i ≤ n ∧ Cm G H1 Dl ((List.range i).flatMap fun a => (l a).map (rr a)) H', ⟨n, by simp, Nat.zero_le _, cm_start g1.i hD⟩, ?_⟩
  rintro i m H' ⟨rfl, hi, p⟩
  by_cases hlt : i < n
  · refine .inr ⟨hlt, fun H' => Cm G H1 Dl ((List.range (i + 1)).flatMap fun a => (l a).map (rr a)) H', fun H2 p' => ⟨n - (i + 1), by omega, rfl, hlt, p'⟩, fun x H2 y => ?_⟩
    obtain ⟨ex, ey⟩ := y
    subst ex ey
    rw [show (0 : Int) + (i : Int) = (i : Int) from Int.zero_add _]
    refine ⟨hw _, ?_⟩
    refine yes_ite ?_
    obtain ⟨p1, G', ws, g, hG, hD', ra⟩ := p
    refine hl i G' hlt g.g _ g.i _ fun v G3 H3 g3 ⟨a, xs, hv, h1, h2⟩ => ?_
    subst hv
    have el : xs.length = (l i).length := by rw [h2.len, List.length_map]
    refine ⟨a, rfl, ⟨xs, sq_of (g3.i _ _ h1)⟩, fun k m' H' => m' = xs.length - k ∧ k ≤ xs.length ∧ Ex G3 H' ∧ Cm G H1 Dl (((List.range i).flatMap fun a => (l a).map (rr a)) ++ ((l i).take k).map (rr i)) H' ∧ ∃ G4 ws, Gr G H1 G4 H' ∧ Ex G3 G4 ∧ G4 Dl = none ∧ H' Dl = some (.lst ws) ∧ RA G4 ws (((List.range i).flatMap fun a => (l a).map (rr a)) ++ ((l i).take k).map (rr i)), ⟨xs.length, by simp, Nat.zero_le _, g3.i, ?_, ?_⟩, ?_⟩
    · rw [List.take_zero, List.map_nil, List.append_nil]
      exact ⟨p1, G3, ws, g.trans g3, g3.n _ _ hD' mt_lst hG, g3.h _ _ hD', ra.mono g3.g⟩
    · rw [List.take_zero, List.map_nil, List.append_nil]
      exact ⟨G3, ws, g.trans g3, Ex.refl _, g3.n _ _ hD' mt_lst hG, g3.h _ _ hD', ra.mono g3.g⟩
    · rintro k m' H5 ⟨rfl, hk, e5, _, G4, ws4, g4, e34, hG4, hD4, ra4⟩
      by_cases hlk : k < xs.length
      · refine .inr ⟨⟨xs, xs[k], sq_of (e5 _ _ h1), by simp [hlk]⟩, fun H' => Ex G3 H' ∧ Cm G H1 Dl (((List.range i).flatMap fun a => (l a).map (rr a)) ++ ((l i).take (k + 1)).map (rr i)) H' ∧ ∃ G4 ws, Gr G H1 G4 H' ∧ Ex G3 G4 ∧ G4 Dl = none ∧ H' Dl = some (.lst ws) ∧ RA G4 ws (((List.range i).flatMap fun a => (l a).map (rr a)) ++ ((l i).take (k + 1)).map (rr i)),
          fun H6 p' => ⟨xs.length - (k + 1), by omega, rfl, hlk, p'⟩, fun x H6 y => ?_⟩
        obtain ⟨ey, y⟩ := y
        subst ey
        have hx := y xs (sq_of (e5 _ _ h1))
        obtain ⟨r, hr, hx'⟩ := h2.getV hx
        rw [List.getElem?_map] at hr
        cases q2 : (l i)[k]? with
        | none => rw [q2] at hr; cases hr
        | some b =>
          rw [q2] at hr
          have hr' : ρ b = r := Option.some.inj hr
          subst hr'
          refine ⟨hw1 _ _, ?_⟩
          refine yes_ite ?_
          refine (he i b x G4 hlt (List.mem_of_getElem? q2) g4.g ((ρ b).mono e34 hx')) _ g4.i _ fun y G6 H6 g6 hy => ?_
          have hlen : (((List.range i).flatMap fun a => (l a).map (rr a)) ++ ((l i).take k).map (rr i)).length < 50000 := by
            have z1 := hsz i
            have z2 := hz1 i hlt
            rw [List.length_append, List.length_map, List.length_take]
            omega
          have gg := g4.trans g6
          have n6 : G6 Dl = none := g6.n _ _ hD4 mt_lst hG4
          have ee : (((List.range i).flatMap fun a => (l a).map (rr a)) ++ ((l i).take k).map (rr i)) ++ [rr i b] = ((List.range i).flatMap fun a => (l a).map (rr a)) ++ ((l i).take (k + 1)).map (rr i) := by
            rw [List.take_add_one, q2, List.append_assoc, List.map_append]
            rfl
          have g7 : Gr G H1 G6 (upd H6 Dl (.lst (ws4 ++ [y]))) := ⟨gg.g, Ex.mut gg.h p1, Ex.mut gg.i n6, gg.n⟩
          have r7 : RA G6 (ws4 ++ [y]) (((List.range i).flatMap fun a => (l a).map (rr a)) ++ ((l i).take (k + 1)).map (rr i)) := ee ▸ (ra4.mono g6.g).snoc hy
          exact ⟨ws4, g6.h _ _ hD4, sz_lt (by rw [ra4.len]; omega), (e34.trans g6.g).trans g7.i, ⟨p1, G6, _, g7, n6, upd_same, r7⟩, G6, _, g7, e34.trans g6.g, n6, upd_same, r7⟩
      · have ek : k = xs.length := by omega
        subst ek
        refine .inl ⟨⟨xs, sq_of (e5 _ _ h1), Nat.le_refl _⟩, p1, G4, ws4, g4, hG4, hD4, ?_⟩
        rw [List.range_succ, List.flatMap_append]
        rw [el, List.take_length] at ra4
        simpa using ra4
  · have ei : i = n := by omega
    subst ei
    obtain ⟨p1, G', ws, g, hG, hD', ra⟩ := p
    exact .inl ⟨Nat.le_refl _, q Dl ws G' H' (g1.trans g) (fresh_back e1 p1) hG hD' ra⟩
end
def pairsN (m : List Nat) : List (Nat × Nat) := (List.range m.length).flatMap fun a => (bitsN (m.getD a 0)).map fun b => (a, b)
section
variable (K : PySem.W.Frag) (C : Addr)
def rP (p : Nat × Nat) : Rp := rT K [nI p.1, nI p.2]
def tabF (n : Nat) (t c : Addr) : List (Str × V) := [("size", .int (n : Int)), ("masks", .ref t), ("cells", .ref c)]
def rTab (m : List Nat) : Rp := ⟨fun v H => ∃ a dx t c, v = .ref a ∧ H a = some (.ins C dx (tabF m.length t c)) ∧ (rTn K m).p (.ref t) H ∧ (rT K ((pairsN m).map (rP K))).p (.ref c) H,
  fun e ⟨a, dx, t, c, h1, h2, h3, h4⟩ => ⟨a, dx, t, c, h1, e _ _ h2, (rTn K _).mono e h3, (rT K _).mono e h4⟩⟩
def spTab : Sp := fun vs H Q _ => ∃ p dx x G rows, vs = [.ref p, x] ∧ H p = some (.ins C dx []) ∧ Ex G H ∧ G p = none ∧ (rLL K rows).p x G ∧ 1 ≤ rows.length ∧ rows.length ≤ 6 ∧ (∀ r ∈ rows, r.length ≤ 100 ∧ ∀ w ∈ r, w < rows.length) ∧
  ∀ H2 G2 t c, Ex G G2 → (∀ a o, H a = some o → a ≠ p → H2 a = some o) → Ex G2 H2 → (∀ a o, H a = some o → Mt o → G a = none → G2 a = none) → H2 p = some (.ins C dx (tabF rows.length t c)) → (rTn K (rows.map maskN)).p (.ref t) G2 → (rT K ((pairsN (rows.map maskN)).map (rP K))).p (.ref c) G2 → Q .non H2
end
section
variable {K : PySem.W.Frag} {C : Addr} {σ : L2.St} {G H : Hp} {ta te : TE} {m : List Nat}
theorem ed_tab {rows : List (List Nat)} {E : XK} (h : EvD ta σ G (rLL K rows)) (h1 : 1 ≤ rows.length) (h6 : rows.length ≤ 6) (hr : ∀ r ∈ rows, r.length ≤ 100 ∧ ∀ w ∈ r, w < rows.length) :
    EvD (tMake C (spTab K C) [] E (tCons ta tNil)) σ G (rTab K C (rows.map maskN)) := fun H e Q q => h H e _ fun v G2 H2 g hv => fun x dx hx hdx hne => by
  have ed : Ex H2 (upd (upd H2 dx (.own x)) x (.ins C dx [])) := (Ex.new hdx).trans (Ex.new (by rw [upd_ne (Ne.symm hne)]; exact hx))
  refine ⟨x, dx, v, G2, rows, rfl, upd_same, g.i.trans ed, fresh_back g.i hx, hv, h1, h6, hr, fun H3 G3 t c e3 k3 i3 n3 p3 t3 c3 => ⟨rfl, ?_⟩⟩
  have hx2 : (upd (upd H2 dx (.own x)) x (.ins C dx [])) x = some (.ins C dx []) := upd_same
  have gx : G3 x = none := n3 x _ hx2 mt_ins (fresh_back g.i hx)
  have len : (rows.map maskN).length = rows.length := List.length_map _
  refine q (.ref x) (upd G3 x (.ins C dx (tabF rows.length t c))) H3 ⟨(g.g.trans e3).trans (Ex.new gx), fun a o z => ?_, fun a o z => ?_, fun a o z tt y => ?_⟩ ⟨x, dx, t, c, rfl, by rw [len]; exact upd_same, (rTn K _).mono (Ex.new gx) t3, (rT K _).mono (Ex.new gx) c3⟩
  · have z2 := g.h a o z
    exact k3 a o (ed a o z2) (ne_of_none z2 hx)
  · by_cases c1 : a = x
    · subst c1
      rw [upd_same] at z
      rw [p3]; exact z
    · rw [upd_ne c1] at z
      exact i3 a o z
  · have z2 := g.h a o z
    rw [upd_ne (ne_of_none z2 hx)]
    exact n3 a o (ed a o z2) tt (g.n a o z tt y)
theorem tabF_masks {n : Nat} {t c : Addr} : (tabF n t c).lookup ("masks" : Str) = some (.ref t) := by
  have h1 : (("masks" : Str) == ("size" : Str)) = false := by decide +kernel
  unfold tabF
  simp [List.lookup, h1]
theorem tabF_cells {n : Nat} {t c : Addr} : (tabF n t c).lookup ("cells" : Str) = some (.ref c) := by
  have h1 : (("cells" : Str) == ("size" : Str)) = false := by decide +kernel
  have h2 : (("cells" : Str) == ("masks" : Str)) = false := by decide +kernel
  unfold tabF
  simp [List.lookup, h1, h2]
theorem ev_size (h : EvD ta σ G (rTab K C m)) (hc : Cls K C) (hn : NoAttr K C "size") : Ev (tFld K ta "size") σ G (.int (m.length : Int)) := fun H e Q q => h H e _ fun v G2 H2 g hv => by
  obtain ⟨a, dx, t, c, rfl, h2, h3, h4⟩ := hv
  exact ⟨a, C, dx, _, _, rfl, g.i _ _ h2, hc, hn, rfl, q H2 g.h⟩
theorem ed_masks (h : EvD ta σ G (rTab K C m)) (hc : Cls K C) (hn : NoAttr K C "masks") : EvD (tFld K ta "masks") σ G (rTn K m) := fun H e Q q => h H e _ fun v G2 H2 g hv => by
  obtain ⟨a, dx, t, c, rfl, h2, h3, h4⟩ := hv
  exact ⟨a, C, dx, _, .ref t, rfl, g.i _ _ h2, hc, hn, tabF_masks, q _ G2 H2 g h3⟩
theorem ed_cells (h : EvD ta σ G (rTab K C m)) (hc : Cls K C) (hn : NoAttr K C "cells") : EvD (tFld K ta "cells") σ G (rT K ((pairsN m).map (rP K))) := fun H e Q q => h H e _ fun v G2 H2 g hv => by
  obtain ⟨a, dx, t, c, rfl, h2, h3, h4⟩ := hv
  exact ⟨a, C, dx, _, .ref c, rfl, g.i _ _ h2, hc, hn, tabF_cells, q _ G2 H2 g h4⟩
end
section
variable {K : PySem.W.Frag} {C : Addr} {σ : L2.St} {G H : Hp} {ta tv : TE} {f : Str} {D : Ends} {r : Rp}
theorem s_fld {p dx : Addr} {fs : List (Str × V)} (e : Ex G H) (hp : H p = some (.ins C dx fs)) (gp : G p = none) (hv : EvD tv σ G r) (ha : Ev ta σ G (.ref p)) (hc : Cls K C) (hn : NoAttr K C f) (hl : fs.length < 1000)
    (k : ∀ y G2 H2, Ex G G2 → (∀ a o, H a = some o → a ≠ p → H2 a = some o) → Ex G2 H2 → (∀ a o, H a = some o → Mt o → G a = none → G2 a = none) → G2 p = none → r.p y G2 → H2 p = some (.ins C dx (putF f y fs)) → D.nx σ H2) : sFld K ta tv f D σ H :=
  hv H e _ fun y G2 H2 g hy => ha H2 (g.g.trans g.i) _ fun H3 e3 => by
    have g2 : G2 p = none := g.n p _ hp mt_ins gp
    refine ⟨p, C, dx, fs, rfl, e3 _ _ (g.h _ _ hp), hc, hn, hl, k y G2 _ g.g (fun a o z n => ?_) (Ex.mut (g.i.trans e3) g2) g.n g2 hy upd_same⟩
    rw [upd_ne n]
    exact e3 a o (g.h a o z)
def off (p : Addr) (G : Hp) : Hp := fun a => if a = p then none else G a
theorem off_self {p : Addr} {G : Hp} : off p G p = none := by unfold off; rw [if_pos rfl]
theorem off_ne {p a : Addr} {G : Hp} (h : a ≠ p) : off p G a = G a := by unfold off; rw [if_neg h]
theorem ex_off {p : Addr} {G : Hp} : Ex (off p G) G := fun a o h => by
  by_cases c : a = p
  · subst c; rw [off_self] at h; cases h
  · rw [off_ne c] at h; exact h
theorem ex_in_off {p : Addr} {G G' : Hp} (e : Ex G G') (h : G p = none) : Ex G (off p G') := fun a o z => by
  rw [off_ne (ne_of_none z h)]; exact e a o z
theorem ex_add {p : Addr} {G H : Hp} {o : HO} (e : Ex G H) (h : H p = some o) : Ex (upd G p o) H := fun a u z => by
  by_cases c : a = p
  · subst c; rw [upd_same] at z; rw [h]; exact z
  · rw [upd_ne c] at z; exact e a u z
theorem s_fldS {p dx : Addr} {fs : List (Str × V)} (e : Ex G H) (hp : H p = some (.ins C dx fs)) (gp : G p = none) (hv : EvD tv σ (upd G p (.ins C dx fs)) r) (hoff : ∀ y G2, G2 p = some (.ins C dx fs) → r.p y G2 → r.p y (off p G2)) (ha : Ev ta σ G (.ref p)) (hc : Cls K C) (hn : NoAttr K C f) (hl : fs.length < 1000)
    (k : ∀ y G2 H2, Ex G G2 → (∀ a o, H a = some o → a ≠ p → H2 a = some o) → Ex G2 H2 → (∀ a o, H a = some o → Mt o → G a = none → G2 a = none) → G2 p = none → r.p y G2 → H2 p = some (.ins C dx (putF f y fs)) → D.nx σ H2) : sFld K ta tv f D σ H :=
  hv H (ex_add e hp) _ fun y G2 H2 g hy => ha H2 (e.trans g.h) _ fun H3 e3 => by
    have g2 : G2 p = some (.ins C dx fs) := g.g p _ upd_same
    refine ⟨p, C, dx, fs, rfl, e3 _ _ (g.h _ _ hp), hc, hn, hl, k y (off p G2) _ (ex_in_off ((Ex.new gp).trans g.g) gp) (fun a o z n => ?_) (Ex.mut (ex_off.trans (g.i.trans e3)) off_self) (fun a o z t y => ?_) off_self (hoff y G2 g2 hy) upd_same⟩
    · rw [upd_ne n]
      exact e3 a o (g.h a o z)
    · by_cases c : a = p
      · subst c; exact off_self
      · rw [off_ne c]
        exact g.n a o z t (by rw [upd_ne c]; exact y)
theorem rT_off {p C' dx : Addr} {fs : List (Str × V)} {rs : List Rp} {y : V} {G2 : Hp} (h : G2 p = some (.ins C' dx fs)) (hr : ∀ r ∈ rs, ∀ v, r.p v G2 → r.p v (off p G2)) (q : (rT K rs).p y G2) : (rT K rs).p y (off p G2) := by
  obtain ⟨a, vs, rfl, h1, h2⟩ := q
  refine ⟨a, vs, rfl, ?_, ?_⟩
  · rcases h1 with (h1 | ⟨o, h1⟩) | h1
    · exact .inl (.inl (by rw [off_ne (ne_of h1 h (by intro z; cases z))]; exact h1))
    · exact .inl (.inr ⟨o, by rw [off_ne (ne_of h1 h (by intro z; cases z))]; exact h1⟩)
    · exact .inr h1
  · clear h1
    induction h2 with
    | nil => exact .nil
    | cons a t ih => exact .cons (hr _ List.mem_cons_self _ a) (ih fun r hm v => hr r (List.mem_cons_of_mem _ hm) v)
theorem rP_off {p C' dx : Addr} {fs : List (Str × V)} {l : List (Nat × Nat)} {y : V} {G2 : Hp} (h : G2 p = some (.ins C' dx fs)) (q : (rT K (l.map (rP K))).p y G2) : (rT K (l.map (rP K))).p y (off p G2) := by
  refine rT_off h (fun r hr v hv => ?_) q
  obtain ⟨z, _, rfl⟩ := List.mem_map.mp hr
  refine rT_off h (fun r hr v hv => ?_) hv
  simp at hr
  rcases hr with rfl | rfl <;> exact hv
end
section
variable {K : PySem.W.Frag} {C : Addr} {σ : L2.St} {G H : Hp} {ta tb : TE} {m : List Nat} {f : Str} {sp : Sp} {E : XK}
end
section
variable {K : PySem.W.Frag} {C : Addr} {σ : L2.St} {G H : Hp} {te tl : TE} {E : XK}
theorem masks_bits (m : List Nat) : (m.map bitsN).map maskN = m := by
  rw [List.map_map]
  exact (List.map_congr_left fun a _ => maskN_bits a).trans (List.map_id _)
theorem rows_ok {n : Nat} {m : List Nat} (w : Wf n m) (h6 : n ≤ 6) : ∀ r ∈ m.map bitsN, r.length ≤ 100 ∧ ∀ x ∈ r, x < (m.map bitsN).length := fun r hr => by
  obtain ⟨a, ha, rfl⟩ := List.mem_map.mp hr
  refine ⟨Nat.le_trans (bits_len (w.lt a ha)) (by omega), fun x hx => ?_⟩
  rw [List.length_map, w.len]
  exact bit_lt (w.lt a ha) (mem_bits.mp hx)
theorem ed_tabRows {n : Nat} {m : List Nat} (h : EvD te σ G (rLL K (m.map bitsN))) (w : Wf n m) (h1 : 1 ≤ n) (h6 : n ≤ 6) : EvD (tMake C (spTab K C) [] E (tCons te tNil)) σ G (rTab K C m) :=
  ed_is (ed_tab h (by rw [List.length_map, w.len]; exact h1) (by rw [List.length_map, w.len]; exact h6) (rows_ok w h6)) (by rw [masks_bits])
end
section
variable {K : PySem.W.Frag} {C : Addr} {σ : L2.St} {G H : Hp} {ta : TE} {m : List Nat} {sp : Sp} {E : XK}
end
end Mu

namespace Mu
open PySem L2 Evl
structure IsC (K : PySem.W.Frag) (C : Addr) : Prop where
  c : Cls K C
  a : PySem.W.findIn K (.ref C) "__class__" = some (some (.builtin "object.__class__"))
  g : PySem.W.specialIn K (.builtin "object.__class__") "__get__" = some (some (.builtin "getset_descriptor.__get__"))
  t : PySem.W.takesIn K (.builtin "object.__class__") = some true
  m : PySem.W.mroIn K C (.type "object") = some true
theorem isCB_ok {K : PySem.W.Frag} {C : Addr} (c : Cls K C) (h : isCB K C = true) : IsC K C := by
  obtain ⟨h1, h⟩ := He.ba h
  obtain ⟨h2, h⟩ := He.ba h
  obtain ⟨h3, h4⟩ := He.ba h
  exact ⟨c, He.eqO_ok h1, He.eqO_ok h2, of_decide_eq_true h3, of_decide_eq_true h4⟩
section
variable {K : PySem.W.Frag} {C : Addr} {σ : L2.St} {G H : Hp} {ta te : TE} {m : List Nat}
theorem ev_isi {r : Rp} {c : V} {u : Value} {b : Bool} (h : EvD ta σ G r) (hc : ClsV c u) (ht : ∀ v H, r.p v H → ∃ t, TyX K H v t ∧ PySem.W.kitOne K t u = some b) : Ev (tCB (rIsi K) (tCons ta (tCons (tC c) tNil))) σ G (.bl b) := fun H e Q q =>
  h H e _ fun v G2 H2 g hv => by
    obtain ⟨t, h1, h2⟩ := ht v H2 (r.mono g.i hv)
    exact ⟨v, c, t, u, b, rfl, hc, h1, h2, q H2 g.h⟩
theorem kit_same {t : Value} : PySem.W.kitOne K t t = some true := by unfold PySem.W.kitOne; simp
theorem ty_list {rs : List Rp} {v : V} (h : (rL K rs).p v H) : TyX K H v (.type "list") := by
  obtain ⟨a, vs, rfl, h1, _⟩ := h
  exact .base (.lst h1)
theorem ty_tup {rs : List Rp} {v : V} (h : (rT K rs).p v H) : TyX K H v (.type "tuple") := by
  obtain ⟨a, vs, rfl, h1, _⟩ := h
  rcases h1 with (h1 | ⟨o, h1⟩) | ⟨o, its, n, h1, h2, _⟩
  · exact .base (.tup h1)
  · exact .fTuple h1
  · exact .kTuple h1 h2
theorem ty_tab (c : IsC K C) {v : V} (h : (rTab K C m).p v H) : TyX K H v (.ref C) := by
  obtain ⟨a, dx, t, cc, rfl, h2, _⟩ := h
  exact .base (.ins h2 c.c c.a c.g c.t c.m)
theorem is_int {i : Int} (h : Ev ta σ G (.int i)) : Ev (tCB (rIsi K) (tCons ta (tCons (tC (.ty "int")) tNil))) σ G (.bl true) := ev_isi (Ev.d h) (.ty _) fun v H hv => ⟨_, by obtain rfl : v = V.int i := hv; exact .base (.int i), kit_same⟩
theorem is_list {rs : List Rp} (h : EvD ta σ G (rL K rs)) : Ev (tCB (rIsi K) (tCons ta (tCons (tC (.ty "list")) tNil))) σ G (.bl true) := ev_isi h (.ty _) fun v H hv => ⟨_, ty_list hv, kit_same⟩
theorem is_tup {rs : List Rp} (h : EvD ta σ G (rT K rs)) : Ev (tCB (rIsi K) (tCons ta (tCons (tC (.ty "tuple")) tNil))) σ G (.bl true) := ev_isi h (.ty _) fun v H hv => ⟨_, ty_tup hv, kit_same⟩
theorem is_tab (c : IsC K C) (h : EvD ta σ G (rTab K C m)) : Ev (tCB (rIsi K) (tCons ta (tCons (tC (.ref C)) tNil))) σ G (.bl true) := ev_isi h (.own _) fun v H hv => ⟨_, ty_tab c hv, kit_same⟩
def AsD (K : PySem.W.Frag) (r : Rp) (d : PyData) : Prop := ∀ v H, r.p v H → Dp K H v d
theorem asd_int (i : Int) : AsD K (rI i) (.int i) := fun v H h => by obtain rfl : v = V.int i := h; exact .int i
theorem asd_str (z : Str) : AsD K (rS z) (.str z) := fun v H h => by obtain rfl : v = V.str z := h; exact .str z
theorem asd_all {H : Hp} {α : Type} {ρ : α → Rp} {δ : α → PyData} (h : ∀ a, AsD K (ρ a) (δ a)) : ∀ {l : List α} {vs : List V}, RA H vs (l.map ρ) → DpAll K H vs (l.map δ)
  | [], _, .nil => .nil
  | a :: r, _, .cons q t => .cons (h a _ _ q) (asd_all h t)
theorem asd_list {α : Type} {ρ : α → Rp} {δ : α → PyData} (h : ∀ a, AsD K (ρ a) (δ a)) (l : List α) : AsD K (rL K (l.map ρ)) (.list (l.map δ)) := fun v H q => by
  obtain ⟨a, vs, rfl, h1, h2⟩ := q
  exact .lst (sq_of h1) (asd_all h h2)
theorem asd_tup {α : Type} {ρ : α → Rp} {δ : α → PyData} (h : ∀ a, AsD K (ρ a) (δ a)) (l : List α) : AsD K (rT K (l.map ρ)) (.tuple (l.map δ)) := fun v H q => by
  obtain ⟨a, vs, rfl, h1, h2⟩ := q
  exact .tup h1 (asd_all h h2)
abbrev dN (n : Nat) : PyData := .int (n : Int)
abbrev dLn (l : List Nat) : PyData := .list (l.map dN)
abbrev dTn (l : List Nat) : PyData := .tuple (l.map dN)
abbrev dLL (l : List (List Nat)) : PyData := .list (l.map dLn)
abbrev dP (p : Nat × Nat) : PyData := .tuple [.int (p.1 : Int), .int (p.2 : Int)]
theorem asd_ln (l : List Nat) : AsD K (rLn K l) (dLn l) := asd_list (fun a => asd_int _) l
theorem asd_tn (l : List Nat) : AsD K (rTn K l) (dTn l) := asd_tup (fun a => asd_int _) l
theorem asd_ll (l : List (List Nat)) : AsD K (rLL K l) (dLL l) := asd_list asd_ln l
theorem asd_p (p : Nat × Nat) : AsD K (rP K p) (dP p) := fun v H q => by
  obtain ⟨a, vs, rfl, h1, h2⟩ := q
  obtain ⟨x, y, rfl, hx, hy⟩ := ra2 h2
  obtain rfl : x = V.int (p.1 : Int) := hx
  obtain rfl : y = V.int (p.2 : Int) := hy
  exact .tup h1 (.cons (.int _) (.cons (.int _) .nil))
theorem ev_eqD {r1 r2 : Rp} {d1 d2 : PyData} {tb : TE} (ha : EvD ta σ G r1) (hb : EvD tb σ G r2) (a1 : AsD K r1 d1) (a2 : AsD K r2 d2) (s1 : SeqAt.shaped d1 = true) (s2 : SeqAt.shaped d2 = true) : Ev (tOp (rEqD K) ta tb) σ G (.bl (PyData.eqv d1 d2)) :=
  ev_op2 ha hb fun x y H hx hy Q q => ⟨d1, d2, a1 x H hx, a2 y H hy, s1, s2, q⟩
theorem ev_neD {r1 r2 : Rp} {d1 d2 : PyData} {tb : TE} (ha : EvD ta σ G r1) (hb : EvD tb σ G r2) (a1 : AsD K r1 d1) (a2 : AsD K r2 d2) (s1 : SeqAt.shaped d1 = true) (s2 : SeqAt.shaped d2 = true) : Ev (tOp (rNeD K) ta tb) σ G (.bl (!PyData.eqv d1 d2)) :=
  ev_op2 ha hb fun x y H hx hy Q q => ⟨d1, d2, a1 x H hx, a2 y H hy, s1, s2, q⟩
end
end Mu
namespace Mu
open PySem L2 Evl
def Sh (k : Nat) (d : PyData) : Prop := d.canLay0 = true ∧ d.depth ≤ k
theorem sh_all {α : Type} {δ : α → PyData} {k : Nat} (h : ∀ a, Sh k (δ a)) : ∀ l : List α, PyData.canLayAll0 (l.map δ) = true ∧ PyData.depthAll (l.map δ) ≤ k
  | [] => ⟨rfl, Nat.zero_le _⟩
  | a :: r => by
    obtain ⟨h1, h2⟩ := sh_all h r
    refine ⟨?_, ?_⟩
    · rw [List.map_cons]; unfold PyData.canLayAll0; rw [(h a).1, h1]; rfl
    · rw [List.map_cons]; unfold PyData.depthAll; exact Nat.max_le.mpr ⟨(h a).2, h2⟩
theorem sh_list {α : Type} {δ : α → PyData} {k : Nat} (h : ∀ a, Sh k (δ a)) (l : List α) : Sh (k + 1) (.list (l.map δ)) := by
  obtain ⟨h1, h2⟩ := sh_all h l
  refine ⟨by unfold PyData.canLay0; exact h1, ?_⟩
  unfold PyData.depth; omega
theorem sh_tup {α : Type} {δ : α → PyData} {k : Nat} (h : ∀ a, Sh k (δ a)) (l : List α) : Sh (k + 1) (.tuple (l.map δ)) := by
  obtain ⟨h1, h2⟩ := sh_all h l
  refine ⟨by unfold PyData.canLay0; exact h1, ?_⟩
  unfold PyData.depth; omega
theorem sh_int (i : Int) : Sh 1 (.int i) := ⟨by unfold PyData.canLay0; rfl, by unfold PyData.depth; omega⟩
theorem Sh.ok {k : Nat} {d : PyData} (h : Sh k d) (hk : k ≤ 64) : SeqAt.shaped d = true := by
  unfold SeqAt.shaped
  rw [h.1, decide_eq_true (Nat.le_trans h.2 hk)]; rfl
theorem Sh.mono {k j : Nat} {d : PyData} (h : Sh k d) (hk : k ≤ j) : Sh j d := ⟨h.1, Nat.le_trans h.2 hk⟩
theorem sh_ln (l : List Nat) : Sh 2 (dLn l) := sh_list (fun a => sh_int _) l
theorem sh_tn (l : List Nat) : Sh 2 (dTn l) := sh_tup (fun a => sh_int _) l
theorem sh_ll (l : List (List Nat)) : Sh 3 (dLL l) := sh_list sh_ln l
theorem sh_p (p : Nat × Nat) : Sh 2 (dP p) := sh_tup (fun a : Nat => sh_int (a : Int)) [p.1, p.2]
theorem eqv_all {α : Type} [DecidableEq α] {δ : α → PyData} (h : ∀ a b, PyData.eqv (δ a) (δ b) = decide (a = b)) : ∀ l m : List α, PyData.eqvAll (l.map δ) (m.map δ) = decide (l = m)
  | [], [] => by simp [PyData.eqvAll]
  | [], _ :: _ => by simp [PyData.eqvAll]
  | _ :: _, [] => by simp [PyData.eqvAll]
  | a :: l, b :: m => by
    rw [List.map_cons, List.map_cons, PyData.eqvAll, h a b, eqv_all h l m, Bool.eq_iff_iff]
    simp
theorem eqv_n (a b : Nat) : PyData.eqv (dN a) (dN b) = decide (a = b) := by
  rw [Bool.eq_iff_iff]
  simp [PyData.eqv]
  omega
theorem eqv_ln (a b : List Nat) : PyData.eqv (dLn a) (dLn b) = decide (a = b) := by
  show PyData.eqv (.list _) (.list _) = _
  rw [PyData.eqv]; exact eqv_all eqv_n a b
theorem eqv_tn (a b : List Nat) : PyData.eqv (dTn a) (dTn b) = decide (a = b) := by
  show PyData.eqv (.tuple _) (.tuple _) = _
  rw [PyData.eqv]; exact eqv_all eqv_n a b
theorem eqv_ll (a b : List (List Nat)) : PyData.eqv (dLL a) (dLL b) = decide (a = b) := by
  show PyData.eqv (.list _) (.list _) = _
  rw [PyData.eqv]; exact eqv_all eqv_ln a b
theorem eqv_p (a b : Nat × Nat) : PyData.eqv (dP a) (dP b) = decide (a = b) := by
  obtain ⟨a1, a2⟩ := a
  obtain ⟨b1, b2⟩ := b
  show PyData.eqv (.tuple _) (.tuple _) = _
  rw [PyData.eqv, Bool.eq_iff_iff]
  simp [PyData.eqvAll, PyData.eqv]
  omega
section
variable {K : PySem.W.Frag} {σ : L2.St} {G : Hp} {ta tb : TE}
theorem ints_flat (l : List Nat) : (l.map fun (n : Nat) => V.int (n : Int)).all flatV = true := by
  rw [List.all_map]
  exact List.all_eq_true.mpr fun _ _ => rfl
theorem inV_nat (w : Nat) (l : List Nat) : inV (.int (w : Int)) (l.map fun (n : Nat) => V.int (n : Int)) = decide (w ∈ l) := by
  unfold inV
  rw [List.any_map, Bool.eq_iff_iff, List.any_eq_true, decide_eq_true_iff]
  constructor
  · rintro ⟨x, hx, h⟩
    have : x = w := by
      have h2 : eqV (.int (x : Int)) (.int (w : Int)) = true := h
      simp [eqV] at h2
      omega
    rw [← this]; exact hx
  · intro h
    exact ⟨w, h, by simp [eqV]⟩
theorem ev_inLn {l : List Nat} {w : Nat} {neg : Bool} (ha : Ev ta σ G (.int (w : Int))) (hb : EvD tb σ G (rLn K l)) : Ev (tOp (rIn K neg) ta tb) σ G (.bl (if neg then !decide (w ∈ l) else decide (w ∈ l))) :=
  ev_op2 (Ev.d ha) hb fun x y H hx hy Q q => by
    obtain rfl : x = V.int (w : Int) := hx
    obtain ⟨a, vs, rfl, h1, h2⟩ := hy
    have e := ra_nats_eq h2
    subst e
    exact ⟨a, _, rfl, .inl (sq_of h1), rfl, ints_flat l, by rw [inV_nat]; exact q⟩
end
end Mu

namespace Mu
open PySem L2 Evl
structure Box (K : PySem.W.Frag) (G H : Hp) (b : Addr) : Prop where
  ex : ∃ (c : Addr) (cells : List Int) (i x y : Int), H b = some (.lst [.ref c, .int i, .int x, .int y]) ∧ G c = some (.lst (cells.map V.int)) ∧ (∀ z ∈ cells, 0 ≤ z) ∧ 0 ≤ i ∧ 0 ≤ x ∧ 0 ≤ y ∧ y < 2147483647
theorem Box.mono {K : PySem.W.Frag} {G G' H H' : Hp} {b : Addr} (h : Box K G H b) (g : Ex G G') (e : Ex H H') : Box K G' H' b := by
  obtain ⟨c, cells, i, x, y, h1, h2, h3⟩ := h.ex
  exact ⟨c, cells, i, x, y, e _ _ h1, g _ _ h2, h3⟩
theorem Box.mono' {K : PySem.W.Frag} {G G' H H' : Hp} {b : Addr} (h : Box K G H b) (g : Ex G G') (e : ∀ o, H b = some o → H' b = some o) : Box K G' H' b := by
  obtain ⟨c, cells, i, x, y, h1, h2, h3⟩ := h.ex
  exact ⟨c, cells, i, x, y, e _ h1, g _ _ h2, h3⟩
theorem Box.at_ {K : PySem.W.Frag} {G H : Hp} {b : Addr} (h : Box K G H b) : ∃ o, H b = some o ∧ Mt o := by
  obtain ⟨c, cells, i, x, y, h1, _⟩ := h.ex
  exact ⟨_, h1, mt_lst⟩
structure GrB (b : Addr) (G H G2 H2 : Hp) : Prop where
  g : Ex G G2
  h : ∀ a o, H a = some o → a ≠ b → H2 a = some o
  i : Ex G2 H2
  n : ∀ a o, H a = some o → Mt o → G a = none → G2 a = none
theorem Gr.b {b : Addr} {G H G2 H2 : Hp} (g : Gr G H G2 H2) : GrB b G H G2 H2 := ⟨g.g, fun a o z _ => g.h a o z, g.i, g.n⟩
theorem GrB.refl {b : Addr} {G H : Hp} (e : Ex G H) : GrB b G H G H := (Gr.refl e).b
theorem GrB.trans {b : Addr} {G H G2 H2 G3 H3 : Hp} (gb : G b = none) (hb : ∃ o, H b = some o ∧ Mt o) (a : GrB b G H G2 H2) (c : GrB b G2 H2 G3 H3) (hb2 : ∃ o, H2 b = some o ∧ Mt o) : GrB b G H G3 H3 :=
  ⟨a.g.trans c.g, fun x o z n => c.h x o (a.h x o z n) n, c.i, fun x o z t y => by
    have y2 := a.n x o z t y
    by_cases q : x = b
    · subst q
      obtain ⟨o2, z2, t2⟩ := hb2
      exact c.n x o2 z2 t2 y2
    · exact c.n x o (a.h x o z q) t y2⟩
theorem GrB.out {b : Addr} {G H G2 H2 : Hp} (a : GrB b G H G2 H2) (gb : G b = none) (hb : ∃ o, H b = some o ∧ Mt o) : G2 b = none := by
  obtain ⟨o, z, t⟩ := hb
  exact a.n b o z t gb
theorem GrB.more {b : Addr} {G H G2 H2 H3 : Hp} (a : GrB b G H G2 H2) (e : Ex H2 H3) : GrB b G H G2 H3 := ⟨a.g, fun x o z n => e x o (a.h x o z n), a.i.trans e, a.n⟩
theorem GrB.all {b : Addr} {G H G2 H2 : Hp} (a : GrB b G H G2 H2) : Ex (off b H) H2 := fun x o z => by
  by_cases q : x = b
  · subst q; rw [off_self] at z; cases z
  · rw [off_ne q] at z; exact a.h x o z q

section
variable (K : PySem.W.Frag)
def EvB (te : TE) (σ : L2.St) (b : Addr) (G : Hp) (P : Rp → Prop) : Prop := ∀ H, Ex G H → G b = none → Box K G H b → ∀ Q : VK, (∀ r v G2 H2, P r → GrB b G H G2 H2 → Box K G2 H2 b → r.p v G2 → Q v H2) → te σ H Q
def EvBN (te : TE) (σ : L2.St) (b : Addr) (G : Hp) (P : List Rp → Prop) : Prop := ∀ H, Ex G H → G b = none → Box K G H b → ∀ Q : VK, (∀ rs p vs G2 H2, P rs → GrB b G H G2 H2 → Box K G2 H2 b → H p = none → G2 p = none → H2 p = some (.lst vs) → RA G2 vs rs → Q (.ref p) H2) → te σ H Q
def EvTB (tt : TT) (σ : L2.St) (b : Addr) (G : Hp) (P : Bool → Prop) : Prop := ∀ H, Ex G H → G b = none → Box K G H b → ∀ Q : Bool → Hp → Prop, (∀ c G2 H2, P c → GrB b G H G2 H2 → Box K G2 H2 b → Q c H2) → tt σ H Q
def spB (R : List V → Hp → (Rp → Prop) → Prop) : Sp := fun vs H Q _ => ∃ G b ws P, vs = .ref b :: ws ∧ Ex G H ∧ G b = none ∧ Box K G H b ∧ R ws G P ∧ ∀ r v G2 H2, P r → GrB b G H G2 H2 → Box K G2 H2 b → r.p v G2 → Q v H2
def spBN (R : List V → Hp → (List Rp → Prop) → Prop) : Sp := fun vs H Q _ => ∃ G b ws P, vs = .ref b :: ws ∧ Ex G H ∧ G b = none ∧ Box K G H b ∧ R ws G P ∧ ∀ rs p vs G2 H2, P rs → GrB b G H G2 H2 → Box K G2 H2 b → H p = none → G2 p = none → H2 p = some (.lst vs) → RA G2 vs rs → Q (.ref p) H2
def PN (n : Nat) : Rp → Prop := fun r => ∃ d : Nat, d < n ∧ r = nI d
def spT : Sp := fun vs H Q _ => ∃ G b m, vs = [.ref b, .int ((m : Nat) : Int)] ∧ Ex G H ∧ G b = none ∧ Box K G H b ∧ 0 < m ∧ m < 2 ^ 30 ∧ ∀ (d : Nat) H2, d < m → (∀ a o, H a = some o → a ≠ b → H2 a = some o) → (∀ G', Box K G' H b → Box K G' H2 b) → Q (.int (d : Int)) H2
def EvBI (te : TE) (σ : L2.St) (b : Addr) (G : Hp) (PV : V → Prop) : Prop := ∀ H, Ex G H → G b = none → Box K G H b → ∀ Q : VK, (∀ v H2, PV v → (∀ a o, H a = some o → a ≠ b → H2 a = some o) → (∀ G', Box K G' H b → Box K G' H2 b) → Q v H2) → te σ H Q
end
section
variable {K : PySem.W.Frag} {σ : L2.St} {b : Addr} {G H : Hp} {te ta tb : TE} {P P1 : Rp → Prop} {D : Ends} {tu tw : TS} {i i0 : Nat} {E : XK}
theorem EvB.imp {P' : Rp → Prop} (h : EvB K te σ b G P) (hp : ∀ r, P r → P' r) : EvB K te σ b G P' := fun H e gb hb Q q => h H e gb hb Q fun r v G2 H2 p => q r v G2 H2 (hp r p)
theorem EvBN.d {P : List Rp → Prop} (h : EvBN K te σ b G P) : EvB K te σ b G (fun r => ∃ rs, P rs ∧ r = rL K rs) := fun H e gb hb Q q => h H e gb hb Q fun rs p vs G2 H2 hP g hb2 hp gp h2 ra =>
  q (rL K rs) (.ref p) (upd G2 p (.lst vs)) H2 ⟨rs, hP, rfl⟩ ⟨g.g.trans (Ex.new gp), g.h, ex_add g.i h2, fun a o z t y => by rw [upd_ne (ne_of_none z hp)]; exact g.n a o z t y⟩ (hb2.mono (Ex.new gp) (Ex.refl _)) ⟨p, vs, rfl, upd_same, ra.mono (Ex.new gp)⟩
theorem EvBI.eb {PV : V → Prop} (h : EvBI K te σ b G PV) : EvB K te σ b G (fun r => ∃ v, PV v ∧ r = rV v) := fun H e gb hb Q q => h H e gb hb Q fun v H2 p k s => q (rV v) v G H2 ⟨v, p, rfl⟩ ⟨Ex.refl G, k, fun a o z => k a o (e a o z) (fun q => by subst q; rw [gb] at z; cases z), fun _ _ _ _ z => z⟩ (s G hb) rfl
theorem ebi_take {m : Nat} (hv : σ[i0]? = some (some (.ref b))) (h : Ev te σ G (.int (m : Int))) (h0 : 0 < m) (h1 : m < 2 ^ 30) : EvBI K (tCall (spT K) [] E (tCons (tVar i0) (tCons te tNil))) σ b G (fun v => ∃ d : Nat, d < m ∧ v = .int (d : Int)) := fun H e gb hb Q q =>
  ⟨.ref b, hv, h H e _ fun H2 e2 => by
    show spT K (([V.ref b, V.int (m : Int)]) ++ []) H2 Q E
    rw [List.append_nil]
    refine ⟨G, b, m, rfl, e.trans e2, gb, hb.mono (Ex.refl G) e2, h0, h1, fun d H3 hd k s => q _ H3 ⟨d, hd, rfl⟩ (fun a o z n => k a o (e2 a o z) n) fun G' hb' => s G' (hb'.mono (Ex.refl G') e2)⟩⟩
theorem eb_take {m : Nat} (hv : σ[i0]? = some (some (.ref b))) (h : Ev te σ G (.int (m : Int))) (h0 : 0 < m) (h1 : m < 2 ^ 30) : EvB K (tCall (spT K) [] E (tCons (tVar i0) (tCons te tNil))) σ b G (PN m) :=
  EvB.imp (EvBI.eb (ebi_take hv h h0 h1)) fun r ⟨v, ⟨d, hd, hv⟩, hr⟩ => ⟨d, hd, by rw [hr, hv]⟩
theorem eb_opN {rr : R2} {x : V} {n : Nat} (ha : Ev ta σ G x) (hb : EvB K tb σ b G (PN n)) (f : Nat → V) (hs : ∀ d, d < n → ∀ H (Q : VK), Q (f d) H → rr x (.int (d : Int)) H Q) : EvB K (tOp rr ta tb) σ b G (fun r => ∃ d, d < n ∧ r = rV (f d)) := fun H e gb hbx Q q =>
  ha H e _ fun H1 e1 => hb H1 (e.trans e1) gb (hbx.mono (Ex.refl G) e1) _ fun r v G2 H2 p g hb2 hv => by
    obtain ⟨d, hd, rfl⟩ := p
    obtain rfl : v = V.int (d : Int) := hv
    exact hs d hd H2 Q (q (rV (f d)) (f d) G2 H2 ⟨d, hd, rfl⟩ ⟨g.g, fun a o z n => g.h a o (e1 a o z) n, g.i, fun a o z t y => g.n a o (e1 a o z) t y⟩ hb2 rfl)
theorem s_setB (e : Ex G H) (gb : G b = none) (hb : Box K G H b) (h : EvB K te σ b G P) (k : ∀ r v G2 H2, P r → GrB b G H G2 H2 → Box K G2 H2 b → r.p v G2 → D.nx (σ.set i (some v)) H2) : tAsg te (gName i) D σ H := h H e gb hb _ k
end
section
variable {K : PySem.W.Frag} {σ : L2.St} {G H : Hp} {te ta tb : TE} {tl th : TO}
theorem RA.drop {H : Hp} : ∀ {vs : List V} {rs : List Rp} (n : Nat), RA H vs rs → RA H (vs.drop n) (rs.drop n)
  | _, _, 0, h => h
  | _, _, _ + 1, .nil => .nil
  | _, _, n + 1, .cons _ t => RA.drop n t
theorem RA.take {H : Hp} : ∀ {vs : List V} {rs : List Rp} (n : Nat), RA H vs rs → RA H (vs.take n) (rs.take n)
  | _, _, 0, _ => .nil
  | _, _, _ + 1, .nil => .nil
  | _, _, n + 1, .cons h t => .cons h (RA.take n t)
def cutR {α : Type} (xs : List α) (lo hi : Option Int) : List α := (xs.drop (HT.sIx xs.length 0 lo)).take (HT.sIx xs.length xs.length hi - HT.sIx xs.length 0 lo)
theorem cutR_map {α β : Type} (f : α → β) (l : List α) (lo hi : Option Int) : cutR (l.map f) lo hi = (cutR l lo hi).map f := by
  unfold cutR
  rw [List.length_map, List.map_take, List.map_drop]
theorem en_slL {rs : List Rp} {lo hi : Option Int} (h : EvD te σ G (rLs K rs)) (h1 : ∀ G', Ex G G' → EvO tl σ G' lo) (h2 : ∀ G', Ex G G' → EvO th σ G' hi) : EvN (tSl (rSlL K) te tl th) σ G (cutR rs lo hi) := fun H e Q q =>
  h H e _ fun v G2 H2 g hv => by
    obtain ⟨a, vs, rfl, s1, ra⟩ := hv
    refine h1 G2 g.g H2 g.i _ fun H3 e3 => h2 G2 g.g H3 (g.i.trans e3) _ fun H4 e4 => ?_
    refine ⟨a, vs, rfl, ex_l ((g.i.trans e3).trans e4) s1, fun p hp => ?_⟩
    have gg := (g.more e3).more e4
    refine q p (cutV vs lo hi) G2 _ (gg.more (Ex.new hp)) (fresh_back gg.h hp) (fresh_back gg.i hp) upd_same ?_
    unfold cutV cutR
    rw [ra.len]
    exact (ra.drop _).take _
theorem ra_ints_eq {H : Hp} : ∀ {l : List Int} {vs : List V}, RA H vs (l.map rI) → vs = l.map V.int
  | [], _, .nil => rfl
  | n :: r, _, .cons h t => by
    have e1 := ra_ints_eq (l := r) t
    have e2 : _ = V.int n := h
    rw [e1, e2]; rfl
theorem ra_ints {H : Hp} : ∀ {l : List Int}, RA H (l.map V.int) (l.map rI)
  | [] => .nil
  | _ :: r => .cons rfl (ra_ints (l := r))
def spBoxMk (K : PySem.W.Frag) : Sp := fun vs H Q _ => ∃ (a : Addr) (ns : List Int), vs = [.ref a] ∧ SqL K H a (ns.map V.int) ∧ ns.length ≤ 63 ∧ ∀ b G2 H2, Ex H G2 → Ex G2 H2 → H b = none → G2 b = none → Box K G2 H2 b → Q (.ref b) H2
theorem ev_abs {i : Int} (h : Ev te σ G (.int i)) : Ev (tCB (fun xs H Q => ∃ i, xs = [.int i] ∧ Q (.int (if i < 0 then -i else i)) H) (tCons te tNil)) σ G (.int (if i < 0 then -i else i)) := fun H e Q q => h H e _ fun H2 e2 => ⟨i, rfl, q H2 e2⟩
theorem ev_int {i : Int} (h : Ev te σ G (.int i)) : Ev (tCB (fun xs H Q => (∃ i, xs = [.int i] ∧ Q (.int i) H) ∨ ∃ k, xs = [.bl k] ∧ Q (.int (if k then 1 else 0)) H) (tCons te tNil)) σ G (.int i) := fun H e Q q => h H e _ fun H2 e2 => .inl ⟨i, rfl, q H2 e2⟩
end
section
variable {K : PySem.W.Frag} {σ : L2.St} {b p : Addr} {G H : Hp} {te ta tb : TE} {D : Ends}
theorem en_listR {n : Nat} (h : Ev te σ G (.int (n : Int))) (hn : n ≤ 1000000) : EvN (tLstRg (tRg1 te)) σ G ((List.range n).map nI) := fun H e Q q => h H e _ fun H2 e2 =>
  ⟨(n : Int), rfl, RgOk.of_le (by omega) (by omega) (by omega) (by omega), fun l hl => by
    have eq : rgV 0 (n : Int) = (List.range n).map fun (i : Nat) => V.int (i : Int) := by
      unfold rgV
      rw [Int.sub_zero, Int.toNat_natCast]
      exact List.map_congr_left fun a _ => by rw [Int.zero_add]
    refine q l _ G _ (((Gr.refl e).more e2).more (Ex.new hl)) (fresh_back e2 hl) (fresh_back (e.trans e2) hl) upd_same ?_
    rw [eq]
    exact ra_nats⟩
end
theorem pow_list {n : Nat} (h : n ≤ 6) : ([nI 1, nI 2, nI 4, nI 8, nI 16, nI 32, nI 64] : List Rp)[n]? = some (nI (2 ^ n)) := by
  have : n = 0 ∨ n = 1 ∨ n = 2 ∨ n = 3 ∨ n = 4 ∨ n = 5 ∨ n = 6 := by omega
  rcases this with rfl | rfl | rfl | rfl | rfl | rfl | rfl <;> rfl
theorem pow_list6 {n : Nat} (h : n ≤ 5) : ([nI 1, nI 2, nI 4, nI 8, nI 16, nI 32] : List Rp)[n]? = some (nI (2 ^ n)) := by
  have : n = 0 ∨ n = 1 ∨ n = 2 ∨ n = 3 ∨ n = 4 ∨ n = 5 := by omega
  rcases this with rfl | rfl | rfl | rfl | rfl | rfl <;> rfl
theorem test_div (m w : Nat) : decide (((m : Int) / ((2 ^ w : Nat) : Int)) % 2 = 1) = m.testBit w := by
  rw [← Int.natCast_ediv, Bool.eq_iff_iff, decide_eq_true_iff, ← shr_test, Nat.testBit_zero, decide_eq_true_iff]
  omega
theorem GrB.fresh {b p : Addr} {G H G2 H2 : Hp} (g : GrB b G H G2 H2) (hb2 : ∃ o, H2 b = some o ∧ Mt o) (hp : H2 p = none) : H p = none ∧ p ≠ b := by
  have hpb : p ≠ b := fun z => by
    subst z
    obtain ⟨o, z2, _⟩ := hb2
    rw [z2] at hp; cases hp
  refine ⟨?_, hpb⟩
  cases z : H p with
  | none => rfl
  | some o => rw [g.h p o z hpb] at hp; cases hp
section
variable {K : PySem.W.Frag} {σ : L2.St} {G H : Hp} {te ta tb tf : TE} {C : Addr} {m : List Nat} {sp : Sp} {E : XK}
theorem en_cat {rs ss : List Rp} (ha : EvD ta σ G (rL K rs)) (hb : EvD tb σ G (rL K ss)) (hz : rs.length + ss.length ≤ 100000) : EvN (tOp rCat ta tb) σ G (rs ++ ss) := en_op ha hb fun x y G2 H e1 e2 hx hy Q q => by
  obtain ⟨a, vs, rfl, h1, h2⟩ := hx
  obtain ⟨a', vs', rfl, h1', h2'⟩ := hy
  refine ⟨a, a', vs, vs', rfl, rfl, e2 _ _ h1, e2 _ _ h1', sz_of (by rw [h2.len, h2'.len]; exact hz), fun p hp => ?_⟩
  exact q p _ G2 _ ((Gr.refl e2).more (Ex.new hp)) hp (fresh_back e2 hp) upd_same (h2.append h2')
end
section
variable {K : PySem.W.Frag} {σ : L2.St} {b : Addr} {G H : Hp} {te ta tb : TE} {D : Ends} {tu tw : TS}
theorem GrB.same {b : Addr} {G0 H0 G H H2 : Hp} (g : GrB b G0 H0 G H) (gb : G b = none) (k : ∀ a o, H a = some o → a ≠ b → H2 a = some o) : GrB b G0 H0 G H2 := ⟨g.g, fun a o z n => k a o (g.h a o z n) n, fun a o z => k a o (g.i a o z) (fun q => by subst q; rw [gb] at z; cases z), g.n⟩
end
section
variable {K : PySem.W.Frag} {σ : L2.St} {b : Addr} {G H : Hp} {te : TE} {E : XK} {i0 : Nat}
end
end Mu

namespace Mu
open PySem PySem.Spec PyProof.Rows L2 Evl
section
variable {X : Cx} (K : PySem.W.Frag)
end
section
variable {K : PySem.W.Frag} {σ : L2.St} {G H : Hp} {ta tb : TE}
theorem any_p (p : Nat × Nat) (l : List (Nat × Nat)) : ((l.map dP).any fun z => PyData.eqv z (dP p)) = decide (p ∈ l) := by
  rw [List.any_map, Bool.eq_iff_iff, List.any_eq_true, decide_eq_true_iff]
  constructor
  · rintro ⟨x, hx, h⟩
    have h2 : PyData.eqv (dP x) (dP p) = true := h
    rw [eqv_p] at h2
    rw [← of_decide_eq_true h2]; exact hx
  · intro h
    exact ⟨p, h, by show PyData.eqv (dP p) (dP p) = true; rw [eqv_p]; simp⟩
theorem ev_notInP {p : Nat × Nat} {l : List (Nat × Nat)} (ha : EvD ta σ G (rP K p)) (hb : EvD tb σ G (rL K (l.map (rP K)))) : Ev (tOp (rNotInD K) ta tb) σ G (.bl (!decide (p ∈ l))) :=
  ev_op2 ha hb fun x y H hx hy Q q => ⟨dP p, l.map dP, asd_p p x H hx, asd_list asd_p l y H hy, (sh_p p).ok (by decide), (sh_list sh_p l).ok (by decide), by rw [any_p]; exact q⟩
theorem ev_inP {p : Nat × Nat} {l : List (Nat × Nat)} (ha : EvD ta σ G (rP K p)) (hb : EvD tb σ G (rL K (l.map (rP K)))) : Ev (tOp (rInD K) ta tb) σ G (.bl (decide (p ∈ l))) :=
  ev_op2 ha hb fun x y H hx hy Q q => ⟨dP p, l.map dP, asd_p p x H hx, asd_list asd_p l y H hy, (sh_p p).ok (by decide), (sh_list sh_p l).ok (by decide), by rw [any_p]; exact q⟩
theorem ev_isB {a b : Bool} (ha : Ev ta σ G (.bl a)) (hb : Ev tb σ G (.bl b)) : Ev (tOp rIsB ta tb) σ G (.bl (decide (a = b))) :=
  ev_op2 (Ev.d ha) (Ev.d hb) fun x y H hx hy Q q => ⟨a, b, hx, hy, q⟩
theorem ev_isNB {a b : Bool} (ha : Ev ta σ G (.bl a)) (hb : Ev tb σ G (.bl b)) : Ev (tOp rNotB ta tb) σ G (.bl (!decide (a = b))) :=
  ev_op2 (Ev.d ha) (Ev.d hb) fun x y H hx hy Q q => ⟨a, b, hx, hy, q⟩
theorem Ev.is {x y : V} {te : TE} (h : Ev te σ G x) (e : x = y) : Ev te σ G y := e ▸ h
end
theorem s_box {K : PySem.W.Frag} {σ : L2.St} {H : Hp} {D : Ends} {E : XK} {a : Addr} {ns : List Int} {i i0 : Nat} (hv : σ[i0]? = some (some (.ref a))) (hS : SqL K H a (ns.map V.int)) (hl : ns.length ≤ 63) (k : ∀ b G2 H2, Ex H G2 → Ex G2 H2 → H b = none → G2 b = none → Box K G2 H2 b → D.nx (σ.set i (some (.ref b))) H2) : tAsg (tCall (spBoxMk K) [] E (tCons (tVar i0) tNil)) (gName i) D σ H :=
  ⟨.ref a, hv, a, ns, rfl, hS, hl, k⟩
section
variable {X : Cx}
end
end Mu

namespace Mu
open PySem PySem.Spec PyProof.Rows L2 Evl
abbrev Ctx := List (Option Rp)
def Sl (G : Hp) (o : Option V) (r : Option Rp) : Prop := ∀ q, r = some q → ∃ v, o = some v ∧ q.p v G
abbrev En (σ : L2.St) (G : Hp) (Γ : Ctx) : Prop := Paired (fun o r => Sl G o r) σ Γ
section
variable {σ : L2.St} {G G' : Hp} {Γ Γ' : Ctx} {r : Rp} {v : V} {i : Nat}
theorem Sl.mono (e : Ex G G') {o : Option V} {q : Option Rp} (h : Sl G o q) : Sl G' o q := fun x hx => by
  obtain ⟨v, h1, h2⟩ := h x hx
  exact ⟨v, h1, x.mono e h2⟩
theorem En.mono (e : Ex G G') (h : En σ G Γ) : En σ G' Γ := Paired.mono (fun _ _ z => Sl.mono e z) h
theorem En.get : ∀ {σ : L2.St} {Γ : Ctx} {i : Nat}, En σ G Γ → Γ[i]? = some (some r) → ∃ v, σ[i]? = some (some v) ∧ r.p v G
  | _, _, _, .nil, h => by simp at h
  | _, _, 0, .cons h _, e => by
    simp at e
    obtain ⟨v, h1, h2⟩ := h r e
    exact ⟨v, by simp [h1], h2⟩
  | _, _, i + 1, .cons _ t, e => by
    obtain ⟨v, h1, h2⟩ := En.get (i := i) t (by simpa using e)
    exact ⟨v, by simpa using h1, h2⟩
theorem En.set (q : r.p v G) : ∀ {σ : L2.St} {Γ : Ctx} (i : Nat), En σ G Γ → En (σ.set i (some v)) G (Γ.set i (some r))
  | _, _, _, .nil => .nil
  | _, _, 0, .cons _ t => .cons (fun x hx => ⟨v, rfl, by cases hx; exact q⟩) t
  | _, _, i + 1, .cons h t => .cons h (En.set q i t)
theorem En.wipe1 : ∀ {σ : L2.St} {Γ : Ctx} (i : Nat), En σ G Γ → En (σ.set i none) G (Γ.set i none)
  | _, _, _, .nil => .nil
  | _, _, 0, .cons _ t => .cons (fun x hx => nomatch hx) t
  | _, _, i + 1, .cons h t => .cons h (En.wipe1 i t)
def wipeC (Γ : Ctx) : List Nat → Ctx
  | [] => Γ
  | v :: vs => (wipeC Γ vs).set v none
theorem En.wipe (h : En σ G Γ) : ∀ vs : List Nat, En (wipe σ vs) G (wipeC Γ vs)
  | [] => h
  | v :: vs => (En.wipe h vs).wipe1 v
abbrev Sub (Γ Γ' : Ctx) : Prop := Paired (fun (a b : Option Rp) => b = none ∨ a = b) Γ Γ'
theorem En.weak : ∀ {σ : L2.St} {Γ Γ' : Ctx}, En σ G Γ → Sub Γ Γ' → En σ G Γ'
  | _, _, _, .nil, .nil => .nil
  | _, _, _, .cons h t, .cons q u => .cons (fun x hx => by
      rcases q with q | q
      · rw [q] at hx; cases hx
      · exact h x (q.trans hx)) (En.weak t u)
theorem En.start (N : List Str) {vs : List V} {rs : List Rp} (h : RA G vs rs) (hn : N.length - vs.length = k) : En (L2.start N vs) G (rs.map some ++ List.replicate k none) := by
  unfold L2.start
  rw [hn]
  have h2 : En (List.replicate k none) G (List.replicate k none) := by
    clear hn
    induction k with
    | zero => exact .nil
    | succ k ih => exact .cons (fun x hx => nomatch hx) ih
  clear hn
  induction h with
  | nil => exact h2
  | cons a t ih => exact .cons (fun x hx => ⟨_, rfl, by cases hx; exact a⟩) ih
theorem wipe_in {x : V} {j : Nat} : ∀ {vs : List Nat} (τ : L2.St), j ∈ vs → wipe (τ.set j (some x)) vs = wipe τ vs
  | [], _, h => nomatch h
  | u :: vs, τ, h => by
    unfold wipe
    by_cases c : j ∈ vs
    · rw [wipe_in τ c]
    · have e : j = u := by
        rcases List.mem_cons.mp h with q | q
        · exact q
        · exact absurd q c
      subst e
      rw [show ∀ (vs : List Nat), j ∉ vs → wipe (τ.set j (some x)) vs = (wipe τ vs).set j (some x) from fun vs => by
        induction vs with
        | nil => intro _; rfl
        | cons w ws ih =>
          intro hn
          unfold wipe
          rw [ih fun z => hn (List.mem_cons_of_mem _ z), List.set_comm _ _ (fun z => hn (by rw [z]; exact List.mem_cons_self))]]
      · rw [List.set_set]
      · exact c
theorem wipe_idem (σ : L2.St) : ∀ vs : List Nat, wipe (wipe σ vs) vs = wipe σ vs := by
  have key : ∀ (vs : List Nat) (τ : L2.St), (∀ i ∈ vs, ∀ x, τ[i]? ≠ some (some x)) → wipe τ vs = τ := fun vs => by
    induction vs with
    | nil => intro τ _; rfl
    | cons u vs ih =>
      intro τ h
      unfold wipe
      rw [ih τ fun i hi => h i (List.mem_cons_of_mem _ hi)]
      apply List.ext_getElem?
      intro i
      by_cases c : u = i
      · subst c
        rw [List.getElem?_set_self']
        cases q : τ[u]? with
        | none => rfl
        | some o =>
          cases o with
          | none => rfl
          | some x => exact absurd q (h u List.mem_cons_self x)
      · rw [List.getElem?_set_ne c]
  intro vs
  exact key vs _ fun i hi x hx => (wipe_some hx).2 hi
theorem wipe_turn (σ : L2.St) {vs : List Nat} {j : Nat} (h : j ∈ vs) (x : V) : wipe ((wipe σ vs).set j (some x)) vs = wipe σ vs := by rw [wipe_in _ h, wipe_idem]
end
structure Re where
  own : Bool
  ft : List Addr
  p : Hp → Hp → Prop
  mono : ∀ {G G' H : Hp}, Ex G G' → p G H → p G' H
  loc : ∀ {G H H' : Hp}, (∀ a ∈ ft, ∀ o, H a = some o → H' a = some o) → p G H → p G H'
  at_ : ∀ {G H : Hp}, p G H → ∀ a ∈ ft, ∃ o, H a = some o ∧ Mt o
def feet (M : List Re) : List Addr := M.flatMap Re.ft
theorem mem_feet {M : List Re} {r : Re} {a : Addr} (h : r ∈ M) (ha : a ∈ r.ft) : a ∈ feet M := List.mem_flatMap.mpr ⟨r, h, ha⟩
def lstR (p : Addr) (rs : List Rp) : Re where
  own := true
  ft := [p]
  p := fun G H => ∃ ws, H p = some (.lst ws) ∧ RA G ws rs
  mono := fun e ⟨ws, h1, h2⟩ => ⟨ws, h1, h2.mono e⟩
  loc := fun k ⟨ws, h1, h2⟩ => ⟨ws, k p (List.mem_singleton.mpr rfl) _ h1, h2⟩
  at_ := fun ⟨ws, h1, _⟩ a ha => by rw [List.mem_singleton.mp ha]; exact ⟨_, h1, fun _ z => nomatch z⟩
def boxR (K : PySem.W.Frag) (b : Addr) : Re where
  own := false
  ft := [b]
  p := fun G H => Box K G H b
  mono := fun e h => h.mono e (Ex.refl _)
  loc := fun k h => h.mono' (Ex.refl _) fun o z => k b (List.mem_singleton.mpr rfl) o z
  at_ := fun h a ha => by rw [List.mem_singleton.mp ha]; exact h.at_
structure Ba where
  G0 : Hp
  H0 : Hp
  F : List Addr
  Gl : Hp
structure Ok (B : Ba) (G H : Hp) (M : List Re) : Prop where
  g : Ex B.G0 G
  l : Ex B.Gl G
  h : ∀ a o, B.H0 a = some o → a ∉ B.F → H a = some o
  i : Ex G H
  n : ∀ a o, B.H0 a = some o → Mt o → B.G0 a = none → G a = none
  k : ∀ a ∈ B.F, ∃ o, H a = some o ∧ Mt o
  m : ∀ r ∈ M, r.p G H
  z : ∀ a ∈ feet M, G a = none
  d : (feet M).Nodup
  f : ∀ r ∈ M, ∀ a ∈ r.ft, B.H0 a = none ∨ (r.own = false ∧ a ∈ B.F)
section
variable {B : Ba} {G H G2 H2 : Hp} {M : List Re} {R R' : Re} {k : Nat}
theorem Ok.gr (o : Ok B G H M) (g : Gr G H G2 H2) : Ok B G2 H2 M where
  g := o.g.trans g.g
  l := o.l.trans g.g
  h := fun a u z n => g.h a u (o.h a u z n)
  i := g.i
  n := fun a u z t y => by
    by_cases c : a ∈ B.F
    · obtain ⟨u2, z2, t2⟩ := o.k a c
      exact g.n a u2 z2 t2 (o.n a u z t y)
    · exact g.n a u (o.h a u z c) t (o.n a u z t y)
  k := fun a c => by
    obtain ⟨u, z, t⟩ := o.k a c
    exact ⟨u, g.h a u z, t⟩
  m := fun r hr => r.loc (fun a _ u z => g.h a u z) (r.mono g.g (o.m r hr))
  z := fun a ha => by
    obtain ⟨r, hr, hf⟩ := List.mem_flatMap.mp ha
    obtain ⟨u, z, t⟩ := r.at_ (o.m r hr) a hf
    exact g.n a u z t (o.z a ha)
  d := o.d
  f := o.f
theorem Ok.ex (o : Ok B G H M) (e : Ex H H2) : Ok B G H2 M := o.gr ((Gr.refl o.i).more e)
theorem feet_set {M : List Re} {k : Nat} (hk : M[k]? = some R) (hf : R'.ft = R.ft) : feet (M.set k R') = feet M := by
  induction M generalizing k with
  | nil => rfl
  | cons a M ih =>
    cases k with
    | zero =>
      simp at hk
      subst hk
      show R'.ft ++ _ = a.ft ++ _
      rw [hf]
    | succ k =>
      show a.ft ++ feet (M.set k R') = a.ft ++ feet M
      rw [ih (by simpa using hk)]
theorem feet_apart {M : List Re} (hd : (feet M).Nodup) : ∀ {k : Nat} {R r : Re}, M[k]? = some R → r ∈ M.eraseIdx k → ∀ a ∈ r.ft, a ∉ R.ft := by
  induction M with
  | nil => intro k R r h; simp at h
  | cons b M ih =>
    intro k R r hk hr a ha hR
    have hd' : (b.ft ++ feet M).Nodup := hd
    have h3 := List.nodup_append.mp hd'
    cases k with
    | zero =>
      simp at hk hr
      subst hk
      exact h3.2.2 a hR a (mem_feet hr ha) rfl
    | succ k =>
      simp at hk hr
      have hRm : R ∈ M := List.mem_of_getElem? hk
      rcases hr with hr | hr
      · subst hr
        exact h3.2.2 a ha a (mem_feet hRm hR) rfl
      · exact ih h3.2.1 hk hr a ha hR
theorem mem_set_or {M : List Re} : ∀ {k : Nat} {R' r : Re}, r ∈ M.set k R' → r = R' ∨ r ∈ M.eraseIdx k := by
  induction M with
  | nil => intro k R' r h; simp at h
  | cons b M ih =>
    intro k R' r h
    cases k with
    | zero =>
      simp at h ⊢
      exact h
    | succ k =>
      simp at h ⊢
      rcases h with h | h
      · exact .inr (.inl h)
      · rcases ih h with q | q
        · exact .inl q
        · exact .inr (.inr q)
theorem mem_erase {M : List Re} {k : Nat} {r : Re} (h : r ∈ M.eraseIdx k) : r ∈ M := List.eraseIdx_subset h
theorem Ok.chg (o : Ok B G H M) (hk : M[k]? = some R) (hf : R'.ft = R.ft) (ho : R'.own = R.own) (e : Ex G G2) (hh : ∀ a u, H a = some u → a ∉ R.ft → H2 a = some u) (i : Ex G2 H2) (n : ∀ a u, H a = some u → Mt u → G a = none → G2 a = none) (m : R'.p G2 H2) : Ok B G2 H2 (M.set k R') where
  g := o.g.trans e
  l := o.l.trans e
  h := fun a u z c => hh a u (o.h a u z c) fun q => by
    rcases o.f R (List.mem_of_getElem? hk) a q with y | y
    · rw [y] at z; cases z
    · exact c y.2
  i := i
  n := fun a u z t y => by
    by_cases c : a ∈ B.F
    · obtain ⟨u2, z2, t2⟩ := o.k a c
      exact n a u2 z2 t2 (o.n a u z t y)
    · exact n a u (o.h a u z c) t (o.n a u z t y)
  k := fun a c => by
    obtain ⟨u, z, t⟩ := o.k a c
    by_cases q : a ∈ R.ft
    · exact R'.at_ m a (hf ▸ q)
    · exact ⟨u, hh a u z q, t⟩
  m := fun r hr => by
    rcases mem_set_or hr with q | q
    · rw [q]; exact m
    · exact r.loc (fun a ha u z => hh a u z (feet_apart o.d hk q a ha)) (r.mono e (o.m r (mem_erase q)))
  z := fun a ha => by
    rw [feet_set hk hf] at ha
    obtain ⟨r, hr, hf'⟩ := List.mem_flatMap.mp ha
    obtain ⟨u, z, t⟩ := r.at_ (o.m r hr) a hf'
    exact n a u z t (o.z a ha)
  d := by rw [feet_set hk hf]; exact o.d
  f := fun r hr a ha => by
    rcases mem_set_or hr with q | q
    · subst q
      rw [ho]
      exact o.f R (List.mem_of_getElem? hk) a (hf ▸ ha)
    · exact o.f r (mem_erase q) a ha
theorem feet_snoc {M : List Re} : feet (M ++ [R]) = feet M ++ R.ft := by unfold feet; rw [List.flatMap_append]; simp
theorem Ok.add (o : Ok B G H M) (g : Gr G H G2 H2) (hd : R.ft.Nodup) (hn : ∀ a ∈ R.ft, H a = none ∧ G2 a = none) (m : R.p G2 H2) : Ok B G2 H2 (M ++ [R]) := by
  have o2 := o.gr g
  refine ⟨o2.g, o2.l, o2.h, o2.i, o2.n, o2.k, fun r hr => ?_, fun a ha => ?_, ?_, fun r hr a ha => ?_⟩
  · rcases List.mem_append.mp hr with q | q
    · exact o2.m r q
    · rw [List.mem_singleton.mp q]; exact m
  · rw [feet_snoc] at ha
    rcases List.mem_append.mp ha with q | q
    · exact o2.z a q
    · exact (hn a q).2
  · rw [feet_snoc]
    refine List.nodup_append.mpr ⟨o.d, hd, fun a ha b hb e => ?_⟩
    subst e
    obtain ⟨r, hr, hf⟩ := List.mem_flatMap.mp ha
    obtain ⟨u, z, t⟩ := r.at_ (o.m r hr) a hf
    rw [(hn a hb).1] at z; cases z
  · rcases List.mem_append.mp hr with q | q
    · exact o.f r q a ha
    · rw [List.mem_singleton.mp q] at ha
      refine .inl ?_
      cases z : B.H0 a with
      | none => rfl
      | some u =>
        by_cases c : a ∈ B.F
        · obtain ⟨u2, z2, t2⟩ := o.k a c
          rw [(hn a ha).1] at z2; cases z2
        · have := o.h a u z c
          rw [(hn a ha).1] at this; cases this
theorem feet_erase_sub {M : List Re} {k : Nat} {a : Addr} (h : a ∈ feet (M.eraseIdx k)) : a ∈ feet M := by
  obtain ⟨r, hr, hf⟩ := List.mem_flatMap.mp h
  exact mem_feet (mem_erase hr) hf
theorem feet_erase_nodup {M : List Re} : ∀ {k : Nat}, (feet M).Nodup → (feet (M.eraseIdx k)).Nodup := by
  induction M with
  | nil => intro k h; simpa using h
  | cons b M ih =>
    intro k h
    have h3 := List.nodup_append.mp (show (b.ft ++ feet M).Nodup from h)
    cases k with
    | zero => exact h3.2.1
    | succ k =>
      show (b.ft ++ feet (M.eraseIdx k)).Nodup
      exact List.nodup_append.mpr ⟨h3.1, ih h3.2.1, fun x hx y hy => h3.2.2 x hx y (feet_erase_sub hy)⟩
theorem Ok.frz {p : Addr} {rs : List Rp} {K : PySem.W.Frag} (o : Ok B G H M) (hk : M[k]? = some (lstR p rs)) : ∃ G2, Ex G G2 ∧ Ok B G2 H (M.eraseIdx k) ∧ (rL K rs).p (.ref p) G2 := by
  have hm := List.mem_of_getElem? hk
  obtain ⟨ws, h1, h2⟩ := o.m _ hm
  have gp : G p = none := o.z p (mem_feet hm (List.mem_singleton.mpr rfl))
  have e : Ex G (upd G p (.lst ws)) := Ex.new gp
  refine ⟨upd G p (.lst ws), e, ⟨o.g.trans e, o.l.trans e, o.h, ex_add o.i h1, fun a u z t y => ?_, o.k, fun r hr => r.mono e (o.m r (mem_erase hr)), fun a ha => ?_, feet_erase_nodup o.d, fun r hr => o.f r (mem_erase hr)⟩, ⟨p, ws, rfl, upd_same, h2.mono e⟩⟩
  · rcases o.f _ hm p (List.mem_singleton.mpr rfl) with q | q
    · rw [upd_ne (ne_of_none z q)]; exact o.n a u z t y
    · exact absurd q.1 (show ¬ (true = false) by decide)
  · obtain ⟨r, hr, hf⟩ := List.mem_flatMap.mp ha
    have ne : a ≠ p := fun q => feet_apart o.d hk hr a hf (List.mem_singleton.mpr q)
    rw [upd_ne ne]
    exact o.z a (feet_erase_sub ha)
theorem Ok.drop (o : Ok B G H M) : Ok B G H (M.eraseIdx k) := ⟨o.g, o.l, o.h, o.i, o.n, o.k, fun r hr => o.m r (mem_erase hr), fun a ha => o.z a (feet_erase_sub ha), feet_erase_nodup o.d, fun r hr => o.f r (mem_erase hr)⟩
theorem Ok.nil (e : Ex G H) : Ok ⟨G, H, [], G⟩ G H [] := ⟨Ex.refl _, Ex.refl _, fun _ _ z _ => z, e, fun _ _ _ _ y => y, fun _ h => (nomatch h), fun _ h => (nomatch h), fun _ h => (nomatch h), List.nodup_nil, fun _ h => (nomatch h)⟩
theorem Ok.to {G0 H0 Gl : Hp} (o : Ok ⟨G0, H0, [], Gl⟩ G H M) : Gr G0 H0 G H := ⟨o.g, fun a u z => o.h a u z (fun q => nomatch q), o.i, o.n⟩
theorem Ok.box {K : PySem.W.Frag} {b : Addr} (e : Ex G H) (gb : G b = Option.none) (hb : Box K G H b) : Ok ⟨G, H, [b], G⟩ G H [boxR K b] :=
  ⟨Ex.refl _, Ex.refl _, fun _ _ z _ => z, e, fun _ _ _ _ y => y, fun a h => by rw [List.mem_singleton.mp h]; exact hb.at_, fun r h => by rw [List.mem_singleton.mp h]; exact hb, fun a h => by
    have : a ∈ [b] := by simpa [feet, boxR] using h
    rw [List.mem_singleton.mp this]; exact gb, by simp [feet, boxR], fun r h a ha => by
    rw [List.mem_singleton.mp h] at ha ⊢
    exact .inr ⟨rfl, ha⟩⟩
theorem Ok.toB {G0 H0 Gl : Hp} {b : Addr} (o : Ok ⟨G0, H0, [b], Gl⟩ G H M) : GrB b G0 H0 G H := ⟨o.g, fun a u z n => o.h a u z (fun q => n (List.mem_singleton.mp q)), o.i, o.n⟩
end
def EvX (Γ : Ctx) (te : TE) (r : Rp) : Prop := ∀ σ G, En σ G Γ → EvD te σ G r
def EvNX (Γ : Ctx) (te : TE) (rs : List Rp) : Prop := ∀ σ G, En σ G Γ → EvN te σ G rs
def EvTX (Γ : Ctx) (t : TT) (b : Bool) : Prop := ∀ σ G, En σ G Γ → EvT t σ G b
def EvAX (Γ : Ctx) (ta : TA) (rs : List Rp) : Prop := ∀ σ G, En σ G Γ → EvAD ta σ G rs
def EX (Γ : Ctx) (M : List Re) (te : TE) (κ : Rp → List Re → Prop) : Prop := ∀ B G H σ, Ok B G H M → En σ G Γ → ∀ Q : VK, (∀ v G' H' r M', κ r M' → Ok B G' H' M' → Ex G G' → r.p v G' → Q v H') → te σ H Q
def EXT (Γ : Ctx) (M : List Re) (t : TT) (κ : Bool → List Re → Prop) : Prop := ∀ B G H σ, Ok B G H M → En σ G Γ → ∀ Q : Bool → Hp → Prop, (∀ c G' H' M', κ c M' → Ok B G' H' M' → Ex G G' → Q c H') → t σ H Q
section
variable {Γ : Ctx} {M : List Re} {te ta tb : TE} {t : TT} {r : Rp} {b : Addr} {K : PySem.W.Frag} {P : Rp → Prop} {k i : Nat}
theorem EX.of (h : EvX Γ te r) : EX Γ M te (fun r' M' => r' = r ∧ M' = M) := fun B G H σ o en Q q => h σ G en H o.i Q fun v G2 H2 g hv => q v G2 H2 r M ⟨rfl, rfl⟩ (o.gr g) g.g hv
theorem EXT.of {c : Bool} (h : EvTX Γ t c) : EXT Γ M t (fun c' M' => c' = c ∧ M' = M) := fun B G H σ o en Q q => h σ G en H o.i Q fun H2 e => q c G H2 M ⟨rfl, rfl⟩ (o.ex e) (Ex.refl _)
theorem EX.imp {κ κ' : Rp → List Re → Prop} (h : EX Γ M te κ) (hk : ∀ r M', κ r M' → κ' r M') : EX Γ M te κ' := fun B G H σ o en Q q => h B G H σ o en Q fun v G' H' r M' z => q v G' H' r M' (hk r M' z)
theorem set_same {M : List Re} {R : Re} (h : M[k]? = some R) : M.set k R = M := by
  apply List.ext_getElem?
  intro i
  by_cases c : k = i
  · subst c
    rw [List.getElem?_set_self', h]; rfl
  · rw [List.getElem?_set_ne c]
theorem Ok.grB {B : Ba} {G H G2 H2 : Hp} (o : Ok B G H M) (hk : M[k]? = some (boxR K b)) (g : GrB b G H G2 H2) (hb : Box K G2 H2 b) : Ok B G2 H2 M := by
  have := o.chg (R' := boxR K b) hk rfl rfl g.g (fun a u z n => g.h a u z fun q => n (List.mem_singleton.mpr q)) g.i g.n hb
  rwa [set_same hk] at this
theorem EX.ofB (hk : M[k]? = some (boxR K b)) (h : ∀ σ G, En σ G Γ → EvB K te σ b G P) : EX Γ M te (fun r M' => P r ∧ M' = M) := fun B G H σ o en Q q => by
  have hm := List.mem_of_getElem? hk
  have gb : G b = none := o.z b (mem_feet hm (List.mem_singleton.mpr rfl))
  exact h σ G en H o.i gb (o.m _ hm) Q fun r v G2 H2 p g hb hv => q v G2 H2 r M ⟨p, rfl⟩ (o.grB hk g hb) g.g hv
theorem EXT.ofB {P : Bool → Prop} (hk : M[k]? = some (boxR K b)) (h : ∀ σ G, En σ G Γ → EvTB K t σ b G P) : EXT Γ M t (fun c M' => P c ∧ M' = M) := fun B G H σ o en Q q => by
  have hm := List.mem_of_getElem? hk
  have gb : G b = none := o.z b (mem_feet hm (List.mem_singleton.mpr rfl))
  exact h σ G en H o.i gb (o.m _ hm) Q fun c G2 H2 p g hb => q c G2 H2 M ⟨p, rfl⟩ (o.grB hk g hb) g.g
theorem Ok.rd {B : Ba} {G H : Hp} {p : Addr} {rs : List Rp} {σ : L2.St} (o : Ok B G H M) (hk : M[k]? = some (lstR p rs)) (hi : Γ[i]? = some (some (rV (.ref p)))) (en : En σ G Γ) : ∃ G2, Ex G2 H ∧ En σ G2 (Γ.set i (some (rL K rs))) := by
  have hm := List.mem_of_getElem? hk
  obtain ⟨ws, h1, h2⟩ := o.m _ hm
  have gp : G p = none := o.z p (mem_feet hm (List.mem_singleton.mpr rfl))
  have e : Ex G (upd G p (.lst ws)) := Ex.new gp
  obtain ⟨v, hv1, hv2⟩ := en.get hi
  obtain rfl : v = V.ref p := hv2
  refine ⟨upd G p (.lst ws), ex_add o.i h1, ?_⟩
  have z := En.set (r := rL K rs) (v := .ref p) ⟨p, ws, rfl, upd_same, h2.mono e⟩ i (en.mono e)
  have es : σ.set i (some (.ref p)) = σ := by
    apply List.ext_getElem?
    intro j
    by_cases c : i = j
    · subst c
      rw [List.getElem?_set_self', hv1]; rfl
    · rw [List.getElem?_set_ne c]
  rwa [es] at z
theorem EX.rd {p : Addr} {rs : List Rp} {v : V} (hk : M[k]? = some (lstR p rs)) (hi : Γ[i]? = some (some (rV (.ref p)))) (h : EvX (Γ.set i (some (rL K rs))) te (rV v)) : EX Γ M te (fun r M' => r = rV v ∧ M' = M) := fun B G H σ o en Q q => by
  obtain ⟨G2, e2, en2⟩ := o.rd (K := K) hk hi en
  exact h σ G2 en2 H e2 Q fun w G3 H3 g hw => q w G H3 (rV v) M ⟨rfl, rfl⟩ (o.ex g.h) (Ex.refl _) hw
theorem EXT.rd {p : Addr} {rs : List Rp} {c : Bool} (hk : M[k]? = some (lstR p rs)) (hi : Γ[i]? = some (some (rV (.ref p)))) (h : EvTX (Γ.set i (some (rL K rs))) t c) : EXT Γ M t (fun c' M' => c' = c ∧ M' = M) := fun B G H σ o en Q q => by
  obtain ⟨G2, e2, en2⟩ := o.rd (K := K) hk hi en
  exact h σ G2 en2 H e2 Q fun H3 e3 => q c G H3 M ⟨rfl, rfl⟩ (o.ex e3) (Ex.refl _)
end
structure Kn where
  nx : Ctx → List Re → Prop
  rt : Rp → List Re → Prop := fun _ _ => False
  bk : Ctx → List Re → Prop := fun _ _ => False
  ct : Ctx → List Re → Prop := fun _ _ => False
  /-- an exception: its class, its fields -/
  ex : Ctx → Value → List (Str × V) → List Re → Prop := fun _ _ _ _ => False
def XdOk (G : Hp) (fs : List (Str × V)) : Option Addr → Prop
  | some d => G d = some (.xd fs)
  | none => fs = []
theorem XdOk.mono {G G' : Hp} {fs : List (Str × V)} (e : Ex G G') : ∀ {d : Option Addr}, XdOk G fs d → XdOk G' fs d
  | some d, h => e d _ h
  | none, h => h
structure Dk (B : Ba) (W : WX) (D : Ends) (κ : Kn) : Prop where
  nx : ∀ σ G H Γ M, Ok B G H M → En σ G Γ → κ.nx Γ M → D.nx σ H
  rt : ∀ v G H r M, Ok B G H M → r.p v G → κ.rt r M → D.rt v H
  bk : ∀ σ G H Γ M, Ok B G H M → En σ G Γ → κ.bk Γ M → D.bk σ H
  ct : ∀ σ G H Γ M, Ok B G H M → En σ G Γ → κ.ct Γ M → D.ct σ H
  ex : ∀ σ G H Γ M cls d fs, Ok B G H M → En σ G Γ → XdOk G fs d → κ.ex Γ cls fs M → W cls d σ H
def WP (W : WX) (Γ : Ctx) (M : List Re) (t : TS) (κ : Kn) : Prop := ∀ B G H σ D, Ok B G H M → En σ G Γ → Dk B W D κ → t D σ H
section
variable {W : WX} {Γ Γ' : Ctx} {M : List Re} {te ta tb tl : TE} {t1 t2 tu tw : TS} {tt : TT} {κ : Kn} {r : Rp} {K : PySem.W.Frag} {i j k : Nat}
theorem w_seq (h : WP W Γ M t1 { κ with nx := fun Γ' M' => WP W Γ' M' t2 κ }) : WP W Γ M (tSeq t1 t2) κ := fun B G H σ D o en d =>
  h B G H σ _ o en ⟨fun σ' G' H' Γ' M' o' en' w => w B G' H' σ' D o' en' d, d.rt, d.bk, d.ct, d.ex⟩
theorem w_nx (h : κ.nx Γ M) : WP W Γ M tNext κ := fun B G H σ D o en d => d.nx σ G H Γ M o en h
theorem w_sub (hs : Sub Γ Γ') (h : WP W Γ' M t1 κ) : WP W Γ M t1 κ := fun B G H σ D o en d => h B G H σ D o (en.weak hs) d
theorem w_imp {κ' : Kn} (h : WP W Γ M t1 κ) (h1 : ∀ Γ M, κ.nx Γ M → κ'.nx Γ M) (h2 : ∀ r M, κ.rt r M → κ'.rt r M) (h3 : ∀ Γ M, κ.bk Γ M → κ'.bk Γ M) (h4 : ∀ Γ M, κ.ct Γ M → κ'.ct Γ M) (h5 : ∀ Γ c f M, κ.ex Γ c f M → κ'.ex Γ c f M) : WP W Γ M t1 κ' := fun B G H σ D o en d =>
  h B G H σ D o en ⟨fun σ G H Γ M o en z => d.nx σ G H Γ M o en (h1 Γ M z), fun v G H r M o hv z => d.rt v G H r M o hv (h2 r M z), fun σ G H Γ M o en z => d.bk σ G H Γ M o en (h3 Γ M z), fun σ G H Γ M o en z => d.ct σ G H Γ M o en (h4 Γ M z), fun σ G H Γ M c dd fs o en x z => d.ex σ G H Γ M c dd fs o en x (h5 Γ c fs M z)⟩
theorem w_ret0 (hn : κ.rt (rV .non) M) : WP W Γ M tRetN κ := fun B G H σ D o en d => d.rt _ G H (rV .non) M o rfl hn
theorem w_if {b : Bool} (h : EvTX Γ tt b) (h1 : b = true → WP W Γ M tu κ) (h2 : b = false → WP W Γ M tw κ) : WP W Γ M (tIfS tt tu tw) κ := fun B G H σ D o en d =>
  h σ G en H o.i _ fun H2 e => by
    cases b with
    | true =>
      show tu D σ H2
      exact h1 rfl B G H2 σ D (o.ex e) en d
    | false =>
      show tw D σ H2
      exact h2 rfl B G H2 σ D (o.ex e) en d
theorem w_no (h : EvTX Γ tt false) (h2 : WP W Γ M tw κ) : WP W Γ M (tIfS tt tu tw) κ := w_if h (fun z => nomatch z) fun _ => h2
theorem w_yes (h : EvTX Γ tt true) (h2 : WP W Γ M tu κ) : WP W Γ M (tIfS tt tu tw) κ := w_if h (fun _ => h2) fun z => nomatch z
theorem w_frz {p : Addr} {rs : List Rp} (K : PySem.W.Frag) (k i : Nat) (hk : M[k]? = some (lstR p rs)) (hi : Γ[i]? = some (some (rV (.ref p)))) (h : WP W (Γ.set i (some (rL K rs))) (M.eraseIdx k) t1 κ) : WP W Γ M t1 κ := fun B G H σ D o en d => by
  obtain ⟨G2, e, o2, hr⟩ := o.frz (K := K) hk
  obtain ⟨v, hv1, hv2⟩ := en.get hi
  obtain rfl : v = V.ref p := hv2
  have z := En.set (r := rL K rs) (v := .ref p) hr i (en.mono e)
  have es : σ.set i (some (.ref p)) = σ := by
    apply List.ext_getElem?
    intro j
    by_cases c : i = j
    · subst c
      rw [List.getElem?_set_self', hv1]; rfl
    · rw [List.getElem?_set_ne c]
  rw [es] at z
  exact h B G2 H σ D o2 z d
variable {α β : Type}
def LI (P : Nat → α → Prop) (Γi : Nat → α → Ctx) (Mi : Nat → α → List Re) (n : Nat) : Ctx → List Re → Prop := fun Γ' M' => ∃ a, P n a ∧ Sub Γ' (Γi n a) ∧ M' = Mi n a
def kLoop (I : Ctx → List Re → Prop) (κ : Kn) : Kn := { nx := I, ct := I, bk := κ.nx, rt := κ.rt, ex := κ.ex }
def Pv (B : Ba) (I : Ctx → List Re → Prop) : L2.St → Hp → Prop := fun σ H => ∃ G Γ M, Ok B G H M ∧ En σ G Γ ∧ I Γ M
theorem Dk.loop {B : Ba} {D : Ends} {I : Ctx → List Re → Prop} (d : Dk B W D κ) : Dk B W { D with nx := Pv B I, ct := Pv B I, bk := D.nx } (kLoop I κ) :=
  ⟨fun σ G H Γ M o en z => ⟨G, Γ, M, o, en, z⟩, d.rt, d.nx, fun σ G H Γ M o en z => ⟨G, Γ, M, o, en, z⟩, d.ex⟩
theorem w_forR (n : Nat) (P : Nat → α → Prop) (Γi : Nat → α → Ctx) (Mi : Nat → α → List Re) (h : EvX Γ ta (nI n)) (hn : n ≤ 100000) (a0 : α) (p0 : P 0 a0) (s0 : Sub Γ (Γi 0 a0)) (m0 : M = Mi 0 a0)
    (hs : ∀ i a, i < n → P i a → WP W ((Γi i a).set j (some (nI i))) (Mi i a) tu (kLoop (LI P Γi Mi (i + 1)) κ)) (hd : ∀ a, P n a → κ.nx (Γi n a) (Mi n a)) : WP W Γ M (tFor (iRng1 (tCons ta tNil)) (gName j) tu) κ := fun B G H σ D o en d => by
  refine Mu.s_forR n o.i (ea_cons (EvD.ev (h σ G en)) ea_nil) hn (fun i σ' H' => ∃ G Γ M, Ok B G H' M ∧ En σ' G Γ ∧ LI P Γi Mi i Γ M) (fun H1 e => ⟨G, Γ, M, o.ex e, en, a0, p0, s0, m0⟩) (fun i σ' H' hi ⟨G1, Γ1, M1, o1, en1, a, pa, sa, ma⟩ => ?_) (fun σ' H' ⟨G1, Γ1, M1, o1, en1, a, pa, sa, ma⟩ => ?_)
  · subst ma
    exact hs i a hi pa B G1 H' _ _ o1 ((en1.weak sa).set (r := nI i) rfl j) d.loop
  · subst ma
    exact d.nx _ G1 H' _ _ o1 (en1.weak sa) (hd a pa)
def Ba.low (B : Ba) (G : Hp) : Ba := { B with Gl := G }
theorem Ok.low {B : Ba} {G H G1 : Hp} (o : Ok B G H M) (e : Ex G1 G) : Ok (B.low G1) G H M := ⟨o.g, e, o.h, o.i, o.n, o.k, o.m, o.z, o.d, o.f⟩
theorem Ok.up {B : Ba} {G H G1 : Hp} (o : Ok (B.low G1) G H M) (e : Ex B.Gl G1) : Ok B G H M := ⟨o.g, e.trans o.l, o.h, o.i, o.n, o.k, o.m, o.z, o.d, o.f⟩
theorem Dk.low {B : Ba} {D : Ends} {G1 : Hp} (d : Dk B W D κ) (e : Ex B.Gl G1) : Dk (B.low G1) W D κ := ⟨fun σ G H Γ M o en z => d.nx σ G H Γ M (o.up e) en z, fun v G H r M o hv z => d.rt v G H r M (o.up e) hv z, fun σ G H Γ M o en z => d.bk σ G H Γ M (o.up e) en z, fun σ G H Γ M o en z => d.ct σ G H Γ M (o.up e) en z, fun σ G H Γ M c dd fs o en x z => d.ex σ G H Γ M c dd fs (o.up e) en x z⟩
theorem w_forL (l : List β) (ρ : β → Rp) (P : Nat → α → Prop) (Γi : Nat → α → Ctx) (Mi : Nat → α → List Re) (h : EvX Γ tl (rL K (l.map ρ))) (a0 : α) (p0 : P 0 a0) (s0 : Sub Γ (Γi 0 a0)) (m0 : M = Mi 0 a0)
    (hs : ∀ i a x, l[i]? = some x → P i a → WP W ((Γi i a).set j (some (ρ x))) (Mi i a) tu (kLoop (LI P Γi Mi (i + 1)) κ)) (hd : ∀ a, P l.length a → κ.nx (Γi l.length a) (Mi l.length a)) : WP W Γ M (tFor (iList K tl) (gName j) tu) κ := fun B G H σ D o en d => by
  refine Mu.s_forL l ρ o.i (h σ G en) (fun G1 i σ' H' => Ex B.Gl G1 ∧ Pv (B.low G1) (LI P Γi Mi i) σ' H') (fun G1 H1 g => ⟨o.l.trans g.g, G1, Γ, M, (o.gr g).low (Ex.refl _), en.mono g.g, a0, p0, s0, m0⟩) (fun G1 i σ' H' ⟨_, G2, _, _, o2, _⟩ => o2.l.trans o2.i) (fun G1 i x y σ' H' e hi hy ⟨eb, G2, Γ1, M1, o1, en1, a, pa, sa, ma⟩ => ?_) (fun G1 σ' H' _ ⟨eb, G2, Γ1, M1, o1, en1, a, pa, sa, ma⟩ => ?_)
  · subst ma
    have d2 := (d.low eb).loop (I := LI P Γi Mi (i + 1))
    exact hs i a x hi pa (B.low G1) G2 H' _ _ o1 ((en1.weak sa).set ((ρ x).mono o1.l hy) j) ⟨fun σ G H Γ M o en z => ⟨eb, d2.nx σ G H Γ M o en z⟩, d2.rt, d2.bk, fun σ G H Γ M o en z => ⟨eb, d2.ct σ G H Γ M o en z⟩, d2.ex⟩
  · subst ma
    exact d.nx _ G2 H' _ _ (o1.up eb) (en1.weak sa) (hd a pa)
end
end Mu

namespace Mu
open PySem PySem.Spec PyProof.Rows L2 Evl
section
variable {Γ : Ctx} {M : List Re} {te ta tb tc tl : TE} {t u : TT} {r r1 r2 r3 : Rp} {rs : List Rp} {K : PySem.W.Frag} {C : Addr} {i j : Nat} {v w x y : V} {a b : Int} {m n : Nat} {E : XK} {sp : Sp}
theorem x_v (h : Γ[i]? = some (some r)) : EvX Γ (tVar i) r := fun σ G en => by
  obtain ⟨v, h1, h2⟩ := en.get h
  exact ed_var h1 h2
theorem x_c : EvX Γ (tC v) (rV v) := fun σ G en => Ev.d ev_c
theorem x_is (h : EvX Γ te r) (e : r = r1) : EvX Γ te r1 := e ▸ h
theorem xn_is {ss : List Rp} (h : EvNX Γ te rs) (e : rs = ss) : EvNX Γ te ss := e ▸ h
theorem t_is {c d : Bool} (h : EvTX Γ t c) (e : c = d) : EvTX Γ t d := e ▸ h
theorem EvNX.d (h : EvNX Γ te rs) : EvX Γ te (rL K rs) := fun σ G en => EvN.d (h σ G en)
theorem xa_nil : EvAX Γ tNil [] := fun σ G en => ead_nil
theorem xa_cons {tr : TA} (h : EvX Γ te r) (hr : EvAX Γ tr rs) : EvAX Γ (tCons te tr) (r :: rs) := fun σ G en => ead_cons (h σ G en) (hr σ G en)
theorem x_call {ta : TA} (h : EvAX Γ ta rs) (hs : ∀ vs G, RA G vs rs → SpD sp vs G r) : EvX Γ (tCall sp [] E ta) r := fun σ G en => ed_call (h σ G en) fun vs G2 _ ra => hs vs G2 ra
theorem xn_call {ta : TA} {ss : List Rp} (h : EvAX Γ ta rs) (hs : ∀ vs G, RA G vs rs → SpN sp vs G ss) : EvNX Γ (tCall sp [] E ta) ss := fun σ G en => en_call (h σ G en) fun vs G2 _ ra => hs vs G2 ra
theorem x_I0 {g : Int → Int → V} (ha : EvX Γ ta (rI a)) (hb : EvX Γ tb (rI b)) : EvX Γ (tOp (rI0 g) ta tb) (rV (g a b)) := fun σ G en => Ev.d (ev_op (EvD.ev (ha σ G en)) (EvD.ev (hb σ G en)) rv_I0)
theorem x_I {c : Int → Int → Prop} {g : Int → Int → V} (ha : EvX Γ ta (rI a)) (hb : EvX Γ tb (rI b)) (hc : c a b) : EvX Γ (tOp (L2.rI c g) ta tb) (rV (g a b)) := fun σ G en => Ev.d (ev_op (EvD.ev (ha σ G en)) (EvD.ev (hb σ G en)) (rv_I hc))
theorem x_addN (ha : EvX Γ ta (nI m)) (hb : EvX Γ tb (nI n)) : EvX Γ (tOp (rI0 fun i j => .int (i + j)) ta tb) (nI (m + n)) := x_is (x_I0 ha hb) (by show rI _ = rI _; congr 1)
theorem x_subN (ha : EvX Γ ta (nI m)) (hb : EvX Γ tb (nI n)) (h : n ≤ m) : EvX Γ (tOp (rI0 fun i j => .int (i - j)) ta tb) (nI (m - n)) := x_is (x_I0 ha hb) (by show rI _ = rI _; congr 1; omega)
theorem x_int (h : EvX Γ te (rI a)) : EvX Γ (tCB (fun xs H Q => (∃ i, xs = [.int i] ∧ Q (.int i) H) ∨ ∃ k, xs = [.bl k] ∧ Q (.int (if k then 1 else 0)) H) (tCons te tNil)) (rI a) := fun σ G en => Ev.d (ev_int (EvD.ev (h σ G en)))
theorem x_cn (n : Nat) : EvX Γ (tC (.int (n : Int))) (nI n) := x_c
theorem x_and {c d : Bool} (h1 : EvX Γ ta (rB c)) (h2 : c = true → EvX Γ tb (rB d)) : EvX Γ (tAndV ta tb) (rB (c && d)) := fun σ G en => Ev.d (ev_andV (EvD.ev (h1 σ G en)) fun z => EvD.ev (h2 z σ G en))
theorem x_or {c d : Bool} (h1 : EvX Γ ta (rB c)) (h2 : c = false → EvX Γ tb (rB d)) : EvX Γ (tOrV ta tb) (rB (c || d)) := fun σ G en => Ev.d (ev_orV (EvD.ev (h1 σ G en)) fun z => EvD.ev (h2 z σ G en))
theorem x_not {c : Bool} (h1 : EvX Γ ta (rB c)) : EvX Γ (tNotV ta) (rB (!c)) := fun σ G en => Ev.d (ev_notV (EvD.ev (h1 σ G en)))
theorem x_eqV (ha : EvX Γ ta (rV x)) (hb : EvX Γ tb (rV y)) (hs : scal x y = true := by rfl) : EvX Γ (tOp rEq ta tb) (rB (decide (x = y))) := fun σ G en => Ev.d (ev_op (EvD.ev (ha σ G en)) (EvD.ev (hb σ G en)) (rv_eq hs))
theorem x_neV (ha : EvX Γ ta (rV x)) (hb : EvX Γ tb (rV y)) (hs : scal x y = true := by rfl) : EvX Γ (tOp rNe ta tb) (rB (!decide (x = y))) := fun σ G en => Ev.d (ev_op (EvD.ev (ha σ G en)) (EvD.ev (hb σ G en)) (rv_ne hs))
theorem dec_nat (p q : Nat) : decide (V.int (p : Int) = V.int (q : Int)) = decide (p = q) := by
  rw [Bool.eq_iff_iff, decide_eq_true_iff, decide_eq_true_iff]
  constructor
  · intro z; injection z with z; omega
  · intro z; rw [z]
theorem dec_int (p q : Int) : decide (V.int p = V.int q) = decide (p = q) := by
  rw [Bool.eq_iff_iff, decide_eq_true_iff, decide_eq_true_iff]
  constructor
  · intro z; injection z
  · intro z; rw [z]
theorem x_eqN (ha : EvX Γ ta (nI m)) (hb : EvX Γ tb (nI n)) : EvX Γ (tOp rEq ta tb) (rB (decide (m = n))) := x_is (x_eqV ha hb) (by rw [dec_nat])
theorem x_neN (ha : EvX Γ ta (nI m)) (hb : EvX Γ tb (nI n)) : EvX Γ (tOp rNe ta tb) (rB (!decide (m = n))) := x_is (x_neV ha hb) (by rw [dec_nat])
theorem x_bandN (ha : EvX Γ ta (nI m)) (hb : EvX Γ tb (nI n)) : EvX Γ (tOp (rI0 fun i j => .int (Builtin.bitAnd i j)) ta tb) (nI (m &&& n)) := x_is (x_I0 ha hb) (by rw [band_nat])
theorem x_borN (ha : EvX Γ ta (nI m)) (hb : EvX Γ tb (nI n)) : EvX Γ (tOp (rI0 fun i j => .int (Builtin.bitOr i j)) ta tb) (nI (m ||| n)) := x_is (x_I0 ha hb) (by rw [bor_nat])
theorem x_shrN (ha : EvX Γ ta (nI m)) (hb : EvX Γ tb (nI n)) : EvX Γ (tOp (L2.rI (fun _ j => 0 ≤ j) fun i j => .int (i / 2 ^ j.toNat)) ta tb) (nI (m / 2 ^ n)) := x_is (x_I ha hb (by omega)) (by rw [shr_nat])
theorem x_ixT (ha : EvX Γ ta (rT K rs)) (hb : EvX Γ tb (nI n)) (hi : rs[n]? = some r) : EvX Γ (tOp (rIxT K) ta tb) r := fun σ G en => ed_ixT (ha σ G en) (EvD.ev (hb σ G en)) hi
theorem x_ixL (ha : EvX Γ ta (rL K rs)) (hb : EvX Γ tb (nI n)) (hi : rs[n]? = some r) : EvX Γ (tOp (rIxL K) ta tb) r := fun σ G en => ed_ixL (ha σ G en) (EvD.ev (hb σ G en)) hi
theorem get_map {α : Type} {ρ : α → Rp} {l : List α} {d : α} (h : n < l.length) : (l.map ρ)[n]? = some (ρ (l.getD n d)) := by
  rw [List.getElem?_map, List.getD_eq_getElem?_getD, List.getElem?_eq_getElem h]; rfl
theorem x_ixLm {α : Type} {ρ : α → Rp} {l : List α} (d : α) (ha : EvX Γ ta (rL K (l.map ρ))) (hb : EvX Γ tb (nI n)) (h : n < l.length) : EvX Γ (tOp (rIxL K) ta tb) (ρ (l.getD n d)) := x_ixL ha hb (get_map h)
theorem x_ixTm {α : Type} {ρ : α → Rp} {l : List α} (d : α) (ha : EvX Γ ta (rT K (l.map ρ))) (hb : EvX Γ tb (nI n)) (h : n < l.length) : EvX Γ (tOp (rIxT K) ta tb) (ρ (l.getD n d)) := x_ixT ha hb (get_map h)
theorem x_ixLn {l : List Nat} (ha : EvX Γ ta (rLn K l)) (hb : EvX Γ tb (nI n)) (h : n < l.length) : EvX Γ (tOp (rIxL K) ta tb) (nI (l.getD n 0)) := x_ixLm 0 ha hb h
theorem x_ixTn {l : List Nat} (ha : EvX Γ ta (rTn K l)) (hb : EvX Γ tb (nI n)) (h : n < l.length) : EvX Γ (tOp (rIxT K) ta tb) (nI (l.getD n 0)) := x_ixTm 0 ha hb h
theorem x_ixB {l : List Nat} (ha : EvX Γ ta (rLL K (l.map bitsN))) (hb : EvX Γ tb (nI n)) (h : n < l.length) : EvX Γ (tOp (rIxL K) ta tb) (rLn K (bitsN (l.getD n 0))) := x_ixL ha hb (by
  rw [List.map_map, List.getElem?_map, List.getD_eq_getElem?_getD, List.getElem?_eq_getElem h]; rfl)
theorem x_lenL (h : EvX Γ te (rL K rs)) : EvX Γ (tCB (rLenS K) (tCons te tNil)) (nI rs.length) := fun σ G en => Ev.d (ev_lenL (h σ G en) rfl)
theorem x_lenT (h : EvX Γ te (rT K rs)) : EvX Γ (tCB (rLenS K) (tCons te tNil)) (nI rs.length) := fun σ G en => Ev.d (ev_lenT (h σ G en) rfl)
theorem x_lenLm {α : Type} {ρ : α → Rp} {l : List α} (h : EvX Γ te (rL K (l.map ρ))) : EvX Γ (tCB (rLenS K) (tCons te tNil)) (nI l.length) := x_is (x_lenL h) (by rw [List.length_map])
theorem x_lenTm {α : Type} {ρ : α → Rp} {l : List α} (h : EvX Γ te (rT K (l.map ρ))) : EvX Γ (tCB (rLenS K) (tCons te tNil)) (nI l.length) := x_is (x_lenT h) (by rw [List.length_map])
theorem x_lenLn {l : List Nat} (h : EvX Γ te (rLn K l)) : EvX Γ (tCB (rLenS K) (tCons te tNil)) (nI l.length) := x_lenLm h
theorem x_lenTn {l : List Nat} (h : EvX Γ te (rTn K l)) : EvX Γ (tCB (rLenS K) (tCons te tNil)) (nI l.length) := x_lenTm h
theorem x_lenLL {l : List (List Nat)} (h : EvX Γ te (rLL K l)) : EvX Γ (tCB (rLenS K) (tCons te tNil)) (nI l.length) := x_lenLm h
theorem x_lenB {l : List Nat} (h : EvX Γ te (rLL K (l.map bitsN))) : EvX Γ (tCB (rLenS K) (tCons te tNil)) (nI l.length) := x_is (x_lenLL h) (by rw [List.length_map])
theorem xn_list (h : EvX Γ te (rL K rs)) : EvNX Γ (tCB (rListS K) (tCons te tNil)) rs := fun σ G en => en_listL (h σ G en)
theorem xn_listT (h : EvX Γ te (rT K rs)) : EvNX Γ (tCB (rListS K) (tCons te tNil)) rs := fun σ G en => en_listT (h σ G en)
theorem xn_listRg (h : EvX Γ te (nI n)) (hn : n ≤ 1000000) : EvNX Γ (tLstRg (tRg1 te)) ((List.range n).map nI) := fun σ G en => en_listR (EvD.ev (h σ G en)) hn
theorem x_tupL (h : EvX Γ te (rL K rs)) : EvX Γ (tCB (rTupO K) (tCons te tNil)) (rT K rs) := fun σ G en => ed_tupL (h σ G en)
theorem x_tup {ta : TA} (h : EvAX Γ ta rs) (hl : rs.length ≤ 100000 := by decide) : EvX Γ (tTup ta) (rT K rs) := fun σ G en => ed_tup (h σ G en) hl
theorem xn_lst {ta : TA} (h : EvAX Γ ta rs) (hl : rs.length ≤ 100000 := by decide) : EvNX Γ (tLst ta) rs := fun σ G en => en_lst (h σ G en) hl
theorem xn_cat {ss : List Rp} (ha : EvX Γ ta (rL K rs)) (hb : EvX Γ tb (rL K ss)) (hz : rs.length + ss.length ≤ 100000) : EvNX Γ (tOp rCat ta tb) (rs ++ ss) := fun σ G en => en_cat (ha σ G en) (hb σ G en) hz
theorem x_catm {α : Type} {ρ : α → Rp} {l l' : List α} (ha : EvX Γ ta (rL K (l.map ρ))) (hb : EvX Γ tb (rL K (l'.map ρ))) (hz : l.length + l'.length ≤ 100000) : EvX Γ (tOp rCat ta tb) (rL K ((l ++ l').map ρ)) := x_is (EvNX.d (K := K) (xn_cat (K := K) ha hb (by rw [List.length_map, List.length_map]; exact hz))) (by rw [List.map_append])
theorem en_at {σ : L2.St} {G : Hp} (en : En σ G Γ) {vs : List Nat} (h : r.p v G) : En ((wipe σ vs).set j (some v)) G ((wipeC Γ vs).set j (some r)) := (en.wipe vs).set h j
theorem xn_lcL {α : Type} {vs : List Nat} (l : List α) (ρ : α → Rp) (f : α → Bool) (rr : α → Rp) (h : EvX Γ tl (rL K (l.map ρ))) (hz : l.length ≤ 40000) (ht : ∀ a, a ∈ l → EvTX ((wipeC Γ vs).set j (some (ρ a))) t (f a)) (he : ∀ a, a ∈ l → f a = true → EvX ((wipeC Γ vs).set j (some (ρ a))) te (rr a)) (hj : j ∈ vs := by simp) : EvNX Γ (tLc (iList K tl) (gName j) t te vs) ((l.filter f).map rr) := fun σ G en =>
  en_lcL l ρ f rr (h σ G en) hz (wipe_turn σ hj) (fun a x G1 ha e hx => ht a ha _ G1 (en_at (en.mono e) hx)) (fun a x G1 ha hf e hx => he a ha hf _ G1 (en_at (en.mono e) hx))
theorem xn_lcT {α : Type} {vs : List Nat} (l : List α) (ρ : α → Rp) (f : α → Bool) (rr : α → Rp) (h : EvX Γ tl (rT K (l.map ρ))) (hz : l.length ≤ 40000) (ht : ∀ a, a ∈ l → EvTX ((wipeC Γ vs).set j (some (ρ a))) t (f a)) (he : ∀ a, a ∈ l → f a = true → EvX ((wipeC Γ vs).set j (some (ρ a))) te (rr a)) (hj : j ∈ vs := by simp) : EvNX Γ (tLc (iTup K tl) (gName j) t te vs) ((l.filter f).map rr) := fun σ G en =>
  en_lcT l ρ f rr (h σ G en) hz (wipe_turn σ hj) (fun a x G1 ha e hx => ht a ha _ G1 (en_at (en.mono e) hx)) (fun a x G1 ha hf e hx => he a ha hf _ G1 (en_at (en.mono e) hx))
theorem xn_lcR {vs : List Nat} (n : Nat) (f : Nat → Bool) (rr : Nat → Rp) (h : EvX Γ ta (nI n)) (hz : n ≤ 40000) (ht : ∀ a, a < n → EvTX ((wipeC Γ vs).set j (some (nI a))) t (f a)) (he : ∀ a, a < n → f a = true → EvX ((wipeC Γ vs).set j (some (nI a))) te (rr a)) (hj : j ∈ vs := by simp) : EvNX Γ (tLc (iRng1 (tCons ta tNil)) (gName j) t te vs) (((List.range n).filter f).map rr) := fun σ G en =>
  en_lcR n f rr (ea_cons (EvD.ev (h σ G en)) ea_nil) hz (wipe_turn σ hj) (fun a G1 ha e => ht a ha _ G1 (en_at (r := nI a) (en.mono e) rfl)) (fun a G1 ha hf e => he a ha hf _ G1 (en_at (r := nI a) (en.mono e) rfl))
theorem t_yes : EvTX Γ tYes true := fun σ G en => yes_T rfl
theorem xn_lcL0 {α : Type} {vs : List Nat} (l : List α) (ρ : α → Rp) (rr : α → Rp) (h : EvX Γ tl (rL K (l.map ρ))) (hz : l.length ≤ 40000) (he : ∀ a, a ∈ l → EvX ((wipeC Γ vs).set j (some (ρ a))) te (rr a)) (hj : j ∈ vs := by simp) : EvNX Γ (tLc (iList K tl) (gName j) tYes te vs) (l.map rr) :=
  xn_is (xn_lcL l ρ (fun _ => true) rr h hz (fun _ _ => t_yes) (fun a ha _ => he a ha) hj) filter_yes
theorem xn_lcT0 {α : Type} {vs : List Nat} (l : List α) (ρ : α → Rp) (rr : α → Rp) (h : EvX Γ tl (rT K (l.map ρ))) (hz : l.length ≤ 40000) (he : ∀ a, a ∈ l → EvX ((wipeC Γ vs).set j (some (ρ a))) te (rr a)) (hj : j ∈ vs := by simp) : EvNX Γ (tLc (iTup K tl) (gName j) tYes te vs) (l.map rr) :=
  xn_is (xn_lcT l ρ (fun _ => true) rr h hz (fun _ _ => t_yes) (fun a ha _ => he a ha) hj) filter_yes
theorem xn_lcR0 {vs : List Nat} (n : Nat) (rr : Nat → Rp) (h : EvX Γ ta (nI n)) (hz : n ≤ 40000) (he : ∀ a, a < n → EvX ((wipeC Γ vs).set j (some (nI a))) te (rr a)) (hj : j ∈ vs := by simp) : EvNX Γ (tLc (iRng1 (tCons ta tNil)) (gName j) tYes te vs) ((List.range n).map rr) :=
  xn_is (xn_lcR n (fun _ => true) rr h hz (fun _ _ => t_yes) (fun a ha _ => he a ha) hj) filter_yes
theorem t_and {c d : Bool} (h1 : EvTX Γ t c) (h2 : c = true → EvTX Γ u d) : EvTX Γ (tAnd t u) (c && d) := fun σ G en => et_and (h1 σ G en) fun z => h2 z σ G en
theorem t_or {c d : Bool} (h1 : EvTX Γ t c) (h2 : c = false → EvTX Γ u d) : EvTX Γ (tOr t u) (c || d) := fun σ G en => et_or (h1 σ G en) fun z => h2 z σ G en
theorem t_not {c : Bool} (h1 : EvTX Γ t c) : EvTX Γ (tNot t) (!c) := fun σ G en => et_not (h1 σ G en)
theorem t_B {c : Bool} (h : EvX Γ te (rB c)) : EvTX Γ (tB te) c := fun σ G en => et_B (EvD.ev (h σ G en))
theorem t_T {c : Bool} (h : EvX Γ te (rB c)) : EvTX Γ (tTest te) c := fun σ G en => et_test (EvD.ev (h σ G en))
theorem x_isInt (h : EvX Γ te (rI a)) : EvX Γ (tCB (rIsi K) (tCons te (tCons (tC (.ty "int")) tNil))) (rB true) := fun σ G en => Ev.d (is_int (EvD.ev (h σ G en)))
theorem x_isList (h : EvX Γ te (rL K rs)) : EvX Γ (tCB (rIsi K) (tCons te (tCons (tC (.ty "list")) tNil))) (rB true) := fun σ G en => Ev.d (is_list (h σ G en))
theorem x_isTup (h : EvX Γ te (rT K rs)) : EvX Γ (tCB (rIsi K) (tCons te (tCons (tC (.ty "tuple")) tNil))) (rB true) := fun σ G en => Ev.d (is_tup (h σ G en))
theorem x_isTab {m : List Nat} (c : IsC K C) (h : EvX Γ te (rTab K C m)) : EvX Γ (tCB (rIsi K) (tCons te (tCons (tC (.ref C)) tNil))) (rB true) := fun σ G en => Ev.d (is_tab c (h σ G en))
theorem x_eqD {d1 d2 : PyData} (ha : EvX Γ ta r1) (hb : EvX Γ tb r2) (a1 : AsD K r1 d1) (a2 : AsD K r2 d2) (s1 : SeqAt.shaped d1 = true) (s2 : SeqAt.shaped d2 = true) : EvX Γ (tOp (rEqD K) ta tb) (rB (PyData.eqv d1 d2)) := fun σ G en => Ev.d (ev_eqD (ha σ G en) (hb σ G en) a1 a2 s1 s2)
theorem x_neD {d1 d2 : PyData} (ha : EvX Γ ta r1) (hb : EvX Γ tb r2) (a1 : AsD K r1 d1) (a2 : AsD K r2 d2) (s1 : SeqAt.shaped d1 = true) (s2 : SeqAt.shaped d2 = true) : EvX Γ (tOp (rNeD K) ta tb) (rB (!PyData.eqv d1 d2)) := fun σ G en => Ev.d (ev_neD (ha σ G en) (hb σ G en) a1 a2 s1 s2)
theorem x_neLn {l m : List Nat} (ha : EvX Γ ta (rLn K l)) (hb : EvX Γ tb (rLn K m)) : EvX Γ (tOp (rNeD K) ta tb) (rB (!decide (l = m))) := x_is (x_neD ha hb (asd_ln l) (asd_ln m) ((sh_ln l).ok (by decide)) ((sh_ln m).ok (by decide))) (by rw [eqv_ln])
theorem x_eqLn {l m : List Nat} (ha : EvX Γ ta (rLn K l)) (hb : EvX Γ tb (rLn K m)) : EvX Γ (tOp (rEqD K) ta tb) (rB (decide (l = m))) := x_is (x_eqD ha hb (asd_ln l) (asd_ln m) ((sh_ln l).ok (by decide)) ((sh_ln m).ok (by decide))) (by rw [eqv_ln])
theorem x_eqTn {l m : List Nat} (ha : EvX Γ ta (rTn K l)) (hb : EvX Γ tb (rTn K m)) : EvX Γ (tOp (rEqD K) ta tb) (rB (decide (l = m))) := x_is (x_eqD ha hb (asd_tn l) (asd_tn m) ((sh_tn l).ok (by decide)) ((sh_tn m).ok (by decide))) (by rw [eqv_tn])
theorem x_neTn {l m : List Nat} (ha : EvX Γ ta (rTn K l)) (hb : EvX Γ tb (rTn K m)) : EvX Γ (tOp (rNeD K) ta tb) (rB (!decide (l = m))) := x_is (x_neD ha hb (asd_tn l) (asd_tn m) ((sh_tn l).ok (by decide)) ((sh_tn m).ok (by decide))) (by rw [eqv_tn])
theorem x_neLL {l m : List (List Nat)} (ha : EvX Γ ta (rLL K l)) (hb : EvX Γ tb (rLL K m)) : EvX Γ (tOp (rNeD K) ta tb) (rB (!decide (l = m))) := x_is (x_neD ha hb (asd_ll l) (asd_ll m) ((sh_ll l).ok (by decide)) ((sh_ll m).ok (by decide))) (by rw [eqv_ll])
theorem x_eqLL {l m : List (List Nat)} (ha : EvX Γ ta (rLL K l)) (hb : EvX Γ tb (rLL K m)) : EvX Γ (tOp (rEqD K) ta tb) (rB (decide (l = m))) := x_is (x_eqD ha hb (asd_ll l) (asd_ll m) ((sh_ll l).ok (by decide)) ((sh_ll m).ok (by decide))) (by rw [eqv_ll])
theorem x_neP {l m : Nat × Nat} (ha : EvX Γ ta (rP K l)) (hb : EvX Γ tb (rP K m)) : EvX Γ (tOp (rNeD K) ta tb) (rB (!decide (l = m))) := x_is (x_neD ha hb (asd_p l) (asd_p m) ((sh_p l).ok (by decide)) ((sh_p m).ok (by decide))) (by rw [eqv_p])
theorem x_inLn {l : List Nat} (ha : EvX Γ ta (nI n)) (hb : EvX Γ tb (rLn K l)) : EvX Γ (tOp (rIn K false) ta tb) (rB (decide (n ∈ l))) := fun σ G en => Ev.d (ev_inLn (neg := false) (EvD.ev (ha σ G en)) (hb σ G en))
theorem x_niLn {l : List Nat} (ha : EvX Γ ta (nI n)) (hb : EvX Γ tb (rLn K l)) : EvX Γ (tOp (rIn K true) ta tb) (rB (!decide (n ∈ l))) := fun σ G en => Ev.d (ev_inLn (neg := true) (EvD.ev (ha σ G en)) (hb σ G en))
theorem x_inP {p : Nat × Nat} {l : List (Nat × Nat)} (ha : EvX Γ ta (rP K p)) (hb : EvX Γ tb (rL K (l.map (rP K)))) : EvX Γ (tOp (rInD K) ta tb) (rB (decide (p ∈ l))) := fun σ G en => Ev.d (ev_inP (ha σ G en) (hb σ G en))
theorem x_niP {p : Nat × Nat} {l : List (Nat × Nat)} (ha : EvX Γ ta (rP K p)) (hb : EvX Γ tb (rL K (l.map (rP K)))) : EvX Γ (tOp (rNotInD K) ta tb) (rB (!decide (p ∈ l))) := fun σ G en => Ev.d (ev_notInP (ha σ G en) (hb σ G en))
theorem x_isB {c d : Bool} (ha : EvX Γ ta (rB c)) (hb : EvX Γ tb (rB d)) : EvX Γ (tOp rIsB ta tb) (rB (decide (c = d))) := fun σ G en => Ev.d (ev_isB (EvD.ev (ha σ G en)) (EvD.ev (hb σ G en)))
theorem x_isNB {c d : Bool} (ha : EvX Γ ta (rB c)) (hb : EvX Γ tb (rB d)) : EvX Γ (tOp rNotB ta tb) (rB (!decide (c = d))) := fun σ G en => Ev.d (ev_isNB (EvD.ev (ha σ G en)) (EvD.ev (hb σ G en)))
theorem x_size {m : List Nat} (h : EvX Γ ta (rTab K C m)) (hc : Cls K C) (hn : NoAttr K C "size") : EvX Γ (tFld K ta "size") (nI m.length) := fun σ G en => Ev.d (ev_size (h σ G en) hc hn)
theorem x_masks {m : List Nat} (h : EvX Γ ta (rTab K C m)) (hc : Cls K C) (hn : NoAttr K C "masks") : EvX Γ (tFld K ta "masks") (rTn K m) := fun σ G en => ed_masks (h σ G en) hc hn
theorem x_cells {m : List Nat} (h : EvX Γ ta (rTab K C m)) (hc : Cls K C) (hn : NoAttr K C "cells") : EvX Γ (tFld K ta "cells") (rT K ((pairsN m).map (rP K))) := fun σ G en => ed_cells (h σ G en) hc hn
theorem x_tabRows {m : List Nat} (h : EvX Γ te (rLL K (m.map bitsN))) (w : Wf n m) (h1 : 1 ≤ n) (h6 : n ≤ 6) : EvX Γ (tMake C (spTab K C) [] E (tCons te tNil)) (rTab K C m) := fun σ G en => ed_tabRows (h σ G en) w h1 h6
theorem e_take {k : Nat} {b : Addr} (hk : M[k]? = some (boxR K b)) (hv : Γ[i]? = some (some (rV (.ref b)))) (h : EvX Γ te (nI m)) (h0 : 0 < m) (h1 : m < 2 ^ 30) : EX Γ M (tCall (spT K) [] E (tCons (tVar i) (tCons te tNil))) (fun r M' => (∃ d, d < m ∧ r = nI d) ∧ M' = M) := EX.imp (EX.ofB (P := PN m) hk fun σ G en => by
  obtain ⟨v, hv1, hv2⟩ := en.get hv
  obtain rfl : v = V.ref b := hv2
  exact eb_take hv1 (EvD.ev (h σ G en)) h0 h1) fun r M' z => z
end
section
variable {W : WX} {Γ : Ctx} {t : TS} {r : Rp} {rs : List Rp} {G H : Hp} {σ : L2.St} {Q : VK} {K : PySem.W.Frag} {b : Addr}
theorem run_D (w : WP W Γ [] t { nx := fun _ _ => r = rV .non, rt := fun r' _ => r' = r }) (e : Ex G H) (en : En σ G Γ) (k : ∀ v G2 H2, Gr G H G2 H2 → r.p v G2 → Q v H2) : t { nx := fun _ H' => Q .non H', rt := Q } σ H :=
  w _ G H σ _ (Ok.nil e) en ⟨fun σ' G' H' Γ' M' o en' z => k _ G' H' o.to (by rw [z]; rfl), fun v G' H' r' M' o hv z => k v G' H' o.to (by rw [← z]; exact hv), fun _ _ _ _ _ _ _ z => z.elim, fun _ _ _ _ _ _ _ z => z.elim, fun _ _ _ _ _ _ _ _ _ _ _ z => z.elim⟩
theorem run_N (w : WP W Γ [] t { nx := fun _ _ => False, rt := fun r' M' => ∃ p, r' = rV (.ref p) ∧ M' = [lstR p rs] }) (e : Ex G H) (en : En σ G Γ) (k : ∀ p ws G2 H2, Gr G H G2 H2 → H p = none → G2 p = none → H2 p = some (.lst ws) → RA G2 ws rs → Q (.ref p) H2) : t { nx := fun _ H' => Q .non H', rt := Q } σ H :=
  w _ G H σ _ (Ok.nil e) en ⟨fun _ _ _ _ _ _ _ z => z.elim, fun v G' H' r' M' o hv z => by
    obtain ⟨p, rfl, rfl⟩ := z
    obtain rfl : v = V.ref p := hv
    obtain ⟨ws, h1, h2⟩ := o.m (lstR p rs) List.mem_cons_self
    have hp : H p = none := by
      rcases o.f (lstR p rs) List.mem_cons_self p (List.mem_singleton.mpr rfl) with q | q
      · exact q
      · exact nomatch q.2
    exact k p ws G' H' o.to hp (o.z p (List.mem_cons_self)) h1 h2, fun _ _ _ _ _ _ _ z => z.elim, fun _ _ _ _ _ _ _ z => z.elim, fun _ _ _ _ _ _ _ _ _ _ _ z => z.elim⟩
theorem run_B {P : Rp → Prop} (w : WP W Γ [boxR K b] t { nx := fun _ _ => False, rt := fun r' M' => P r' ∧ M' = [boxR K b] }) (e : Ex G H) (gb : G b = none) (hb : Box K G H b) (en : En σ G Γ) (k : ∀ r v G2 H2, P r → GrB b G H G2 H2 → Box K G2 H2 b → r.p v G2 → Q v H2) : t { nx := fun _ H' => Q .non H', rt := Q } σ H :=
  w _ G H σ _ (Ok.box e gb hb) en ⟨fun _ _ _ _ _ _ _ z => z.elim, fun v G' H' r' M' o hv z => by
    obtain ⟨p, rfl⟩ := z
    exact k r' v G' H' p o.toB (o.m (boxR K b) List.mem_cons_self) hv, fun _ _ _ _ _ _ _ z => z.elim, fun _ _ _ _ _ _ _ z => z.elim, fun _ _ _ _ _ _ _ _ _ _ _ z => z.elim⟩
theorem run_law {a : Addr} {ns : List Int} {i : Nat} {E : XK} (hS : SqL K H a (ns.map V.int)) (hl : ns.length ≤ 63) (hv : σ[0]? = some (some (.ref a))) (hσ : σ.length = n + 1) (hi : i < n + 1) (k : ∀ H', Q (.bl true) H')
    (w : ∀ b, WP W ((List.replicate (n + 1) none).set i (some (rV (.ref b)))) [boxR K b] t { nx := fun _ _ => False, rt := fun r _ => r = rB true }) : tSeq (tAsg (tCall (spBoxMk K) [] E (tCons (tVar 0) tNil)) (gName i)) t { nx := fun _ H' => Q .non H', rt := Q } σ H := by
  refine sq (s_box hv hS hl fun b G2 H2 e1 e2 hb gb hbox => ?_)
  refine w b _ G2 H2 _ _ (Ok.box e2 gb hbox) ?_ ⟨fun _ _ _ _ _ _ _ z => z.elim, fun v G' H' r' M' o hv z => ?_, fun _ _ _ _ _ _ _ z => z.elim, fun _ _ _ _ _ _ _ z => z.elim, fun _ _ _ _ _ _ _ _ _ _ _ z => z.elim⟩
  · have e0 : ∀ (σ : L2.St) (n : Nat), σ.length = n → En σ G2 (List.replicate n none) := fun σ => by
      induction σ with
      | nil => intro n h; subst h; exact .nil
      | cons a s ih =>
        intro n h
        cases n with
        | zero => cases h
        | succ n => exact .cons (fun x hx => nomatch hx) (ih n (by simpa using h))
    exact En.set (r := rV (.ref b)) rfl i (e0 σ _ hσ)
  · subst z
    obtain rfl : v = V.bl true := hv
    exact k H'
end
end Mu

namespace Mu
open PySem PySem.Spec PyProof.Rows L2 Evl
structure FunS (K : PySem.W.Frag) (x qual : Str) (params : Arguments) (body : List Stmt) (scope : Scope) (file : Str) (D : Addr) (f : Addr) (fd : FuncData) (cda cc : Addr) : Prop where
  fn : ∃ (oc : Value) (od : Option Addr) (kV doc pm : Value) (an : Option Addr) (ct : Value) (osl : Array (Option Value)), fd = PySem.W.ksFn x qual params body scope .none kV doc pm an (.ref cda) ct cc ∧ K.lookup f = some ⟨oc, od, .func fd, osl⟩
  co : PySem.W.codeIn K (.ref cda) qual = true
  cell : ∃ (cl : Value) (cld : Option Addr) (csl : Array (Option Value)), K.lookup cc = some ⟨cl, cld, .cell (some (.ref D)), csl⟩
  code : ∃ (ccl : Value) (cdd : Option Addr) (vs : Array Value) (ccs : Array (Option Value)) (tf : Tok), K.lookup cda = some ⟨ccl, cdd, .fields vs, ccs⟩ ∧ vs[2]? = some (.str file tf)
  cls : (PySem.W.clsIn K D).isSome = true
  kp : PySem.W.keepIn K (.ref f) = true
  op : PySem.W.nsIn K cStatics "thirdparty.any" = some none
structure FsScope (N ps : List Str) (sc : Scope) : Prop where
  kind : sc.kind = .function
  co : sc.isCoroutine = false
  gen : sc.isGenerator = false
  nd : N.Nodup
  pre : N.take ps.length = ps
  par : ∀ x ∈ ps, sc.names.lookup x = some .local
  nocell : ∀ y ∈ sc.names, y.2 ≠ .cell
  free : ∀ y ∈ sc.names, y.2 = .free → y.1 = ("__class__" : Str)
  sup : sc.names.lookup ("super" : Str) = some .globalImplicit
  cls : sc.names.lookup ("__class__" : Str) = some .free
structure PF (P : Program) (file : Str) : Prop where
  file : ((P.main.file : Str) == file) = true
  top : (P.main.scope.names.lookup ("super" : Str)).isSome = false
abbrev cxS (CX : CXT) (P : Program) (w : World) (K : PySem.W.Frag) (mg : Str → Option Value) (base : Heap) (N : List Str) (qual : Str) (scope : Scope) (f cda cc : Addr) (A : Around) (outer : List Env) (s : Shared) (H : Hp) (E : XK) : Cx where
  prog := P
  w := w
  K := K
  mg := mg
  base := base
  A := A.deeper (PySem.W.ksEnv qual scope s.heap.objs.size f (.ref cda) cc)
  N := N
  s_0 := s
  H_0 := H
  env := PySem.W.ksEnv qual scope s.heap.objs.size f (.ref cda) cc
  outer := outer
  stack := PySem.W.ksEnv qual scope s.heap.objs.size f (.ref cda) cc :: outer
  ex := []
  calm := true
  fn := fun _ => false
  pn := []
  xe := fun e s' => wpAny (model P w) (A.deeper (PySem.W.ksEnv qual scope s.heap.objs.size f (.ref cda) cc)) (leaving (PySem.W.ksEnv qual scope s.heap.objs.size f (.ref cda) cc) e) (fun _ s'' => CX outer H s E e s'') (fun e' s'' => CX outer H s E e' s'') s'
theorem lookup_mem {l : List (Str × Value)} (hn : (l.map (·.1)).Nodup) {x : Str} {u : Value} (h : (x, u) ∈ l) : l.lookup x = some u := by
  induction l with
  | nil => cases h
  | cons p l ih =>
    obtain ⟨y, v⟩ := p
    obtain ⟨h1, h2⟩ := List.nodup_cons.mp (show (y :: l.map (·.1)).Nodup from hn)
    rcases List.mem_cons.mp h with q | q
    · cases q
      simp [List.lookup]
    · have ne : x ≠ y := fun e => h1 (List.mem_map.mpr ⟨(x, u), q, e⟩)
      rw [List.lookup_cons, show (x == y) = false by simpa using ne]
      exact ih h2 q
theorem zip_fst : ∀ {ps : List Str} {us : List Value}, ps.length = us.length → (ps.zip us).map (·.1) = ps
  | [], [], _ => rfl
  | _ :: _, [], h => by cases h
  | [], _ :: _, h => by cases h
  | p :: ps, u :: us, h => by
    show p :: (ps.zip us).map (·.1) = p :: ps
    rw [zip_fst (by simpa using h)]
theorem lookup_rev_zip {ps : List Str} {us : List Value} {i : Nat} {x : Str} {u : Value} (hn : ps.Nodup) (hl : ps.length = us.length) (h1 : ps[i]? = some x) (h2 : us[i]? = some u) : (ps.zip us).reverse.lookup x = some u := by
  refine lookup_mem (by rw [List.map_reverse, zip_fst hl]; exact List.pairwise_reverse.mpr (hn.imp fun h => Ne.symm h)) (List.mem_reverse.mpr ?_)
  refine List.mem_of_getElem? (i := i) ?_
  rw [List.getElem?_zip_eq_some]
  exact ⟨h1, h2⟩
theorem inv_startS {CX : CXT} {P : Program} {w : World} {K : PySem.W.Frag} {mg : Str → Option Value} {base : Heap} {N ps : List Str} {x qual : Str} {params : Arguments} {body : List Stmt} {scope : Scope} {file : Str} {D f : Addr} {fd : FuncData} {cda cc : Addr} {A : Around} {outer : List Env} {s : Shared} {h₀ : Heap} {H : Hp} {E : XK} {us : List Value} {vs : List V}
    (F : FunS K x qual params body scope file D f fd cda cc) (S : FsScope N ps scope) (hd : A.handled = none) (e0 : Env0 P w K mg base A outer s H) (hl : vs.length = ps.length) (r : Vals vs us)
    (hns : h₀.Ns s.heap.objs.size (fun y => (ps.zip us).reverse.lookup y)) (keep : ∀ b o, s.heap.get? b = some o → h₀.get? b = some o) (tk : Nat) :
    Inv (cxS CX P w K mg base N qual scope f cda cc A outer s H E) [] (L2.start N vs) H { s with heap := h₀, toks := tk } := by
  have hpl : ps.length ≤ N.length := by have := congrArg List.length S.pre; rw [List.length_take] at this; omega
  obtain ⟨cl, cld, csl, hcell⟩ := F.cell
  have hccb := e0.mod.kin _ _ hcell
  have kfr : ∀ x c, List.lookup x [(("__class__" : Str), cc)] = some c → x = ("__class__" : Str) ∧ c = cc := fun x c h => by
    rw [List.lookup_cons] at h
    cases q : x == ("__class__" : Str) with
    | true => rw [q] at h; exact ⟨by simpa using q, (Option.some.inj h).symm⟩
    | false => rw [q] at h; cases h
  have noA : ∀ b : Addr, b ∉ (cxS CX P w K mg base N qual scope f cda cc A outer s H E).ex := fun b z => absurd (show b ∈ ([] : List Addr) from z) (by simp)
  refine ⟨⟨e0.mod, S.kind, rfl, rfl, Nat.le_refl _, fun y z c h1 h2 => ?_, fun y hy => ?_, fun y c h _ => ?_, fun _ => hd, Around.frames_deeper e0.frames, .inr ⟨rfl, rfl⟩, fun b z => absurd z (noA b), e0.bs, e0.bsz, fun b _ _ => noA b, fun b z => absurd z (noA b), e0.funs, e0.frf⟩,
    rfl, e0.bare, Un.kept keep, ⟨_, hns, fun i y v h1 h2 h3 => ?_⟩, fun y c h => ?_, e0.hok.fresh (Nat.le_refl _), fun y c h => ?_, fun p hp => absurd (show p ∈ ([] : List (Addr × Obj)) from hp) (by simp), e0.hok.kept keep, ?_⟩
  · exact (kfr y c h1).1.trans (kfr z c h2).1.symm
  · have hy : scope.names.lookup y = some .cell ∨ scope.names.lookup y = some .free := hy
    rcases hy with hy | hy
    · exact absurd rfl (S.nocell _ (PySem.mem_of_lookup hy))
    · have e := S.free _ (PySem.mem_of_lookup hy) rfl
      have e' : y = ("__class__" : Str) := e
      subst e'
      exact ⟨cc, by show List.lookup _ [(("__class__" : Str), cc)] = _; simp [List.lookup]⟩
  · exact Bool.noConfusion h
  · have hi : i < vs.length := by
      unfold L2.start at h2
      by_cases hi : i < vs.length
      · exact hi
      · rw [List.getElem?_append_right (by simpa using hi)] at h2
        rw [List.getElem?_replicate] at h2
        split at h2 <;> cases h2
    have ha : vs[i]? = some v := by
      unfold L2.start at h2
      rw [List.getElem?_append_left (by simpa using hi), List.getElem?_map] at h2
      cases e : vs[i]? with
      | none => rw [e] at h2; cases h2
      | some a => rw [e] at h2; cases h2; rfl
    obtain ⟨u, hu, rv⟩ := r.get ha
    have hp : ps[i]? = some y := by
      rw [← S.pre, List.getElem?_take_of_lt (by omega)]; exact h1
    have ndP : ps.Nodup := by rw [← S.pre]; exact S.nd.sublist (List.take_sublist _ _)
    exact ⟨u, rv, .inl ⟨S.par y (List.mem_of_getElem? hp), lookup_rev_zip ndP (by rw [← hl, r.length]) hp hu⟩⟩
  · obtain ⟨_, rfl⟩ := kfr y c h
    exact ⟨_, _, keep _ _ ((e0.bs _ _ hccb).1), rfl⟩
  · obtain ⟨_, rfl⟩ := kfr y c h
    exact (e0.bs _ _ hccb).2
  · unfold L2.start
    show _ = N.length
    rw [List.length_append, List.length_map, List.length_replicate]
    omega
structure PSA (X : Cx) (fb st : List Stmt) (t : TS) : Prop where
  run : ∀ (pins : List (Addr × Obj)) (s : Shared) (σ : L2.St) (H : Hp) (D : Ends), Inv X pins σ H s → t D σ H → _root_.PySem.wpAt (model X.prog X.w) X.A (.func fb X.env) (execs st X.env) (SP X pins D) X.xe s
structure PEA (X : Cx) (fb : List Stmt) (e : Expr) (t : TE) : Prop where
  run : ∀ (pins : List (Addr × Obj)) (s : Shared) (σ : L2.St) (H : Hp) (Q : VK), Inv X pins σ H s → t σ H Q → _root_.PySem.wpAt (model X.prog X.w) X.A (.func fb X.env) (eval e X.env) (EP X pins σ Q) X.xe s
section
variable {X : Cx} {fb rest : List Stmt} {e : Expr} {te : TE} {u : TS} {pos : Pos}
theorem psa_expr (h1 : PEA X fb e te) (h2 : PSs X rest u) (hi : interactive X.env = false := by rfl) (hs : swapsWith e none pos.line X.env = pure false := by rfl) : PSA X fb (.Expr e pos :: rest) (tSeq (tDrop te) u) := by
  refine ⟨fun pins s σ H D I h => ?_⟩
  refine ks_wpAt_execs_cons (ks_wpAt_Expr_any (_root_.PySem.wpAt_mono (h1.run pins s σ H _ I h) (fun v s' ⟨x, H', I', _, q⟩ => ?_) fun _ _ z => z) hi hs)
  exact _root_.PySem.wpAt_of_wpAny (h2.run pins s' σ H' D I' q)
theorem psa_ret (h1 : PEA X fb e te) : PSA X fb [.Return (some e) pos] (tRet te) := by
  refine ⟨fun pins s σ H D I h => ?_⟩
  refine ks_wpAt_execs_cons (ks_wpAt_Return_some (_root_.PySem.wpAt_mono (h1.run pins s σ H _ I h) (fun v s' ⟨x, H', I', r, q⟩ => ?_) fun _ _ z => z))
  exact ⟨x, σ, H', I', r, q⟩
theorem psa_set {x : Str} {p' : Pos} {i : Nat} (hN : X.N.Nodup) (hi : X.N[i]? = some x) (hl : X.env.scope.names.lookup x = some .local) (h1 : PEA X fb e te) (h2 : PSs X rest u) (hs : swapsWith e (some (.Name x p')) pos.line X.env = pure false := by rfl) : PSA X fb (.Assign [.Name x p'] e pos :: rest) (tSeq (tAsg te (gName i)) u) := by
  refine ⟨fun pins s σ H D I h => ?_⟩
  refine ks_wpAt_execs_cons (ks_wpAt_Assign_Name (_root_.PySem.wpAt_mono (h1.run pins s σ H _ I h) (fun v s' ⟨y, H', I', r, q⟩ => ?_) fun _ _ z => z) hs)
  refine store_ok (v := y) I' hN hi (.inl hl) r (fun s2 I2 => ?_) (.inr hl)
  exact _root_.PySem.wpAt_of_wpAny (h2.run pins s2 _ H' D I2 q)
end
theorem FunS.ok {P : Program} {w : World} {K : PySem.W.Frag} {mg : Str → Option Value} {base : Heap} {x qual : Str} {params : Arguments} {body : List Stmt} {scope : Scope} {file : Str} {D f : Addr} {fd : FuncData} {cda cc : Addr} {CX : CXT} {N ps : List Str} {k : Nat} {sp : Sp}
    (F : FunS K x qual params body scope file D f fd cda cc) (S : FsScope N ps scope) (len : ∀ vs H Q E, sp vs H Q E → vs.length = ps.length)
    (hbody : ∀ (A : Around) (outer : List Env) (s : Shared) (H : Hp) (vs : List V) (Q : VK) (E : XK), Room k (A.deeper (PySem.W.ksEnv qual scope s.heap.objs.size f (.ref cda) cc)) → sp vs H Q E →
      ∃ t, PSA (cxS CX P w K mg base N qual scope f cda cc A outer s H E) body body t ∧ t { nx := fun _ H' => Q .non H', rt := Q } (L2.start N vs) H) : FnOk P w K mg base CX (k + 1) f fd ps sp := by
  obtain ⟨oc, od, kV, doc, pm, an, ct, osl, rfl, lk⟩ := F.fn
  refine ⟨len, fun A outer s H args us vs Q E hr e0 hb r hsp => ?_⟩
  have hl := len _ _ _ _ hsp
  have KX : K.In s.heap := e0.mod.kin.keeps fun b o e => (e0.bs b o e).1
  have lim : s.heap.NoLimit := e0.mod.nolimit.keeps fun b o e => (e0.bs b o e).1
  refine ks_codeAny_call_defAt (fd := PySem.W.ksFn x qual params body scope .none kV doc pm an (.ref cda) ct cc) (body := body) (binds := ps.zip us) hr.depth (KX _ _ lk) rfl lim (PySem.W.codeRec_of KX F.co) rfl hb S.nocell (fun y hy => S.par y.1 (List.of_mem_zip hy).1) (fun h₀ hns keep => ?_) S.co S.gen S.kind
  obtain ⟨t, ht, hq⟩ := hbody A outer s H vs Q E (hr.deeper _) hsp
  have I := inv_startS (CX := CX) (E := E) F S hr.hd e0 hl r hns keep (s.toks + (ps.zip us).length)
  refine _root_.PySem.wpAt_mono (ht.run [] _ (L2.start N vs) H _ I hq) (fun fl s' hs => ?_) fun e s' hs => hs
  have fin : ∀ {σ' : L2.St} {H' : Hp} {v : V} {u : Value}, Inv (cxS CX P w K mg base N qual scope f cda cc A outer s H E) [] σ' H' s' → RelV v u → Q v H' → CE outer P w H s Q u s' :=
    fun {σ' H' v u} J rv q => ⟨v, H', J.os, J.bare, J.base, J.hok, rv, q⟩
  cases fl with
  | ret u =>
    obtain ⟨v, σ', H', J, rv, q⟩ := hs
    exact fin J rv q
  | next =>
    obtain ⟨σ', H', J, q⟩ := hs
    exact fin (v := V.non) (u := Value.none) J rfl q
  | brk =>
    obtain ⟨_, _, _, q⟩ := hs
    exact False.elim q
  | cont =>
    obtain ⟨_, _, _, q⟩ := hs
    exact False.elim q
section
variable {CX : CXT} {P : Program} {w : World} {K : PySem.W.Frag} {mg : Str → Option Value} {base : Heap} {N ps : List Str} {x qual : Str} {params : Arguments} {body : List Stmt} {scope : Scope} {file : Str} {D f : Addr} {fd : FuncData} {cda cc : Addr} {A : Around} {outer : List Env} {s0 : Shared} {H0 : Hp} {E0 : XK}
  {pins : List (Addr × Obj)} {σ : L2.St} {H : Hp} {s : Shared} {fb : List Stmt} {E : Value → Shared → Prop}
theorem sup_base {p0 p1 : Pos} {attr : Str} {whole : Sem Value} {a C : Addr} {ox : Obj} {Q : Value → Shared → Prop} {self : Str} (F : FunS K x qual params body scope file D f fd cda cc) (S : FsScope N ps scope) (pf : PF P file) (hm : mg "super" = none)
    (hp : (params.posonlyargs ++ params.args).head?.map (·.arg) = some self) (hN : N[0]? = some self) (hself : scope.names.lookup self = some .local) (hat : (attr == ("__class__" : Str)) = false)
    (I : Inv (cxS CX P w K mg base N qual scope f cda cc A outer s0 H0 E0) pins σ H s) (hσ : σ[0]? = some (some (.ref a))) (hx : s.heap.get? a = some ox) (hxc : ox.cls = .ref C) (hnc : ∀ c, ox.data ≠ .cls c) (hsub : PySem.W.mroIn K C (.ref D) = some true)
    (h : ∀ h', h'.get? s.heap.objs.size = some { cls := .type "super", dict := none, data := .fields #[.ref D, .ref a, .ref C], slots := #[] } → (∀ y o, s.heap.get? y = some o → h'.get? y = some o) → Q (.ref s.heap.objs.size) { s with heap := h' }) :
    _root_.PySem.wpAt (model P w) (A.deeper (PySem.W.ksEnv qual scope s0.heap.objs.size f (.ref cda) cc)) (.func fb (PySem.W.ksEnv qual scope s0.heap.objs.size f (.ref cda) cc)) (attributeBase (.Call (.Name "super" p0) [] [] p1) attr (PySem.W.ksEnv qual scope s0.heap.objs.size f (.ref cda) cc) whole) Q E s := by
  obtain ⟨oc, od, kV, doc, pm, an, ct, osl, rfl, lk⟩ := F.fn
  obtain ⟨cl, cld, csl, hcell⟩ := F.cell
  obtain ⟨ccl, cdd, vs, ccs, tf, hcode, hvs⟩ := F.code
  obtain ⟨cdD, hD⟩ := Option.isSome_iff_exists.mp F.cls
  have kin : K.In s.heap := I.kIn
  obtain ⟨ar, har, hara⟩ : ∃ ar, (params.posonlyargs ++ params.args).head? = some ar ∧ ar.arg = self := by
    cases q : (params.posonlyargs ++ params.args).head? with
    | none => rw [q] at hp; cases hp
    | some ar => rw [q] at hp; exact ⟨ar, rfl, Option.some.inj hp⟩
  obtain ⟨oD, hD1, hD2⟩ : ∃ oD, s.heap.get? D = some oD ∧ oD.data = .cls cdD := by
    unfold PySem.W.clsIn at hD
    split at hD
    · rename_i c d cd' sl ho
      cases hD
      exact ⟨_, kin _ _ ho, rfl⟩
    · cases hD
  refine ks_wpAt_super_base (env := PySem.W.ksEnv qual scope s0.heap.objs.size f (.ref cda) cc) S.sup S.cls hat rfl (kin _ _ lk) rfl har rfl (kin _ _ hcode) rfl hvs pf.file pf.top ?_
  obtain ⟨mb, b1, b2⟩ := I.mod.blt
  refine PySem.W.ks_loadName_global S.kind S.sup (Calls.loadGlobal_builtin (env := PySem.W.ksEnv qual scope s0.heap.objs.size f (.ref cda) cc) (I.mod.glob.keeps I.bk) hm (b1.keeps I.bk) ((b2 _ (by decide +kernel)).trans (show bootBuiltins ("super" : Str) = some (.type "super") by decide +kernel)) ⟨rfl, ?_⟩)
  refine wpAny_loadName_free S.kind S.cls (show List.lookup ("__class__" : Str) [(("__class__" : Str), cc)] = some cc by simp [List.lookup]) ⟨_, kin _ _ hcell, rfl⟩ ?_
  obtain ⟨m, hns, hlk⟩ := I.loc
  obtain ⟨u, ru, look⟩ := hlk 0 self (.ref a) hN hσ (.inl hself)
  obtain rfl : u = Value.ref a := ru
  have hmv : m ar.arg = some (.ref a) := by
    rw [hara]
    rcases look with ⟨_, q⟩ | ⟨q | q, _⟩
    · exact q
    · have q' : scope.names.lookup self = some .cell := q
      rw [hself] at q'; cases q'
    · have q' : scope.names.lookup self = some .free := q
      rw [hself] at q'; cases q'
  refine wpAny_loadName_local S.kind (show scope.names.lookup ar.arg = some .local by rw [hara]; exact hself) hns hmv ?_
  obtain ⟨hh, g, d, t, os⟩ := s
  refine ks_wpAny_isType_cls hD1 hD2 ⟨rfl, ?_⟩
  exact ks_wpAny_call_super hD1 hD2 hx hxc hnc (PySem.W.looks_mroIn kin hsub) fun h' e k => h h' e k
theorem Inv.pin1 {X : Cx} {a : Addr} {o : Obj} (I : Inv X pins σ H s) (ho : s.heap.get? a = some o) (hn : X.base.get? a = none ∨ True) (hH : H a = none) (hL : a ≠ X.env.locals) (hf : a ∉ X.fs) (hc : ∀ v, o.data ≠ .cell v) : Inv X ((a, o) :: pins) σ H s :=
  I.pins_of fun p hp => by
    rcases List.mem_cons.mp hp with q | q
    · rw [q]; exact ⟨ho, hH, hL, hf, hc⟩
    · exact I.pin p (List.mem_append_right _ q)
def tVeS (K : PySem.W.Frag) (D : Addr) (ta : TA) : TE := fun σ H Q => ∃ a C, σ[0]? = some (some (.ref a)) ∧ H a = some (exo a C none) ∧ OexC K C ∧ PySem.W.mroIn K C (.ref D) = some true ∧ PySem.W.ks_superIn K C D "__init__" = some (some (.builtin "ValueError.__init__")) ∧ PySem.W.subIn K (.ref C) (.type "ValueError") = some true ∧
  ta σ H fun vs H1 => vs.length ≤ 1000 ∧ H1 a = some (exo a C none) ∧ Q .non H1
theorem pea_supInit {p0 p1 p2 pos : Pos} {e : Expr} {es : List Expr} {ta : TA} {self : Str} {pl : Sem Bool} (F : FunS K x qual params body scope file D f fd cda cc) (S : FsScope N ps scope) (pf : PF P file) (hm : mg "super" = none)
    (hp : (params.posonlyargs ++ params.args).head?.map (·.arg) = some self) (hN : N[0]? = some self) (hself : scope.names.lookup self = some .local)
    (ha : PA (cxS CX P w K mg base N qual scope f cda cc A outer s0 H0 E0) (e :: es) ta)
    (hev : eval (.Call (.Attribute (.Call (.Name "super" p0) [] [] p1) "__init__" p2) (e :: es) [] pos) (PySem.W.ksEnv qual scope s0.heap.objs.size f (.ref cda) cc) = (do
      let ov ← attributeBase (.Call (.Name "super" p0) [] [] p1) "__init__" (PySem.W.ksEnv qual scope s0.heap.objs.size f (.ref cda) cc) (eval (.Call (.Name "super" p0) [] [] p1) (PySem.W.ksEnv qual scope s0.heap.objs.size f (.ref cda) cc))
      standAt p2.atName
      let (fn1, first) ← holding [ov] (getMethod ov "__init__" pl)
      callWith pos fn1 first (backTo pos (starEach (e :: es) (PySem.W.ksEnv qual scope s0.heap.objs.size f (.ref cda) cc))) []) := by rfl)
    (he : starEach (e :: es) (PySem.W.ksEnv qual scope s0.heap.objs.size f (.ref cda) cc) = (false, eval e (PySem.W.ksEnv qual scope s0.heap.objs.size f (.ref cda) cc)) :: starEach es (PySem.W.ksEnv qual scope s0.heap.objs.size f (.ref cda) cc) := by rfl) (hpl : (backTo pos (starEach es (PySem.W.ksEnv qual scope s0.heap.objs.size f (.ref cda) cc))).any (·.1) = false := by rfl) :
    PEA (cxS CX P w K mg base N qual scope f cda cc A outer s0 H0 E0) fb (.Call (.Attribute (.Call (.Name "super" p0) [] [] p1) "__init__" p2) (e :: es) [] pos) (tVeS K D ta) := by
  refine ⟨fun pins s σ H Q I h => ?_⟩
  obtain ⟨a, C, hσ, hH, T, hsub, hsup, hVE, h⟩ := h
  obtain ⟨t1, hx⟩ := exo_at I.hok hH
  refine ks_wpAt_MethodCall (sup_base F S pf hm hp hN hself (by decide +kernel) I hσ hx rfl (fun c z => nomatch z) hsub fun h' hso k => ?_) hev
  have I1 := I.kept (h' := h') (t' := s.toks) k
  have kin : K.In h' := I1.kIn
  have hx' := k _ _ hx
  obtain ⟨nm, qn, Nn, bs, bm, sn, sub, ab, col, dd, k0, k1, k2, k3, k5, hC, hbm⟩ := T.cls
  have hcl : PySem.W.clsIn K C = some { name := nm, bases := bs, mro := .ref C :: bm, ns := Nn, qualname := qn, hasDict := true, slotNames := sn, subclasses := sub, abstract := ab, collection := col, hasDel := false } := by unfold PySem.W.clsIn; rw [hC] <;> rfl
  have ins : PySem.W.InstAt h' a { cls := .ref C, dict := none, data := .fields #[.ref t1, .none, .none, .none, .bool false, .none] } C none := ⟨hx', rfl, rfl, trivial⟩
  have hI : PySem.W.Looks (model P w) h' (isInstance (.ref a) (.type "ValueError")) true := ins.type.andThen (PySem.W.looks_subIn kin hVE)
  unfold PySem.W.ks_superIn at hsup
  rw [hcl] at hsup
  obtain ⟨hh, g, d, tk, os⟩ := s
  have I1' : Inv (cxS CX P w K mg base N qual scope f cda cc A outer s0 H0 E0) pins σ H ⟨h', g, d, tk, os⟩ := I1
  refine PySem.W.kxs_getMethod PySem.W.kxs_ValueError hso (PySem.W.looks_opaque kin F.op) (l₀ := .ref C :: bm) ?_ rfl kin hsup hI (PySem.W.ks_ne kin ins hcl) (by decide +kernel) ?_
  · exact fun A Q E s k q => wpAny_bind ((PySem.W.looks_clsIn kin hcl) A _ E s k (wpAny_pure q))
  have I2 := I1'.kept (h' := h'.push (PySem.W.kxs_mw "ValueError.__init__" a)) (t' := tk + 1) fun b o z => Heap.get?_push_of_some _ z
  have hq0 : (h'.push (PySem.W.kxs_mw "ValueError.__init__" a)).get? h'.objs.size = some (PySem.W.kxs_mw "ValueError.__init__" a) := Heap.get?_push_at rfl rfl
  have I3 := Inv.pin1 I2 hq0 (.inr trivial) (I1'.hok.fresh (Nat.le_refl _)) (Ne.symm (Nat.ne_of_lt I1'.lt)) (I1'.nofs (Nat.le_refl _)) (fun v z => nomatch z)
  show wpAny _ _ (callWith pos (.ref h'.objs.size) [] (backTo pos (starEach (e :: es) _)) []) _ _ _
  rw [he]
  refine PySem.W.kxs_callWith (i := "ValueError.__init__") (x := a) (by show (false || (backTo pos (starEach es _)).any (·.1)) = false; rw [hpl]; rfl) ?_
  have ra := ha.run pos _ _ σ H _ I3 h
  rw [he] at ra
  refine PySem.Calls.evalArgs_plain (thn ra fun us s3 ⟨vs, H3, J, rv, hl, hH3, q⟩ => ?_)
  obtain ⟨hu, _⟩ := J.pin (h'.objs.size, PySem.W.kxs_mw "ValueError.__init__" a) (List.mem_append_right _ List.mem_cons_self)
  refine ⟨hu, ?_⟩
  obtain ⟨t3, hx3⟩ := exo_at J.hok hH3
  have kin3 : K.In s3.heap := J.kIn
  obtain ⟨hp3, g3, d3, t3', os3⟩ := s3
  show wpAny _ _ (call (.ref h'.objs.size) us) _ _ _
  refine wpAny_call (codeAny_of_tree ?_)
  show wpAny _ _ (callAny (.ref h'.objs.size) ⟨us, []⟩) _ _ _
  simp only [callAny]
  refine wpAny_bind (wpAny_load hu ?_)
  simp only [PySem.W.kxs_mw, show (Value.type "method-wrapper" == Value.type "method" || Value.type "method-wrapper" == Value.type "builtin_function_or_method" || Value.type "method-wrapper" == Value.type "method-wrapper") = true by decide, if_true]
  refine PySem.W.KFB.if_so (by decide) ?_
  refine wpAny_bind (PySem.W.check_bound_init PySem.F.excBase_ValueError.toExcCallFacts (kin3 _ _ hC) hx3 rfl ?_)
  refine wpAny_bind (wpAny_pure (wpAny_pure ?_))
  refine ⟨plainId_quiet PySem.F.excBase_ValueError.init.plain _, codeAny_builtin PySem.F.excBase_ValueError.initEntry ?_⟩
  have hus : us.length ≤ sizeLine := by
    rw [← Paired.length rv, sizeLine_eq]
    omega
  refine PySem.W.exc_init_tree (cls := .ref C) (t0 := t3) (dv := none) (c2 := .none) (c3 := .none) (b4 := .bool false) hx3 hus fun h4 k4 e4 _ => ?_
  have W := J.write (t' := t3') (x := a) (e := a) (o := exo a C none) (by rw [hH3]; exact True.intro) (.inl rfl) k4 ⟨_, e4⟩ (exo_ok e4)
  have eu : upd H3 a (exo a C none) = H3 := by
    funext b
    by_cases hb : b = a
    · rw [hb, upd_same, hH3]
    · rw [upd_ne hb]
  rw [eu] at W
  exact ⟨.non, H3, W.pins_of fun p hp => W.pin p (List.mem_append_right _ (List.mem_cons_of_mem _ hp)), rfl, q⟩
end
end Mu

namespace Mu
open PySem PySem.Spec PyProof.Rows L2 He
theorem cellB_ok {K : PySem.W.Frag} {cc D : Addr} (h : cellB K cc D = true) : ∃ (cl : Value) (cld : Option Addr) (csl : Array (Option Value)), K.lookup cc = some ⟨cl, cld, .cell (some (.ref D)), csl⟩ := by
  unfold cellB at h
  split at h
  · rename_i a b d sl e
    have z : d = D := by simpa using h
    subst z
    exact ⟨_, _, _, e⟩
  · cases h
theorem fileB_ok {K : PySem.W.Frag} {cda : Addr} {file : Str} (h : fileB K cda file = true) : ∃ (ccl : Value) (cdd : Option Addr) (vs : Array Value) (ccs : Array (Option Value)) (tf : Tok), K.lookup cda = some ⟨ccl, cdd, .fields vs, ccs⟩ ∧ vs[2]? = some (.str file tf) := by
  unfold fileB at h
  split at h
  · rename_i a b vs sl e
    split at h
    · rename_i x t e2
      have z : x = file := by simpa using h
      subst z
      exact ⟨_, _, _, _, _, e, e2⟩
    · cases h
  · cases h
theorem DefS.funS {K : PySem.W.Frag} {d : DefS} (e : fnS K d.at_ = d.val) (c : d.ok K = true) : ∃ fd cda cc, FunS K d.name d.qual d.params d.body d.scope d.file (ga K d.cls) (fAd K d.at_) fd cda cc := by
  obtain ⟨kp, c1⟩ := ba c
  obtain ⟨cl, c1⟩ := ba c1
  obtain ⟨op, c2⟩ := ba c1
  unfold fnS at e
  cases q : K.lookup (fAd K d.at_) with
  | none =>
    rw [q] at c2
    cases c2
  | some o =>
    obtain ⟨oc, od, dt, osl⟩ := o
    rw [q] at c2 e
    cases dt with
    | func fd =>
      obtain ⟨n1, n2, n3, n4, n5, n6, n7, n8, n9, n10, n11, n12, n13, n14, n15⟩ := fd
      have e2 : (some (n1, n2, n3, n4, n5, n6, n7.map (fun z => z.1), n15) : FnS) = some (d.name, d.qual, d.params, FuncBody.stmts d.body, d.scope, mainGlobals, [("__class__" : Str)], builtinsNs) := e
      simp only [Option.some.injEq, Prod.mk.injEq] at e2
      obtain ⟨h1, h2, h3, h4, h5, h6, h7, h8⟩ := e2
      have c4 : (decide (n8 = Value.none) && supB K d.qual (ga K d.cls) d.file n7 n13) = true := c2
      obtain ⟨k8, c3⟩ := ba c4
      have e8 := of_decide_eq_true k8
      subst e8
      unfold supB at c3
      split at c3
      · rename_i y cc cda
        obtain ⟨k1, k2⟩ := ba c3
        obtain ⟨k3, k4⟩ := ba k2
        have hy : y = ("__class__" : Str) := by simpa using h7
        subst h1 h2 h3 h4 h5 h6 h8 hy
        exact ⟨_, cda, cc, ⟨oc, od, n9, n10, n11, n12, n14, osl, rfl, q⟩, k1, cellB_ok k3, fileB_ok k4, cl, kp, of_decide_eq_true op⟩
      · cases c3
    | _ => cases c2
section
variable {fa : List Fa} {ex : List FactB} {fn : List DefD} {sn : List DefS} {K : PySem.W.Frag}
theorem SaysS.all (c : SaysS fa ex fn sn K) : ((((fa.all fun f => f.ok K) && ex.all fun f => f K) && fn.all fun d => d.ok K) && sn.all fun d => d.ok K) = true := congrArg (fun z : AlS => z.1) c
theorem SaysS.fact (c : SaysS fa ex fn sn K) (i : Nat) {f : Fa} (h : fa[i]? = some f := by rfl) : f.ok K = true := List.all_eq_true.mp (ba (ba (ba c.all).1).1).1 f (List.mem_of_getElem? h)
theorem SaysS.exf (c : SaysS fa ex fn sn K) (i : Nat) {f : FactB} (h : ex[i]? = some f := by rfl) : f K = true := List.all_eq_true.mp (ba (ba (ba c.all).1).1).2 f (List.mem_of_getElem? h)
theorem SaysS.def_ (c : SaysS fa ex fn sn K) (i : Nat) {d : DefD} (h : fn[i]? = some d := by rfl) : ∃ fd, FunD K d.name d.qual d.params d.body d.scope (d.dvs K) (d.kws K) (fAd K d.at_) fd := by
  have c2 := (ba (ba c.all).1).2
  have e : fn.map (fun d => fnW K d.at_) = fn.map DefD.val := congrArg (fun z : AlS => z.2.1) c
  have e2 : (fn.map fun d => fnW K d.at_)[i]? = (fn.map DefD.val)[i]? := by rw [e]
  rw [List.getElem?_map, List.getElem?_map, h] at e2
  exact DefD.funD (Option.some.inj e2) (List.all_eq_true.mp c2 d (List.mem_of_getElem? h))
theorem SaysS.sup_ (c : SaysS fa ex fn sn K) (i : Nat) {d : DefS} (h : sn[i]? = some d := by rfl) : ∃ fd cda cc, FunS K d.name d.qual d.params d.body d.scope d.file (ga K d.cls) (fAd K d.at_) fd cda cc := by
  have c2 := (ba c.all).2
  have e : sn.map (fun d => fnS K d.at_) = sn.map DefS.val := congrArg (fun z : AlS => z.2.2) c
  have e2 : (sn.map fun d => fnS K d.at_)[i]? = (sn.map DefS.val)[i]? := by rw [e]
  rw [List.getElem?_map, List.getElem?_map, h] at e2
  exact DefS.funS (Option.some.inj e2) (List.all_eq_true.mp c2 d (List.mem_of_getElem? h))
end
end Mu

namespace Mu
open PySem PySem.Spec PyProof.Rows L2 Evl
section
variable {prog : Program} {w : World} {A : Around} {E : Value → Shared → Prop} {s : Shared}
end
section
variable {X : Cx}
end
end Mu

namespace Mu
open PySem PySem.Spec PyProof.Rows L2 Evl
theorem oexB_ok {K : PySem.W.Frag} {C : Addr} (h : oexB K C = true) : OexC K C := by
  obtain ⟨h0, h⟩ := He.ba h
  obtain ⟨h1, h⟩ := He.ba h
  obtain ⟨h2, h⟩ := He.ba h
  obtain ⟨h3, h4⟩ := He.ba h
  refine ⟨?_, He.eqO_ok h1, of_decide_eq_true h2, of_decide_eq_true h3, h4⟩
  split at h0
  · rename_i od cd sl e
    split at h0
    · rename_i C' bm k0 k1 k2 k3 n k5 em es
      obtain ⟨a1, h0⟩ := He.ba h0
      obtain ⟨a2, h0⟩ := He.ba h0
      obtain ⟨a3, h0⟩ := He.ba h0
      obtain ⟨a4, a5⟩ := He.ba h0
      have e1 : C' = C := by simpa using a1
      have e2 : n = "ValueError.__new__" := by simpa using a2
      subst e1 e2
      obtain ⟨nm, bs, mro, ns, qn, hd, sn, sb, ab, col, del⟩ := cd
      have e3 : mro = .ref C' :: bm := em
      have e4 : del = false := by simpa using a3
      have e5 : hd = true := a4
      subst e3 e4 e5
      have e6 : sl = #[k0, k1, k2, k3, some (.builtin "ValueError.__new__"), k5] := by
        apply Array.ext'
        rw [es]
      subst e6
      exact ⟨nm, qn, ns, bs, bm, sn, sb, ab, col, od, k0, k1, k2, k3, k5, e, a5⟩
    · cases h0
  · cases h0
structure ErrC (K : PySem.W.Frag) (C fI : Addr) : Prop where
  oex : OexC K C
  iC : PySem.W.findIn K (.ref C) "__init__" = some (some (.ref fI))
  tI : PySem.W.typeIn K (.ref fI) = some (.type "function")
  me : PySem.W.mroIn K C (.ref C) = some true
  sup : PySem.W.ks_superIn K C C "__init__" = some (some (.builtin "ValueError.__init__"))
  ve : PySem.W.subIn K (.ref C) (.type "ValueError") = some true
  xf : XfC K C
  is : ExcC K C
theorem errB_ok {K : PySem.W.Frag} {C fI : Addr} (h : errB K C fI = true) : ErrC K C fI := by
  obtain ⟨h0, h⟩ := He.ba h
  obtain ⟨h1, h⟩ := He.ba h
  obtain ⟨h2, h⟩ := He.ba h
  obtain ⟨h3, h⟩ := He.ba h
  obtain ⟨h4, h⟩ := He.ba h
  obtain ⟨h5, h⟩ := He.ba h
  obtain ⟨h6, h⟩ := He.ba h
  obtain ⟨h7, h⟩ := He.ba h
  obtain ⟨h8, h⟩ := He.ba h
  obtain ⟨h9, h10⟩ := He.ba h
  have x := xfB_ok h6
  exact ⟨oexB_ok h0, He.eqO_ok h1, of_decide_eq_true h2, of_decide_eq_true h3, He.eqO_ok h4, of_decide_eq_true h5, x, ⟨x.ga, x.gg, x.exC, x.hdC, He.eqO_ok h7, He.eqO_ok h8, of_decide_eq_true h9, of_decide_eq_true h10⟩⟩
def spErr (C : Addr) (ns : List Str) : Sp := fun vs H Q _ => ∃ (a : Addr) (xs : List V), vs = .ref a :: xs ∧ xs.length = ns.length ∧ H a = some (exo a C none) ∧ ∀ d, H d = none → d ≠ a → Q .non (upd (upd H d (exd d (ns.zip xs).reverse)) a (exo a C (some d)))
theorem pmk_err {X : Cx} {CX : CXT} {x : Str} {e : Expr} {es : List Expr} {ta : TA} {p pos : Pos} {C fI : Addr} {k : Nat} {fd : FuncData} {ps : List Str} {sp : Sp} (T : ErrC X.K C fI)
    (F1 : FnOk X.prog X.w X.K X.mg X.base CX k fI fd ps sp) (hr : Room (k + 1) X.A) (hb : Binds X.K fd ps []) (hx : Passes CX X (fun _ _ _ => False)) (hg : Gl X x) (hm : X.mg x = some (.ref C)) (ha : PA X (e :: es) ta)
    (hdb : (x == ("__debug__" : Str)) = false := by decide) (he : starEach (e :: es) X.env = (false, eval e X.env) :: starEach es X.env := by rfl) (hpl : (backTo pos (starEach es X.env)).any (·.1) = false := by rfl) :
    L2N.PMk X (.Call (.Name x p) (e :: es) [] pos) (tMkO C sp [] ta) := by
  intro pins s σ H Q I h
  obtain ⟨nm, q, N, bs, bm, sn, sub, ab, col, dd, k0, k1, k2, k3, k5, hC, hbm⟩ := T.oex.cls
  refine wpAny_Call_Name_kw (ld_glob I hg hm ?_ hdb)
  refine PySem.W.callWith_K (h₀ := X.base) I.ok.mod.kin T.oex.kC (thn (ha.run pos pins s σ H _ I h) fun us s1 ⟨vs, H1, I1, r1, hz, q1⟩ => ⟨I1.kIn, ?_⟩) he hpl
  show wpAny _ _ (call (.ref C) us) _ _ _
  obtain ⟨hp, g, dr, tk, os⟩ := s1
  have hsz : hp.objs.size ≤ hp.objs.size + 1 := Nat.le_succ _
  have hq := q1 (hp.objs.size + 1) (I1.hok.fresh hsz)
  rw [List.append_nil] at hq
  have kk : ∀ b o, hp.get? b = some o → ((hp.push (PySem.W.kdv_tup us)).push (PySem.HandSPX.excO C hp.objs.size)).get? b = some o := fun b o e => Heap.get?_push_of_some _ (Heap.get?_push_of_some _ e)
  have I2 := I1.laid (t' := tk) (a := hp.objs.size + 1) (o := exo (hp.objs.size + 1) C none) (h' := (hp.push (PySem.W.kdv_tup us)).push (PySem.HandSPX.excO C hp.objs.size)) kk hsz (exo_ok (by heap_get))
  have r2 : Vals (V.ref (hp.objs.size + 1) :: vs) (Value.ref (hp.objs.size + 1) :: us) := .cons rfl r1
  have hl : (Value.ref (hp.objs.size + 1) :: us ++ []).length = ps.length := by
    rw [List.append_nil, ← r2.length]
    exact F1.len _ _ _ _ hq
  have hus : us.length ≤ sizeLine := by
    rw [← Paired.length r1, sizeLine_eq]
    omega
  have b2 := hb _ (Value.ref (hp.objs.size + 1) :: us) I2.kIn hl
  rw [List.append_nil] at b2
  refine wpAny_call (PySem.HandSPX.call_own F.excBase_ValueError (fun Y => PySem.HandSPX.refsVE_contains Y bm hbm) (I1.kIn _ _ hC) (PySem.W.looks_findIn I1.kIn T.iC) (fun self => PySem.W.bind_fn I1.kIn self T.tI) hus
    (codeAny_mono (F1.run _ X.stack _ _ ⟨Value.ref (hp.objs.size + 1) :: us, []⟩ (Value.ref (hp.objs.size + 1) :: us) _ _ (fun _ _ _ => False) (hr.make C us []) (I2.env0.make C us []) b2 r2 hq) fun r s' hq' => ?_))
  cases r with
  | error er => exact hx pins σ _ _ er s' I2 hq'
  | ok fl =>
    cases fl with
    | ret u =>
      obtain ⟨v, H2, os2, bare2, un2, hok2, rv, ev, d, fs, ea, ed, hd1, q2⟩ := hq'
      subst ev
      obtain ⟨h2, g2, d2, t2, os'⟩ := s'
      obtain ⟨t0, G, J, kG, ge, hoe, na⟩ := mk_end0 (d2 := d2) (t2 := t2) I1 hsz kk un2 hok2 os2 bare2 ea ed hd1
      exact ⟨rv, hp.objs.size + 1, _, _, ⟨G, g2, d2, t2, os'⟩, _, .ref C, some d, rfl, J, kG, ge, hoe, ⟨rfl, rfl, fun vs hv => by cases hv; rfl⟩, rfl, rfl, na, rfl, bare2, raises_own T.oex.exC T.oex.tyC, q2⟩
    | next => exact False.elim hq'
    | brk => exact False.elim hq'
    | cont => exact False.elim hq'
section
variable {X : Cx} {CX : CXT} {k : Nat} {f : Addr} {fd : FuncData} {ps : List Str} {sp : Addr × Obj → Sp} {E : L2.St → XK} {x : Str} {q pos : Pos} {e : Expr} {es : List Expr} {t : TA} {p : Addr × Obj}
end
section
variable {Γ : Ctx} {M : List Re} {te : TE} {K : PySem.W.Frag} {a C D : Addr} {fs : List (Str × V)} {d : Option Addr} {v c : V} {cv : Value} {b : Bool} {f : Str}
end
abbrev Out := Rp ⊕ (Value × List (Str × V))
def spO (R : List V → Hp → Out → Prop) : Sp := fun vs H Q E => ∃ G o, Ex G H ∧ R vs G o ∧ (∀ r, o = .inl r → ∀ v G2 H2, Gr G H G2 H2 → r.p v G2 → Q v H2) ∧ (∀ cls fs, o = .inr (cls, fs) → ∀ d G2 H2, Gr G H G2 H2 → XdOk G2 fs d → E cls d H2)
section
variable {W : WX} {Γ : Ctx} {M : List Re} {te : TE} {ta : TA} {o : Out} {rs : List Rp} {κ : Kn} {i : Nat} {R : List V → Hp → Out → Prop} {K : PySem.W.Frag}
theorem ra_vals_eq {H : Hp} : ∀ {l vs : List V}, RA H vs (l.map rV) → vs = l
  | [], _, .nil => rfl
  | n :: r, _, .cons h t => by
    have e1 := ra_vals_eq (l := r) t
    have e2 : _ = n := h
    rw [e1, e2]
theorem w_raise {C : Addr} {ns : List Str} {xs : List V} (h : EvAX Γ ta (xs.map rV)) (hl : xs.length = ns.length) (hz : ns.length ≤ 1000) (hx : κ.ex Γ (.ref C) (ns.zip xs).reverse M) : WP W Γ M (fun _ σ H => tMkO C (spErr C ns) [] ta σ H fun cls d H' => W cls d σ H') κ := fun B G H σ D ok en d =>
  h σ G en H ok.i _ fun vs G2 H2 g ra => by
    have ev := ra_vals_eq ra
    subst ev
    refine ⟨by rw [hl]; exact hz, fun a ha => ?_⟩
    rw [List.append_nil]
    refine ⟨a, vs, rfl, hl, upd_same, fun dd hd hda => ⟨rfl, dd, _, upd_same, by rw [upd_ne hda]; exact upd_same, ?_, ?_⟩⟩
    · rwa [upd_ne hda] at hd
    · have hd2 : H2 dd = none := by rwa [upd_ne hda] at hd
      have e : upd (del (upd (upd (upd H2 a (exo a C none)) dd (exd dd (ns.zip vs).reverse)) a (exo a C (some dd))) a) dd (.xd (ns.zip vs).reverse) = upd H2 dd (.xd (ns.zip vs).reverse) := by
        funext b
        by_cases c : b = dd
        · subst c; rw [upd_same, upd_same]
        · rw [upd_ne c, upd_ne c]
          by_cases c2 : b = a
          · subst c2; rw [del_same, ha]
          · rw [del_ne c2, upd_ne c2, upd_ne c, upd_ne c2]
      rw [e]
      have g3 := Gr.new (o := .xd (ns.zip vs).reverse) g.i hd2
      exact d.ex _ _ _ Γ M (.ref C) (some dd) _ (ok.gr (g.trans g3)) (en.mono (g.g.trans g3.g)) upd_same hx
theorem run_O {t : TS} {G H : Hp} {σ : L2.St} {Q : VK} {E : XK} (w : WP (fun cls d _ H => E cls d H) Γ [] t { nx := fun _ _ => o = .inl (rV .non), rt := fun r' _ => o = .inl r', ex := fun _ cls fs _ => o = .inr (cls, fs) }) (e : Ex G H) (en : En σ G Γ) (k1 : ∀ r, o = .inl r → ∀ v G2 H2, Gr G H G2 H2 → r.p v G2 → Q v H2) (k2 : ∀ cls fs, o = .inr (cls, fs) → ∀ d G2 H2, Gr G H G2 H2 → XdOk G2 fs d → E cls d H2) : t { nx := fun _ H' => Q .non H', rt := Q } σ H :=
  w _ G H σ _ (Ok.nil e) en ⟨fun σ' G' H' Γ' M' o en' z => k1 _ z _ G' H' o.to rfl, fun v G' H' r' M' o hv z => k1 r' z v G' H' o.to hv, fun _ _ _ _ _ _ _ z => z.elim, fun _ _ _ _ _ _ _ z => z.elim, fun σ' G' H' Γ' M' cls d fs o en' xd z => k2 cls fs z d G' H' o.to xd⟩
end
theorem passF {X : Cx} : Passes (L2N.CX X.prog X.w) X (fun _ _ _ => False) := fun _ _ _ _ _ _ _ h => by
  obtain ⟨_, _, _, _, _, _, _, _, _, _, _, _, z⟩ := h
  exact z.elim
theorem SpD.ofO {R : List V → Hp → Out → Prop} {vs : List V} {G : Hp} {r : Rp} (h : R vs G (.inl r)) : SpD (spO R) vs G r := fun H e Q q E => ⟨G, .inl r, e, h, fun r' e' => by cases e'; exact q, fun _ _ z => nomatch z⟩
end Mu

namespace Mu
open PySem PySem.Spec PyProof.Rows L2 Evl
def EXD {α : Type} (Γ : Ctx) (M : List Re) (te : TE) (D : α → Prop) (f : α → Rp) : Prop := EX Γ M te (fun r M' => (∃ a, D a ∧ r = f a) ∧ M' = M)
section
variable {α : Type} {D : α → Prop} {W : WX} {Γ : Ctx} {M : List Re} {te ta tb tl : TE} {t u : TT} {r r1 : Rp} {rs : List Rp} {K : PySem.W.Frag} {C b : Addr} {i j k m n : Nat} {x : V} {E : XK} {κ : Kn} {tu tw : TS}
theorem d_take (hk : M[k]? = some (boxR K b)) (hv : Γ[i]? = some (some (rV (.ref b)))) (h : EvX Γ te (nI m)) (h0 : 0 < m) (h1 : m < 2 ^ 30) : EXD Γ M (tCall (spT K) [] E (tCons (tVar i) (tCons te tNil))) (fun d : Nat => d < m) nI := e_take hk hv h h0 h1
end
end Mu

namespace Mu
open PySem PySem.Spec PyProof.Rows L2 Evl
def rInTD (K : PySem.W.Frag) : R2 := fun x y H Q => ∃ d ds, Dp K H x d ∧ Dp K H y (.tuple ds) ∧ SeqAt.shaped d = true ∧ SeqAt.shaped (.tuple ds) = true ∧ Q (.bl (ds.any fun z => PyData.eqv z d)) H
section
variable {Γ : Ctx} {M : List Re} {te ta tb tc tl : TE} {r r1 r2 : Rp} {rs : List Rp} {K : PySem.W.Frag} {C b : Addr} {i j k m n : Nat} {v w x y : V} {E : XK} {sp : Sp} {α : Type} {D : α → Prop}
theorem x_inTP {p : Nat × Nat} {l : List (Nat × Nat)} (ha : EvX Γ ta (rP K p)) (hb : EvX Γ tb (rT K (l.map (rP K)))) : EvX Γ (tOp (rInTD K) ta tb) (rB (decide (p ∈ l))) := fun σ G en =>
  Ev.d (ev_op2 (ha σ G en) (hb σ G en) fun x y H hx hy Q q => ⟨dP p, l.map dP, asd_p p x H hx, asd_tup asd_p l y H hy, (sh_p p).ok (by decide), (sh_tup sh_p l).ok (by decide), by rw [any_p]; exact q⟩)
theorem o_no {σ : L2.St} {G : Hp} : EvO tNoPart σ G none := fun H e Q q => q H (Ex.refl _)
theorem EvX.s (h : EvX Γ te (rL K rs)) : EvX Γ te (rLs K rs) := fun σ G en H e Q q => h σ G en H e Q fun v G2 H2 g hv => q v G2 H2 g (by
  obtain ⟨a, vs, rfl, h1, h2⟩ := hv
  exact ⟨a, vs, rfl, sq_of h1, h2⟩)
end
section
variable {Γ : Ctx} {te ta tb : TE} {r r1 : Rp} {K : PySem.W.Frag} {n : Nat} {a : Int}
theorem x_neg (h : EvX Γ te (rI a)) : EvX Γ (tUn (rU fun i => .int (-i)) te) (rI (-a)) := fun σ G en H e Q q => h σ G en H e _ fun v G2 H2 g hv => by
  obtain rfl : v = V.int a := hv
  exact ⟨a, rfl, q _ G2 H2 g rfl⟩
end
end Mu

namespace Mu
open PySem PySem.Spec PyProof.Rows L2 Evl
section
variable {X : Cx} {CX : CXT} {k : Nat} {f C : Addr} {fd : FuncData} {ps : List Str} {sp : Sp} {E : L2.St → XK} {a b : Expr} {ta tb : TE} {pos : Pos}
end
section
variable {W : WX} {Γ : Ctx} {M : List Re} {ta tb : TE} {t1 t2 : TS} {o : Out} {κ : Kn} {R : List V → Hp → Out → Prop} {K : PySem.W.Frag} {C : Addr} {m m' : List Nat}
theorem w_cut {α : Type} (P : α → Prop) (Γf : α → Ctx) (h : WP W Γ M t1 { κ with nx := fun Γ' M' => ∃ a, P a ∧ Sub Γ' (Γf a) ∧ M' = M }) (hn : ∀ a, P a → WP W (Γf a) M t2 κ) : WP W Γ M (tSeq t1 t2) κ :=
  w_seq (w_imp h (fun Γ' M' ⟨a, pa, s, e⟩ => by subst e; exact w_sub s (hn a pa)) (fun _ _ z => z) (fun _ _ z => z) (fun _ _ z => z) (fun _ _ _ _ z => z))
end
end Mu

namespace Mu
open PySem PySem.Spec PyProof.Rows L2 Evl
section
variable {B : Ba} {G H G2 H2 : Hp} {M : List Re} {R : Re}
theorem Ok.add2 (o : Ok B G H M) (o2 : Ok B G2 H2 M) (hd : R.ft.Nodup) (hn : ∀ a ∈ R.ft, H a = none ∧ G2 a = none) (m : R.p G2 H2) : Ok B G2 H2 (M ++ [R]) := by
  refine ⟨o2.g, o2.l, o2.h, o2.i, o2.n, o2.k, fun r hr => ?_, fun a ha => ?_, ?_, fun r hr a ha => ?_⟩
  · rcases List.mem_append.mp hr with q | q
    · exact o2.m r q
    · rw [List.mem_singleton.mp q]; exact m
  · rw [feet_snoc] at ha
    rcases List.mem_append.mp ha with q | q
    · exact o2.z a q
    · exact (hn a q).2
  · rw [feet_snoc]
    refine List.nodup_append.mpr ⟨o.d, hd, fun a ha b hb e => ?_⟩
    subst e
    obtain ⟨r, hr, hf⟩ := List.mem_flatMap.mp ha
    obtain ⟨u, z, t⟩ := r.at_ (o.m r hr) a hf
    rw [(hn a hb).1] at z; cases z
  · rcases List.mem_append.mp hr with q | q
    · exact o.f r q a ha
    · rw [List.mem_singleton.mp q] at ha
      refine .inl ?_
      cases z : B.H0 a with
      | none => rfl
      | some u =>
        by_cases c : a ∈ B.F
        · obtain ⟨u2, z2, t2⟩ := o.k a c
          rw [(hn a ha).1] at z2; cases z2
        · have := o.h a u z c
          rw [(hn a ha).1] at this; cases this
end
section
variable {α : Type} {D : α → Prop} {W : WX} {Γ : Ctx} {M : List Re} {te ta tb tl : TE} {rs : List Rp} {K : PySem.W.Frag} {b : Addr} {i j k m n : Nat} {E : XK} {κ : Kn} {p : Addr}
def EXL (Γ : Ctx) (M : List Re) (te : TE) (D : α → Prop) (f : α → List Rp) : Prop := EX Γ M te (fun r M' => ∃ a p, D a ∧ r = rV (.ref p) ∧ M' = M ++ [lstR p (f a)])
theorem w_cutM {t1 t2 : TS} (P : α → Prop) (Γf : α → Ctx) (Mf : α → List Re) (h : WP W Γ M t1 { κ with nx := fun Γ' M' => ∃ a, P a ∧ Sub Γ' (Γf a) ∧ M' = Mf a }) (hn : ∀ a, P a → WP W (Γf a) (Mf a) t2 κ) : WP W Γ M (tSeq t1 t2) κ :=
  w_seq (w_imp h (fun Γ' M' ⟨a, pa, s, e⟩ => by subst e; exact w_sub s (hn a pa)) (fun _ _ z => z) (fun _ _ z => z) (fun _ _ z => z) (fun _ _ _ _ z => z))
end
end Mu

namespace Mu
open PySem PySem.Spec PyProof.Rows L2 Evl
section
variable {α β : Type} {K : PySem.W.Frag} {σ : L2.St} {G H : Hp} {te tl : TE} {t : TT} {D : Ends} {tu : TS} {vs : List Nat} {j1 j2 : Nat}
end
section
variable {W : WX} {Γ : Ctx} {M : List Re} {te tl : TE} {t : TT} {tu : TS} {κ : Kn} {K : PySem.W.Frag} {α β : Type} {j1 j2 j3 : Nat} {r1 r2 r3 : Rp}
end
end Mu

namespace Mu
open PySem PySem.Spec PyProof.Rows L2 Evl
section
variable {α : Type} {D : α → Prop} {W : WX} {Γ : Ctx} {M : List Re} {te ta tb tl : TE} {K : PySem.W.Frag} {b : Addr} {i j k m n : Nat} {κ : Kn} {vs : List Nat} {f : α → Rp}
def Dc (B : Ba) (G : Hp) (M : List Re) (Dl : Addr) (D : α → Prop) (f : α → Rp) (i : Nat) (H' : Hp) : Prop := ∃ (G' : Hp) (l : List α), Ex G G' ∧ l.length = i ∧ (∀ a ∈ l, D a) ∧ Ok B G' H' (M ++ [lstR Dl (l.map f)])
theorem dc_start {B : Ba} {G H : Hp} {Dl : Addr} (o : Ok B G H M) (hD : H Dl = none) : Dc B G M Dl D f 0 (upd H Dl (.lst [])) :=
  ⟨G, [], Ex.refl _, rfl, fun a ha => (nomatch ha), o.add2 (o.ex (Ex.new hD)) (R := lstR Dl []) (by show [_].Nodup; simp) (fun x hx => by rw [List.mem_singleton.mp hx]; exact ⟨hD, fresh_back o.i hD⟩) ⟨[], upd_same, .nil⟩⟩
theorem dc_step {B : Ba} {G H' : Hp} {Dl : Addr} {σ2 : L2.St} {Γ2 : Ctx} (hz : i < 40000) (p : Dc B G M Dl D f i H') (en : ∀ G', Ex G G' → En σ2 G' Γ2) (he : ∀ R, EXD Γ2 (M ++ [R]) te D f) :
    te σ2 H' fun y H4 => ∃ acc, H4 Dl = some (.lst acc) ∧ acc.length < sizeLine ∧ Dc B G M Dl D f (i + 1) (upd H4 Dl (.lst (acc ++ [y]))) := by
  obtain ⟨G', l, e, hl, hD, o⟩ := p
  refine he (lstR Dl (l.map f)) B G' H' σ2 o (en G' e) _ fun v G2 H2 r M' z o2 e2 hr => ?_
  obtain ⟨⟨a, ha, rfl⟩, rfl⟩ := z
  have hk : (M ++ [lstR Dl (l.map f)])[M.length]? = some (lstR Dl (l.map f)) := by simp
  have hm := List.mem_of_getElem? hk
  obtain ⟨ws, h1, h2⟩ := o2.m _ hm
  have gD : G2 Dl = none := o2.z Dl (mem_feet hm (List.mem_singleton.mpr rfl))
  have hlen : ws.length = i := by rw [h2.len, List.length_map, hl]
  refine ⟨ws, h1, sz_lt (by omega), G2, l ++ [a], e.trans e2, by rw [List.length_append, hl]; rfl, fun x hx => ?_, ?_⟩
  · rcases List.mem_append.mp hx with q | q
    · exact hD x q
    · rw [List.mem_singleton.mp q]; exact ha
  · have o3 := o2.chg hk (R' := lstR Dl ((l ++ [a]).map f)) rfl rfl (Ex.refl G2) (H2 := upd H2 Dl (.lst (ws ++ [v]))) (fun x u z n => by rw [upd_ne (fun q => n (List.mem_singleton.mpr q))]; exact z) (Ex.mut o2.i gD) (fun _ _ _ _ y => y) ⟨ws ++ [v], upd_same, by rw [List.map_append]; exact h2.append (.cons hr .nil)⟩
    have es : (M ++ [lstR Dl (l.map f)]).set M.length (lstR Dl ((l ++ [a]).map f)) = M ++ [lstR Dl ((l ++ [a]).map f)] := by
      rw [List.set_append_right _ _ (Nat.le_refl _), Nat.sub_self]; rfl
    rw [es] at o3
    exact o3
theorem l_lcR' {ta : TA} (n : Nat) (h : ∀ σ G, En σ G Γ → EvA ta σ G [.int (n : Int)]) (hz : n ≤ 40000) (he : ∀ i R, i < n → EXD ((wipeC Γ vs).set j (some (nI i))) (M ++ [R]) te D f) (hj : j ∈ vs := by simp) : EXL Γ M (tLc (iRng1 ta) (gName j) tYes te vs) (fun l : List α => l.length = n ∧ ∀ a ∈ l, D a) (fun l => l.map f) := fun B G H σ o en Q q => h σ G en H o.i _ fun H1 e1 => by
  refine ⟨(n : Int), rfl, by omega, by omega, fun Dl hD => ?_⟩
  rw [Int.toNat_natCast]
  refine lc_range (lo := 0) (n := n) (fun i H' => Dc B G M Dl D f i H') (dc_start (o.ex e1) hD) (fun i H' hi p => ?_) (fun H' p => ?_)
  · have e0 : (0 : Int) + (i : Int) = (i : Int) := Int.zero_add _
    rw [e0]
    refine ⟨wipe_turn σ hj _, ?_⟩
    dsimp only [tYes]
    rw [if_pos rfl]
    exact dc_step (by omega) p (fun G' e => en_at (r := nI i) (en.mono e) rfl) (fun R => he i R hi)
  · obtain ⟨G', l, e, hl, hDl, o2⟩ := p
    exact q (.ref Dl) G' H' _ _ ⟨l, Dl, ⟨hl, hDl⟩, rfl, rfl⟩ o2 e rfl
theorem l_lcR (n : Nat) (h : EvX Γ ta (nI n)) (hz : n ≤ 40000) (he : ∀ i R, i < n → EXD ((wipeC Γ vs).set j (some (nI i))) (M ++ [R]) te D f) (hj : j ∈ vs := by simp) : EXL Γ M (tLc (iRng1 (tCons ta tNil)) (gName j) tYes te vs) (fun l : List α => l.length = n ∧ ∀ a ∈ l, D a) (fun l => l.map f) :=
  l_lcR' n (fun σ G en => ea_cons (EvD.ev (h σ G en)) ea_nil) hz he hj
end
end Mu

namespace Mu
open PySem PySem.Spec PyProof.Rows L2 Evl
section
variable {α : Type} {D : α → Prop} {W : WX} {Γ : Ctx} {M : List Re} {te ta tb tc tl : TE} {rs : List Rp} {K : PySem.W.Frag} {b p : Addr} {i j k m n : Nat} {κ : Kn} {a c : Int}
theorem RA.rev {H : Hp} : ∀ {vs : List V} {rs : List Rp}, RA H vs rs → RA H vs.reverse rs.reverse
  | _, _, .nil => .nil
  | _, _, .cons h t => by
    rw [List.reverse_cons, List.reverse_cons]
    exact (RA.rev t).append (.cons h .nil)
theorem RA.erase {H : Hp} : ∀ {vs : List V} {rs : List Rp} (n : Nat), RA H vs rs → RA H (vs.eraseIdx n) (rs.eraseIdx n)
  | _, _, _, .nil => .nil
  | _, _, 0, .cons _ t => t
  | _, _, n + 1, .cons h t => .cons h (RA.erase n t)
theorem ints_flatI (l : List Int) : (l.map V.int).all flatV = true := by
  rw [List.all_map]
  exact List.all_eq_true.mpr fun _ _ => rfl
theorem inV_int (w : Int) (l : List Int) : inV (.int w) (l.map V.int) = decide (w ∈ l) := by
  unfold inV
  rw [List.any_map, Bool.eq_iff_iff, List.any_eq_true, decide_eq_true_iff]
  constructor
  · rintro ⟨x, hx, h⟩
    have : x = w := by
      have h2 : eqV (.int x) (.int w) = true := h
      simpa [eqV] using h2
    rw [← this]; exact hx
  · intro h
    exact ⟨w, h, by simp [eqV]⟩
theorem x_inLi {l : List Int} (neg : Bool) (ha : EvX Γ ta (rI a)) (hb : EvX Γ tb (rL K (l.map rI))) : EvX Γ (tOp (rIn K neg) ta tb) (rB (if neg then !decide (a ∈ l) else decide (a ∈ l))) := fun σ G en =>
  Ev.d (ev_op2 (ha σ G en) (hb σ G en) fun x y H hx hy Q q => by
    obtain rfl : x = V.int a := hx
    obtain ⟨p, vs, rfl, h1, h2⟩ := hy
    have e := ra_ints_eq h2
    subst e
    exact ⟨p, _, rfl, .inl (sq_of h1), rfl, ints_flatI l, by rw [inV_int]; exact q⟩)
theorem t_chain {p p' : Int → Int → Bool} {a b c : Int} (ha : EvX Γ ta (rI a)) (hb : EvX Γ tb (rI b)) (hc : EvX Γ tc (rI c)) : EvTX Γ (tTest (tChain (rI0 fun i j => .bl (p i j)) (rI0 fun i j => .bl (p' i j)) ta tb tc)) (p a b && p' b c) := fun σ G en H e Q q =>
  ha σ G en H e _ fun x G2 H2 g2 hx => hb σ G2 (en.mono g2.g) H2 g2.i _ fun y G3 H3 g3 hy => by
    obtain rfl : x = V.int a := hx
    obtain rfl : y = V.int b := hy
    refine ⟨a, b, rfl, rfl, p a b, rfl, ?_⟩
    cases z : p a b with
    | false =>
      rw [if_neg (by decide)]
      refine ⟨false, rfl, ?_⟩
      have := q H3 (g2.h.trans g3.h)
      rwa [z] at this
    | true =>
      rw [if_pos rfl]
      refine hc σ G3 (en.mono (g2.g.trans g3.g)) H3 g3.i _ fun w G4 H4 g4 hw => ?_
      obtain rfl : w = V.int c := hw
      refine ⟨b, c, rfl, rfl, p' b c, rfl, ?_⟩
      have := q H4 ((g2.h.trans g3.h).trans g4.h)
      rwa [z, Bool.true_and] at this
end
section
variable {α : Type} {D : α → Prop} {W : WX} {Γ : Ctx} {M : List Re} {t : TS} {tt u : TT} {te : TE} {G H : Hp} {σ : L2.St} {Q : VK} {K : PySem.W.Frag} {b : Addr} {i k m : Nat} {E : XK}
theorem run_BN {P : List Rp → Prop} (w : WP W Γ [boxR K b] t { nx := fun _ _ => False, rt := fun r' M' => ∃ rs p, P rs ∧ r' = rV (.ref p) ∧ M' = [boxR K b, lstR p rs] }) (e : Ex G H) (gb : G b = none) (hb : Box K G H b) (en : En σ G Γ) (k : ∀ rs p vs G2 H2, P rs → GrB b G H G2 H2 → Box K G2 H2 b → H p = none → G2 p = none → H2 p = some (.lst vs) → RA G2 vs rs → Q (.ref p) H2) : t { nx := fun _ H' => Q .non H', rt := Q } σ H :=
  w _ G H σ _ (Ok.box e gb hb) en ⟨fun _ _ _ _ _ _ _ z => z.elim, fun v G' H' r' M' o hv z => by
    obtain ⟨rs, p, hP, rfl, rfl⟩ := z
    obtain rfl : v = V.ref p := hv
    have hm : lstR p rs ∈ [boxR K b, lstR p rs] := by simp
    obtain ⟨ws, h1, h2⟩ := o.m (lstR p rs) hm
    have hp : H p = none := by
      rcases o.f (lstR p rs) hm p (List.mem_singleton.mpr rfl) with q | q
      · exact q
      · exact nomatch q.1
    exact k rs p ws G' H' hP o.toB (o.m (boxR K b) List.mem_cons_self) hp (o.z p (mem_feet hm (List.mem_singleton.mpr rfl))) h1 h2, fun _ _ _ _ _ _ _ z => z.elim, fun _ _ _ _ _ _ _ z => z.elim, fun _ _ _ _ _ _ _ _ _ _ _ z => z.elim⟩
end
end Mu

namespace Mu
open PySem PySem.Spec PyProof.Rows L2 Evl
abbrev KV := Rp → List Re → Prop
abbrev KX := Value → List (Str × V) → List Re → Prop
def Go (B : Ba) (G : Hp) (κ : KV) (Q : VK) : Prop := ∀ v G' H' r M', κ r M' → Ok B G' H' M' → Ex G G' → r.p v G' → Q v H'
def GoX (B : Ba) (G : Hp) (ε : KX) (W : WX) (σ : L2.St) : Prop := ∀ cls fs d G' H' M', ε cls fs M' → Ok B G' H' M' → Ex G G' → XdOk G' fs d → W cls d σ H'
def EW (W : WX) (Γ : Ctx) (M : List Re) (te : TE) (κ : KV) (ε : KX) : Prop := ∀ B G H σ, Ok B G H M → En σ G Γ → ∀ Q : VK, Go B G κ Q → GoX B G ε W σ → te σ H Q
def EA (W : WX) (Γ : Ctx) (M : List Re) (ta : TA) (κ : List Rp → List Re → Prop) (ε : KX) : Prop := ∀ B G H σ, Ok B G H M → En σ G Γ → ∀ Q : List V → Hp → Prop, (∀ vs G' H' rs M', κ rs M' → Ok B G' H' M' → Ex G G' → RA G' vs rs → Q vs H') → GoX B G ε W σ → ta σ H Q
def ET (W : WX) (Γ : Ctx) (M : List Re) (t : TT) (κ : Bool → List Re → Prop) (ε : KX) : Prop := ∀ B G H σ, Ok B G H M → En σ G Γ → ∀ Q : Bool → Hp → Prop, (∀ c G' H' M', κ c M' → Ok B G' H' M' → Ex G G' → Q c H') → GoX B G ε W σ → t σ H Q
def OM (rr : R2) (r1 r2 : Rp) (M : List Re) (κ : KV) : Prop := ∀ B G H x y, Ok B G H M → r1.p x G → r2.p y G → ∀ Q : VK, Go B G κ Q → rr x y H Q
def UM (rr : V → Hp → VK → Prop) (r1 : Rp) (M : List Re) (κ : KV) : Prop := ∀ B G H x, Ok B G H M → r1.p x G → ∀ Q : VK, Go B G κ Q → rr x H Q
def AM (rr : List V → Hp → VK → Prop) (rs : List Rp) (M : List Re) (κ : KV) : Prop := ∀ B G H vs, Ok B G H M → RA G vs rs → ∀ Q : VK, Go B G κ Q → rr vs H Q
def CM (sp : Sp) (rs : List Rp) (M : List Re) (κ : KV) : Prop := ∀ E, AM (fun vs H Q => sp vs H Q E) rs M κ
def XM (sp : Sp) (rs : List Rp) (M : List Re) (κ : KV) (ε : KX) : Prop := ∀ B G H vs W σ, Ok B G H M → RA G vs rs → ∀ Q : VK, Go B G κ Q → GoX B G ε W σ → sp vs H Q (fun cls d H' => W cls d σ H')
section
variable {W : WX} {Γ : Ctx} {M : List Re} {te ta tb tc tl : TE} {t u : TT} {r r1 r2 r3 : Rp} {rs ss : List Rp} {K : PySem.W.Frag} {C : Addr} {i j : Nat} {v w x y : V} {m n : Nat} {E : XK} {sp : Sp} {κ : KV} {ε : KX} {B : Ba} {G G1 H : Hp} {Q : VK} {σ : L2.St} {rr : R2}
theorem Go.up (q : Go B G κ Q) (e : Ex G G1) : Go B G1 κ Q := fun v G' H' r M' k o e' hv => q v G' H' r M' k o (e.trans e') hv
theorem GoX.up (q : GoX B G ε W σ) (e : Ex G G1) : GoX B G1 ε W σ := fun c f d G' H' M' k o e' hv => q c f d G' H' M' k o (e.trans e') hv
theorem e_v (h : Γ[i]? = some (some r)) (k : κ r M) : EW W Γ M (tVar i) κ ε := fun B G H σ o en Q q _ => by
  obtain ⟨v, h1, h2⟩ := en.get h
  exact ⟨v, h1, q v G H r M k o (Ex.refl _) h2⟩
theorem e_c (k : κ (rV v) M) : EW W Γ M (tC v) κ ε := fun B G H σ o en Q q _ => q v G H (rV v) M k o (Ex.refl _) rfl
theorem e_x (h : EvX Γ te r) (k : κ r M) : EW W Γ M te κ ε := fun B G H σ o en Q q _ => h σ G en H o.i Q fun v G2 H2 g hv => q v G2 H2 r M k (o.gr g) g.g hv
theorem e_xn (K : PySem.W.Frag) (h : EvNX Γ te rs) (k : κ (rL K rs) M) : EW W Γ M te κ ε := e_x (EvNX.d (K := K) h) k
theorem e_n (h : EvNX Γ te rs) (k : ∀ p, κ (rV (.ref p)) (M ++ [lstR p rs])) : EW W Γ M te κ ε := fun B G H σ o en Q q _ => h σ G en H o.i Q fun p vs G2 H2 g hp gp h2 ra =>
  q _ G2 H2 _ _ (k p) (o.add (R := lstR p rs) g (show [p].Nodup by simp) (fun a ha => by rw [List.mem_singleton.mp ha]; exact ⟨hp, gp⟩) ⟨vs, h2, ra⟩) g.g rfl
theorem EvX.by (h : ∀ W ε, EW W Γ [] te (fun r' M' => r' = r ∧ M' = []) ε) : EvX Γ te r := fun σ G en H e Q q => h (fun _ _ _ _ => True) (fun _ _ _ => False) ⟨G, H, [], G⟩ G H σ (Ok.nil e) en Q (fun v G' H' r' M' z o _ hv => by
    obtain ⟨rfl, rfl⟩ := z
    exact q v G' H' o.to hv) (fun _ _ _ _ _ _ z => z.elim)
theorem e_op (h : EW W Γ M ta (fun r1 M1 => EW W Γ M1 tb (fun r2 M2 => OM rr r1 r2 M2 κ) ε) ε) : EW W Γ M (tOp rr ta tb) κ ε := fun B G H σ o en Q q x =>
  h B G H σ o en _ (fun v1 G1 H1 r1 M1 h1 o1 e1 hv1 => h1 B G1 H1 σ o1 (en.mono e1) _ (fun v2 G2 H2 r2 M2 h2 o2 e2 hv2 => h2 B G2 H2 v1 v2 o2 (r1.mono e2 hv1) hv2 Q (q.up (e1.trans e2))) (x.up e1)) x
theorem e_un {rr : V → Hp → VK → Prop} (h : EW W Γ M ta (fun r1 M1 => UM rr r1 M1 κ) ε) : EW W Γ M (tUn rr ta) κ ε := fun B G H σ o en Q q x =>
  h B G H σ o en _ (fun v1 G1 H1 r1 M1 h1 o1 e1 hv1 => h1 B G1 H1 v1 o1 hv1 Q (q.up e1)) x
theorem a_nil {κ : List Rp → List Re → Prop} (k : κ [] M) : EA W Γ M tNil κ ε := fun B G H σ o en Q q _ => q [] G H [] M k o (Ex.refl _) .nil
theorem a_cons {κ : List Rp → List Re → Prop} {tr : TA} (h : EW W Γ M ta (fun r1 M1 => EA W Γ M1 tr (fun rs M2 => κ (r1 :: rs) M2) ε) ε) : EA W Γ M (tCons ta tr) κ ε := fun B G H σ o en Q q x =>
  h B G H σ o en _ (fun v1 G1 H1 r1 M1 h1 o1 e1 hv1 => h1 B G1 H1 σ o1 (en.mono e1) _ (fun vs G2 H2 rs M2 h2 o2 e2 ra => q (v1 :: vs) G2 H2 (r1 :: rs) M2 h2 o2 (e1.trans e2) (.cons (r1.mono e2 hv1) ra)) (x.up e1)) x
theorem e_call {ta : TA} (h : EA W Γ M ta (fun rs M1 => CM sp rs M1 κ) ε) : EW W Γ M (tCall sp [] E ta) κ ε := fun B G H σ o en Q q x =>
  h B G H σ o en _ (fun vs G1 H1 rs M1 h1 o1 e1 ra => by
    rw [List.append_nil]
    exact h1 E B G1 H1 vs o1 ra Q (q.up e1)) x
theorem e_callS {ta : TA} (h : EA W Γ M ta (fun rs M1 => XM sp rs M1 κ ε) ε) : EW W Γ M (tCallS sp (WE W) ta) κ ε := fun B G H σ o en Q q x =>
  h B G H σ o en _ (fun vs G1 H1 rs M1 h1 o1 e1 ra => h1 B G1 H1 vs W σ o1 ra Q (q.up e1) (x.up e1)) x
theorem e_cb {ta : TA} {rr : List V → Hp → VK → Prop} (h : EA W Γ M ta (fun rs M1 => AM rr rs M1 κ) ε) : EW W Γ M (tCB rr ta) κ ε := fun B G H σ o en Q q x =>
  h B G H σ o en _ (fun vs G1 H1 rs M1 h1 o1 e1 ra => h1 B G1 H1 vs o1 ra Q (q.up e1)) x
theorem e_tup (K : PySem.W.Frag) {ta : TA} (h : EA W Γ M ta (fun rs M1 => rs.length ≤ 100000 ∧ κ (rT K rs) M1) ε) : EW W Γ M (tTup ta) κ ε := fun B G H σ o en Q q x =>
  h B G H σ o en _ (fun vs G1 H1 rs M1 h1 o1 e1 ra => ⟨sz_of (by rw [ra.len]; exact h1.1), fun p hp => by
    have g3 := Gr.new (o := .tup vs) o1.i hp
    exact q (.ref p) _ _ (rT K rs) M1 h1.2 (o1.gr g3) (e1.trans g3.g) ⟨p, vs, rfl, st_of upd_same, ra.mono g3.g⟩⟩) x
theorem e_lst (K : PySem.W.Frag) {ta : TA} (h : EA W Γ M ta (fun rs M1 => rs.length ≤ 100000 ∧ κ (rL K rs) M1) ε) : EW W Γ M (tLst ta) κ ε := fun B G H σ o en Q q x =>
  h B G H σ o en _ (fun vs G1 H1 rs M1 h1 o1 e1 ra => ⟨sz_of (by rw [ra.len]; exact h1.1), fun p hp => by
    have g3 := Gr.new (o := .lst vs) o1.i hp
    exact q (.ref p) _ _ (rL K rs) M1 h1.2 (o1.gr g3) (e1.trans g3.g) ⟨p, vs, rfl, upd_same, ra.mono g3.g⟩⟩) x
theorem e_lstN {ta : TA} (h : EA W Γ M ta (fun rs M1 => rs.length ≤ 100000 ∧ ∀ p, κ (rV (.ref p)) (M1 ++ [lstR p rs])) ε) : EW W Γ M (tLst ta) κ ε := fun B G H σ o en Q q x =>
  h B G H σ o en _ (fun vs G1 H1 rs M1 h1 o1 e1 ra => ⟨sz_of (by rw [ra.len]; exact h1.1), fun p hp => by
    have gp := fresh_back o1.i hp
    have g3 := Gr.out (o := .lst vs) o1.i hp
    exact q (.ref p) _ _ (rV (.ref p)) _ (h1.2 p) (o1.add (R := lstR p rs) g3 (show [p].Nodup by simp) (fun a ha => by rw [List.mem_singleton.mp ha]; exact ⟨hp, gp⟩) ⟨vs, upd_same, ra⟩) e1 rfl⟩) x
theorem e_fld (f : Str) (h : EW W Γ M ta (fun r1 M1 => UM (fun x H1 Q => ∃ a C dx fs v, x = .ref a ∧ H1 a = some (.ins C dx fs) ∧ Cls K C ∧ NoAttr K C f ∧ fs.lookup f = some v ∧ Q v H1) r1 M1 κ) ε) : EW W Γ M (tFld K ta f) κ ε := fun B G H σ o en Q q x =>
  h B G H σ o en _ (fun v1 G1 H1 r1 M1 h1 o1 e1 hv1 => h1 B G1 H1 v1 o1 hv1 Q (q.up e1)) x
theorem e_make {ta : TA} (h : EA W Γ M ta (fun rs M1 => AM (fun vs H1 Q => ∀ x dx, H1 x = none → H1 dx = none → dx ≠ x → sp (.ref x :: (vs ++ [])) (upd (upd H1 dx (.own x)) x (.ins C dx [])) (fun v H2 => v = .non ∧ Q (.ref x) H2) E) rs M1 κ) ε) : EW W Γ M (tMake C sp [] E ta) κ ε := fun B G H σ o en Q q x =>
  h B G H σ o en _ (fun vs G1 H1 rs M1 h1 o1 e1 ra => h1 B G1 H1 vs o1 ra Q (q.up e1)) x
def InsR (C : Addr) (f : Str) (r : Rp) : Prop := ∀ v G, r.p v G → ∃ a dx fs, v = .ref a ∧ G a = some (.ins C dx fs) ∧ fs.lookup f = none
theorem e_meth {ta : TA} {f : Str} (h : EW W Γ M te (fun r0 M0 => InsR C f r0 ∧ EA W Γ M0 ta (fun rs M1 => CM sp (r0 :: rs) M1 κ) ε) ε) : EW W Γ M (tMeth C f sp [] E te ta) κ ε := fun B G H σ o en Q q x =>
  h B G H σ o en _ (fun v0 G0 H0 r0 M0 h0 o0 e0 hv0 => by
    obtain ⟨hi, h1⟩ := h0
    obtain ⟨a, dx, fs, rfl, h2, h3⟩ := hi _ _ hv0
    refine ⟨a, dx, fs, rfl, o0.i _ _ h2, h3, h1 B G0 H0 σ o0 (en.mono e0) _ (fun vs G1 H1 rs M1 k1 o1 e1 ra => ?_) (x.up e0)⟩
    rw [List.append_nil]
    exact k1 E B G1 H1 _ o1 (.cons (r0.mono e1 hv0) ra) Q (q.up (e0.trans e1))) x
theorem ins_tab {m : List Nat} {f : Str} (hf : (f == "size" || (f == "masks" || f == "cells")) = false) : InsR C f (rTab K C m) := fun v G hv => by
  obtain ⟨a, dx, t, c, rfl, h2, _⟩ := hv
  refine ⟨a, dx, _, rfl, h2, ?_⟩
  have hf2 := hf
  simp only [Bool.or_eq_false_iff] at hf2
  obtain ⟨h1, h3, h4⟩ := hf2
  unfold tabF
  simp [List.lookup, h1, h3, h4]
theorem w_t {κ : Bool → List Re → Prop} (h : EW W Γ M te (fun r M' => ∃ c, r = rB c ∧ κ c M') ε) : ET W Γ M (tTest te) κ ε := fun B G H σ o en Q q x =>
  h B G H σ o en _ (fun v G' H' r M' z o' e' hv => by
    obtain ⟨c, rfl, k⟩ := z
    exact ⟨c, hv, q c G' H' M' k o' e'⟩) x
theorem w_tB {κ : Bool → List Re → Prop} (h : EW W Γ M te (fun r M' => ∃ c, r = rB c ∧ κ c M') ε) : ET W Γ M (tB te) κ ε := fun B G H σ o en Q q x =>
  h B G H σ o en _ (fun v G' H' r M' z o' e' hv => by
    obtain ⟨c, rfl, k⟩ := z
    exact ⟨c, hv, q c G' H' M' k o' e'⟩) x
theorem w_tx {κ : Bool → List Re → Prop} {c : Bool} (h : EvTX Γ t c) (k : κ c M) : ET W Γ M t κ ε := fun B G H σ o en Q q x => h σ G en H o.i Q fun H2 e => q c G H2 M k (o.ex e) (Ex.refl _)
theorem w_tAnd {κ : Bool → List Re → Prop} (h : ET W Γ M t (fun c M' => (c = true → ET W Γ M' u κ ε) ∧ (c = false → κ false M')) ε) : ET W Γ M (tAnd t u) κ ε := fun B G H σ o en Q q x =>
  h B G H σ o en _ (fun c G' H' M' z o' e' => by
    cases c with
    | true =>
      show u σ H' Q
      exact z.1 rfl B G' H' σ o' (en.mono e') Q (fun c2 G2 H2 M2 k o2 e2 => q c2 G2 H2 M2 k o2 (e'.trans e2)) (x.up e')
    | false =>
      show Q false H'
      exact q false G' H' M' (z.2 rfl) o' e') x
theorem w_tNot {κ : Bool → List Re → Prop} (h : ET W Γ M t (fun c M' => κ (!c) M') ε) : ET W Γ M (tNot t) κ ε := fun B G H σ o en Q q x =>
  h B G H σ o en _ (fun c G' H' M' z o' e' => q (!c) G' H' M' z o' e') x
end
section
variable {W : WX} {Γ : Ctx} {M : List Re} {te ta tb tc tl : TE} {t u : TT} {r r1 r2 r3 : Rp} {rs ss : List Rp} {K : PySem.W.Frag} {C : Addr} {i j : Nat} {κ : Kn} {tu tw : TS}
theorem ws_set (h : EW W Γ M te (fun r M' => κ.nx (Γ.set i (some r)) M') (κ.ex Γ)) : WP W Γ M (tAsg te (gName i)) κ := fun B G H σ D o en d =>
  h B G H σ o en _ (fun v G' H' r M' k o' e' hv => d.nx _ G' H' _ M' o' ((en.mono e').set hv i) k) (fun cls fs dd G' H' M' k o' e' xd => d.ex σ G' H' Γ M' cls dd fs o' (en.mono e') xd k)
theorem ws_ret (h : EW W Γ M te κ.rt (κ.ex Γ)) : WP W Γ M (tRet te) κ := fun B G H σ D o en d =>
  h B G H σ o en _ (fun v G' H' r M' k o' e' hv => d.rt v G' H' r M' o' hv k) (fun cls fs dd G' H' M' k o' e' xd => d.ex σ G' H' Γ M' cls dd fs o' (en.mono e') xd k)
theorem ws_do (h : EW W Γ M te (fun _ M' => κ.nx Γ M') (κ.ex Γ)) : WP W Γ M (tDrop te) κ := fun B G H σ D o en d =>
  h B G H σ o en _ (fun v G' H' r M' k o' e' hv => d.nx σ G' H' _ M' o' (en.mono e') k) (fun cls fs dd G' H' M' k o' e' xd => d.ex σ G' H' Γ M' cls dd fs o' (en.mono e') xd k)
theorem ws_if (h : ET W Γ M t (fun c M' => (c = true → WP W Γ M' tu κ) ∧ (c = false → WP W Γ M' tw κ)) (κ.ex Γ)) : WP W Γ M (tIfS t tu tw) κ := fun B G H σ D o en d =>
  h B G H σ o en _ (fun c G' H' M' k o' e' => by
    cases c with
    | true =>
      show tu D σ H'
      exact k.1 rfl B G' H' σ D o' (en.mono e') d
    | false =>
      show tw D σ H'
      exact k.2 rfl B G' H' σ D o' (en.mono e') d) (fun cls fs dd G' H' M' k o' e' xd => d.ex σ G' H' Γ M' cls dd fs o' (en.mono e') xd k)
end
section
variable {W : WX} {Γ : Ctx} {M : List Re} {te ta tb tc tl : TE} {r r1 r2 r3 : Rp} {rs ss : List Rp} {K : PySem.W.Frag} {C b p : Addr} {i j k : Nat} {v w x y : V} {m n : Nat} {a c : Int} {sp : Sp} {κ : KV} {ε : KX} {rr : R2}
theorem en2 {G : Hp} (h1 : r1.p x G) (h2 : r2.p y G) : En [some x, some y] G [some r1, some r2] := .cons (fun q hq => ⟨x, rfl, by cases hq; exact h1⟩) (.cons (fun q hq => ⟨y, rfl, by cases hq; exact h2⟩) .nil)
theorem en1 {G : Hp} (h1 : r1.p x G) : En [some x] G [some r1] := .cons (fun q hq => ⟨x, rfl, by cases hq; exact h1⟩) .nil
theorem om (h : EvX [some r1, some r2] (tOp rr (tVar 0) (tVar 1)) r) (k : κ r M) : OM rr r1 r2 M κ := fun B G H x y o hx hy Q q => by
  obtain ⟨v1, e1, v2, e2, z⟩ := h _ G (en2 hx hy) H o.i Q fun v G2 H2 g hv => q v G2 H2 r M k (o.gr g) g.g hv
  cases e1; cases e2
  exact z
theorem omn (h : EvNX [some r1, some r2] (tOp rr (tVar 0) (tVar 1)) rs) (k : κ (rL K rs) M) : OM rr r1 r2 M κ := om (EvNX.d (K := K) h) k
theorem um {rr : V → Hp → VK → Prop} (h : EvX [some r1] (tUn rr (tVar 0)) r) (k : κ r M) : UM rr r1 M κ := fun B G H x o hx Q q => by
  obtain ⟨v1, e1, z⟩ := h _ G (en1 hx) H o.i Q fun v G2 H2 g hv => q v G2 H2 r M k (o.gr g) g.g hv
  cases e1
  exact z
theorem am1 {rr : List V → Hp → VK → Prop} (h : EvX [some r1] (tCB rr (tCons (tVar 0) tNil)) r) (k : κ r M) : AM rr [r1] M κ := fun B G H vs o ra Q q => by
  obtain ⟨x, rfl, hx⟩ := ra1 ra
  obtain ⟨v1, e1, z⟩ := h _ G (en1 hx) H o.i Q fun v G2 H2 g hv => q v G2 H2 r M k (o.gr g) g.g hv
  cases e1
  exact z
theorem am1n {rr : List V → Hp → VK → Prop} (h : EvNX [some r1] (tCB rr (tCons (tVar 0) tNil)) rs) (k : κ (rL K rs) M) : AM rr [r1] M κ := am1 (EvNX.d (K := K) h) k
theorem am2c {rr : List V → Hp → VK → Prop} {c : V} (h : EvX [some r1] (tCB rr (tCons (tVar 0) (tCons (tC c) tNil))) r) (k : κ r M) : AM rr [r1, rV c] M κ := fun B G H vs o ra Q q => by
  obtain ⟨x, y, rfl, hx, hy⟩ := ra2 ra
  obtain rfl : y = c := hy
  obtain ⟨v1, e1, z⟩ := h _ G (en1 hx) H o.i Q fun v G2 H2 g hv => q v G2 H2 r M k (o.gr g) g.g hv
  cases e1
  exact z
theorem cm (h : ∀ vs G, RA G vs rs → SpD sp vs G r) (k : κ r M) : CM sp rs M κ := fun E B G H vs o ra Q q => h vs G ra H o.i Q (fun v G2 H2 g hv => q v G2 H2 r M k (o.gr g) g.g hv) E
theorem cmn (h : ∀ vs G, RA G vs rs → SpN sp vs G ss) (k : κ (rL K ss) M) : CM sp rs M κ := cm (fun vs G ra => by
  intro H e Q q E
  exact h vs G ra H e Q (fun p ws G2 H2 g hp gp h2 ra => by
    have e2 : Ex (upd G2 p (.lst ws)) H2 := fun a u z => by
      by_cases c : a = p
      · subst c
        rw [upd_same] at z
        rw [h2]; exact z
      · rw [upd_ne c] at z
        exact g.i a u z
    refine q (.ref p) (upd G2 p (.lst ws)) H2 ⟨g.g.trans (Ex.new gp), g.h, e2, fun a u z y => ?_⟩ ⟨p, ws, rfl, upd_same, ra.mono (Ex.new gp)⟩
    rw [upd_ne (ne_of_none z hp)]
    exact g.n a u z y) E) k
theorem cmo (h : ∀ vs G, RA G vs rs → SpN sp vs G ss) (k : ∀ p, κ (rV (.ref p)) (M ++ [lstR p ss])) : CM sp rs M κ := fun E B G H vs o ra Q q => h vs G ra H o.i Q (fun p ws G2 H2 g hp gp h2 ra => q _ G2 H2 _ _ (k p) (o.add (R := lstR p ss) g (show [p].Nodup by simp) (fun a ha => by rw [List.mem_singleton.mp ha]; exact ⟨hp, gp⟩) ⟨ws, h2, ra⟩) g.g rfl) E
theorem xm {R : List V → Hp → Out → Prop} (h : ∀ vs G, RA G vs rs → R vs G (.inl r)) (k : κ r M) : XM (spO R) rs M κ ε := fun B G H vs W σ o ra Q q x => by
  refine ⟨G, .inl r, o.i, h vs G ra, fun r' e' v G2 H2 g hv => ?_, fun _ _ z => nomatch z⟩
  cases e'
  exact q v G2 H2 r M k (o.gr g) g.g hv
theorem xmx {R : List V → Hp → Out → Prop} {cls : Value} {fs : List (Str × V)} (h : ∀ vs G, RA G vs rs → R vs G (.inr (cls, fs))) (k : ε cls fs M) : XM (spO R) rs M κ ε := fun B G H vs W σ o ra Q q x => by
  refine ⟨G, .inr (cls, fs), o.i, h vs G ra, fun _ z => (nomatch z), fun c f e' d G2 H2 g xd => ?_⟩
  cases e'
  exact x cls fs d G2 H2 M k (o.gr g) g.g xd
theorem cmO {R : List V → Hp → Out → Prop} (h : ∀ vs G, RA G vs rs → R vs G (.inl r)) (k : κ r M) : CM (spO R) rs M κ := cm (fun vs G ra => SpD.ofO (h vs G ra)) k
theorem c_take (k : Nat) (hk : M[k]? = some (boxR K b)) (h0 : 0 < m) (h1 : m < 2 ^ 30) (kk : ∀ d, d < m → κ (nI d) M) : CM (spT K) [rV (.ref b), nI m] M κ := fun E B G H vs o ra Q q => by
  obtain ⟨x, y, rfl, hx, hy⟩ := ra2 ra
  obtain rfl : x = V.ref b := hx
  obtain rfl : y = V.int (m : Int) := hy
  have z : EXD [some (rV (.ref b))] M (tCall (spT K) [] E (tCons (tVar 0) (tCons (tC (.int (m : Int))) tNil))) (fun d : Nat => d < m) nI := d_take hk rfl (x_cn m) h0 h1
  obtain ⟨w, hw, z3⟩ := z B G H [some (.ref b)] o (en1 rfl) Q fun v G' H' r M' k1 k2 k3 k4 => by
    obtain ⟨⟨d, hd, rfl⟩, rfl⟩ := k1
    exact q v G' H' _ _ (kk d hd) k2 k3 k4
  cases hw
  exact z3
theorem c_B {R : List V → Hp → (Rp → Prop) → Prop} {PP : Rp → Prop} (k : Nat) (hk : M[k]? = some (boxR K b)) (hs : ∀ ws G, RA G ws rs → R ws G PP) (kk : ∀ r, PP r → κ r M) : CM (spB K R) (rV (.ref b) :: rs) M κ := fun E B G H vs o ra Q q => by
  cases ra with
  | cons hx ra =>
    obtain rfl := hx
    have hm := List.mem_of_getElem? hk
    exact ⟨G, b, _, PP, rfl, o.i, o.z b (mem_feet hm (List.mem_singleton.mpr rfl)), o.m _ hm, hs _ G ra, fun r v G2 H2 p g hb hv => q v G2 H2 r M (kk r p) (o.grB hk g hb) g.g hv⟩
theorem c_BN {R : List V → Hp → (List Rp → Prop) → Prop} {PP : List Rp → Prop} (k : Nat) (hk : M[k]? = some (boxR K b)) (hs : ∀ ws G, RA G ws rs → R ws G PP) (kk : ∀ ss, PP ss → ∀ p, κ (rV (.ref p)) (M ++ [lstR p ss])) : CM (spBN K R) (rV (.ref b) :: rs) M κ := fun E B G H vs o ra Q q => by
  cases ra with
  | cons hx ra =>
    obtain rfl := hx
    have hm := List.mem_of_getElem? hk
    refine ⟨G, b, _, PP, rfl, o.i, o.z b (mem_feet hm (List.mem_singleton.mpr rfl)), o.m _ hm, hs _ G ra, fun ss p vs G2 H2 hP g hb2 hp gp h2 ra2 => q _ G2 H2 _ _ (kk ss hP p) (o.add2 (o.grB hk g hb2) (R := lstR p ss) (by show [_].Nodup; simp) (fun x hx => by rw [List.mem_singleton.mp hx]; exact ⟨hp, gp⟩) ⟨vs, h2, ra2⟩) g.g rfl⟩
theorem Go.frz {B : Ba} {G : Hp} {Q : VK} (q : Go B G κ Q) : Go B G (fun r M' => ∃ p ss M, r = rV (.ref p) ∧ M' = M ++ [lstR p ss] ∧ κ (rL K ss) M) Q := fun v G' H' r M' z o e hv => by
  obtain ⟨p, ss, M, rfl, rfl, k⟩ := z
  obtain rfl : v = V.ref p := hv
  have hk : (M ++ [lstR p ss])[M.length]? = some (lstR p ss) := by simp
  obtain ⟨G2, e2, o2, h2⟩ := o.frz (K := K) hk
  have es : (M ++ [lstR p ss]).eraseIdx M.length = M := by simp [List.eraseIdx_append_of_length_le]
  rw [es] at o2
  exact q _ G2 H' _ M k o2 (e.trans e2) h2
theorem c_BNf (K' : PySem.W.Frag) {R : List V → Hp → (List Rp → Prop) → Prop} {PP : List Rp → Prop} (k : Nat) (hk : M[k]? = some (boxR K b)) (hs : ∀ ws G, RA G ws rs → R ws G PP) (kk : ∀ ss, PP ss → κ (rL K' ss) M) : CM (spBN K R) (rV (.ref b) :: rs) M κ := fun E B G H vs o ra Q q =>
  c_BN (κ := fun r M' => ∃ p ss M, r = rV (.ref p) ∧ M' = M ++ [lstR p ss] ∧ κ (rL K' ss) M) k hk hs (fun ss h p => ⟨p, ss, M, rfl, rfl, kk ss h⟩) E B G H vs o ra Q q.frz
theorem Ok.rdv {B : Ba} {G H : Hp} (o : Ok B G H M) (hk : M[k]? = some (lstR p rs)) : ∃ G2, Ex G G2 ∧ Ex G2 H ∧ (rL K rs).p (.ref p) G2 := by
  have hm := List.mem_of_getElem? hk
  obtain ⟨ws, h1, h2⟩ := o.m _ hm
  have gp : G p = none := o.z p (mem_feet hm (List.mem_singleton.mpr rfl))
  have e : Ex G (upd G p (.lst ws)) := Ex.new gp
  exact ⟨upd G p (.lst ws), e, ex_add o.i h1, p, ws, rfl, upd_same, h2.mono e⟩
theorem om_ixOwn (k : Nat) (hk : M[k]? = some (lstR p rs)) (hi : rs[n]? = some r) (kk : κ r M) : OM (rIxL K) (rV (.ref p)) (nI n) M κ := fun B G H x y o hx hy Q q => by
  obtain rfl : x = V.ref p := hx
  obtain rfl : y = V.int (n : Int) := hy
  obtain ⟨ws, hp, ra⟩ := o.m _ (List.mem_of_getElem? hk)
  obtain ⟨w, h3, h4⟩ := ra.get hi
  exact ⟨p, ws, _, w, rfl, rfl, sq_of hp, atI_nat h3, q w G H r M kk o (Ex.refl _) h4⟩
theorem am_own {rr : List V → Hp → VK → Prop} (k : Nat) (hk : M[k]? = some (lstR p rs)) (h : EvX [some (rL K rs)] (tCB rr (tCons (tVar 0) tNil)) (rV v)) (kk : κ (rV v) M) : AM rr [rV (.ref p)] M κ := fun B G H vs o ra Q q => by
  obtain ⟨x, rfl, hx⟩ := ra1 ra
  obtain rfl : x = V.ref p := hx
  obtain ⟨G2, e, e2, hl⟩ := o.rdv (K := K) hk
  obtain ⟨v1, e1, z⟩ := h _ G2 (en1 hl) H e2 Q fun w G3 H3 g hw => q w G H3 (rV v) M kk (o.ex g.h) (Ex.refl _) hw
  cases e1
  exact z
theorem e_app (k : Nat) (hi : Γ[i]? = some (some (rV (.ref p)))) (h : EW W Γ M te (fun r M' => ∃ rs, M'[k]? = some (lstR p rs) ∧ rs.length < 50000 ∧ κ (rV .non) (M'.set k (lstR p (rs ++ [r])))) ε) (hk : M[k]? = some (lstR p rs)) : EW W Γ M (tBM K "list" rAppend (tVar i) (tCons te tNil)) κ ε := fun B G H σ o en Q q x => by
  obtain ⟨v, hv1, hv2⟩ := en.get hi
  obtain rfl : v = V.ref p := hv2
  obtain ⟨ws0, hp0, ra0⟩ := o.m _ (List.mem_of_getElem? hk)
  refine ⟨.ref p, hv1, Or.inl ⟨rfl, ws0, sq_of hp0⟩, h B G H σ o en _ (fun v G2 H2 r M' z o2 e hv => ?_) x⟩
  obtain ⟨rs, hk2, hz, hq⟩ := z
  obtain ⟨ws, hp, ra⟩ := o2.m _ (List.mem_of_getElem? hk2)
  have gp : G2 p = none := o2.z p (mem_feet (List.mem_of_getElem? hk2) (List.mem_singleton.mpr rfl))
  refine ⟨p, ws, v, rfl, rfl, hp, sz_lt (by rw [ra.len]; omega), q .non G2 _ (rV .non) _ hq (o2.chg (R' := lstR p (rs ++ [r])) hk2 rfl rfl (Ex.refl _) (fun a u z n => ?_) (Ex.mut o2.i gp) (fun _ _ _ _ y => y) ⟨ws ++ [v], upd_same, ra.snoc hv⟩) e rfl⟩
  rw [upd_ne fun q => n (List.mem_singleton.mpr q)]
  exact z
theorem f_tab {m : List Nat} {f : Str} (h : EvX [some (rTab K C m)] (tFld K (tVar 0) f) r) (k : κ r M) : UM (fun x H1 Q => ∃ a C dx fs v, x = .ref a ∧ H1 a = some (.ins C dx fs) ∧ Cls K C ∧ NoAttr K C f ∧ fs.lookup f = some v ∧ Q v H1) (rTab K C m) M κ := fun B G H x o hx Q q => by
  obtain ⟨v1, e1, z⟩ := h _ G (en1 hx) H o.i Q fun v G2 H2 g hv => q v G2 H2 r M k (o.gr g) g.g hv
  cases e1
  exact z
theorem mk_tab {m : List Nat} (w : Wf n m) (h1 : 1 ≤ n) (h6 : n ≤ 6) {E : XK} (k : κ (rTab K C m) M) : AM (fun vs H1 Q => ∀ x dx, H1 x = none → H1 dx = none → dx ≠ x → spTab K C (.ref x :: (vs ++ [])) (upd (upd H1 dx (.own x)) x (.ins C dx [])) (fun v H2 => v = .non ∧ Q (.ref x) H2) E) [rLL K (m.map bitsN)] M κ := fun B G H vs o ra Q q => by
  obtain ⟨x, rfl, hx⟩ := ra1 ra
  have z : EvX [some (rLL K (m.map bitsN))] (tMake C (spTab K C) [] E (tCons (tVar 0) tNil)) (rTab K C m) := x_tabRows (x_v rfl) w h1 h6
  obtain ⟨v1, e1, z2⟩ := z _ G (en1 hx) H o.i Q fun v G2 H2 g hv => q v G2 H2 _ M k (o.gr g) g.g hv
  cases e1
  exact z2
end
section
variable {Γ : Ctx} {M : List Re} {ta tb : TE} {r r1 r2 : Rp} {K : PySem.W.Frag} {C : Addr} {m n : Nat} {a b : Int} {κ : KV}
theorem x_eqI (ha : EvX Γ ta (rI a)) (hb : EvX Γ tb (rI b)) : EvX Γ (tOp rEq ta tb) (rB (decide (a = b))) := x_is (x_eqV ha hb) (by rw [dec_int])
theorem x_neI (ha : EvX Γ ta (rI a)) (hb : EvX Γ tb (rI b)) : EvX Γ (tOp rNe ta tb) (rB (!decide (a = b))) := x_is (x_neV ha hb) (by rw [dec_int])
theorem x_shlN1 (ha : EvX Γ ta (rV (.int 1))) (h : EvX Γ tb (nI n)) (hn : n ≤ 64) : EvX Γ (tOp (L2.rI CPow fun i j => .int (i * 2 ^ j.toNat)) ta tb) (nI (2 ^ n)) := x_is (x_I ha h ⟨by omega, by omega, by decide⟩) (by rw [shl_nat])
theorem x_ixLL {l : List (List Nat)} (ha : EvX Γ ta (rLL K l)) (hb : EvX Γ tb (nI n)) (h : n < l.length) : EvX Γ (tOp (rIxL K) ta tb) (rLn K (l.getD n [])) := x_ixLm [] ha hb h
theorem x_eqLn0 {l : List Nat} (ha : EvX Γ ta (rLn K l)) (hb : EvX Γ tb (rL K [])) : EvX Γ (tOp (rEqD K) ta tb) (rB (decide (l = []))) := x_eqLn (m := []) ha hb
theorem x_neLn0 {l : List Nat} (ha : EvX Γ ta (rLn K l)) (hb : EvX Γ tb (rL K [])) : EvX Γ (tOp (rNeD K) ta tb) (rB (!decide (l = []))) := x_neLn (m := []) ha hb
def NN (r : Rp) : Prop := ∀ v G, r.p v G → v ≠ V.non
theorem nn_tab {m : List Nat} : NN (rTab K C m) := fun v G h e => by
  obtain ⟨a, _, _, _, rfl, _⟩ := h
  cases e
theorem nn_L {rs : List Rp} : NN (rL K rs) := fun v G h e => by
  obtain ⟨a, _, rfl, _⟩ := h
  cases e
theorem nn_T {rs : List Rp} : NN (rT K rs) := fun v G h e => by
  obtain ⟨a, _, rfl, _⟩ := h
  cases e
theorem nn_I : NN (rI a) := fun v G h e => by
  obtain rfl : v = V.int a := h
  cases e
theorem om_isN0 (k : κ (rB true) M) : OM (fun x y H Q => y = V.non ∧ Q (.bl (decide (x = .non))) H) (rV .non) (rV .non) M κ := fun B G H x y o hx hy Q q => by
  obtain rfl : x = V.non := hx
  obtain rfl : y = V.non := hy
  exact ⟨rfl, q _ G H _ M k o (Ex.refl _) rfl⟩
theorem om_notN0 (k : κ (rB false) M) : OM (fun x y H Q => y = V.non ∧ Q (.bl (!decide (x = .non))) H) (rV .non) (rV .non) M κ := fun B G H x y o hx hy Q q => by
  obtain rfl : x = V.non := hx
  obtain rfl : y = V.non := hy
  exact ⟨rfl, q _ G H _ M k o (Ex.refl _) rfl⟩
theorem om_isN1 (hr : NN r) (k : κ (rB false) M) : OM (fun x y H Q => y = V.non ∧ Q (.bl (decide (x = .non))) H) r (rV .non) M κ := fun B G H x y o hx hy Q q => by
  obtain rfl : y = V.non := hy
  exact ⟨rfl, q _ G H _ M k o (Ex.refl _) (by rw [decide_eq_false (hr x G hx)]; rfl)⟩
theorem om_notN1 (hr : NN r) (k : κ (rB true) M) : OM (fun x y H Q => y = V.non ∧ Q (.bl (!decide (x = .non))) H) r (rV .non) M κ := fun B G H x y o hx hy Q q => by
  obtain rfl : y = V.non := hy
  exact ⟨rfl, q _ G H _ M k o (Ex.refl _) (by rw [decide_eq_false (hr x G hx)]; rfl)⟩
end
section
variable {α : Type} {W : WX} {Γ : Ctx} {M : List Re} {te ta tl : TE} {t : TT} {K : PySem.W.Frag} {j n : Nat} {κ : KV} {ε : KX} {vs : List Nat} {l : List α} {ρ rr : α → Rp} {f : α → Bool}
theorem e_lcL0 (h : EvX Γ tl (rL K (l.map ρ))) (hz : l.length ≤ 40000) (he : ∀ a, a ∈ l → EvX ((wipeC Γ vs).set j (some (ρ a))) te (rr a)) (hj : j ∈ vs) (k : κ (rL K (l.map rr)) M) : EW W Γ M (tLc (iList K tl) (gName j) tYes te vs) κ ε := e_xn K (xn_lcL0 l ρ rr h hz he hj) k
theorem e_lcL (h : EvX Γ tl (rL K (l.map ρ))) (hz : l.length ≤ 40000) (ht : ∀ a, a ∈ l → EvTX ((wipeC Γ vs).set j (some (ρ a))) t (f a)) (he : ∀ a, a ∈ l → f a = true → EvX ((wipeC Γ vs).set j (some (ρ a))) te (rr a)) (hj : j ∈ vs) (k : κ (rL K ((l.filter f).map rr)) M) : EW W Γ M (tLc (iList K tl) (gName j) t te vs) κ ε := e_xn K (xn_lcL l ρ f rr h hz ht he hj) k
theorem e_lcT0 (h : EvX Γ tl (rT K (l.map ρ))) (hz : l.length ≤ 40000) (he : ∀ a, a ∈ l → EvX ((wipeC Γ vs).set j (some (ρ a))) te (rr a)) (hj : j ∈ vs) (k : κ (rL K (l.map rr)) M) : EW W Γ M (tLc (iTup K tl) (gName j) tYes te vs) κ ε := e_xn K (xn_lcT0 l ρ rr h hz he hj) k
theorem e_lcT (h : EvX Γ tl (rT K (l.map ρ))) (hz : l.length ≤ 40000) (ht : ∀ a, a ∈ l → EvTX ((wipeC Γ vs).set j (some (ρ a))) t (f a)) (he : ∀ a, a ∈ l → f a = true → EvX ((wipeC Γ vs).set j (some (ρ a))) te (rr a)) (hj : j ∈ vs) (k : κ (rL K ((l.filter f).map rr)) M) : EW W Γ M (tLc (iTup K tl) (gName j) t te vs) κ ε := e_xn K (xn_lcT l ρ f rr h hz ht he hj) k
theorem e_lcR0 {rr : Nat → Rp} (K : PySem.W.Frag) (h : EvX Γ ta (nI n)) (hz : n ≤ 40000) (he : ∀ a, a < n → EvX ((wipeC Γ vs).set j (some (nI a))) te (rr a)) (hj : j ∈ vs) (k : κ (rL K ((List.range n).map rr)) M) : EW W Γ M (tLc (iRng1 (tCons ta tNil)) (gName j) tYes te vs) κ ε := e_xn K (xn_lcR0 n rr h hz he hj) k
theorem e_lcR {rr : Nat → Rp} {f : Nat → Bool} (K : PySem.W.Frag) (h : EvX Γ ta (nI n)) (hz : n ≤ 40000) (ht : ∀ a, a < n → EvTX ((wipeC Γ vs).set j (some (nI a))) t (f a)) (he : ∀ a, a < n → f a = true → EvX ((wipeC Γ vs).set j (some (nI a))) te (rr a)) (hj : j ∈ vs) (k : κ (rL K (((List.range n).filter f).map rr)) M) : EW W Γ M (tLc (iRng1 (tCons ta tNil)) (gName j) t te vs) κ ε := e_xn K (xn_lcR n f rr h hz ht he hj) k
end
section
variable {W : WX} {Γ : Ctx} {M : List Re} {ta tb : TE} {t : TT} {κ : KV} {ε : KX} {c d : Bool}
theorem e_and (h1 : EvX Γ ta (rB c)) (h2 : c = true → EvX Γ tb (rB d)) (k : κ (rB (c && d)) M) : EW W Γ M (tAndV ta tb) κ ε := e_x (x_and h1 h2) k
theorem e_or (h1 : EvX Γ ta (rB c)) (h2 : c = false → EvX Γ tb (rB d)) (k : κ (rB (c || d)) M) : EW W Γ M (tOrV ta tb) κ ε := e_x (x_or h1 h2) k
theorem e_not (h1 : EvX Γ ta (rB c)) (k : κ (rB (!c)) M) : EW W Γ M (tNotV ta) κ ε := e_x (x_not h1) k
end
theorem t_and0 {Γ : Ctx} {t u : TT} {c : Bool} (h1 : EvTX Γ t c) (hc : c = false) : EvTX Γ (tAnd t u) false := fun σ G en H e Q q => h1 σ G en H e _ fun H1 e1 => by
  subst hc
  show Q false H1
  exact q H1 e1
theorem t_or1 {Γ : Ctx} {t u : TT} {c : Bool} (h1 : EvTX Γ t c) (hc : c = true) : EvTX Γ (tOr t u) true := fun σ G en H e Q q => h1 σ G en H e _ fun H1 e1 => by
  subst hc
  show Q true H1
  exact q H1 e1
theorem x_and0 {Γ : Ctx} {ta tb : TE} {c : Bool} (h1 : EvX Γ ta (rB c)) (hc : c = false) : EvX Γ (tAndV ta tb) (rB false) := fun σ G en H e Q q => h1 σ G en H e _ fun v G1 H1 g hv => by
  subst hc
  obtain rfl : v = V.bl false := hv
  exact ⟨false, rfl, q _ G1 H1 g rfl⟩
theorem x_or1 {Γ : Ctx} {ta tb : TE} {c : Bool} (h1 : EvX Γ ta (rB c)) (hc : c = true) : EvX Γ (tOrV ta tb) (rB true) := fun σ G en H e Q q => h1 σ G en H e _ fun v G1 H1 g hv => by
  subst hc
  obtain rfl : v = V.bl true := hv
  exact ⟨true, rfl, q _ G1 H1 g rfl⟩
theorem e_cn {W : WX} {Γ : Ctx} {M : List Re} {κ : KV} {ε : KX} {n : Nat} (k : κ (nI (OfNat.ofNat n)) M) : EW W Γ M (tC (.int (@OfNat.ofNat Int n _))) κ ε := e_c k
theorem am_listL {M : List Re} {κ : KV} {K : PySem.W.Frag} {rs : List Rp} (k : κ (rL K rs) M) : AM (rListS K) [rL K rs] M κ := am1n (K := K) (xn_list (x_v rfl)) k
theorem am_listT {M : List Re} {κ : KV} {K : PySem.W.Frag} {rs : List Rp} (k : κ (rL K rs) M) : AM (rListS K) [rT K rs] M κ := am1n (K := K) (xn_listT (x_v rfl)) k
end Mu

namespace Mu
open PySem PySem.Spec PyProof.Rows L2 Evl
section
variable {X : Cx} {CX : CXT} {k : Nat} {f C : Addr} {fd : FuncData} {ps : List Str} {sp : Sp} {x : Str} {p pos apos : Pos} {e o : Expr} {es : List Expr} {t : TA} {te : TE}
def tMakeS (C : Addr) (sp : Sp) (E : L2.St → XK) (t : TA) : TE := fun σ H Q => t σ H fun vs H1 => ∀ x dx, H1 x = none → H1 dx = none → dx ≠ x → sp (.ref x :: vs) (upd (upd H1 dx (.own x)) x (.ins C dx [])) (fun v H2 => v = .non ∧ Q (.ref x) H2) (E σ)
end
theorem callWith_bound {M : Model} {A : Around} {E : Value → Shared → Prop} {s : Shared} {pos : Pos} {u f2 a : Addr} {args : List (Bool × Sem Value)} {Q : Value → Shared → Prop} (hplain : args.any (·.1) = false)
    (h : wpAny M A (evalArgs (.ref u) true args []) (fun ar s₁ => s₁.heap.get? u = some { cls := .type "method", dict := none, data := .fields #[.ref f2, .ref a], slots := #[] } ∧ (∃ o fd, s₁.heap.get? f2 = some o ∧ o.data = .func fd) ∧ wpAny M A (call (.ref u) ar.pos ar.kw) Q E s₁) E s) : wpAny M A (callWith pos (.ref u) [] args []) Q E s := by
  unfold callWith
  refine wpAny_bind (wpAny_holding (wpAny_mono h (fun ar s₁ h₁ => wpAny_bind (wpAny_standAt ?_)) fun _ _ y => y))
  obtain ⟨ho, ⟨o, fd, hf, hd⟩, hcall⟩ := h₁
  have tail : ∀ {t : Sem Value}, wpAny M A t Q E s₁ → wpAny M A (t >>= fun r => holding [r] point >>= fun _ => pure r) Q E s₁ :=
    fun ht => wpAny_bind (wpAny_mono ht (fun r s₂ hr => wpAny_bind (wpAny_holding (wpAny_point (wpAny_pure hr)))) fun _ _ x => x)
  simp only [hplain, List.any_nil, Bool.or_false]
  refine wpAny_bind (m := keeperOf (.ref u)) ?_
  unfold keeperOf
  refine wpAny_bind (wpAny_load ho ?_)
  simp only [show (Value.type "method" != Value.type "method") = false by decide, Bool.false_eq_true, if_false]
  show wpAny _ _ (load f2 >>= _) _ _ _
  refine wpAny_bind (wpAny_load hf ?_)
  rw [hd]
  refine wpAny_pure ?_
  first
    | refine wpAny_ite ?_
    | skip
  split <;> first
    | exact tail hcall
    | exact tail (by unfold callMarked; exact PySem.Calls.wpAny_keep hcall)

section
variable {CX CX2 : CXT} {P : Program} {w : World} {K : PySem.W.Frag} {mg : Str → Option Value} {base : Heap} {N ps ps2 : List Str} {x qual : Str} {params : Arguments} {body : List Stmt} {scope : Scope} {file : Str} {D f f2 : Addr} {fd fd2 : FuncData} {cda cc : Addr} {A : Around} {outer : List Env} {s0 : Shared} {H0 : Hp} {E0 : XK}
  {pins : List (Addr × Obj)} {σ : L2.St} {H : Hp} {s : Shared} {fb : List Stmt} {k2 : Nat} {sp2 : Sp} {m : Str}
def tSup (K : PySem.W.Frag) (D : Addr) (m : Str) (f2 : Addr) (sp : Sp) (E : L2.St → XK) (ta : TA) : TE := fun σ H Q => ∃ a C dx fs, σ[0]? = some (some (.ref a)) ∧ H a = some (.ins C dx fs) ∧ PySem.W.mroIn K C (.ref D) = some true ∧ PySem.W.ks_superIn K C D m = some (some (.ref f2)) ∧ ta σ H fun vs H1 => sp (.ref a :: vs) H1 Q (E σ)
theorem pea_supMeth {p0 p1 p2 pos : Pos} {e : Expr} {es : List Expr} {ta : TA} {self : Str} {pl : Sem Bool} {E : L2.St → XK} (F : FunS K x qual params body scope file D f fd cda cc) (S : FsScope N ps scope) (pf : PF P file) (hm : mg "super" = none)
    (hp : (params.posonlyargs ++ params.args).head?.map (·.arg) = some self) (hN : N[0]? = some self) (hself : scope.names.lookup self = some .local)
    (hl2 : ∃ oc od osl, K.lookup f2 = some ⟨oc, od, .func fd2, osl⟩) (ht2 : PySem.W.typeIn K (.ref f2) = some (.type "function"))
    (F2 : FnOk P w K mg base CX2 k2 f2 fd2 ps2 sp2) (hr : Room k2 (A.deeper (PySem.W.ksEnv qual scope s0.heap.objs.size f (.ref cda) cc))) (hb : Binds K fd2 ps2 []) (hx : ∀ σ, PassesAt CX2 (cxS CX P w K mg base N qual scope f cda cc A outer s0 H0 E0) σ (E σ))
    (ha : PA (cxS CX P w K mg base N qual scope f cda cc A outer s0 H0 E0) (e :: es) ta) (hat : (m == ("__class__" : Str)) = false)
    (hev : eval (.Call (.Attribute (.Call (.Name "super" p0) [] [] p1) m p2) (e :: es) [] pos) (PySem.W.ksEnv qual scope s0.heap.objs.size f (.ref cda) cc) = (do
      let ov ← attributeBase (.Call (.Name "super" p0) [] [] p1) m (PySem.W.ksEnv qual scope s0.heap.objs.size f (.ref cda) cc) (eval (.Call (.Name "super" p0) [] [] p1) (PySem.W.ksEnv qual scope s0.heap.objs.size f (.ref cda) cc))
      standAt p2.atName
      let (fn1, first) ← holding [ov] (getMethod ov m pl)
      callWith pos fn1 first (backTo pos (starEach (e :: es) (PySem.W.ksEnv qual scope s0.heap.objs.size f (.ref cda) cc))) []) := by rfl)
    (he : starEach (e :: es) (PySem.W.ksEnv qual scope s0.heap.objs.size f (.ref cda) cc) = (false, eval e (PySem.W.ksEnv qual scope s0.heap.objs.size f (.ref cda) cc)) :: starEach es (PySem.W.ksEnv qual scope s0.heap.objs.size f (.ref cda) cc) := by rfl) (hpl : (backTo pos (starEach es (PySem.W.ksEnv qual scope s0.heap.objs.size f (.ref cda) cc))).any (·.1) = false := by rfl) :
    PEA (cxS CX P w K mg base N qual scope f cda cc A outer s0 H0 E0) fb (.Call (.Attribute (.Call (.Name "super" p0) [] [] p1) m p2) (e :: es) [] pos) (tSup K D m f2 sp2 E ta) := by
  refine ⟨fun pins s σ H Q I h => ?_⟩
  obtain ⟨a, C, dx, fs, hσ, hH, hsub, hsup, h⟩ := h
  obtain ⟨mA, J, _⟩ := ins_get I.hok hH
  obtain ⟨od, J, _⟩ := J.look
  refine ks_wpAt_MethodCall (sup_base F S pf hm hp hN hself hat I hσ J.at_ J.cls (fun c z => ?_) hsub fun h' hso k => ?_) hev
  · have := J.no
    unfold PySem.W.notCls at this
    rw [z] at this
    exact Bool.noConfusion this
  have I1 := I.kept (h' := h') (t' := s.toks) k
  have kin : K.In h' := I1.kIn
  obtain ⟨mA1, J1, _⟩ := ins_get I1.hok hH
  obtain ⟨od1, J1, _⟩ := J1.look
  obtain ⟨oc2, od2, osl2, lk2⟩ := hl2
  have hof := kin _ _ lk2
  have hofc : oc2 = .type "function" := by
    have ht' : (K.lookup f2).map (·.cls) = some (.type "function") := ht2
    rw [lk2] at ht'
    exact Option.some.inj ht'
  cases hc : PySem.W.clsIn K C with
  | none => unfold PySem.W.ks_superIn at hsup; rw [hc] at hsup; cases hsup
  | some cd =>
    unfold PySem.W.ks_superIn at hsup
    rw [hc] at hsup
    obtain ⟨hh, g, d, tk, os⟩ := s
    have I1' : Inv (cxS CX P w K mg base N qual scope f cda cc A outer s0 H0 E0) pins σ H ⟨h', g, d, tk, os⟩ := I1
    refine ks_wpAny_getMethod_super hso (PySem.W.looks_opaque kin F.op) (l₀ := cd.mro) ?_ rfl kin hsup hof hofc (PySem.W.ks_ne kin J1 hc) hat ?_
    · exact fun A Q E s k q => wpAny_bind ((PySem.W.looks_clsIn kin hc) A _ E s k (wpAny_pure q))
    have I2 := I1'.kept (h' := h'.push { cls := .type "method", data := .fields #[.ref f2, .ref a] }) (t' := tk + 1) fun b o z => Heap.get?_push_of_some _ z
    have hq0 : (h'.push { cls := .type "method", data := .fields #[.ref f2, .ref a] }).get? h'.objs.size = some { cls := .type "method", data := .fields #[.ref f2, .ref a] } := Heap.get?_push_at rfl rfl
    have I3 := Inv.pin1 I2 hq0 (.inr trivial) (I1'.hok.fresh (Nat.le_refl _)) (Ne.symm (Nat.ne_of_lt I1'.lt)) (I1'.nofs (Nat.le_refl _)) (fun v z => nomatch z)
    show wpAny _ _ (callWith pos (.ref h'.objs.size) [] (backTo pos (starEach (e :: es) _)) []) _ _ _
    rw [he]
    refine callWith_bound (f2 := f2) (a := a) (by show (false || (backTo pos (starEach es _)).any (·.1)) = false; rw [hpl]; rfl) ?_
    have ra := ha.run pos _ _ σ H _ I3 h
    rw [he] at ra
    refine PySem.Calls.evalArgs_plain (thn ra fun us s3 ⟨vs, H3, J3, rv, q⟩ => ?_)
    obtain ⟨hu, _⟩ := J3.pin (h'.objs.size, { cls := .type "method", data := .fields #[.ref f2, .ref a] }) (List.mem_append_right _ List.mem_cons_self)
    refine ⟨hu, ⟨_, _, J3.kIn _ _ lk2, rfl⟩, ?_⟩
    have r2 : Vals (V.ref a :: vs) (Value.ref a :: us) := .cons rfl rv
    have hl : (Value.ref a :: us ++ []).length = ps2.length := by
      rw [List.append_nil, ← r2.length]
      exact F2.len _ _ _ _ q
    have b2 := hb s3 (Value.ref a :: us) J3.kIn hl
    rw [List.append_nil] at b2
    refine wpAny_call (ks_codeAny_call_bound hu (codeAny_mono (F2.run _ _ s3 H3 ⟨Value.ref a :: us, []⟩ (Value.ref a :: us) (V.ref a :: vs) Q (E σ) hr J3.env0 b2 r2 q) fun r s' hq => ?_))
    cases r with
    | error er => exact hx σ _ H3 s3 er s' J3 hq
    | ok fl =>
      cases fl with
      | ret u =>
        obtain ⟨v, H', I', rv', q'⟩ := J3.after hq
        exact ⟨v, H', I'.pins_of fun p hp => I'.pin p (List.mem_append_right _ (List.mem_cons_of_mem _ hp)), rv', q'⟩
      | next => exact False.elim hq
      | brk => exact False.elim hq
      | cont => exact False.elim hq
end
end Mu

namespace Mu
open PySem PySem.Spec PyProof.Rows L2 Evl
abbrev FL := List (Str × Rp)
abbrev FsR (G : Hp) : List (Str × V) → FL → Prop := Paired fun a b => a.1 = b.1 ∧ b.2.p a.2 G
theorem FsR.mono {G G' : Hp} (e : Ex G G') : ∀ {fs : List (Str × V)} {rs : FL}, FsR G fs rs → FsR G' fs rs
  | _, _, .nil => .nil
  | _, _, .cons (b := b) h t => .cons ⟨h.1, b.2.mono e h.2⟩ (FsR.mono e t)
theorem FsR.len {G : Hp} {fs : List (Str × V)} {rs : FL} (h : FsR G fs rs) : fs.length = rs.length := Paired.length h
theorem FsR.get {G : Hp} {f : Str} {r : Rp} : ∀ {fs : List (Str × V)} {rs : FL}, FsR G fs rs → rs.lookup f = some r → ∃ v, fs.lookup f = some v ∧ r.p v G
  | _, _, .nil, h => by cases h
  | (g, v) :: fs, (g', r') :: rs, .cons h t, e => by
    obtain ⟨h1, h2⟩ := h
    have h1' : g = g' := h1
    subst h1'
    rw [List.lookup_cons] at e ⊢
    cases q : f == g with
    | true =>
      rw [q] at e
      obtain rfl : r' = r := Option.some.inj e
      exact ⟨v, rfl, h2⟩
    | false =>
      rw [q] at e
      exact FsR.get t e
theorem FsR.noget {G : Hp} {f : Str} : ∀ {fs : List (Str × V)} {rs : FL}, FsR G fs rs → rs.lookup f = none → fs.lookup f = none
  | _, _, .nil, h => rfl
  | (g, v) :: fs, (g', r') :: rs, .cons h t, e => by
    obtain ⟨h1, h2⟩ := h
    have h1' : g = g' := h1
    subst h1'
    rw [List.lookup_cons] at e ⊢
    cases q : f == g with
    | true => rw [q] at e; cases e
    | false => rw [q] at e; exact FsR.noget t e
theorem FsR.put {G : Hp} {f : Str} {r : Rp} {v : V} (hr : r.p v G) : ∀ {fs : List (Str × V)} {rs : FL}, FsR G fs rs → rs.lookup f = none → FsR G (putF f v fs) (rs ++ [(f, r)])
  | _, _, .nil, _ => .cons ⟨rfl, hr⟩ .nil
  | (g, x) :: fs, (g', r') :: rs, .cons h t, e => by
    obtain ⟨h1, h2⟩ := h
    have h1' : g = g' := h1
    subst h1'
    rw [List.lookup_cons] at e
    cases q : f == g with
    | true => rw [q] at e; cases e
    | false =>
      rw [q] at e
      have ne : ¬ g = f := fun z => by subst z; simp at q
      show FsR G (if g = f then (g, v) :: fs else (g, x) :: putF f v fs) ((g, r') :: (rs ++ [(f, r)]))
      rw [if_neg ne]
      exact .cons ⟨rfl, h2⟩ (FsR.put hr t e)
def setR (f : Str) (r : Rp) : FL → FL
  | [] => []
  | (g, x) :: rs => if g = f then (g, r) :: rs else (g, x) :: setR f r rs
theorem FsR.set {G : Hp} {f : Str} {r r0 : Rp} {v : V} (hr : r.p v G) : ∀ {fs : List (Str × V)} {rs : FL}, FsR G fs rs → rs.lookup f = some r0 → FsR G (putF f v fs) (setR f r rs)
  | _, _, .nil, h => by cases h
  | (g, x) :: fs, (g', r') :: rs, .cons h t, e => by
    obtain ⟨h1, h2⟩ := h
    have h1' : g = g' := h1
    subst h1'
    rw [List.lookup_cons] at e
    show FsR G (if g = f then (g, v) :: fs else (g, x) :: putF f v fs) (if g = f then (g, r) :: rs else (g, r') :: setR f r rs)
    by_cases c : g = f
    · rw [if_pos c, if_pos c]
      exact .cons ⟨rfl, hr⟩ t
    · have q : (f == g) = false := by simpa using fun z : f = g => c z.symm
      rw [q] at e
      rw [if_neg c, if_neg c]
      exact .cons ⟨rfl, h2⟩ (FsR.set hr t e)
def rIns (C : Addr) (fs : FL) : Rp := ⟨fun v G => ∃ a dx ws, v = .ref a ∧ G a = some (.ins C dx ws) ∧ FsR G ws fs, fun e ⟨a, dx, ws, h1, h2, h3⟩ => ⟨a, dx, ws, h1, e _ _ h2, h3.mono e⟩⟩
def insR (own : Bool) (p C : Addr) (fs : FL) : Re where
  own := own
  ft := [p]
  p := fun G H => ∃ dx ws, H p = some (.ins C dx ws) ∧ FsR G ws fs
  mono := fun e ⟨dx, ws, h1, h2⟩ => ⟨dx, ws, h1, h2.mono e⟩
  loc := fun k ⟨dx, ws, h1, h2⟩ => ⟨dx, ws, k p (List.mem_singleton.mpr rfl) _ h1, h2⟩
  at_ := fun ⟨dx, ws, h1, _⟩ a ha => by rw [List.mem_singleton.mp ha]; exact ⟨_, h1, fun _ z => nomatch z⟩
section
variable {W : WX} {Γ : Ctx} {M : List Re} {te ta tb tc tl : TE} {r r1 r2 r3 : Rp} {rs ss : List Rp} {K : PySem.W.Frag} {C D b p : Addr} {i j k : Nat} {v w x y : V} {m n : Nat} {sp : Sp} {κ : KV} {ε : KX} {own : Bool} {fs : FL} {f : Str} {B : Ba} {G H G2 H2 : Hp}
theorem ins_ins (hf : fs.lookup f = none) : InsR C f (rIns C fs) := fun v G hv => by
  obtain ⟨a, dx, ws, rfl, h2, h3⟩ := hv
  exact ⟨a, dx, ws, rfl, h2, h3.noget hf⟩
theorem f_ins (hc : Cls K C) (hn : NoAttr K C f) (hl : fs.lookup f = some r) (kk : κ r M) : UM (fun x H1 Q => ∃ a C dx fs v, x = .ref a ∧ H1 a = some (.ins C dx fs) ∧ Cls K C ∧ NoAttr K C f ∧ fs.lookup f = some v ∧ Q v H1) (rIns C fs) M κ := fun B G H x o hx Q q => by
  obtain ⟨a, dx, ws, rfl, h2, h3⟩ := hx
  obtain ⟨v, hv, hr⟩ := h3.get hl
  exact ⟨a, C, dx, ws, v, rfl, o.i _ _ h2, hc, hn, hv, q v G H r M kk o (Ex.refl _) hr⟩
theorem f_own (k : Nat) (hk : M[k]? = some (insR own p C fs)) (hc : Cls K C) (hn : NoAttr K C f) (hl : fs.lookup f = some r) (kk : κ r M) : UM (fun x H1 Q => ∃ a C dx fs v, x = .ref a ∧ H1 a = some (.ins C dx fs) ∧ Cls K C ∧ NoAttr K C f ∧ fs.lookup f = some v ∧ Q v H1) (rV (.ref p)) M κ := fun B G H x o hx Q q => by
  obtain rfl : x = V.ref p := hx
  obtain ⟨dx, ws, h2, h3⟩ := o.m _ (List.mem_of_getElem? hk)
  obtain ⟨v, hv, hr⟩ := h3.get hl
  exact ⟨p, C, dx, ws, v, rfl, h2, hc, hn, hv, q v G H r M kk o (Ex.refl _) hr⟩
theorem ws_fld {κ : Kn} {fs0 : FL} (k : Nat) (hi : Γ[i]? = some (some (rV (.ref p)))) (hk0 : M[k]? = some (insR own p C fs0)) (hc : Cls K C) (hn : NoAttr K C f) (h : EW W Γ M te (fun r M' => ∃ fs, M'[k]? = some (insR own p C fs) ∧ fs.lookup f = none ∧ fs.length < 900 ∧ κ.nx Γ (M'.set k (insR own p C (fs ++ [(f, r)])))) (κ.ex Γ)) : WP W Γ M (sFld K (tVar i) te f) κ := fun B G H σ D o en d =>
  h B G H σ o en _ (fun v G' H' r M' z o' e' hv => by
    obtain ⟨fs, hk, hl, hz, hq⟩ := z
    obtain ⟨u, hu1, hu2⟩ := en.get hi
    obtain rfl : u = V.ref p := hu2
    have hm := List.mem_of_getElem? hk
    obtain ⟨dx, ws, h2, h3⟩ := o'.m _ hm
    have gp : G' p = none := o'.z p (mem_feet hm (List.mem_singleton.mpr rfl))
    refine ⟨.ref p, hu1, p, C, dx, ws, rfl, h2, hc, hn, by rw [h3.len]; omega, d.nx σ G' _ Γ _ (o'.chg (R' := insR own p C (fs ++ [(f, r)])) hk rfl rfl (Ex.refl _) (fun a u z n => ?_) (Ex.mut o'.i gp) (fun _ _ _ _ y => y) ⟨dx, _, upd_same, h3.put hv hl⟩) (en.mono e') hq⟩
    rw [upd_ne fun q => n (List.mem_singleton.mpr q)]
    exact z) (fun cls fs dd G' H' M' k o' e' xd => d.ex σ G' H' Γ M' cls dd fs o' (en.mono e') xd k)
theorem ws_fldS {κ : Kn} {fs0 : FL} (k : Nat) (hi : Γ[i]? = some (some (rV (.ref p)))) (hk0 : M[k]? = some (insR own p C fs0)) (hc : Cls K C) (hn : NoAttr K C f) (h : EW W Γ M te (fun r M' => ∃ fs r0, M'[k]? = some (insR own p C fs) ∧ fs.lookup f = some r0 ∧ fs.length < 900 ∧ κ.nx Γ (M'.set k (insR own p C (setR f r fs)))) (κ.ex Γ)) : WP W Γ M (sFld K (tVar i) te f) κ := fun B G H σ D o en d =>
  h B G H σ o en _ (fun v G' H' r M' z o' e' hv => by
    obtain ⟨fs, r0, hk, hl, hz, hq⟩ := z
    obtain ⟨u, hu1, hu2⟩ := en.get hi
    obtain rfl : u = V.ref p := hu2
    have hm := List.mem_of_getElem? hk
    obtain ⟨dx, ws, h2, h3⟩ := o'.m _ hm
    have gp : G' p = none := o'.z p (mem_feet hm (List.mem_singleton.mpr rfl))
    refine ⟨.ref p, hu1, p, C, dx, ws, rfl, h2, hc, hn, by rw [h3.len]; omega, d.nx σ G' _ Γ _ (o'.chg (R' := insR own p C (setR f r fs)) hk rfl rfl (Ex.refl _) (fun a u z n => ?_) (Ex.mut o'.i gp) (fun _ _ _ _ y => y) ⟨dx, _, upd_same, h3.set hv hl⟩) (en.mono e') hq⟩
    rw [upd_ne fun q => n (List.mem_singleton.mpr q)]
    exact z) (fun cls fs dd G' H' M' k o' e' xd => d.ex σ G' H' Γ M' cls dd fs o' (en.mono e') xd k)
theorem Ok.frzI (o : Ok B G H M) (hk : M[k]? = some (insR true p C fs)) : ∃ G2, Ex G G2 ∧ Ok B G2 H (M.eraseIdx k) ∧ (rIns C fs).p (.ref p) G2 := by
  have hm := List.mem_of_getElem? hk
  obtain ⟨dx, ws, h1, h2⟩ := o.m _ hm
  have gp : G p = none := o.z p (mem_feet hm (List.mem_singleton.mpr rfl))
  have e : Ex G (upd G p (.ins C dx ws)) := Ex.new gp
  refine ⟨upd G p (.ins C dx ws), e, ⟨o.g.trans e, o.l.trans e, o.h, ex_add o.i h1, fun a u z t y => ?_, o.k, fun r hr => r.mono e (o.m r (mem_erase hr)), fun a ha => ?_, feet_erase_nodup o.d, fun r hr => o.f r (mem_erase hr)⟩, ⟨p, dx, ws, rfl, upd_same, h2.mono e⟩⟩
  · rcases o.f _ hm p (List.mem_singleton.mpr rfl) with q | q
    · rw [upd_ne (ne_of_none z q)]; exact o.n a u z t y
    · exact absurd q.1 (show ¬ (true = false) by decide)
  · obtain ⟨r, hr, hf⟩ := List.mem_flatMap.mp ha
    have ne : a ≠ p := fun q => feet_apart o.d hk hr a hf (List.mem_singleton.mpr q)
    rw [upd_ne ne]
    exact o.z a (feet_erase_sub ha)
abbrev IOut := FL ⊕ (Value × List (Str × V))
def spIni (OKC : Addr → Prop) (R : List V → Hp → IOut → Prop) : Sp := fun vs H Q E => ∃ p C dx ws G o, vs = .ref p :: ws ∧ OKC C ∧ H p = some (.ins C dx []) ∧ Ex G H ∧ G p = none ∧ R ws G o ∧
  (∀ fs, o = .inl fs → ∀ G2 H2, GrB p G H G2 H2 → (insR false p C fs).p G2 H2 → Q .non H2) ∧ (∀ cls xs, o = .inr (cls, xs) → ∀ d G2 H2, GrB p G H G2 H2 → (∃ u, H2 p = some u ∧ Mt u) → XdOk G2 xs d → E cls d H2)
theorem Ok.ins {dx : Addr} (e : Ex G H) (gp : G p = none) (hp : H p = some (.ins C dx [])) : Ok ⟨G, H, [p], G⟩ G H [insR false p C []] :=
  ⟨Ex.refl _, Ex.refl _, fun _ _ z _ => z, e, fun _ _ _ _ y => y, fun a h => by rw [List.mem_singleton.mp h]; exact ⟨_, hp, mt_ins⟩, fun r h => by rw [List.mem_singleton.mp h]; exact ⟨dx, [], hp, .nil⟩, fun a h => by
    have : a ∈ [p] := by simpa [feet, insR] using h
    rw [List.mem_singleton.mp this]; exact gp, by simp [feet, insR], fun r h a ha => by
    rw [List.mem_singleton.mp h] at ha ⊢
    exact .inr ⟨rfl, ha⟩⟩
theorem run_I {t : TS} {σ : L2.St} {Q : VK} {E : XK} {dx : Addr} {o : IOut} (w : WP (fun cls d _ H => E cls d H) Γ [insR false p C []] t { nx := fun _ M' => ∃ fs, o = .inl fs ∧ M' = [insR false p C fs], rt := fun _ _ => False, ex := fun _ cls xs M' => o = .inr (cls, xs) }) (e : Ex G H) (gp : G p = none) (hp : H p = some (.ins C dx [])) (en : En σ G Γ)
    (k1 : ∀ fs, o = .inl fs → ∀ G2 H2, GrB p G H G2 H2 → (insR false p C fs).p G2 H2 → Q .non H2) (k2 : ∀ cls xs, o = .inr (cls, xs) → ∀ d G2 H2, GrB p G H G2 H2 → (∃ u, H2 p = some u ∧ Mt u) → XdOk G2 xs d → E cls d H2) : t { nx := fun _ H' => Q .non H', rt := Q } σ H :=
  w _ G H σ _ (Ok.ins e gp hp) en ⟨fun σ' G' H' Γ' M' o' en' z => by
    obtain ⟨fs, h1, rfl⟩ := z
    exact k1 fs h1 G' H' o'.toB (o'.m _ List.mem_cons_self), fun _ _ _ _ _ _ _ z => z.elim, fun _ _ _ _ _ _ _ z => z.elim, fun _ _ _ _ _ _ _ z => z.elim, fun σ' G' H' Γ' M' cls d xs o' en' xd z => k2 cls xs z d G' H' o'.toB (o'.k p (List.mem_singleton.mpr rfl)) xd⟩
def MkM (C : Addr) (sp : Sp) (rs : List Rp) (M : List Re) (κ : KV) (ε : KX) : Prop := ∀ B G H vs W σ, Ok B G H M → RA G vs rs → ∀ Q : VK, Go B G κ Q → GoX B G ε W σ → ∀ x dx, H x = none → H dx = none → dx ≠ x → sp (.ref x :: vs) (upd (upd H dx (.own x)) x (.ins C dx [])) (fun v H2 => v = .non ∧ Q (.ref x) H2) (fun cls d H' => W cls d σ H')
theorem e_makeS {ta : TA} (h : EA W Γ M ta (fun rs M1 => MkM C sp rs M1 κ ε) ε) : EW W Γ M (tMakeS C sp (WE W) ta) κ ε := fun B G H σ o en Q q x =>
  h B G H σ o en _ (fun vs G1 H1 rs M1 h1 o1 e1 ra => h1 B G1 H1 vs W σ o1 ra Q (q.up e1) (x.up e1)) x
theorem e_makeI {ta : TA} {E : XK} (h : EA W Γ M ta (fun rs M1 => MkM C sp rs M1 κ (fun _ _ _ => False)) ε) (hE : ∀ vs H Q E', sp vs H Q E' → ∀ E2 : XK, (∀ c d H', E' c d H' → E2 c d H') → sp vs H Q E2) : EW W Γ M (tMake C sp [] E ta) κ ε := fun B G H σ o en Q q x =>
  h B G H σ o en _ (fun vs G1 H1 rs M1 h1 o1 e1 ra => fun y dy hy hdy ne => by
    rw [List.append_nil]
    exact hE _ _ _ _ (h1 B G1 H1 vs (fun _ _ _ _ => False) σ o1 ra Q (q.up e1) (fun _ _ _ _ _ _ z => z.elim) y dy hy hdy ne) E (fun _ _ _ z => z.elim)) x
theorem spIni_E {OKC : Addr → Prop} {R : List V → Hp → IOut → Prop} : ∀ vs H Q E', spIni OKC R vs H Q E' → ∀ E2 : XK, (∀ c d H', E' c d H' → E2 c d H') → spIni OKC R vs H Q E2 := fun vs H Q E' h E2 hi => by
  obtain ⟨p, C, dx, ws, G, o, h1, h2, h3, h4, h5, h6, h7, h8⟩ := h
  exact ⟨p, C, dx, ws, G, o, h1, h2, h3, h4, h5, h6, h7, fun cls xs e d G2 H2 g hu x => hi _ _ _ (h8 cls xs e d G2 H2 g hu x)⟩
theorem mk_own {OKC : Addr → Prop} {R : List V → Hp → IOut → Prop} (hC : OKC C) (hR : ∀ ws G, RA G ws rs → R ws G (.inl fs)) (kk : ∀ p, κ (rV (.ref p)) (M ++ [insR true p C fs])) : MkM C (spIni OKC R) rs M κ ε := fun B G H vs W σ o ra Q q x p dx hp hdx ne => by
  have hp1 : upd H dx (.own p) p = none := by rw [upd_ne (Ne.symm ne)]; exact hp
  have g1 := Gr.out (o := .own p) o.i hdx
  have g2 : Gr G (upd H dx (.own p)) G (upd (upd H dx (.own p)) p (.ins C dx [])) := Gr.out g1.i hp1
  have gp : G p = none := fresh_back o.i hp
  have o1 : Ok B G (upd (upd H dx (.own p)) p (.ins C dx [])) (M ++ [insR true p C []]) := (o.gr g1).add (R := insR true p C []) g2 (show [p].Nodup by simp) (fun a ha => by rw [List.mem_singleton.mp ha]; exact ⟨hp1, gp⟩) ⟨dx, [], upd_same, .nil⟩
  refine ⟨p, C, dx, vs, G, .inl fs, rfl, hC, upd_same, o1.i, gp, hR vs G ra, fun fs' e G2 H2 g hi => ?_, fun _ _ e => by cases e⟩
  cases e
  have hk : (M ++ [insR true p C []])[M.length]? = some (insR true p C []) := by simp
  obtain ⟨dx', ws, h1, h2⟩ := hi
  have o2 := o1.chg (R' := insR true p C fs) hk rfl rfl g.g (fun a u z n => g.h a u z fun q => n (List.mem_singleton.mpr q)) g.i g.n ⟨dx', ws, h1, h2⟩
  have es : (M ++ [insR true p C []]).set M.length (insR true p C fs) = M ++ [insR true p C fs] := by
    rw [List.set_append_right _ _ (Nat.le_refl _), Nat.sub_self]; rfl
  rw [es] at o2
  exact ⟨rfl, q _ G2 H2 _ _ (kk p) o2 g.g rfl⟩
theorem Go.frzI {Q : VK} (q : Go B G κ Q) : Go B G (fun r M' => ∃ p C fs M, r = rV (.ref p) ∧ M' = M ++ [insR true p C fs] ∧ κ (rIns C fs) M) Q := fun v G' H' r M' z o e hv => by
  obtain ⟨p, C, fs, M, rfl, rfl, k⟩ := z
  obtain rfl : v = V.ref p := hv
  have hk : (M ++ [insR true p C fs])[M.length]? = some (insR true p C fs) := by simp
  obtain ⟨G2, e2, o2, h2⟩ := o.frzI hk
  have es : (M ++ [insR true p C fs]).eraseIdx M.length = M := by simp [List.eraseIdx_append_of_length_le]
  rw [es] at o2
  exact q _ G2 H' _ M k o2 (e.trans e2) h2
theorem mk_ini {OKC : Addr → Prop} {R : List V → Hp → IOut → Prop} (hC : OKC C) (hR : ∀ ws G, RA G ws rs → R ws G (.inl fs)) (kk : κ (rIns C fs) M) : MkM C (spIni OKC R) rs M κ ε := fun B G H vs W σ o ra Q q x p dx hp hdx ne =>
  mk_own (κ := fun r M' => ∃ p C fs M, r = rV (.ref p) ∧ M' = M ++ [insR true p C fs] ∧ κ (rIns C fs) M) (ε := ε) hC hR (fun p => ⟨p, C, fs, M, rfl, rfl, kk⟩) B G H vs W σ o ra Q q.frzI x p dx hp hdx ne
theorem mk_err {OKC : Addr → Prop} {R : List V → Hp → IOut → Prop} {cls : Value} {xs : List (Str × V)} (hC : OKC C) (hR : ∀ ws G, RA G ws rs → R ws G (.inr (cls, xs))) (kk : ε cls xs M) : MkM C (spIni OKC R) rs M κ ε := fun B G H vs W σ o ra Q q x p dx hp hdx ne => by
  have hp1 : upd H dx (.own p) p = none := by rw [upd_ne (Ne.symm ne)]; exact hp
  have g1 := Gr.out (o := .own p) o.i hdx
  have g2 : Gr G (upd H dx (.own p)) G (upd (upd H dx (.own p)) p (.ins C dx [])) := Gr.out g1.i hp1
  have gp : G p = none := fresh_back o.i hp
  have o1 : Ok B G (upd (upd H dx (.own p)) p (.ins C dx [])) M := (o.gr g1).gr g2
  refine ⟨p, C, dx, vs, G, .inr (cls, xs), rfl, hC, upd_same, o1.i, gp, hR vs G ra, fun fs' e => (nomatch e), fun c y e d G2 H2 g hu xd => ?_⟩
  cases e
  have hg : Gr G H G2 H2 := ⟨g.g, fun a u z => g.h a u (by rw [upd_ne (ne_of_none z hp), upd_ne (ne_of_none z hdx)]; exact z) (ne_of_none z hp), g.i, fun a u z t y => g.n a u (by rw [upd_ne (ne_of_none z hp), upd_ne (ne_of_none z hdx)]; exact z) t y⟩
  exact x cls xs d G2 H2 M kk (o.gr hg) g.g xd
theorem e_supI {OKC : Addr → Prop} {R : List V → Hp → IOut → Prop} {f2 : Addr} {ta : TA} (h0 : Γ[0]? = some (some (rV (.ref p)))) (hC : OKC C) (hm : PySem.W.mroIn K C (.ref D) = some true) (hs : PySem.W.ks_superIn K C D "__init__" = some (some (.ref f2)))
    (hk0 : M[0]? = some (insR own p C []))
    (h : EA W Γ M ta (fun rs M1 => M1[0]? = some (insR own p C []) ∧ ∃ o, (∀ ws G, RA G ws rs → R ws G o) ∧ (∀ fs, o = .inl fs → κ (rV .non) (M1.set 0 (insR own p C fs))) ∧ (∀ cls xs, o = .inr (cls, xs) → ε cls xs (M1.eraseIdx 0))) ε) : EW W Γ M (tSup K D "__init__" f2 (spIni OKC R) (WE W) ta) κ ε := fun B G H σ o en Q q x => by
  obtain ⟨u, hu1, hu2⟩ := en.get h0
  obtain rfl : u = V.ref p := hu2
  obtain ⟨dx0, ws0, hp0, fs0⟩ := o.m _ (List.mem_of_getElem? hk0)
  cases fs0
  refine ⟨p, C, dx0, [], hu1, hp0, hm, hs, h B G H σ o en _ (fun vs G1 H1 rs M1 z o1 e1 ra => ?_) x⟩
  obtain ⟨hk, oo, hR, k1, k2⟩ := z
  have hmm := List.mem_of_getElem? hk
  obtain ⟨dx, ws, hp, fs1⟩ := o1.m _ hmm
  cases fs1
  have gp : G1 p = none := o1.z p (mem_feet hmm (List.mem_singleton.mpr rfl))
  refine ⟨p, C, dx, vs, G1, oo, rfl, hC, hp, o1.i, gp, hR vs G1 ra, fun fs e G2 H2 g hi => ?_, fun cls xs e d G2 H2 g hu xd => ?_⟩
  · obtain ⟨dx', ws', h1, h2⟩ := hi
    have o2 := o1.chg (R' := insR own p C fs) hk rfl rfl g.g (fun a u z n => g.h a u z fun q => n (List.mem_singleton.mpr q)) g.i g.n ⟨dx', ws', h1, h2⟩
    exact q .non G2 H2 _ _ (k1 fs e) o2 (e1.trans g.g) rfl
  · refine x cls xs d G2 H2 _ (k2 cls xs e) ⟨o1.g.trans g.g, o1.l.trans g.g, fun a u z n => ?_, g.i, fun a u z t y => ?_, fun a ha => ?_, fun r hr => ?_, fun a ha => ?_, feet_erase_nodup o1.d, fun r hr => o1.f r (mem_erase hr)⟩ (e1.trans g.g) xd
    · refine g.h a u (o1.h a u z n) fun q => ?_
      subst q
      rcases o1.f _ hmm a (List.mem_singleton.mpr rfl) with y | y
      · rw [y] at z; cases z
      · exact n y.2
    · by_cases c : a ∈ B.F
      · obtain ⟨u2, z2, t2⟩ := o1.k a c
        exact g.n a u2 z2 t2 (o1.n a u z t y)
      · exact g.n a u (o1.h a u z c) t (o1.n a u z t y)
    · obtain ⟨u, z, t⟩ := o1.k a ha
      by_cases c : a = p
      · rw [c]; exact hu
      · exact ⟨u, g.h a u z c, t⟩
    · exact r.loc (fun a ha u z => g.h a u z (fun q => feet_apart o1.d hk hr a ha (List.mem_singleton.mpr q))) (r.mono g.g (o1.m r (mem_erase hr)))
    · obtain ⟨r, hr, hf⟩ := List.mem_flatMap.mp ha
      obtain ⟨u, z, t⟩ := r.at_ (o1.m r (mem_erase hr)) a hf
      exact g.n a u z t (o1.z a (feet_erase_sub ha))
end

theorem mkB_ok {K : PySem.W.Frag} {C f : Addr} (h : mkB K C f = true) : Mk K C f := by
  obtain ⟨h1, h⟩ := He.ba h
  obtain ⟨h2, h⟩ := He.ba h
  obtain ⟨h3, h4⟩ := He.ba h
  exact ⟨h1, He.eqO_ok h2, h3, h4⟩
theorem methB_ok {K : PySem.W.Frag} {C f : Addr} {m : Str} (h : methB K C m f = true) : Meth K C m f := by
  obtain ⟨h2, h⟩ := He.ba h
  obtain ⟨h3, h4⟩ := He.ba h
  exact ⟨He.eqO_ok h2, h3, h4⟩
structure SupF (K : PySem.W.Frag) (C D : Addr) (m : Str) (f : Addr) : Prop where
  mro : PySem.W.mroIn K C (.ref D) = some true
  sup : PySem.W.ks_superIn K C D m = some (some (.ref f))
theorem supFB_ok {K : PySem.W.Frag} {C D f : Addr} {m : Str} (h : supFB K C D m f = true) : SupF K C D m f := by
  obtain ⟨h1, h2⟩ := He.ba h
  exact ⟨of_decide_eq_true h1, He.eqO_ok h2⟩
theorem FunD.lk {K : PySem.W.Frag} {x qual : Str} {params : Arguments} {body : List Stmt} {scope : Scope} {dvs : List V} {kws : List (Str × V)} {f : Addr} {fd : FuncData} (F : FunD K x qual params body scope dvs kws f fd) : ∃ oc od osl, K.lookup f = some ⟨oc, od, .func fd, osl⟩ := by
  obtain ⟨oc, od, dV, kV, doc, pm, an, cdv, ct, osl, rfl, lk, hcd, _, _⟩ := F.ex
  exact ⟨oc, od, osl, lk⟩
theorem FunS.lk {K : PySem.W.Frag} {x qual : Str} {params : Arguments} {body : List Stmt} {scope : Scope} {file : Str} {D f : Addr} {fd : FuncData} {cda cc : Addr} (F : FunS K x qual params body scope file D f fd cda cc) : ∃ oc od osl, K.lookup f = some ⟨oc, od, .func fd, osl⟩ := by
  obtain ⟨oc, od, kV, doc, pm, an, ct, osl, e, lk⟩ := F.fn
  exact ⟨oc, od, osl, lk⟩
def rLi (K : PySem.W.Frag) (l : List Int) : Rp := rL K (l.map rI)
def rLLi (K : PySem.W.Frag) (l : List (List Int)) : Rp := rL K (l.map (rLi K))
def badW (n : Nat) (w : Int) : Bool := decide (w < 0) || decide ((n : Int) ≤ w)
section
variable {Γ : Ctx} {M : List Re} {te ta tb : TE} {K : PySem.W.Frag} {κ : KV} {n : Nat}
end
theorem EvAX.by {Γ : Ctx} {ta : TA} {rs : List Rp} (h : ∀ W ε, EA W Γ [] ta (fun r' M' => r' = rs ∧ M' = []) ε) : EvAX Γ ta rs := fun σ G en H e Q q => h (fun _ _ _ _ => True) (fun _ _ _ => False) ⟨G, H, [], G⟩ G H σ (Ok.nil e) en Q (fun v G' H' r' M' z o _ hv => by
    obtain ⟨rfl, rfl⟩ := z
    exact q v G' H' o.to hv) (fun _ _ _ _ _ _ z => z.elim)
theorem ws_raise1 {W : WX} {Γ : Ctx} {M : List Re} {κ : Kn} {C : Addr} {f : Str} {x : V} {te : TE} (h : EvX Γ te (rV x)) (hx : κ.ex Γ (.ref C) [(f, x)] M) : WP W Γ M (fun _ σ H => tMkO C (spErr C [f]) [] (tCons te tNil) σ H fun cls d H' => W cls d σ H') κ := w_raise (xs := [x]) (xa_cons h xa_nil) rfl (by show 1 ≤ 1000; decide) hx
section
variable {Γ : Ctx} {ta tb : TE} {m n : Nat}
theorem dec_iff {p q : Prop} [Decidable p] [Decidable q] (h : p ↔ q) : decide p = decide q := by
  rw [Bool.eq_iff_iff, decide_eq_true_iff, decide_eq_true_iff]; exact h
theorem x_ltN (ha : EvX Γ ta (nI m)) (hb : EvX Γ tb (nI n)) : EvX Γ (tOp (rI0 fun i j => .bl (decide (i < j))) ta tb) (rB (decide (m < n))) := x_is (x_I0 ha hb) (congrArg rB (dec_iff (by omega)))
theorem x_leN (ha : EvX Γ ta (nI m)) (hb : EvX Γ tb (nI n)) : EvX Γ (tOp (rI0 fun i j => .bl (decide (i ≤ j))) ta tb) (rB (decide (m ≤ n))) := x_is (x_I0 ha hb) (congrArg rB (dec_iff (by omega)))
theorem x_gtN (ha : EvX Γ ta (nI m)) (hb : EvX Γ tb (nI n)) : EvX Γ (tOp (rI0 fun i j => .bl (decide (j < i))) ta tb) (rB (decide (n < m))) := x_is (x_I0 ha hb) (congrArg rB (dec_iff (by omega)))
theorem x_geN (ha : EvX Γ ta (nI m)) (hb : EvX Γ tb (nI n)) : EvX Γ (tOp (rI0 fun i j => .bl (decide (j ≤ i))) ta tb) (rB (decide (n ≤ m))) := x_is (x_I0 ha hb) (congrArg rB (dec_iff (by omega)))
end
end Mu

namespace Mu
open PySem PySem.Spec PyProof.Rows L2 Evl
section
variable {α : Type} {W : WX} {Γ : Ctx} {M : List Re} {te ta tb tl : TE} {K : PySem.W.Frag} {i j k n : Nat} {p : Addr} {κ : KV} {ε : KX} {vs : List Nat} {D : α → Prop} {f : α → Rp} {rs : List Rp} {r : Rp}
theorem EX.ofW (h : ∀ W, EW W Γ M te κ (fun _ _ _ => False)) : EX Γ M te κ := fun B G H σ o en Q q => h (fun _ _ _ _ => False) B G H σ o en Q q (fun _ _ _ _ _ _ z => z.elim)
theorem e_ofX (h : EX Γ M te κ) : EW W Γ M te κ ε := fun B G H σ o en Q q _ => h B G H σ o en Q q
theorem EW.imp {κ' : KV} (h : EW W Γ M te κ' ε) (hi : ∀ r M', κ' r M' → κ r M') : EW W Γ M te κ ε := fun B G H σ o en Q q x => h B G H σ o en Q (fun v G' H' r M' z => q v G' H' r M' (hi r M' z)) x
theorem e_lcDo (D : α → Prop) (f : α → Rp) (h : EvX Γ ta (nI n)) (hz : n ≤ 40000) (he : ∀ i R W, i < n → EW W ((wipeC Γ vs).set j (some (nI i))) (M ++ [R]) te (fun r M' => (∃ a, D a ∧ r = f a) ∧ M' = M ++ [R]) (fun _ _ _ => False)) (hj : j ∈ vs) (kk : ∀ l : List α, l.length = n → (∀ a ∈ l, D a) → ∀ p, κ (rV (.ref p)) (M ++ [lstR p (l.map f)])) : EW W Γ M (tLc (iRng1 (tCons ta tNil)) (gName j) tYes te vs) κ ε :=
  EW.imp (e_ofX (l_lcR (D := D) (f := f) n h hz (fun i R hi => EX.ofW fun W => he i R W hi) hj)) fun r M' z => by
    obtain ⟨l, p, ⟨h1, h2⟩, rfl, rfl⟩ := z
    exact kk l h1 h2 p
theorem e_lcDf (D : α → Prop) (f : α → Rp) (K : PySem.W.Frag) (h : EvX Γ ta (nI n)) (hz : n ≤ 40000) (he : ∀ i R W, i < n → EW W ((wipeC Γ vs).set j (some (nI i))) (M ++ [R]) te (fun r M' => (∃ a, D a ∧ r = f a) ∧ M' = M ++ [R]) (fun _ _ _ => False)) (hj : j ∈ vs) (kk : ∀ l : List α, l.length = n → (∀ a ∈ l, D a) → κ (rL K (l.map f)) M) : EW W Γ M (tLc (iRng1 (tCons ta tNil)) (gName j) tYes te vs) κ ε := fun B G H σ o en Q q x =>
  e_lcDo (W := W) (ε := ε) (κ := fun r M' => ∃ p ss M, r = rV (.ref p) ∧ M' = M ++ [lstR p ss] ∧ κ (rL K ss) M) D f h hz he hj (fun l h1 h2 p => ⟨p, _, M, rfl, rfl, kk l h1 h2⟩) B G H σ o en Q q.frz x
theorem ws_setI {κ : Kn} {n : Nat} {tn : TE} (k : Nat) (hi : Γ[i]? = some (some (rV (.ref p)))) (hn : EvX Γ tn (nI n)) (h : EW W Γ M te (fun r M' => ∃ rs, M'[k]? = some (lstR p rs) ∧ n < rs.length ∧ κ.nx Γ (M'.set k (lstR p (rs.set n r)))) (κ.ex Γ)) : WP W Γ M (tAsg te (gSub (tVar i) tn rSetL)) κ := fun B G H σ D o en d =>
  h B G H σ o en _ (fun v G' H' r M' z o' e' hv => by
    obtain ⟨rs, hk, hl, hq⟩ := z
    obtain ⟨u, hu1, hu2⟩ := en.get hi
    obtain rfl : u = V.ref p := hu2
    refine ⟨.ref p, hu1, hn σ G' (en.mono e') H' o'.i _ fun w G2 H2 g hw => ?_⟩
    obtain rfl : w = V.int (n : Int) := hw
    have o2 := o'.gr g
    have hm := List.mem_of_getElem? hk
    obtain ⟨ws, h1, h2⟩ := o2.m _ hm
    have gp : G2 p = none := o2.z p (mem_feet hm (List.mem_singleton.mpr rfl))
    have hlt : n < ws.length := by rw [h2.len]; exact hl
    refine ⟨p, ws, (n : Int), n, rfl, rfl, h1, ?_, d.nx σ G2 _ Γ _ (o2.chg (R' := lstR p (rs.set n r)) hk rfl rfl (Ex.refl _) (fun a u z nn => ?_) (Ex.mut o2.i gp) (fun _ _ _ _ y => y) ⟨_, upd_same, h2.set (r.mono g.g hv) n⟩) ((en.mono e').mono g.g) hq⟩
    · unfold ixN
      rw [if_pos (by omega)]
      simp [hlt]
    · rw [upd_ne fun q => nn (List.mem_singleton.mpr q)]
      exact z) (fun cls fs dd G' H' M' k o' e' xd => d.ex σ G' H' Γ M' cls dd fs o' (en.mono e') xd k)
end
theorem x_powN {Γ : Ctx} {ta tb : TE} {a b : Nat} (ha : EvX Γ ta (nI a)) (hb : EvX Γ tb (nI b)) (h1 : b ≤ 1000000) (h2 : a < 2 ^ 64) : EvX Γ (tOp (L2.rI CPow fun i j => .int (i ^ j.toNat)) ta tb) (nI (a ^ b)) := x_is (x_I ha hb ⟨by omega, by omega, by rw [Int.natAbs_natCast]; exact h2⟩) (by show rI _ = rI _; congr 1; first | done | (rw [Int.toNat_natCast]; exact (Int.natCast_pow a b).symm))
section
variable {W : WX} {Γ : Ctx} {M : List Re} {te ta tb : TE} {K : PySem.W.Frag} {κ : KV} {ε : KX} {rs ss : List Rp} {i : Int} {m n : Nat}
theorem om_cat (hz : rs.length + ss.length ≤ 100000) (k : κ (rL K (rs ++ ss)) M) : OM rCat (rL K rs) (rL K ss) M κ := omn (K := K) (xn_cat (K := K) (x_v rfl) (x_v rfl) hz) k
theorem RA.rep {G : Hp} {vs : List V} {rs : List Rp} (h : RA G vs rs) : ∀ m, RA G (List.replicate m vs).flatten (List.replicate m rs).flatten
  | 0 => .nil
  | m + 1 => by
    rw [List.replicate_succ, List.replicate_succ, List.flatten_cons, List.flatten_cons]
    exact h.append (RA.rep h m)
theorem om_rep (hz : rs.length * m ≤ 100000) (hm : m ≤ 100000) (k : κ (rL K (List.replicate m rs).flatten) M) : OM rRep (rL K rs) (nI m) M κ := fun B G H x y o hx hy Q q => by
  obtain ⟨a, vs, rfl, h1, h2⟩ := hx
  obtain rfl : y = V.int (m : Int) := hy
  refine ⟨a, (m : Int), vs, rfl, rfl, o.i _ _ h1, by omega, by omega, sz_of (by rw [Int.toNat_natCast, h2.len]; exact hz), fun p hp => ?_⟩
  rw [Int.toNat_natCast]
  have g := Gr.new (o := .lst (List.replicate m vs).flatten) o.i hp
  exact q (.ref p) _ _ _ M k (o.gr g) g.g ⟨p, _, rfl, upd_same, (RA.rep h2 m).mono g.g⟩
theorem ev_part {Γ : Ctx} {te : TE} (h : EvX Γ te (rI i)) {σ : L2.St} {G : Hp} (en : En σ G Γ) : EvO (tPart te) σ G (some i) := fun H e Q q => h σ G en H e _ fun v G2 H2 g hv => by
  obtain rfl : v = V.int i := hv
  exact ⟨_, rfl, q H2 g.h⟩
theorem e_sl {tl th : TO} {lo hi : Option Int} (hl : ∀ σ G, En σ G Γ → EvO tl σ G lo) (hh : ∀ σ G, En σ G Γ → EvO th σ G hi) (h : EW W Γ M te (fun r M1 => ∃ rs, r = rL K rs ∧ κ (rL K (cutR rs lo hi)) M1) ε) : EW W Γ M (tSl (rSlL K) te tl th) κ ε := fun B G H σ o en Q q x =>
  h B G H σ o en _ (fun v G1 H1 r M1 z o1 e1 hv => by
    obtain ⟨rs, rfl, kk⟩ := z
    have z2 := en_slL (σ := σ) (G := G1) (te := tC v) (tl := tl) (th := th) (K := K) (rs := rs) (lo := lo) (hi := hi) (fun H e Q q => q v G1 H (Gr.refl e) (by
      obtain ⟨a, vs, rfl, h1, h2⟩ := hv
      exact ⟨a, vs, rfl, sq_of h1, h2⟩)) (fun G' e => hl σ G' (en.mono (e1.trans e))) (fun G' e => hh σ G' (en.mono (e1.trans e)))
    exact (EvN.d (K := K) z2) H1 o1.i Q fun w G2 H2 g hw => q w G2 H2 _ M1 kk (o1.gr g) (e1.trans g.g) hw) x
theorem e_slTo (hb : EvX Γ tb (rI i)) (h : EW W Γ M te (fun r M1 => ∃ rs, r = rL K rs ∧ κ (rL K (cutR rs none (some i))) M1) ε) : EW W Γ M (tSl (rSlL K) te tNoPart (tPart tb)) κ ε := e_sl (fun _ _ _ => o_no) (fun _ _ en => ev_part hb en) h
theorem e_slFrom (hb : EvX Γ tb (rI i)) (h : EW W Γ M te (fun r M1 => ∃ rs, r = rL K rs ∧ κ (rL K (cutR rs (some i) none)) M1) ε) : EW W Γ M (tSl (rSlL K) te (tPart tb) tNoPart) κ ε := e_sl (fun _ _ en => ev_part hb en) (fun _ _ _ => o_no) h
end
theorem nat_ints (h : List Nat) : h.map nI = (h.map fun (w : Nat) => (w : Int)).map rI := by rw [List.map_map]; rfl
theorem ln_li (K : PySem.W.Frag) (l : List Nat) : rLn K l = rLi K (l.map fun (w : Nat) => (w : Int)) := by
  unfold rLn rLi
  rw [nat_ints]
theorem lls_lli (K : PySem.W.Frag) (s : List (List Nat)) : s.map (rLn K) = (s.map fun l => l.map fun (w : Nat) => (w : Int)).map (rLi K) := by
  rw [List.map_map]
  refine List.map_congr_left fun l _ => ln_li K l
end Mu

namespace Mu
open PySem PySem.Spec PyProof.Rows L2 He Evl
theorem DefA.funD {K : PySem.W.Frag} {d : DefA} (e : fnA K (d.at_ K) = d.val) (c : d.ok K = true) : ∃ fd, FunD K d.name d.qual d.params d.body d.scope [] [] (d.at_ K) fd := by
  obtain ⟨kp, c2⟩ := ba c
  unfold fnA at e
  cases q : K.lookup (d.at_ K) with
  | none =>
    rw [q] at c2
    cases c2
  | some o =>
    obtain ⟨oc, od, dt, osl⟩ := o
    rw [q] at c2 e
    cases dt with
    | func fd =>
      obtain ⟨n1, n2, n3, n4, n5, n6, n7, n8, n9, n10, n11, n12, n13, n14, n15⟩ := fd
      have e2 : (some (n1, n2, n3, n4, n5, n6, n7, n15) : FnW) = some (d.name, d.qual, d.params, .stmts d.body, d.scope, mainGlobals, [], builtinsNs) := e
      simp only [Option.some.injEq, Prod.mk.injEq] at e2
      obtain ⟨h1, h2, h3, h4, h5, h6, h7, h8⟩ := e2
      subst h1 h2 h3 h4 h5 h6 h7 h8
      have c3 : (PySem.W.codeIn K n13 d.qual && (dflB K n8 [] && kwdB K n9 [])) = true := c2
      obtain ⟨k1, k2⟩ := ba c3
      obtain ⟨k3, k4⟩ := ba k2
      exact ⟨_, ⟨oc, od, n8, n9, n10, n11, n12, n13, n14, osl, rfl, q, k1, dflB_ok k3, kwdB_ok k4⟩, kp⟩
    | _ => cases c2
section
variable {fa : List Fa} {ex : List FactB} {fn : List DefD} {sn : List DefS} {an : List DefA} {K : PySem.W.Frag}
theorem SaysP.s (c : SaysP fa ex fn sn an K) : SaysS fa ex fn sn K := by
  have h1 : (((((fa.all fun f => f.ok K) && ex.all fun f => f K) && fn.all fun d => d.ok K) && sn.all fun d => d.ok K) && an.all fun d => d.ok K) = true := congrArg (fun z : AlP => z.1) c
  have h2 : fn.map (fun d => fnW K d.at_) = fn.map DefD.val := congrArg (fun z : AlP => z.2.1) c
  have h3 : sn.map (fun d => fnS K d.at_) = sn.map DefS.val := congrArg (fun z : AlP => z.2.2.1) c
  show obsS fa ex fn sn K = valS fn sn
  unfold obsS valS
  rw [(ba h1).1, h2, h3]
theorem SaysP.fact (c : SaysP fa ex fn sn an K) (i : Nat) {f : Fa} (h : fa[i]? = some f := by rfl) : f.ok K = true := c.s.fact i h
theorem SaysP.exf (c : SaysP fa ex fn sn an K) (i : Nat) {f : FactB} (h : ex[i]? = some f := by rfl) : f K = true := c.s.exf i h
theorem SaysP.def_ (c : SaysP fa ex fn sn an K) (i : Nat) {d : DefD} (h : fn[i]? = some d := by rfl) : ∃ fd, FunD K d.name d.qual d.params d.body d.scope (d.dvs K) (d.kws K) (fAd K d.at_) fd := c.s.def_ i h
theorem SaysP.sup_ (c : SaysP fa ex fn sn an K) (i : Nat) {d : DefS} (h : sn[i]? = some d := by rfl) : ∃ fd cda cc, FunS K d.name d.qual d.params d.body d.scope d.file (ga K d.cls) (fAd K d.at_) fd cda cc := c.s.sup_ i h
theorem SaysP.any_ (c : SaysP fa ex fn sn an K) (i : Nat) {d : DefA} (h : an[i]? = some d := by rfl) : ∃ fd, FunD K d.name d.qual d.params d.body d.scope [] [] (d.at_ K) fd := by
  have h1 : (((((fa.all fun f => f.ok K) && ex.all fun f => f K) && fn.all fun d => d.ok K) && sn.all fun d => d.ok K) && an.all fun d => d.ok K) = true := congrArg (fun z : AlP => z.1) c
  have e : an.map (fun d => fnA K (d.at_ K)) = an.map DefA.val := congrArg (fun z : AlP => z.2.2.2) c
  have e2 : (an.map fun d => fnA K (d.at_ K))[i]? = (an.map DefA.val)[i]? := by rw [e]
  rw [List.getElem?_map, List.getElem?_map, h] at e2
  exact DefA.funD (Option.some.inj e2) (List.all_eq_true.mp (ba h1).2 d (List.mem_of_getElem? h))
end
def PropG (K : PySem.W.Frag) (C : Addr) (f : Str) (g : Addr) : Prop := ∃ p, PropOf K C f p g
theorem propB_ok {K : PySem.W.Frag} {C g : Addr} {f : Str} (h : propB K C f g = true) : PropG K C f g := by
  unfold propB at h
  split at h
  · rename_i p e
    obtain ⟨h1, h2⟩ := ba h
    obtain ⟨h3, h4⟩ := ba h2
    split at h4
    · rename_i g' rest e2
      have z : g' = g := by simpa using h4
      subst z
      exact ⟨p, e, eqO_ok h1, of_decide_eq_true h3, rest, e2⟩
    · cases h4
  · cases h
theorem e_prop {W : WX} {Γ : Ctx} {M : List Re} {te : TE} {C : Addr} {sp : Sp} {E : XK} {κ : KV} {ε : KX} (h : EW W Γ M te (fun r0 M0 => (∀ v G, r0.p v G → ∃ a dx fs, v = .ref a ∧ G a = some (.ins C dx fs)) ∧ CM sp [r0] M0 κ) ε) : EW W Γ M (tProp C sp [] E te) κ ε := fun B G H σ o en Q q x =>
  h B G H σ o en _ (fun v0 G0 H0 r0 M0 h0 o0 e0 hv0 => by
    obtain ⟨hi, h1⟩ := h0
    obtain ⟨a, dx, fs, rfl, h2⟩ := hi _ _ hv0
    exact ⟨a, dx, fs, rfl, o0.i _ _ h2, h1 E B G0 H0 [.ref a] o0 (.cons hv0 .nil) Q (q.up e0)⟩) x
theorem ins_is {C : Addr} {fs : FL} : ∀ v G, (rIns C fs).p v G → ∃ a dx ws, v = .ref a ∧ G a = some (.ins C dx ws) := fun v G h => by
  obtain ⟨a, dx, ws, rfl, h2, _⟩ := h
  exact ⟨a, dx, ws, rfl, h2⟩
section
variable {X : Cx} {CX : CXT} {k : Nat} {f C : Addr} {fd : FuncData} {ps : List Str} {sp : Sp} {m : Str} {pos apos : Pos} {e o : Expr} {es : List Expr} {t : TA} {ta : TE}
def tMethS (C : Addr) (m : Str) (sp : Sp) (E : L2.St → XK) (ta : TE) (t : TA) : TE := fun σ H Q => ta σ H fun x H1 => ∃ a dx fs, x = .ref a ∧ H1 a = some (.ins C dx fs) ∧ fs.lookup m = none ∧ t σ H1 fun vs H2 => sp (x :: vs) H2 Q (E σ)
theorem pe_methS {pl : Sem Bool} {E : L2.St → XK} (he : PE X o ta) (c : Cls X.K C) (hm : Meth X.K C m f) (F : FnOk X.prog X.w X.K X.mg X.base CX k f fd ps sp) (hr : Room k X.A) (hb : Binds X.K fd ps []) (hx : ∀ σ, PassesAt CX X σ (E σ)) (ha : PA X (e :: es) t)
    (hst : starEach (e :: es) X.env = (false, eval e X.env) :: starEach es X.env := by rfl) (hpl : (backTo pos (starEach es X.env)).any (·.1) = false := by rfl)
    (ht : eval (.Call (.Attribute o m apos) (e :: es) [] pos) X.env = (do
      let ov ← eval o X.env
      standAt apos.atName
      let (f, first) ← holding [ov] (getMethod ov m pl)
      callWith pos f first (backTo pos (starEach (e :: es) X.env)) (backToKw pos (keywordEach [] X.env))) := by rfl) :
    PE X (.Call (.Attribute o m apos) (e :: es) [] pos) (tMethS C m sp E ta t) := by
  refine ⟨fun pins s σ H Q I h => ?_⟩
  refine PySem.W.methodCall_KW (pl := pl) (thn (he.run pins s σ H _ I h) fun u s1 ⟨x, H1, I1, rx, a, dx, fs, ex, ea, l, q⟩ => ?_) ht
  subst ex
  obtain rfl : u = Value.ref a := rx
  refine getmeth_ok I1 ea c hm l ?_
  refine PySem.W.callWith_K (first := [.ref a]) (h₀ := X.base) I.ok.mod.kin hm.kp (thn (ha.run pos pins s1 σ H1 _ I1 q) fun us s2 ⟨vs, H2, I2, r, q2⟩ => ⟨I2.kIn, ?_⟩) hst hpl
  exact run_fnS (us := .ref a :: us) (vs := .ref a :: vs) F hr hb (hx σ) I2 (.cons rfl r) q2
end
theorem e_methS {W : WX} {Γ : Ctx} {M : List Re} {te : TE} {ta : TA} {f : Str} {C : Addr} {sp : Sp} {κ : KV} {ε : KX} (h : EW W Γ M te (fun r0 M0 => InsR C f r0 ∧ EA W Γ M0 ta (fun rs M1 => XM sp (r0 :: rs) M1 κ ε) ε) ε) : EW W Γ M (tMethS C f sp (WE W) te ta) κ ε := fun B G H σ o en Q q x =>
  h B G H σ o en _ (fun v0 G0 H0 r0 M0 h0 o0 e0 hv0 => by
    obtain ⟨hi, h1⟩ := h0
    obtain ⟨a, dx, fs, rfl, h2, h3⟩ := hi _ _ hv0
    exact ⟨a, dx, fs, rfl, o0.i _ _ h2, h3, h1 B G0 H0 σ o0 (en.mono e0) _ (fun vs G1 H1 rs M1 k1 o1 e1 ra => k1 B G1 H1 _ W σ o1 (.cons (r0.mono e1 hv0) ra) Q (q.up (e0.trans e1)) (x.up (e0.trans e1))) (x.up e0)⟩) x
theorem x_inTi {Γ : Ctx} {ta tb : TE} {K : PySem.W.Frag} {a : Int} {l : List Int} (neg : Bool) (ha : EvX Γ ta (rI a)) (hb : EvX Γ tb (rT K (l.map rI))) : EvX Γ (tOp (rIn K neg) ta tb) (rB (if neg then !decide (a ∈ l) else decide (a ∈ l))) := fun σ G en =>
  Ev.d (ev_op2 (ha σ G en) (hb σ G en) fun x y H hx hy Q q => by
    obtain rfl : x = V.int a := hx
    obtain ⟨p, vs, rfl, h1, h2⟩ := hy
    have e := ra_ints_eq h2
    subst e
    exact ⟨p, _, rfl, .inr h1, rfl, ints_flatI l, by rw [inV_int]; exact q⟩)
abbrev NOut := List Rp ⊕ (Value × List (Str × V))
def spON (R : List V → Hp → NOut → Prop) : Sp := fun vs H Q E => ∃ G o, Ex G H ∧ R vs G o ∧ (∀ rs, o = .inl rs → ∀ p ws G2 H2, Gr G H G2 H2 → H p = none → G2 p = none → H2 p = some (.lst ws) → RA G2 ws rs → Q (.ref p) H2) ∧ (∀ cls fs, o = .inr (cls, fs) → ∀ d G2 H2, Gr G H G2 H2 → XdOk G2 fs d → E cls d H2)
section
variable {W : WX} {Γ : Ctx} {M : List Re} {rs ss : List Rp} {K : PySem.W.Frag} {κ : KV} {ε : KX} {R : List V → Hp → NOut → Prop} {o : NOut}
theorem run_ON {t : TS} {G H : Hp} {σ : L2.St} {Q : VK} {E : XK} (w : WP (fun cls d _ H => E cls d H) Γ [] t { nx := fun _ _ => False, rt := fun r' M' => ∃ rs p, o = .inl rs ∧ r' = rV (.ref p) ∧ M' = [lstR p rs], ex := fun _ cls fs _ => o = .inr (cls, fs) }) (e : Ex G H) (en : En σ G Γ) (k1 : ∀ rs, o = .inl rs → ∀ p ws G2 H2, Gr G H G2 H2 → H p = none → G2 p = none → H2 p = some (.lst ws) → RA G2 ws rs → Q (.ref p) H2) (k2 : ∀ cls fs, o = .inr (cls, fs) → ∀ d G2 H2, Gr G H G2 H2 → XdOk G2 fs d → E cls d H2) : t { nx := fun _ H' => Q .non H', rt := Q } σ H :=
  w _ G H σ _ (Ok.nil e) en ⟨fun _ _ _ _ _ _ _ z => z.elim, fun v G' H' r' M' o' hv z => by
    obtain ⟨rs, p, h1, rfl, rfl⟩ := z
    obtain rfl : v = V.ref p := hv
    obtain ⟨ws, h3, h4⟩ := o'.m (lstR p rs) List.mem_cons_self
    have hp : H p = none := by
      rcases o'.f (lstR p rs) List.mem_cons_self p (List.mem_singleton.mpr rfl) with q | q
      · exact q
      · exact nomatch q.2
    exact k1 rs h1 p ws G' H' o'.to hp (o'.z p (List.mem_cons_self)) h3 h4, fun _ _ _ _ _ _ _ z => z.elim, fun _ _ _ _ _ _ _ z => z.elim, fun σ' G' H' Γ' M' cls d fs o' en' xd z => k2 cls fs z d G' H' o'.to xd⟩
theorem xmo (h : ∀ vs G, RA G vs rs → R vs G (.inl ss)) (k : ∀ p, κ (rV (.ref p)) (M ++ [lstR p ss])) : XM (spON R) rs M κ ε := fun B G H vs W σ o ra Q q x => by
  refine ⟨G, .inl ss, o.i, h vs G ra, fun rs' e' p ws G2 H2 g hp gp h2 ra2 => ?_, fun _ _ z => nomatch z⟩
  cases e'
  exact q _ G2 H2 _ _ (k p) (o.add (R := lstR p ss) g (show [p].Nodup by simp) (fun a ha => by rw [List.mem_singleton.mp ha]; exact ⟨hp, gp⟩) ⟨ws, h2, ra2⟩) g.g rfl
theorem xmf (K : PySem.W.Frag) (h : ∀ vs G, RA G vs rs → R vs G (.inl ss)) (k : κ (rL K ss) M) : XM (spON R) rs M κ ε := fun B G H vs W σ o ra Q q x =>
  xmo (κ := fun r M' => ∃ p ss M, r = rV (.ref p) ∧ M' = M ++ [lstR p ss] ∧ κ (rL K ss) M) (ε := ε) h (fun p => ⟨p, ss, M, rfl, rfl, k⟩) B G H vs W σ o ra Q q.frz x
theorem xme {cls : Value} {fs : List (Str × V)} (h : ∀ vs G, RA G vs rs → R vs G (.inr (cls, fs))) (k : ε cls fs M) : XM (spON R) rs M κ ε := fun B G H vs W σ o ra Q q x => by
  refine ⟨G, .inr (cls, fs), o.i, h vs G ra, fun _ z => (nomatch z), fun c f e' d G2 H2 g xd => ?_⟩
  cases e'
  exact x cls fs d G2 H2 M k (o.gr g) g.g xd
theorem cmo_ {sp : Sp} (h : XM sp rs M κ (fun _ _ _ => False)) (hE : ∀ vs H Q E', sp vs H Q E' → ∀ E2 : XK, (∀ c d H', E' c d H' → E2 c d H') → sp vs H Q E2) : CM sp rs M κ := fun E B G H vs o ra Q q => hE _ _ _ _ (h B G H vs (fun _ _ _ _ => False) [] o ra Q q (fun _ _ _ _ _ _ z => z.elim)) E (fun _ _ _ z => z.elim)
theorem spON_E : ∀ vs H Q E', spON R vs H Q E' → ∀ E2 : XK, (∀ c d H', E' c d H' → E2 c d H') → spON R vs H Q E2 := fun vs H Q E' h E2 hi => by
  obtain ⟨G, o, h1, h2, h3, h4⟩ := h
  exact ⟨G, o, h1, h2, h3, fun cls xs e d G2 H2 g x => hi _ _ _ (h4 cls xs e d G2 H2 g x)⟩
end
end Mu

namespace Mu
open PySem PySem.Spec PyProof.Rows L2 He Evl
end Mu

namespace Mu
open PySem PySem.Spec PyProof.Rows L2 Evl
def bor (G H : Hp) (M : List Re) : Hp := fun a => match G a with
  | some o => some o
  | none => if a ∈ feet M then (match H a with
    | some (.lst ws) => some (.lst ws)
    | _ => none) else none
def nl (G : Hp) : Hp := fun a => match G a with
  | some (.lst _) => none
  | o => o
def LF (r : Rp) : Prop := ∀ v G, r.p v G → r.p v (nl G)
section
variable {B : Ba} {G H G2 H2 : Hp} {M : List Re} {W : WX} {Γ Γ' Γ1 : Ctx} {te ta tb tl : TE} {t : TT} {K : PySem.W.Frag} {κ : KV} {ε : KX} {r r0 : Rp} {rs rs0 : List Rp} {i j k n : Nat} {p C : Addr} {fs : FL} {vs : List Nat}
theorem bor_g : Ex G (bor G H M) := fun a o z => by
  unfold bor
  rw [z]
theorem bor_i (e : Ex G H) : Ex (bor G H M) H := fun a o z => by
  unfold bor at z
  cases q : G a with
  | some u =>
    rw [q] at z
    cases z
    exact e _ _ q
  | none =>
    rw [q] at z
    by_cases c : a ∈ feet M
    · rw [if_pos c] at z
      cases y : H a with
      | none => rw [y] at z; cases z
      | some u =>
        rw [y] at z
        cases u <;> first | (cases z; done) | (simp at z; rw [← z])
    · rw [if_neg c] at z
      cases z
theorem bor_no {a : Addr} (hg : G a = none) (hf : a ∉ feet M) : bor G H M a = none := by
  unfold bor
  rw [hg, if_neg hf]
theorem bor_l {a : Addr} {ws : List V} (hg : G a = none) (hf : a ∈ feet M) (h : H a = some (.lst ws)) : bor G H M a = some (.lst ws) := by
  unfold bor
  rw [hg, if_pos hf, h]
theorem bor_nl {a : Addr} (hg : G a = none) (h : ∀ ws, H a ≠ some (.lst ws)) : bor G H M a = none := by
  unfold bor
  rw [hg]
  by_cases c : a ∈ feet M
  · rw [if_pos c]
    cases y : H a with
    | none => rfl
    | some u => cases u <;> first | rfl | exact absurd y (h _)
  · rw [if_neg c]
theorem nl_at {a : Addr} {o : HO} (h : nl G a = some o) : G a = some o ∧ ∀ ws, o ≠ .lst ws := by
  unfold nl at h
  cases q : G a with
  | none => rw [q] at h; cases h
  | some u =>
    rw [q] at h
    cases u <;> first | (cases h; done) | (simp at h; subst h; exact ⟨rfl, fun ws e => by cases e⟩)
theorem Ok.bor (o : Ok B G H M) (g : Gr (bor G H M) H G2 H2) : ∃ G3, Gr G H G3 H2 ∧ Ex (nl G2) G3 := by
  refine ⟨fun a => if a ∈ feet M then none else G2 a, ⟨fun a u z => ?_, g.h, fun a u z => ?_, fun a u z t y => ?_⟩, fun a u z => ?_⟩
  · have c : a ∉ feet M := fun q => by rw [o.z a q] at z; cases z
    show (if a ∈ feet M then none else G2 a) = some u
    rw [if_neg c]
    exact g.g a u (bor_g a u z)
  · have z' : (if a ∈ feet M then none else G2 a) = some u := z
    by_cases c : a ∈ feet M
    · rw [if_pos c] at z'; cases z'
    · rw [if_neg c] at z'; exact g.i a u z'
  · show (if a ∈ feet M then none else G2 a) = none
    by_cases c : a ∈ feet M
    · rw [if_pos c]
    · rw [if_neg c]
      exact g.n a u z t (bor_no y c)
  · obtain ⟨z1, z2⟩ := nl_at z
    show (if a ∈ feet M then none else G2 a) = some u
    have c : a ∉ feet M := fun q => by
      have gz := o.z a q
      obtain ⟨R, hR, ha⟩ := List.mem_flatMap.mp q
      obtain ⟨w, hw, t⟩ := R.at_ (o.m R hR) a ha
      have hu := g.i a u z1
      rw [g.h a w hw] at hu
      cases hu
      have hb : Mu.bor G H M a = none := bor_nl gz fun ws e => z2 ws (by rw [hw] at e; exact Option.some.inj e)
      rw [g.n a _ hw t hb] at z1
      cases z1
    rw [if_neg c]
    exact z1
def BorR (M : List Re) (r0 r : Rp) : Prop := ∀ B G H, Ok B G H M → ∀ v, r0.p v G → r.p v (bor G H M)
def BorC (M : List Re) (Γ Γ' : Ctx) : Prop := ∀ B G H σ, Ok B G H M → En σ G Γ → En σ (bor G H M) Γ'
theorem br_same : BorR M r r := fun B G H o v h => r.mono bor_g h
theorem br_ra (h : Paired (BorR M) rs0 rs) : ∀ {B : Ba} {G H : Hp} {ws : List V}, Ok B G H M → RA G ws rs0 → RA (bor G H M) ws rs := by
  induction h with
  | nil => intro B G H ws o q; cases q; exact .nil
  | cons h t ih => intro B G H ws o q; cases q with | cons a b => exact .cons (h B G H o _ a) (ih o b)
theorem br_lst (hk : M[k]? = some (lstR p rs0)) (h : Paired (BorR M) rs0 rs) : BorR M (rV (.ref p)) (rL K rs) := fun B G H o v hv => by
  obtain rfl : v = V.ref p := hv
  have hm := List.mem_of_getElem? hk
  obtain ⟨ws, h1, h2⟩ := o.m _ hm
  have hf := mem_feet hm (List.mem_singleton.mpr rfl)
  exact ⟨p, ws, rfl, bor_l (o.z p hf) hf h1, br_ra h o h2⟩
theorem br_all : ∀ {rs : List Rp}, Paired (BorR M) rs rs
  | [] => .nil
  | _ :: _ => .cons br_same br_all
theorem br_lst1 (hk : M[k]? = some (lstR p rs)) : BorR M (rV (.ref p)) (rL K rs) := br_lst hk br_all
theorem bc_refl : BorC M Γ Γ := fun B G H σ o en => en.mono bor_g
theorem En.put {v : V} (q : r.p v G) : ∀ {σ : L2.St} {Γ : Ctx} {i : Nat}, En σ G Γ → σ[i]? = some (some v) → En σ G (Γ.set i (some r))
  | _, _, _, .nil, _ => .nil
  | _, _, 0, .cons _ t, e => .cons (fun x hx => ⟨v, by simpa using e, by cases hx; exact q⟩) t
  | _, _, i + 1, .cons h t, e => .cons h (En.put q t (by simpa using e))
theorem bc_set (h : BorC M Γ Γ1) (hi : Γ[i]? = some (some r0)) (hr : BorR M r0 r) : BorC M Γ (Γ1.set i (some r)) := fun B G H σ o en => by
  obtain ⟨v, h1, h2⟩ := en.get hi
  exact En.put (hr B G H o v h2) (h B G H σ o en) h1
theorem e_bor (hb : BorC M Γ Γ') (h : EvX Γ' te r) (lf : LF r) (kk : κ r M) : EW W Γ M te κ ε := fun B G H σ o en Q q x =>
  h σ _ (hb B G H σ o en) H (bor_i o.i) Q fun v G2 H2 g hv => by
    obtain ⟨G3, g3, e3⟩ := o.bor g
    exact q v G3 H2 r M kk (o.gr g3) g3.g (r.mono e3 (lf v G2 hv))
theorem lf_v {v : V} : LF (rV v) := fun _ _ h => h
end
section
variable {W : WX} {Γ : Ctx} {M : List Re} {te ta tb tl : TE} {K : PySem.W.Frag} {κ : KV} {ε : KX} {i j n : Nat} {vs : List Nat} {α : Type}
end
section
variable {B : Ba} {G H : Hp} {M M1 M2 : List Re} {W : WX} {Γ : Ctx} {te : TE} {t : TS} {κ : Kn} {ε : KX} {K : PySem.W.Frag} {rs rs0 : List Rp} {p : Addr}
theorem Ok.few (o : Ok B G H (M1 ++ M2)) : Ok B G H M1 where
  g := o.g
  l := o.l
  h := o.h
  i := o.i
  n := o.n
  k := o.k
  m := fun r hr => o.m r (List.mem_append_left _ hr)
  z := fun a ha => o.z a (by unfold feet at ha ⊢; rw [List.flatMap_append]; exact List.mem_append_left _ ha)
  d := by
    have h := o.d
    unfold feet at h ⊢
    rw [List.flatMap_append] at h
    exact (List.nodup_append.mp h).1
  f := fun r hr => o.f r (List.mem_append_left _ hr)
theorem w_few (M1 M2 : List Re) (h : WP W Γ M1 t κ) : WP W Γ (M1 ++ M2) t κ := fun B G H σ D o en d => h B G H σ D o.few en d
theorem EW.few {κ : KV} (h : EW W Γ M te (fun r M' => ∃ M1 M2, M' = M1 ++ M2 ∧ κ r M1) ε) : EW W Γ M te κ ε := fun B G H σ o en Q q x => h B G H σ o en Q (fun v G' H' r M' z o' e hv => by
  obtain ⟨M1, M2, rfl, k⟩ := z
  exact q v G' H' r M1 k o'.few e hv) x
end
end Mu

namespace Mu
open PySem PySem.Spec PyProof.Rows L2 Evl
theorem cf_app : ∀ (names : List (Str × NameKind)) (n : Nat) (acc : List (Str × Addr)), cellsFrom n names acc = cellsFrom n names [] ++ acc
  | [], _, _ => rfl
  | (x, k) :: r, n, acc => by
    unfold cellsFrom
    split
    · rw [cf_app r (n + 1) ((x, n) :: acc), cf_app r (n + 1) [(x, n)], List.append_assoc]; rfl
    · exact cf_app r n acc
theorem cf_mem : ∀ {names : List (Str × NameKind)} {n : Nat} {x : Str} {c : Addr}, (x, c) ∈ cellsFrom n names [] → (x, .cell) ∈ names
  | [], _, _, _, h => by cases h
  | (y, k) :: r, n, x, c, h => by
    unfold cellsFrom at h
    split at h
    · rename_i hk
      rw [cf_app] at h
      rcases List.mem_append.mp h with q | q
      · exact List.mem_cons_of_mem _ (cf_mem q)
      · simp only [List.mem_cons, List.not_mem_nil, or_false, Prod.mk.injEq] at q
        rw [q.1, beq_iff_eq.mp hk]
        exact List.mem_cons_self
    · exact List.mem_cons_of_mem _ (cf_mem h)
theorem lk_app {α : Type} {x : Str} : ∀ {l r : List (Str × α)}, (l ++ r).lookup x = match l.lookup x with
    | some c => some c
    | none => r.lookup x
  | [], _ => rfl
  | (y, c) :: l, r => by
    rw [List.cons_append, List.lookup_cons, List.lookup_cons]
    cases x == y with
    | true => rfl
    | false => exact lk_app
abbrev scEnv (name : Str) (scope : Scope) (L a : Addr) (cd : Value) (cc : Addr) : Env := PySem.W.envX name scope L a cd (cellsFrom (L + 1) scope.names [("__class__", cc)])
structure FsScopeC (N ps : List Str) (sc : Scope) : Prop where
  kind : sc.kind = .function
  co : sc.isCoroutine = false
  gen : sc.isGenerator = false
  nd : N.Nodup
  pre : N.take ps.length = ps
  par : ∀ x ∈ ps, sc.names.lookup x = some .local ∨ sc.names.lookup x = some .cell
  ncl : ∀ y ∈ sc.names, y.2 = .cell → y.1 ≠ ("__class__" : Str)
  free : ∀ y ∈ sc.names, y.2 = .free → y.1 = ("__class__" : Str)
  sup : sc.names.lookup ("super" : Str) = some .globalImplicit
  cls : sc.names.lookup ("__class__" : Str) = some .free
abbrev cxC (CX : CXT) (P : Program) (w : World) (K : PySem.W.Frag) (mg : Str → Option Value) (base : Heap) (N : List Str) (qual : Str) (scope : Scope) (f cda cc : Addr) (A : Around) (outer : List Env) (s : Shared) (H : Hp) (E : XK) : Cx where
  prog := P
  w := w
  K := K
  mg := mg
  base := base
  A := A.deeper (scEnv qual scope s.heap.objs.size f (.ref cda) cc)
  N := N
  s_0 := s
  H_0 := H
  env := scEnv qual scope s.heap.objs.size f (.ref cda) cc
  outer := outer
  stack := scEnv qual scope s.heap.objs.size f (.ref cda) cc :: outer
  ex := []
  calm := true
  fn := fun y => !(y == ("__class__" : Str))
  pn := []
  xe := fun e s' => wpAny (model P w) (A.deeper (scEnv qual scope s.heap.objs.size f (.ref cda) cc)) (leaving (scEnv qual scope s.heap.objs.size f (.ref cda) cc) e) (fun _ s'' => CX outer H s E e s'') (fun e' s'' => CX outer H s E e' s'') s'
theorem own_no {names : List (Str × NameKind)} {n : Nat} (h : ∀ y ∈ names, y.2 = .cell → y.1 ≠ ("__class__" : Str)) : (cellsFrom n names []).lookup ("__class__" : Str) = none := by
  cases q : (cellsFrom n names []).lookup ("__class__" : Str) with
  | none => rfl
  | some c => exact absurd rfl (h _ (cf_mem (PySem.mem_of_lookup q)) rfl)
theorem sc_cls {names : List (Str × NameKind)} {n : Nat} {cc : Addr} (h : ∀ y ∈ names, y.2 = .cell → y.1 ≠ ("__class__" : Str)) : (cellsFrom n names [(("__class__" : Str), cc)]).lookup ("__class__" : Str) = some cc := by
  rw [cf_app, lk_app, own_no h]
  simp [List.lookup]
theorem sc_split {names : List (Str × NameKind)} {n : Nat} {cc c : Addr} {x : Str} (h : (cellsFrom n names [(("__class__" : Str), cc)]).lookup x = some c) : (cellsFrom n names []).lookup x = some c ∨ (x = ("__class__" : Str) ∧ c = cc) := by
  rw [cf_app, lk_app] at h
  cases q : (cellsFrom n names []).lookup x with
  | some d => rw [q] at h; exact .inl h
  | none =>
    rw [q] at h
    have h' : List.lookup x [(("__class__" : Str), cc)] = some c := h
    rw [List.lookup_cons] at h'
    cases e : x == ("__class__" : Str) with
    | true => rw [e] at h'; exact .inr ⟨by simpa using e, (Option.some.inj h').symm⟩
    | false => rw [e] at h'; cases h'
theorem sc_own {names : List (Str × NameKind)} {n : Nat} {cc c : Addr} {x : Str} (h : (cellsFrom n names []).lookup x = some c) : (cellsFrom n names [(("__class__" : Str), cc)]).lookup x = some c := by
  rw [cf_app, lk_app, h]
section
variable {M : Model} {A : Around} {E : Value → Shared → Prop} {s₀ s : Shared} {m cm : Str → Option Value} {env : Env} {own : List (Str × Addr)}
theorem stLX {n : Str} {v : Value} {Q : Unit → Shared → Prop} (x : InCallC s₀ env.locals m own cm s) (hk : env.scope.kind = .function) (hl : env.kindOf n = some .local)
    (h : ∀ s', InCallC s₀ env.locals (fun y => if y = n then some v else m y) own cm s' → Q () s') : wpAny M A (storeName env n v) Q E s := by
  refine wpAny_storeName_local hl x.toInCall.ns (fun h' hn' hs' => h _ ⟨⟨?_, hn', fun b o e => ?_, x.toInCall.fresh⟩, fun k c hc => ?_, x.apart, x.above⟩) (by rw [hk]; rfl)
  · obtain ⟨h₁, tk, rfl⟩ := x.toInCall.same
    exact ⟨h', _, rfl⟩
  · exact hs'.extBut b o (Nat.ne_of_lt (Nat.lt_of_lt_of_le (Heap.lt_size e) x.toInCall.fresh)) (x.toInCall.keep b o e)
  · exact (x.cell k c hc).sameBut hs' (Nat.ne_of_gt (x.above k c (PySem.mem_of_lookup hc)))
theorem stCX {n : Str} {c : Addr} {v : Value} {Q : Unit → Shared → Prop} (x : InCallC s₀ env.locals m own cm s) (hk : env.scope.kind = .function) (hl : env.kindOf n = some .cell)
    (hc : own.lookup n = some c) (hc2 : env.cells.lookup n = some c)
    (h : ∀ s', InCallC s₀ env.locals m own (fun y => if y = n then some v else cm y) s' → Q () s') : wpAny M A (storeName env n v) Q E s := by
  have hLc := x.above n c (PySem.mem_of_lookup hc)
  refine wpAny_storeName_cell hk hl hc2 (x.cell n c hc) fun h' hc' hs' => h _ ⟨⟨?_, x.toInCall.ns.sameBut hs' (Nat.ne_of_lt hLc), fun b o e => ?_, x.toInCall.fresh⟩, fun k c' hk' => ?_, x.apart, x.above⟩
  · obtain ⟨h₁, tk, rfl⟩ := x.toInCall.same
    exact ⟨h', _, rfl⟩
  · exact hs'.extBut b o (Nat.ne_of_lt (Nat.lt_trans (Nat.lt_of_lt_of_le (Heap.lt_size e) x.toInCall.fresh) hLc)) (x.toInCall.keep b o e)
  · by_cases hkn : k = n
    · subst hkn
      rw [hc] at hk'; cases hk'
      simpa using hc'
    · rw [if_neg hkn]
      exact (x.cell k c' hk').sameBut hs' fun e => hkn (name_of_addr x.apart (PySem.mem_of_lookup hk') (e ▸ PySem.mem_of_lookup hc))
theorem bindParamsX (f : Str × Value → PUnit → Sem (ForInStep PUnit)) (hf : ∀ n v u, f (n, v) u = (do storeName env n v; pure (.yield ⟨⟩))) (hk : env.scope.kind = .function) (hown : ∀ n c, own.lookup n = some c → env.cells.lookup n = some c) :
    ∀ (binds : List (Str × Value)) (m cm : Str → Option Value) (s : Shared) (Q : PUnit → Shared → Prop), InCallC s₀ env.locals m own cm s →
      (∀ x ∈ binds, env.kindOf x.1 = some .local ∨ (env.kindOf x.1 = some .cell ∧ (own.lookup x.1).isSome = true)) →
      (∀ s', InCallC s₀ env.locals (bindL env.kindOf binds m) own (bindC env.kindOf binds cm) s' → Q ⟨⟩ s') → wpAny M A (forIn binds ⟨⟩ f) Q E s
  | [], m, cm, s, Q, x, _, h => by rw [List.forIn_nil]; exact wpAny_pure (h s x)
  | (n, v) :: r, m, cm, s, Q, x, hkind, h => by
    rw [List.forIn_cons, hf]
    have hr : ∀ y ∈ r, env.kindOf y.1 = some .local ∨ (env.kindOf y.1 = some .cell ∧ (own.lookup y.1).isSome = true) := fun y hy => hkind y (List.mem_cons_of_mem _ hy)
    rcases hkind (n, v) List.mem_cons_self with hl | ⟨hl, hc⟩
    · refine wpAny_bind (wpAny_bind (stLX x hk hl fun s' x' => wpAny_pure (bindParamsX f hf hk hown r _ _ s' Q x' hr fun s'' x'' => h s'' ?_)))
      unfold bindL bindC; rw [if_pos hl, if_pos hl]; exact x''
    · obtain ⟨c, hc⟩ := Option.isSome_iff_exists.mp hc
      have hnl : ¬ env.kindOf n = some .local := by rw [hl]; decide
      refine wpAny_bind (wpAny_bind (stCX x hk hl hc (hown _ _ hc) fun s' x' => wpAny_pure (bindParamsX f hf hk hown r _ _ s' Q x' hr fun s'' x'' => h s'' ?_)))
      unfold bindL bindC; rw [if_neg hnl, if_neg hnl]; exact x''
end
theorem newEnvX {M : Model} {A : Around} {E : Value → Shared → Prop} {s : Shared} {scope : Scope} {globals : Addr} {binds : List (Str × Value)} {qual : Str} {func : Option Addr} {code : Value} {builtins cc : Addr} {Q : Env → Shared → Prop}
    (hk : scope.kind = .function)
    (hkind : ∀ x ∈ binds, scope.names.lookup x.1 = some .local ∨ (scope.names.lookup x.1 = some .cell ∧ ((cellsFrom (s.heap.objs.size + 1) scope.names []).lookup x.1).isSome = true))
    (hQ : ∀ env, env = newEnv scope s.heap.objs.size globals (cellsFrom (s.heap.objs.size + 1) scope.names [(("__class__" : Str), cc)]) qual func code none builtins →
      ∀ s', InCallC s env.locals (bindL env.kindOf binds fun _ => none) (cellsFrom (s.heap.objs.size + 1) scope.names []) (bindC env.kindOf binds fun _ => none) s' → Q env s') :
    wpAny M A (newFunctionEnv scope globals [(("__class__" : Str), cc)] binds qual func code none builtins) Q E s := by
  simp only [newFunctionEnv, Option.isSome_none, Bool.false_eq_true, if_false]
  refine wpAny_bind (wpAny_alloc ?_)
  refine wpAny_bind (wpAny_layCells _ (fun name kind cells => by cases hkc : kind == NameKind.cell <;> simp [hkc]) _ _ _ _ ?_)
  have ok := cellsFrom_ok scope.names (s.heap.push { cls := .type "frame", data := .dict #[] }) (s.heap.objs.size + 1) [] ⟨fun _ _ hm => (nomatch hm), List.Pairwise.nil⟩ (by rw [Heap.size_push]; exact Nat.le_refl _)
  rw [Heap.size_push] at ok
  rw [show ({ s with heap := s.heap.push { cls := .type "frame", data := .dict #[] } } : Shared).heap.objs.size = s.heap.objs.size + 1 from Heap.size_push ..]
  refine wpAny_bind (bindParamsX (s₀ := s) (env := newEnv scope s.heap.objs.size globals (cellsFrom (s.heap.objs.size + 1) scope.names [(("__class__" : Str), cc)]) qual func code none builtins)
    (own := cellsFrom (s.heap.objs.size + 1) scope.names []) _ (fun _ _ _ => rfl) hk (fun n c h => sc_own h) binds (fun _ => none) (fun _ => none) _ _
    ⟨⟨⟨_, _, rfl⟩, (Heap.Ns.new s.heap (.type "frame")).keeps (pushCells_keeps _ _), fun b o e => pushCells_keeps _ _ b o (Heap.get?_push_of_some _ e), Nat.le_refl _⟩,
      fun n c hc => (ok.empty n c (PySem.mem_of_lookup hc)).1, ok.apart, fun n c hm => (ok.empty n c hm).2⟩
    hkind fun s' x => wpAny_pure (hQ _ rfl s' x))
theorem inv_startC {CX : CXT} {P : Program} {w : World} {K : PySem.W.Frag} {mg : Str → Option Value} {base : Heap} {N ps : List Str} {x qual : Str} {params : Arguments} {body : List Stmt} {scope : Scope} {file : Str} {D f : Addr} {fd : FuncData} {cda cc : Addr} {A : Around} {outer : List Env} {s s1 : Shared} {H : Hp} {E : XK} {us : List Value} {vs : List V}
    (F : FunS K x qual params body scope file D f fd cda cc) (S : FsScopeC N ps scope) (hd : A.handled = none) (e0 : Env0 P w K mg base A outer s H) (hl : vs.length = ps.length) (r : Vals vs us)
    (x : InCallC s s.heap.objs.size (bindL (scEnv qual scope s.heap.objs.size f (.ref cda) cc).kindOf (ps.zip us) fun _ => none) (cellsFrom (s.heap.objs.size + 1) scope.names []) (bindC (scEnv qual scope s.heap.objs.size f (.ref cda) cc).kindOf (ps.zip us) fun _ => none) s1) :
    Inv (cxC CX P w K mg base N qual scope f cda cc A outer s H E) [] (L2.start N vs) H s1 := by
  have hpl : ps.length ≤ N.length := by have := congrArg List.length S.pre; rw [List.length_take] at this; omega
  obtain ⟨cl, cld, csl, hcell⟩ := F.cell
  have hccb := e0.mod.kin _ _ hcell
  have hcc := e0.bs _ _ hccb
  have hlt : cc < s.heap.objs.size := Heap.lt_size hcc.1
  obtain ⟨h1, tk, rfl, hk⟩ := x.done
  have noA : ∀ b : Addr, b ∉ (cxC CX P w K mg base N qual scope f cda cc A outer s H E).ex := fun b z => absurd (show b ∈ ([] : List Addr) from z) (by simp)
  refine ⟨⟨e0.mod, S.kind, rfl, rfl, Nat.le_refl _, fun y z c h1 h2 => ?_, fun y hy => ?_, fun y c h h2 => ?_, fun _ => hd, Around.frames_deeper e0.frames, .inr ⟨rfl, rfl⟩, fun b z => absurd z (noA b), e0.bs, e0.bsz, fun b _ _ => noA b, fun b z => absurd z (noA b), e0.funs, e0.frf⟩,
    rfl, e0.bare, Un.kept hk, ⟨_, x.toInCall.ns, fun i y v h1 h2 h3 => ?_⟩, fun y c h => ?_, e0.hok.fresh (Nat.le_refl _), fun y c h => ?_, fun p hp => absurd (show p ∈ ([] : List (Addr × Obj)) from hp) (by simp), e0.hok.kept hk, ?_⟩
  · rcases sc_split h1 with q1 | ⟨q1, q2⟩ <;> rcases sc_split h2 with r1 | ⟨r1, r2⟩
    · exact name_of_addr x.apart (PySem.mem_of_lookup q1) (PySem.mem_of_lookup r1)
    · have h3 := x.above y c (PySem.mem_of_lookup q1)
      rw [r2] at h3
      exact absurd (Nat.lt_trans h3 hlt) (Nat.lt_irrefl _)
    · have h3 := x.above z c (PySem.mem_of_lookup r1)
      rw [q2] at h3
      exact absurd (Nat.lt_trans h3 hlt) (Nat.lt_irrefl _)
    · rw [q1, r1]
  · have hy : scope.names.lookup y = some .cell ∨ scope.names.lookup y = some .free := hy
    rcases hy with hy | hy
    · obtain ⟨c, e⟩ := cell_has (n := s.heap.objs.size + 1) hy
      exact ⟨c, sc_own e⟩
    · have e := S.free _ (PySem.mem_of_lookup hy) rfl
      have e' : y = ("__class__" : Str) := e
      subst e'
      exact ⟨cc, sc_cls S.ncl⟩
  · rcases sc_split h2 with q1 | ⟨q1, q2⟩
    · exact Nat.le_of_lt (x.above y c (PySem.mem_of_lookup q1))
    · subst q1
      exact absurd (show (!(("__class__" : Str) == ("__class__" : Str))) = true from h) (by simp)
  · have hi : i < vs.length := by
      unfold L2.start at h2
      by_cases hi : i < vs.length
      · exact hi
      · rw [List.getElem?_append_right (by simpa using hi)] at h2
        rw [List.getElem?_replicate] at h2
        split at h2 <;> cases h2
    have ha : vs[i]? = some v := by
      unfold L2.start at h2
      rw [List.getElem?_append_left (by simpa using hi), List.getElem?_map] at h2
      cases e : vs[i]? with
      | none => rw [e] at h2; cases h2
      | some a => rw [e] at h2; cases h2; rfl
    obtain ⟨u, hu, rv⟩ := r.get ha
    have hp : ps[i]? = some y := by
      rw [← S.pre, List.getElem?_take_of_lt (by omega)]; exact h1
    have ndP : ps.Nodup := by rw [← S.pre]; exact S.nd.sublist (List.take_sublist _ _)
    refine ⟨u, rv, ?_⟩
    rcases S.par y (List.mem_of_getElem? hp) with k | k
    · exact .inl ⟨k, bindL_get ndP hp hu k⟩
    · obtain ⟨c, e⟩ := cell_has (n := s.heap.objs.size + 1) k
      refine .inr ⟨.inl k, c, sc_own e, ?_⟩
      have q := x.cell y c e
      rw [bindC_get ndP hp hu (by show scope.names.lookup y ≠ _; rw [k]; decide)] at q
      exact q
  · rcases sc_split h with q1 | ⟨q1, q2⟩
    · exact ⟨_, x.cell y c q1⟩
    · rw [q2]
      exact ⟨_, _, hk _ _ hcc.1, rfl⟩
  · rcases sc_split h with q1 | ⟨q1, q2⟩
    · exact e0.hok.fresh (Nat.le_of_lt (x.above y c (PySem.mem_of_lookup q1)))
    · rw [q2]; exact hcc.2
  · unfold L2.start
    show _ = N.length
    rw [List.length_append, List.length_map, List.length_replicate]
    omega
theorem FunS.okC {P : Program} {w : World} {K : PySem.W.Frag} {mg : Str → Option Value} {base : Heap} {x qual : Str} {params : Arguments} {body : List Stmt} {scope : Scope} {file : Str} {D f : Addr} {fd : FuncData} {cda cc : Addr} {CX : CXT} {N ps : List Str} {k : Nat} {sp : Sp}
    (F : FunS K x qual params body scope file D f fd cda cc) (S : FsScopeC N ps scope) (len : ∀ vs H Q E, sp vs H Q E → vs.length = ps.length)
    (hbody : ∀ (A : Around) (outer : List Env) (s : Shared) (H : Hp) (vs : List V) (Q : VK) (E : XK), Room k (A.deeper (scEnv qual scope s.heap.objs.size f (.ref cda) cc)) → sp vs H Q E →
      ∃ t, PSA (cxC CX P w K mg base N qual scope f cda cc A outer s H E) body body t ∧ t { nx := fun _ H' => Q .non H', rt := Q } (L2.start N vs) H) : FnOk P w K mg base CX (k + 1) f fd ps sp := by
  obtain ⟨oc, od, kV, doc, pm, an, ct, osl, rfl, lk⟩ := id F.fn
  refine ⟨len, fun A outer s H args us vs Q E hr e0 hb r hsp => ?_⟩
  have hl := len _ _ _ _ hsp
  have KX : K.In s.heap := e0.mod.kin.keeps fun b o e => (e0.bs b o e).1
  have lim : s.heap.NoLimit := e0.mod.nolimit.keeps fun b o e => (e0.bs b o e).1
  have hkind : ∀ y ∈ ps.zip us, scope.names.lookup y.1 = some .local ∨ (scope.names.lookup y.1 = some .cell ∧ ((cellsFrom (s.heap.objs.size + 1) scope.names []).lookup y.1).isSome = true) := fun ⟨n, v⟩ hy => by
    rcases S.par n (List.of_mem_zip hy).1 with q | q
    · exact .inl q
    · exact .inr ⟨q, PySem.W.cellsFrom_some _ _ _ (.inl q)⟩
  refine codeAny_call_function (fd := PySem.W.ksFn x qual params body scope .none kV doc pm an (.ref cda) ct cc) (body := body) hr.depth (KX _ _ lk) rfl S.co S.gen rfl (PySem.W.codeRec_of KX F.co) (hb _ _ _ _ ?_)
  refine newEnvX S.kind hkind fun env he s1 x1 => ?_
  subst he
  refine ⟨lim.keeps x1.toInCall.keep, ks_codeAny_funcAt ?_⟩
  obtain ⟨t, ht, hq⟩ := hbody A outer s H vs Q E (hr.deeper _) hsp
  have I := inv_startC (CX := CX) (E := E) F S hr.hd e0 hl r x1
  refine _root_.PySem.wpAt_mono (ht.run [] _ (L2.start N vs) H _ I hq) (fun fl s' hs => ?_) fun e s' hs => hs
  have fin : ∀ {σ' : L2.St} {H' : Hp} {v : V} {u : Value}, Inv (cxC CX P w K mg base N qual scope f cda cc A outer s H E) [] σ' H' s' → RelV v u → Q v H' → CE outer P w H s Q u s' :=
    fun {σ' H' v u} J rv q => ⟨v, H', J.os, J.bare, J.base, J.hok, rv, q⟩
  cases fl with
  | ret u =>
    obtain ⟨v, σ', H', J, rv, q⟩ := hs
    exact fin J rv q
  | next =>
    obtain ⟨σ', H', J, q⟩ := hs
    exact fin (v := V.non) (u := Value.none) J rfl q
  | brk =>
    obtain ⟨_, _, _, q⟩ := hs
    exact False.elim q
  | cont =>
    obtain ⟨_, _, _, q⟩ := hs
    exact False.elim q
theorem psa_setC {X : Cx} {fb rest : List Stmt} {e : Expr} {te : TE} {u : TS} {pos : Pos} {x : Str} {p' : Pos} {i : Nat} (hN : X.N.Nodup) (hi : X.N[i]? = some x) (hl : Loc X.env.scope x) (hf : X.fn x = true ∨ X.env.scope.names.lookup x = some .local) (h1 : PEA X fb e te) (h2 : PSs X rest u) (hs : swapsWith e (some (.Name x p')) pos.line X.env = pure false := by rfl) : PSA X fb (.Assign [.Name x p'] e pos :: rest) (tSeq (tAsg te (gName i)) u) := by
  refine ⟨fun pins s σ H D I h => ?_⟩
  refine ks_wpAt_execs_cons (ks_wpAt_Assign_Name (_root_.PySem.wpAt_mono (h1.run pins s σ H _ I h) (fun v s' ⟨y, H', I', r, q⟩ => ?_) fun _ _ z => z) hs)
  refine store_ok (v := y) I' hN hi hl r (fun s2 I2 => ?_) hf
  exact _root_.PySem.wpAt_of_wpAny (h2.run pins s2 _ H' D I2 q)
section
variable {CX CX2 : CXT} {P : Program} {w : World} {K : PySem.W.Frag} {mg : Str → Option Value} {base : Heap} {N ps ps2 : List Str} {x qual : Str} {params : Arguments} {body : List Stmt} {scope : Scope} {file : Str} {D f f2 : Addr} {fd fd2 : FuncData} {cda cc : Addr} {A : Around} {outer : List Env} {s0 : Shared} {H0 : Hp} {E0 : XK}
  {pins : List (Addr × Obj)} {σ : L2.St} {H : Hp} {s : Shared} {fb : List Stmt} {E : Value → Shared → Prop} {k2 : Nat} {sp2 : Sp} {m : Str}
theorem sup_baseC {p0 p1 : Pos} {attr : Str} {whole : Sem Value} {a C : Addr} {ox : Obj} {Q : Value → Shared → Prop} {self : Str} (F : FunS K x qual params body scope file D f fd cda cc) (S : FsScopeC N ps scope) (pf : PF P file) (hm : mg "super" = none)
    (hp : (params.posonlyargs ++ params.args).head?.map (·.arg) = some self) (hN : N[0]? = some self) (hself : scope.names.lookup self = some .local) (hat : (attr == ("__class__" : Str)) = false)
    (I : Inv (cxC CX P w K mg base N qual scope f cda cc A outer s0 H0 E0) pins σ H s) (hσ : σ[0]? = some (some (.ref a))) (hx : s.heap.get? a = some ox) (hxc : ox.cls = .ref C) (hnc : ∀ c, ox.data ≠ .cls c) (hsub : PySem.W.mroIn K C (.ref D) = some true)
    (h : ∀ h', h'.get? s.heap.objs.size = some { cls := .type "super", dict := none, data := .fields #[.ref D, .ref a, .ref C], slots := #[] } → (∀ y o, s.heap.get? y = some o → h'.get? y = some o) → Q (.ref s.heap.objs.size) { s with heap := h' }) :
    _root_.PySem.wpAt (model P w) (A.deeper (scEnv qual scope s0.heap.objs.size f (.ref cda) cc)) (.func fb (scEnv qual scope s0.heap.objs.size f (.ref cda) cc)) (attributeBase (.Call (.Name "super" p0) [] [] p1) attr (scEnv qual scope s0.heap.objs.size f (.ref cda) cc) whole) Q E s := by
  obtain ⟨oc, od, kV, doc, pm, an, ct, osl, rfl, lk⟩ := F.fn
  obtain ⟨cl, cld, csl, hcell⟩ := F.cell
  obtain ⟨ccl, cdd, vs, ccs, tf, hcode, hvs⟩ := F.code
  obtain ⟨cdD, hD⟩ := Option.isSome_iff_exists.mp F.cls
  have kin : K.In s.heap := I.kIn
  obtain ⟨ar, har, hara⟩ : ∃ ar, (params.posonlyargs ++ params.args).head? = some ar ∧ ar.arg = self := by
    cases q : (params.posonlyargs ++ params.args).head? with
    | none => rw [q] at hp; cases hp
    | some ar => rw [q] at hp; exact ⟨ar, rfl, Option.some.inj hp⟩
  obtain ⟨oD, hD1, hD2⟩ : ∃ oD, s.heap.get? D = some oD ∧ oD.data = .cls cdD := by
    unfold PySem.W.clsIn at hD
    split at hD
    · rename_i c d cd' sl ho
      cases hD
      exact ⟨_, kin _ _ ho, rfl⟩
    · cases hD
  refine ks_wpAt_super_base (env := scEnv qual scope s0.heap.objs.size f (.ref cda) cc) S.sup S.cls hat rfl (kin _ _ lk) rfl har rfl (kin _ _ hcode) rfl hvs pf.file pf.top ?_
  obtain ⟨mb, b1, b2⟩ := I.mod.blt
  refine PySem.W.ks_loadName_global S.kind S.sup (Calls.loadGlobal_builtin (env := scEnv qual scope s0.heap.objs.size f (.ref cda) cc) (I.mod.glob.keeps I.bk) hm (b1.keeps I.bk) ((b2 _ (by decide +kernel)).trans (show bootBuiltins ("super" : Str) = some (.type "super") by decide +kernel)) ⟨rfl, ?_⟩)
  refine wpAny_loadName_free S.kind S.cls (sc_cls S.ncl) ⟨_, kin _ _ hcell, rfl⟩ ?_
  obtain ⟨m, hns, hlk⟩ := I.loc
  obtain ⟨u, ru, look⟩ := hlk 0 self (.ref a) hN hσ (.inl hself)
  obtain rfl : u = Value.ref a := ru
  have hmv : m ar.arg = some (.ref a) := by
    rw [hara]
    rcases look with ⟨_, q⟩ | ⟨q | q, _⟩
    · exact q
    · have q' : scope.names.lookup self = some .cell := q
      rw [hself] at q'; cases q'
    · have q' : scope.names.lookup self = some .free := q
      rw [hself] at q'; cases q'
  refine wpAny_loadName_local S.kind (show scope.names.lookup ar.arg = some .local by rw [hara]; exact hself) hns hmv ?_
  obtain ⟨hh, g, d, t, os⟩ := s
  refine ks_wpAny_isType_cls hD1 hD2 ⟨rfl, ?_⟩
  exact ks_wpAny_call_super hD1 hD2 hx hxc hnc (PySem.W.looks_mroIn kin hsub) fun h' e k => h h' e k
theorem pea_supMethC {p0 p1 p2 pos : Pos} {e : Expr} {es : List Expr} {ta : TA} {self : Str} {pl : Sem Bool} {E : L2.St → XK} (F : FunS K x qual params body scope file D f fd cda cc) (S : FsScopeC N ps scope) (pf : PF P file) (hm : mg "super" = none)
    (hp : (params.posonlyargs ++ params.args).head?.map (·.arg) = some self) (hN : N[0]? = some self) (hself : scope.names.lookup self = some .local)
    (hl2 : ∃ oc od osl, K.lookup f2 = some ⟨oc, od, .func fd2, osl⟩) (ht2 : PySem.W.typeIn K (.ref f2) = some (.type "function"))
    (F2 : FnOk P w K mg base CX2 k2 f2 fd2 ps2 sp2) (hr : Room k2 (A.deeper (scEnv qual scope s0.heap.objs.size f (.ref cda) cc))) (hb : Binds K fd2 ps2 []) (hx : ∀ σ, PassesAt CX2 (cxC CX P w K mg base N qual scope f cda cc A outer s0 H0 E0) σ (E σ))
    (ha : PA (cxC CX P w K mg base N qual scope f cda cc A outer s0 H0 E0) (e :: es) ta) (hat : (m == ("__class__" : Str)) = false)
    (hev : eval (.Call (.Attribute (.Call (.Name "super" p0) [] [] p1) m p2) (e :: es) [] pos) (scEnv qual scope s0.heap.objs.size f (.ref cda) cc) = (do
      let ov ← attributeBase (.Call (.Name "super" p0) [] [] p1) m (scEnv qual scope s0.heap.objs.size f (.ref cda) cc) (eval (.Call (.Name "super" p0) [] [] p1) (scEnv qual scope s0.heap.objs.size f (.ref cda) cc))
      standAt p2.atName
      let (fn1, first) ← holding [ov] (getMethod ov m pl)
      callWith pos fn1 first (backTo pos (starEach (e :: es) (scEnv qual scope s0.heap.objs.size f (.ref cda) cc))) []) := by rfl)
    (he : starEach (e :: es) (scEnv qual scope s0.heap.objs.size f (.ref cda) cc) = (false, eval e (scEnv qual scope s0.heap.objs.size f (.ref cda) cc)) :: starEach es (scEnv qual scope s0.heap.objs.size f (.ref cda) cc) := by rfl) (hpl : (backTo pos (starEach es (scEnv qual scope s0.heap.objs.size f (.ref cda) cc))).any (·.1) = false := by rfl) :
    PEA (cxC CX P w K mg base N qual scope f cda cc A outer s0 H0 E0) fb (.Call (.Attribute (.Call (.Name "super" p0) [] [] p1) m p2) (e :: es) [] pos) (tSup K D m f2 sp2 E ta) := by
  refine ⟨fun pins s σ H Q I h => ?_⟩
  obtain ⟨a, C, dx, fs, hσ, hH, hsub, hsup, h⟩ := h
  obtain ⟨mA, J, _⟩ := ins_get I.hok hH
  obtain ⟨od, J, _⟩ := J.look
  refine ks_wpAt_MethodCall (sup_baseC F S pf hm hp hN hself hat I hσ J.at_ J.cls (fun c z => ?_) hsub fun h' hso k => ?_) hev
  · have := J.no
    unfold PySem.W.notCls at this
    rw [z] at this
    exact Bool.noConfusion this
  have I1 := I.kept (h' := h') (t' := s.toks) k
  have kin : K.In h' := I1.kIn
  obtain ⟨mA1, J1, _⟩ := ins_get I1.hok hH
  obtain ⟨od1, J1, _⟩ := J1.look
  obtain ⟨oc2, od2, osl2, lk2⟩ := hl2
  have hof := kin _ _ lk2
  have hofc : oc2 = .type "function" := by
    have ht' : (K.lookup f2).map (·.cls) = some (.type "function") := ht2
    rw [lk2] at ht'
    exact Option.some.inj ht'
  cases hc : PySem.W.clsIn K C with
  | none => unfold PySem.W.ks_superIn at hsup; rw [hc] at hsup; cases hsup
  | some cd =>
    unfold PySem.W.ks_superIn at hsup
    rw [hc] at hsup
    obtain ⟨hh, g, d, tk, os⟩ := s
    have I1' : Inv (cxC CX P w K mg base N qual scope f cda cc A outer s0 H0 E0) pins σ H ⟨h', g, d, tk, os⟩ := I1
    refine ks_wpAny_getMethod_super hso (PySem.W.looks_opaque kin F.op) (l₀ := cd.mro) ?_ rfl kin hsup hof hofc (PySem.W.ks_ne kin J1 hc) hat ?_
    · exact fun A Q E s k q => wpAny_bind ((PySem.W.looks_clsIn kin hc) A _ E s k (wpAny_pure q))
    have I2 := I1'.kept (h' := h'.push { cls := .type "method", data := .fields #[.ref f2, .ref a] }) (t' := tk + 1) fun b o z => Heap.get?_push_of_some _ z
    have hq0 : (h'.push { cls := .type "method", data := .fields #[.ref f2, .ref a] }).get? h'.objs.size = some { cls := .type "method", data := .fields #[.ref f2, .ref a] } := Heap.get?_push_at rfl rfl
    have I3 := Inv.pin1 I2 hq0 (.inr trivial) (I1'.hok.fresh (Nat.le_refl _)) (Ne.symm (Nat.ne_of_lt I1'.lt)) (I1'.nofs (Nat.le_refl _)) (fun v z => nomatch z)
    show wpAny _ _ (callWith pos (.ref h'.objs.size) [] (backTo pos (starEach (e :: es) _)) []) _ _ _
    rw [he]
    refine callWith_bound (f2 := f2) (a := a) (by show (false || (backTo pos (starEach es _)).any (·.1)) = false; rw [hpl]; rfl) ?_
    have ra := ha.run pos _ _ σ H _ I3 h
    rw [he] at ra
    refine PySem.Calls.evalArgs_plain (thn ra fun us s3 ⟨vs, H3, J3, rv, q⟩ => ?_)
    obtain ⟨hu, _⟩ := J3.pin (h'.objs.size, { cls := .type "method", data := .fields #[.ref f2, .ref a] }) (List.mem_append_right _ List.mem_cons_self)
    refine ⟨hu, ⟨_, _, J3.kIn _ _ lk2, rfl⟩, ?_⟩
    have r2 : Vals (V.ref a :: vs) (Value.ref a :: us) := .cons rfl rv
    have hl : (Value.ref a :: us ++ []).length = ps2.length := by
      rw [List.append_nil, ← r2.length]
      exact F2.len _ _ _ _ q
    have b2 := hb s3 (Value.ref a :: us) J3.kIn hl
    rw [List.append_nil] at b2
    refine wpAny_call (ks_codeAny_call_bound hu (codeAny_mono (F2.run _ _ s3 H3 ⟨Value.ref a :: us, []⟩ (Value.ref a :: us) (V.ref a :: vs) Q (E σ) hr J3.env0 b2 r2 q) fun r s' hq => ?_))
    cases r with
    | error er => exact hx σ _ H3 s3 er s' J3 hq
    | ok fl =>
      cases fl with
      | ret u =>
        obtain ⟨v, H', I', rv', q'⟩ := J3.after hq
        exact ⟨v, H', I'.pins_of fun p hp => I'.pin p (List.mem_append_right _ (List.mem_cons_of_mem _ hp)), rv', q'⟩
      | next => exact False.elim hq
      | brk => exact False.elim hq
      | cont => exact False.elim hq
end
theorem e_sup {W : WX} {Γ : Ctx} {M : List Re} {K : PySem.W.Frag} {C D f2 : Addr} {m : Str} {sp : Sp} {ta : TA} {κ : KV} {ε : KX} {fs : FL} (h0 : Γ[0]? = some (some (rIns C fs))) (hm : SupF K C D m f2)
    (h : EA W Γ M ta (fun rs M1 => XM sp (rIns C fs :: rs) M1 κ ε) ε) : EW W Γ M (tSup K D m f2 sp (WE W) ta) κ ε := fun B G H σ o en Q q x => by
  obtain ⟨u, hu1, hu2⟩ := en.get h0
  obtain ⟨a, dx, ws, rfl, h2, h3⟩ := id hu2
  refine ⟨a, C, dx, ws, hu1, o.i _ _ h2, hm.mro, hm.sup, h B G H σ o en _ (fun vs G1 H1 rs M1 z o1 e1 ra => ?_) x⟩
  exact z B G1 H1 _ W σ o1 (.cons ((rIns C fs).mono e1 hu2) ra) Q (q.up e1) (x.up e1)
end Mu

namespace Mu
open PySem PySem.Spec PyProof.Rows L2 He Evl
def spC (R : List V → Hp → List Re → KV → KX → Prop) : Sp := fun vs H Q E => ∃ B G M κ ε, Ok B G H M ∧ R vs G M κ ε ∧ Go B G κ Q ∧ ∀ cls fs d G' H' M', ε cls fs M' → Ok B G' H' M' → Ex G G' → XdOk G' fs d → E cls d H'
section
variable {W : WX} {Γ : Ctx} {M : List Re} {rs : List Rp} {K : PySem.W.Frag} {κ : KV} {ε : KX} {R : List V → Hp → List Re → KV → KX → Prop}
theorem xmC (h : ∀ vs G, RA G vs rs → R vs G M κ ε) : XM (spC R) rs M κ ε := fun B G H vs W σ o ra Q q x =>
  ⟨B, G, M, κ, ε, o, h vs G ra, q, fun cls fs d G' H' M' z o' e xd => x cls fs d G' H' M' z o' e xd⟩
theorem spC_E : ∀ vs H Q E', spC R vs H Q E' → ∀ E2 : XK, (∀ c d H', E' c d H' → E2 c d H') → spC R vs H Q E2 := fun vs H Q E' h E2 hi => by
  obtain ⟨B, G, M, κ, ε, h1, h2, h3, h4⟩ := h
  exact ⟨B, G, M, κ, ε, h1, h2, h3, fun cls xs d G2 H2 M' z o e x => hi _ _ _ (h4 cls xs d G2 H2 M' z o e x)⟩
theorem cmC (h : ∀ vs G, RA G vs rs → R vs G M κ (fun _ _ _ => False)) : CM (spC R) rs M κ := cmo_ (xmC h) spC_E
theorem run_C {t : TS} {B : Ba} {G H : Hp} {σ : L2.St} {Q : VK} {E : XK} (w : WP (fun cls d _ H => E cls d H) Γ M t { nx := fun _ M' => κ (rV .non) M', rt := κ, ex := fun _ cls fs M' => ε cls fs M' }) (o : Ok B G H M) (en : En σ G Γ) (k1 : Go B G κ Q) (k2 : ∀ cls fs d G' H' M', ε cls fs M' → Ok B G' H' M' → Ex G G' → XdOk G' fs d → E cls d H') : t { nx := fun _ H' => Q .non H', rt := Q } σ H := by
  refine w (B.low G) G H σ _ (o.low (Ex.refl _)) en ⟨fun σ' G' H' Γ' M' o' en' z => k1 .non G' H' (rV .non) M' z (o'.up o.l) o'.l rfl, fun v G' H' r M' o' hv z => k1 v G' H' r M' z (o'.up o.l) o'.l hv, fun _ _ _ _ _ _ _ z => z.elim, fun _ _ _ _ _ _ _ z => z.elim, fun σ' G' H' Γ' M' cls d fs o' en' xd z => k2 cls fs d G' H' M' z (o'.up o.l) o'.l xd⟩
end
def tPropD (K : PySem.W.Frag) (f : Str) (g : Addr) (sp : Sp) (E : XK) (ta : TE) : TE := fun σ H Q => ta σ H fun x H1 => ∃ a C dx fs, x = .ref a ∧ H1 a = some (.ins C dx fs) ∧ Cls K C ∧ PropG K C f g ∧ sp [.ref a] H1 Q E
theorem pe_propD {X : Cx} {CX : CXT} {k : Nat} {g : Addr} {f : Str} {fd : FuncData} {ps : List Str} {sp : Sp} {E : XK} {e : Expr} {pos : Pos} {ta : TE} (he : PE X e ta) (K : PySem.W.Frag) (F : FnOk X.prog X.w X.K X.mg X.base CX k g fd ps sp) (hr : Room (k + 1) X.A) (hb : Binds X.K fd ps []) (hx : Passes CX X.nox E) (hK : X.K = K := by rfl)
    (hab : attributeBase e f X.env (eval e X.env) = eval e X.env := by rfl) : PE X (.Attribute e f pos) (tPropD K f g sp E ta) := by
  subst hK
  refine ⟨fun pins s σ H Q I h => ?_⟩
  refine attr_of hab (thn (he.run pins s σ H _ I h) fun u s1 ⟨x, H1, I1, rx, a, C, dx, fs, ex, ea, c, hp, q⟩ => ?_)
  subst ex
  obtain rfl : u = Value.ref a := rx
  obtain ⟨p, hp⟩ := hp
  exact getprop_ok I1 ea c hp F hr hb .nil hx q
theorem e_propD {W : WX} {Γ : Ctx} {M : List Re} {te : TE} {f : Str} {g : Addr} {K : PySem.W.Frag} {sp : Sp} {E : XK} {κ : KV} {ε : KX} (h : EW W Γ M te (fun r0 M0 => (∃ C, Cls K C ∧ PropG K C f g ∧ ∀ v G, r0.p v G → ∃ a dx fs, v = .ref a ∧ G a = some (.ins C dx fs)) ∧ CM sp [r0] M0 κ) ε) : EW W Γ M (tPropD K f g sp E te) κ ε := fun B G H σ o en Q q x =>
  h B G H σ o en _ (fun v0 G0 H0 r0 M0 h0 o0 e0 hv0 => by
    obtain ⟨⟨C, c1, c2, hi⟩, h1⟩ := h0
    obtain ⟨a, dx, fs, rfl, h2⟩ := hi _ _ hv0
    exact ⟨a, C, dx, fs, rfl, o0.i _ _ h2, c1, c2, h1 E B G0 H0 [.ref a] o0 (.cons hv0 .nil) Q (q.up e0)⟩) x
section
variable {K : PySem.W.Frag} {C D : Addr} {H G : Hp} {fs : FL} {Γ : Ctx} {te ta tb : TE} {tt : TT} {r : Rp} {W : WX} {M : List Re} {κ : KV} {ε : KX} {rs : List Rp} {p : Addr} {k : Nat}
theorem ty_ins (c : IsC K C) {v : V} (h : (rIns C fs).p v H) : TyX K H v (.ref C) := by
  obtain ⟨a, dx, ws, rfl, h2, _⟩ := h
  exact .base (.ins h2 c.c c.a c.g c.t c.m)
theorem x_isIns {b : Bool} (c : IsC K C) (hk : PySem.W.kitOne K (.ref C) (.ref D) = some b) (h : EvX Γ te (rIns C fs)) : EvX Γ (tCB (rIsi K) (tCons te (tCons (tC (.ref D)) tNil))) (rB b) := fun σ G en => Ev.d (ev_isi (h σ G en) (.own _) fun v H hv => ⟨_, ty_ins c hv, hk⟩)
theorem am_listOwn (k : Nat) (hk : M[k]? = some (lstR p rs)) (kk : κ (rL K rs) M) : AM (rListS K) [rV (.ref p)] M κ := fun B G H vs o ra Q q => by
  obtain ⟨x, rfl, hx⟩ := ra1 ra
  obtain rfl : x = V.ref p := hx
  obtain ⟨ws, h1, h2⟩ := o.m _ (List.mem_of_getElem? hk)
  refine ⟨p, ws, rfl, .inl (sq_of h1), fun l hl => ?_⟩
  have g := Gr.new (o := .lst ws) o.i hl
  exact q _ _ _ (rL K rs) M kk (o.gr g) g.g ⟨l, ws, rfl, upd_same, h2.mono g.g⟩
end
theorem x_lenLm' {Γ : Ctx} {te : TE} {K : PySem.W.Frag} {rs : List Rp} (h : EvX Γ te (rL K rs)) : EvX Γ (tCB (rLenS K) (tCons te tNil)) (nI rs.length) := x_lenL h
mutual
theorem eqv_refl : ∀ d : PyData, d.canLay0 = true → PyData.eqv d d = true
  | .none, _ => by simp [PyData.eqv]
  | .bool b, _ => by simp [PyData.eqv]
  | .int i, _ => by simp [PyData.eqv]
  | .str s, _ => by simp [PyData.eqv]
  | .list xs, h => by
    unfold PyData.canLay0 at h
    rw [PyData.eqv]
    exact eqvAll_refl xs h
  | .tuple xs, h => by
    unfold PyData.canLay0 at h
    rw [PyData.eqv]
    exact eqvAll_refl xs h
  | .dict _, h => by
    unfold PyData.canLay0 at h
    cases h
theorem eqvAll_refl : ∀ ds : List PyData, PyData.canLayAll0 ds = true → PyData.eqvAll ds ds = true
  | [], _ => by simp [PyData.eqvAll]
  | d :: ds, h => by
    unfold PyData.canLayAll0 at h
    obtain ⟨h1, h2⟩ := Bool.and_eq_true_iff.mp h
    rw [PyData.eqvAll, eqv_refl d h1, eqvAll_refl ds h2]; rfl
end
structure Dt (K : PySem.W.Frag) (k : Nat) (r : Rp) (d : PyData) : Prop where
  as : AsD K r d
  sh : Sh k d
section
variable {K : PySem.W.Frag} {k j : Nat} {r : Rp} {d d1 d2 : PyData} {rs : List Rp} {ds : List PyData} {α : Type} {ρ : α → Rp} {δ : α → PyData} {Γ : Ctx} {ta tb : TE}
theorem dt_s {s : Str} (h : (PyData.str s).canLay0 = true) : Dt K 1 (rS s) (.str s) := ⟨asd_str s, h, by unfold PyData.depth; omega⟩
theorem dt_l (h : ∀ a, Dt K k (ρ a) (δ a)) (l : List α) : Dt K (k + 1) (rL K (l.map ρ)) (.list (l.map δ)) := ⟨asd_list (fun a => (h a).as) l, sh_list (fun a => (h a).sh) l⟩
theorem x_eqS (a1 : Dt K k r d) (hk : k ≤ 64) (ha : EvX Γ ta r) (hb : EvX Γ tb r) : EvX Γ (tOp (rEqD K) ta tb) (rB true) := x_is (x_eqD ha hb a1.as a1.as (a1.sh.ok hk) (a1.sh.ok hk)) (by rw [eqv_refl d a1.sh.1])
theorem x_neS (a1 : Dt K k r d) (hk : k ≤ 64) (ha : EvX Γ ta r) (hb : EvX Γ tb r) : EvX Γ (tOp (rNeD K) ta tb) (rB false) := x_is (x_neD ha hb a1.as a1.as (a1.sh.ok hk) (a1.sh.ok hk)) (by rw [eqv_refl d a1.sh.1]; rfl)
end
end Mu

namespace Mu
open PySem PySem.Spec PyProof.Rows L2 He Evl
structure Itm {β : Type} (G1 : Hp) (J : It) (l : List β) (ρ : β → Rp) : Prop where
  goes : ∀ i H, i < l.length → Ex G1 H → J.go i H
  stops : ∀ H, Ex G1 H → J.stop l.length H
  yld : ∀ i H x H', i < l.length → Ex G1 H → J.yld i H x H' → H' = H ∧ ∀ a, l[i]? = some a → (ρ a).p x G1
def IX {β : Type} (Γ : Ctx) (ti : TI) (l : List β) (ρ : β → Rp) : Prop := ∀ σ G, En σ G Γ → ∀ H, Ex G H → ∀ R : It → Hp → Prop, (∀ G1 H1 J, Gr G H G1 H1 → Itm G1 J l ρ → R J H1) → ti σ H R
section
variable {W : WX} {Γ : Ctx} {M : List Re} {te ta tb tl td : TE} {t : TT} {K : PySem.W.Frag} {i j n : Nat} {vs : List Nat} {β α : Type} {ti : TI} {l : List β} {ρ : β → Rp} {tu : TS} {κ : Kn} {r : Rp}
theorem for_I {J : It} {n : Nat} {g : TG} {tb : TS} {D : Ends} {σ : L2.St} {H : Hp} (Pv : Nat → L2.St → Hp → Prop) (h0 : Pv 0 σ H) (hgo : ∀ i σ H, i < n → Pv i σ H → J.go i H) (hst : ∀ σ H, Pv n σ H → J.stop n H)
    (hs : ∀ i σ H x H', i < n → Pv i σ H → J.yld i H x H' → g x σ H' fun σ2 H2 => tb { D with nx := Pv (i + 1), ct := Pv (i + 1), bk := D.nx } σ2 H2) (hd : ∀ σ H, Pv n σ H → D.nx σ H) :
    ∃ W : Nat → Nat → L2.St → Hp → Prop, (∃ m, W 0 m σ H) ∧ ∀ i m σ H, W i m σ H →
      (J.stop i H ∧ D.nx σ H) ∨ (J.go i H ∧ ∃ N : L2.St → Hp → Prop, (∀ σ' H', N σ' H' → ∃ m', m' < m ∧ W (i + 1) m' σ' H') ∧ ∀ x H', J.yld i H x H' → g x σ H' fun σ2 H2 => tb { D with nx := N, ct := N, bk := D.nx } σ2 H2) := by
  refine ⟨fun i m σ H => m = n - i ∧ i ≤ n ∧ Pv i σ H, ⟨n, by simp, Nat.zero_le _, h0⟩, ?_⟩
  rintro i m σ H ⟨rfl, hi, p⟩
  by_cases c : i < n
  · exact .inr ⟨hgo i σ H c p, Pv (i + 1), fun σ' H' z => ⟨n - (i + 1), by omega, rfl, c, z⟩, fun x H' y => hs i σ H x H' c p y⟩
  · have e : i = n := by omega
    subst e
    exact .inl ⟨hst σ H p, hd σ H p⟩
theorem w_forI (P : Nat → α → Prop) (Γi : Nat → α → Ctx) (Mi : Nat → α → List Re) (h : IX Γ ti l ρ) (a0 : α) (p0 : P 0 a0) (s0 : Sub Γ (Γi 0 a0)) (m0 : M = Mi 0 a0)
    (hs : ∀ i a x, l[i]? = some x → P i a → WP W ((Γi i a).set j (some (ρ x))) (Mi i a) tu (kLoop (LI P Γi Mi (i + 1)) κ)) (hd : ∀ a, P l.length a → κ.nx (Γi l.length a) (Mi l.length a)) : WP W Γ M (tFor ti (gName j) tu) κ := fun B G H σ D o en d => by
  refine h σ G en H o.i _ fun G1 H1 J g1 it => ?_
  have o1 := (o.gr g1).low (Ex.refl G1)
  have eb : Ex B.Gl G1 := o.l.trans g1.g
  refine for_I (n := l.length) (fun i σ' H' => Pv (B.low G1) (LI P Γi Mi i) σ' H') ⟨G1, Γ, M, o1, en.mono g1.g, a0, p0, s0, m0⟩ (fun i σ' H' hi ⟨G2, _, _, o2, _⟩ => it.goes i H' hi (o2.l.trans o2.i)) (fun σ' H' ⟨G2, _, _, o2, _⟩ => it.stops H' (o2.l.trans o2.i)) (fun i σ' H' x H'' hi ⟨G2, Γ2, M2, o2, en2, a, pa, sa, ma⟩ y => ?_) (fun σ' H' ⟨G2, Γ2, M2, o2, en2, a, pa, sa, ma⟩ => ?_)
  · obtain ⟨rfl, hx⟩ := it.yld i H' x H'' hi (o2.l.trans o2.i) y
    subst ma
    obtain ⟨b, hb⟩ : ∃ b, l[i]? = some b := ⟨_, List.getElem?_eq_getElem hi⟩
    have d2 := (d.low eb).loop (I := LI P Γi Mi (i + 1))
    exact hs i a b hb pa (B.low G1) G2 _ _ _ o2 ((en2.weak sa).set ((ρ b).mono o2.l (hx b hb)) j) ⟨fun σ G H Γ M o en z => d2.nx σ G H Γ M o en z, d2.rt, d2.bk, fun σ G H Γ M o en z => d2.ct σ G H Γ M o en z, d2.ex⟩
  · subst ma
    exact d.nx _ G2 H' _ _ (o2.up eb) (en2.weak sa) (hd a pa)
theorem lc_I {J : It} {n : Nat} {g : TG} {tt : TT} {te : TE} {vs : List Nat} {σ : L2.St} {H1 : Hp} {D : Addr} {Qd : Hp → Prop} (Pv : Nat → Hp → Prop) (h0 : Pv 0 (upd H1 D (.lst []))) (hgo : ∀ i H, i < n → Pv i H → J.go i H) (hst : ∀ H, Pv n H → J.stop n H)
    (hs : ∀ i H x H', i < n → Pv i H → J.yld i H x H' → g x (wipe σ vs) H' fun σ2 H2 => wipe σ2 vs = wipe σ vs ∧ tt σ2 H2 fun b H3 =>
      if b = true then te σ2 H3 fun y H4 => ∃ acc, H4 D = some (.lst acc) ∧ acc.length < sizeLine ∧ Pv (i + 1) (upd H4 D (.lst (acc ++ [y]))) else Pv (i + 1) H3) (hd : ∀ H, Pv n H → Qd H) :
    ∃ W : Nat → Nat → Hp → Prop, (∃ m, W 0 m (upd H1 D (.lst []))) ∧ ∀ i m H, W i m H →
      (J.stop i H ∧ Qd H) ∨ (J.go i H ∧ ∃ Nx : Hp → Prop, (∀ H', Nx H' → ∃ m', m' < m ∧ W (i + 1) m' H') ∧ ∀ x H', J.yld i H x H' → g x (wipe σ vs) H' fun σ2 H2 => wipe σ2 vs = wipe σ vs ∧ tt σ2 H2 fun b H3 =>
        if b = true then te σ2 H3 fun y H4 => ∃ acc, H4 D = some (.lst acc) ∧ acc.length < sizeLine ∧ Nx (upd H4 D (.lst (acc ++ [y]))) else Nx H3) := by
  refine ⟨fun i m H => m = n - i ∧ i ≤ n ∧ Pv i H, ⟨n, by simp, Nat.zero_le _, h0⟩, ?_⟩
  rintro i m H ⟨rfl, hi, p⟩
  by_cases c : i < n
  · exact .inr ⟨hgo i H c p, Pv (i + 1), fun H' z => ⟨n - (i + 1), by omega, rfl, c, z⟩, fun x H' y => hs i H x H' c p y⟩
  · have e : i = n := by omega
    subst e
    exact .inl ⟨hst H p, hd H p⟩
theorem xn_lcI {f : β → Bool} {rr : β → Rp} (h : IX Γ ti l ρ) (hz : l.length ≤ 40000) (ht : ∀ a, a ∈ l → EvTX ((wipeC Γ vs).set j (some (ρ a))) t (f a)) (he : ∀ a, a ∈ l → f a = true → EvX ((wipeC Γ vs).set j (some (ρ a))) te (rr a)) (hj : j ∈ vs) : EvNX Γ (tLc ti (gName j) t te vs) ((l.filter f).map rr) := fun σ G en H0 e Q q => by
  refine h σ G en H0 e _ fun G1 H1 J g1 it Dl hD => ?_
  refine lc_I (n := l.length) (fun i H' => Cm G1 H1 Dl (((l.take i).filter f).map rr) H') (cm_start g1.i hD) (fun i H' hi p => ?_) (fun H' p => ?_) (fun i H' x H'' hi p y => ?_) (fun H' p => ?_)
  · obtain ⟨_, G', ws, g, _, _, _⟩ := p
    exact it.goes i H' hi (g.g.trans g.i)
  · obtain ⟨_, G', ws, g, _, _, _⟩ := p
    exact it.stops H' (g.g.trans g.i)
  · have ex : Ex G1 H' := by
      obtain ⟨_, G', ws, g, _, _, _⟩ := id p
      exact g.g.trans g.i
    obtain ⟨rfl, hx⟩ := it.yld i H' x H'' hi ex y
    obtain ⟨b, hb⟩ : ∃ b, l[i]? = some b := ⟨_, List.getElem?_eq_getElem hi⟩
    have hm : b ∈ l := List.mem_of_getElem? hb
    exact ⟨wipe_turn σ hj _, cm_step hb hz p (fun G2 e1 e2 => ht b hm _ G2 (en_at (en.mono (g1.g.trans e1)) ((ρ b).mono e1 (hx b hb)))) (fun hf G2 e1 e2 => he b hm hf _ G2 (en_at (en.mono (g1.g.trans e1)) ((ρ b).mono e1 (hx b hb))))⟩
  · obtain ⟨p1, G', ws, g, hG, hD', ra⟩ := p
    rw [List.take_length] at ra
    exact q Dl ws G' H' (g1.trans g) (fresh_back g1.h p1) hG hD' ra
theorem xn_lcI0 {rr : β → Rp} (h : IX Γ ti l ρ) (hz : l.length ≤ 40000) (he : ∀ a, a ∈ l → EvX ((wipeC Γ vs).set j (some (ρ a))) te (rr a)) (hj : j ∈ vs) : EvNX Γ (tLc ti (gName j) tYes te vs) (l.map rr) := xn_is (xn_lcI (f := fun _ => true) h hz (fun _ _ => t_yes) (fun a ha _ => he a ha) hj) filter_yes
theorem ix_L (h : EvX Γ tl (rL K (l.map ρ))) : IX Γ (iList K tl) l ρ := fun σ G en H e R q => h σ G en H e _ fun v G1 H1 g1 ⟨a, ws, hv, h1, h2⟩ => by
  subst hv
  have el : ws.length = l.length := by rw [h2.len, List.length_map]
  refine ⟨a, rfl, ⟨ws, sq_of (g1.i _ _ h1)⟩, q G1 H1 _ g1 ⟨fun i H' hi ex => ?_, fun H' ex => ⟨ws, sq_of (ex _ _ h1), by omega⟩, fun i H' x H'' hi ex y => ?_⟩⟩
  · exact ⟨ws, ws[i]'(by omega), sq_of (ex _ _ h1), List.getElem?_eq_getElem (by omega)⟩
  · obtain ⟨y1, y2⟩ := y
    refine ⟨y1, fun b hb => ?_⟩
    obtain ⟨r, hr, hx⟩ := h2.getV (y2 ws (sq_of (ex _ _ h1)))
    rw [List.getElem?_map, hb] at hr
    cases hr
    exact hx
end
def ltr (c : Nat) : Str := ⟨#[c]⟩
abbrev rC (c : Nat) : Rp := rV (.str (ltr c))
section
variable {W : WX} {Γ : Ctx} {M : List Re} {te ta tb tl td : TE} {K : PySem.W.Frag} {n c : Nat} {s z : Str} {r : Rp} {κ : KV} {ε : KX}
theorem ix_S (h : EvX Γ te (rV (.str s))) : IX Γ (iStr te) s.cps.toList rC := fun σ G en H e R q => h σ G en H e _ fun v G1 H1 g1 hv => by
  obtain rfl : v = V.str s := hv
  refine ⟨s, rfl, q G1 H1 _ g1 ⟨fun i H' hi ex => ?_, fun H' ex => ?_, fun i H' x H'' hi ex y => ?_⟩⟩
  · show i < s.cps.size
    simpa using hi
  · show s.cps.size ≤ s.cps.toList.length
    simp
  · obtain ⟨y1, c, y2, rfl⟩ := y
    refine ⟨y1, fun b hb => ?_⟩
    have : b = c := by
      have e2 : s.cps.toList[i]? = some c := by simpa using y2
      rw [e2] at hb
      exact (Option.some.inj hb).symm
    rw [this]; rfl
def rInS : R2 := fun x y H Q => ∃ i j, x = .str i ∧ y = .str j ∧ Q (.bl (!(Builtin.Str.occurrences j i 0 j.length 1).isEmpty)) H
def rNotInS : R2 := fun x y H Q => ∃ i j, x = .str i ∧ y = .str j ∧ Q (.bl (!(!(Builtin.Str.occurrences j i 0 j.length 1).isEmpty))) H
def rLtS : R2 := fun x y H Q => ∃ i j, x = .str i ∧ y = .str j ∧ Q (.bl (decide (i.cps.toList < j.cps.toList))) H
def rAddT : R2 := fun x y H Q => ∃ i j, x = .str i ∧ y = .str j ∧ i.length + j.length ≤ sizeLine ∧ Q (.str (i ++ j)) H
def rLenT : List V → Hp → VK → Prop := fun xs H Q => ∃ z, xs = [.str z] ∧ z.length ≤ sizeLine ∧ Q (.int z.length) H
def rFind : V → List V → Hp → VK → Prop := fun x xs H Q => ∃ a b, x = .str a ∧ xs = [.str b] ∧ Q (.int (Txt.find a b)) H
theorem op_notInS {X : Cx} : OpR X (compareOp .NotIn) rNotInS := op_notin_str
theorem op_addT {X : Cx} : OpR X (binaryOp .Add) rAddT := op_add_str
theorem call_lenT {X : Cx} : CallR X (.builtin "len") rLenT := call_len_str
theorem mt_findT {X : Cx} : MtR X "str.find" rFind := mt_find
def inS (i j : Str) : Bool := !(Builtin.Str.occurrences j i 0 j.length 1).isEmpty
theorem x_inS (ha : EvX Γ ta (rV (.str s))) (hb : EvX Γ tb (rV (.str z))) : EvX Γ (tOp rInS ta tb) (rB (inS s z)) := fun σ G en => Ev.d (ev_op2 (ha σ G en) (hb σ G en) fun x y H hx hy Q q => by
  obtain rfl : x = V.str s := hx
  obtain rfl : y = V.str z := hy
  exact ⟨s, z, rfl, rfl, q⟩)
theorem x_niS (ha : EvX Γ ta (rV (.str s))) (hb : EvX Γ tb (rV (.str z))) : EvX Γ (tOp rNotInS ta tb) (rB (!inS s z)) := fun σ G en => Ev.d (ev_op2 (ha σ G en) (hb σ G en) fun x y H hx hy Q q => by
  obtain rfl : x = V.str s := hx
  obtain rfl : y = V.str z := hy
  exact ⟨s, z, rfl, rfl, q⟩)
theorem x_ltS (ha : EvX Γ ta (rV (.str s))) (hb : EvX Γ tb (rV (.str z))) : EvX Γ (tOp rLtS ta tb) (rB (decide (s.cps.toList < z.cps.toList))) := fun σ G en => Ev.d (ev_op2 (ha σ G en) (hb σ G en) fun x y H hx hy Q q => by
  obtain rfl : x = V.str s := hx
  obtain rfl : y = V.str z := hy
  exact ⟨s, z, rfl, rfl, q⟩)
theorem x_addT (ha : EvX Γ ta (rV (.str s))) (hb : EvX Γ tb (rV (.str z))) (hl : s.length + z.length ≤ 100000) : EvX Γ (tOp rAddT ta tb) (rV (.str (s ++ z))) := fun σ G en => Ev.d (ev_op2 (ha σ G en) (hb σ G en) fun x y H hx hy Q q => by
  obtain rfl : x = V.str s := hx
  obtain rfl : y = V.str z := hy
  exact ⟨s, z, rfl, rfl, sz_of hl, q⟩)
theorem x_ixS (ha : EvX Γ ta (rV (.str s))) (hb : EvX Γ tb (nI n)) (hl : s.length ≤ 100000) (hc : s.cps.toList[n]? = some c) : EvX Γ (tOp rIxS ta tb) (rC c) := fun σ G en => Ev.d (ev_op2 (ha σ G en) (hb σ G en) fun x y H hx hy Q q => by
  obtain rfl : x = V.str s := hx
  obtain rfl : y = V.int (n : Int) := hy
  exact ⟨s, _, c, rfl, rfl, sz_of hl, atI_nat hc, q⟩)
theorem am_lenT (hl : s.length ≤ 100000) (k : κ (nI s.length) M) : AM rLenT [rV (.str s)] M κ := fun B G H vs o ra Q q => by
  obtain ⟨x, rfl, hx⟩ := ra1 ra
  obtain rfl : x = V.str s := hx
  exact ⟨s, rfl, sz_of hl, q _ G H _ M k o (Ex.refl _) rfl⟩
theorem e_find (h : EW W Γ M te (fun r1 M1 => ∃ a, r1 = rV (.str a) ∧ EW W Γ M1 ta (fun r2 M2 => ∃ b, r2 = rV (.str b) ∧ κ (rI (Txt.find a b)) M2) ε) ε) : EW W Γ M (tBM K "str" rFind te (tCons ta tNil)) κ ε := fun B G H σ o en Q q x =>
  h B G H σ o en _ (fun v1 G1 H1 r1 M1 h1 o1 e1 hv1 => by
    obtain ⟨a, rfl, h2⟩ := h1
    obtain rfl : v1 = V.str a := hv1
    refine ⟨?_, h2 B G1 H1 σ o1 (en.mono e1) _ (fun v2 G2 H2 r2 M2 h3 o2 e2 hv2 => ?_) (x.up e1)⟩
    · exact rfl
    · obtain ⟨b, rfl, k⟩ := h3
      obtain rfl : v2 = V.str b := hv2
      exact ⟨a, b, rfl, rfl, q _ G2 H2 _ M2 k o2 (e1.trans e2) rfl⟩) x
end
end Mu

namespace Mu
open PySem PySem.Spec PyProof.Rows L2 He Evl
section
variable {α : Type}
def valA (kvs : List (Key × α)) (k : Key) : Option α := (kvs.find? fun kv => decide (kv.1 = k)).map (·.2)
def putA (kvs : List (Key × α)) (k : Key) (v : α) : List (Key × α) := if (kvs.any fun kv => decide (kv.1 = k)) = true then kvs.map (fun kv => if kv.1 = k then (kv.1, v) else kv) else kvs ++ [(k, v)]
def dropA (kvs : List (Key × α)) (k : Key) : List (Key × α) := kvs.filter fun kv => decide (kv.1 ≠ k)
end
abbrev DkR (G : Hp) : List (Key × V) → List (Key × Rp) → Prop := Paired fun a b => a.1 = b.1 ∧ b.2.p a.2 G
section
variable {G G' : Hp} {ws : List (Key × V)} {kvs : List (Key × Rp)} {k : Key} {v : V} {r : Rp}
theorem DkR.mono (e : Ex G G') (h : DkR G ws kvs) : DkR G' ws kvs := Paired.mono (fun _ b z => ⟨z.1, b.2.mono e z.2⟩) h
theorem DkR.len (h : DkR G ws kvs) : ws.length = kvs.length := Paired.length h
theorem DkR.keys (h : DkR G ws kvs) : ws.map (·.1) = kvs.map (·.1) := by
  induction h with
  | nil => rfl
  | cons a t ih => rw [List.map_cons, List.map_cons, a.1, ih]
theorem DkR.val (h : DkR G ws kvs) (k : Key) : match valA kvs k with
    | some r => ∃ v, valV ws k = some v ∧ r.p v G
    | none => valV ws k = none := by
  induction h with
  | nil => rfl
  | @cons a b as bs ha t ih =>
    unfold valA valV at ih ⊢
    rw [List.find?_cons, List.find?_cons, ha.1]
    by_cases c : b.1 = k
    · rw [decide_eq_true c]
      exact ⟨a.2, rfl, ha.2⟩
    · rw [decide_eq_false c]
      exact ih
theorem DkR.any (h : DkR G ws kvs) (k : Key) : (ws.any fun kv => decide (kv.1 = k)) = kvs.any fun kv => decide (kv.1 = k) := by
  induction h with
  | nil => rfl
  | cons a t ih => rw [List.any_cons, List.any_cons, a.1, ih]
theorem DkR.repl (h : DkR G ws kvs) (hr : r.p v G) : DkR G (ws.map fun kv => if kv.1 = k then (kv.1, v) else kv) (kvs.map fun kv => if kv.1 = k then (kv.1, r) else kv) := by
  induction h with
  | nil => exact .nil
  | @cons a b as bs ha t ih =>
    refine .cons ?_ ih
    dsimp only
    rw [ha.1]
    by_cases c : b.1 = k
    · rw [if_pos c, if_pos c]; exact ⟨rfl, hr⟩
    · rw [if_neg c, if_neg c]; exact ha
theorem DkR.snoc (h : DkR G ws kvs) (hr : r.p v G) : DkR G (ws ++ [(k, v)]) (kvs ++ [(k, r)]) := by
  induction h with
  | nil => exact .cons ⟨rfl, hr⟩ .nil
  | cons a t ih => exact .cons a ih
theorem DkR.put (h : DkR G ws kvs) (hr : r.p v G) : DkR G (putK ws k v) (putA kvs k r) := by
  unfold putK putA
  rw [h.any k]
  split
  · exact h.repl hr
  · exact h.snoc hr
theorem DkR.drop (h : DkR G ws kvs) : DkR G (dropK ws k) (dropA kvs k) := by
  unfold dropK dropA
  induction h with
  | nil => exact .nil
  | @cons a b as bs ha t ih =>
    rw [List.filter_cons, List.filter_cons, ha.1]
    split
    · exact .cons ha ih
    · exact ih
end
def rD (z : Bool) (kvs : List (Key × Rp)) : Rp := ⟨fun v G => ∃ d ws, v = .ref d ∧ ((∃ o, G d = some (.frz o (.dK ws))) ∨ (z = false ∧ G d = some (.dK ws))) ∧ DkR G ws kvs, fun e ⟨d, ws, h1, h2, h3⟩ => ⟨d, ws, h1, h2.imp (fun ⟨o, q⟩ => ⟨o, e _ _ q⟩) (fun q => ⟨q.1, e _ _ q.2⟩), h3.mono e⟩⟩
def dicR (p : Addr) (kvs : List (Key × Rp)) : Re where
  own := true
  ft := [p]
  p := fun G H => ∃ ws, H p = some (.dK ws) ∧ DkR G ws kvs
  mono := fun e ⟨ws, h1, h2⟩ => ⟨ws, h1, h2.mono e⟩
  loc := fun k ⟨ws, h1, h2⟩ => ⟨ws, k p (List.mem_singleton.mpr rfl) _ h1, h2⟩
  at_ := fun ⟨ws, h1, _⟩ a ha => by rw [List.mem_singleton.mp ha]; exact ⟨_, h1, fun _ z => nomatch z⟩
def rDGet : R2 := fun x y H Q => ∃ a v, x = .ref a ∧ DGet H a y (some v) ∧ Q v H
def rDIn : R2 := fun y x H Q => ∃ a o, x = .ref a ∧ DGet H a y o ∧ Q (.bl o.isSome) H
def rDNotIn : R2 := fun y x H Q => ∃ a o, x = .ref a ∧ DGet H a y o ∧ Q (.bl (!o.isSome)) H
def rLenD : List V → Hp → VK → Prop := fun xs H Q => ∃ a kvs, xs = [V.ref a] ∧ Rd H a (.dK kvs) ∧ Q (.int kvs.length) H
section
variable {X : Cx} {o i : Expr} {pos : Pos} {td ty : TE}
theorem pe_dgetT (hu : X.A.units + 1 < cLine) (ho : PE X o td) (hi : PE X i ty) (hs : NoSl i) : PE X (.Subscript o i pos) (tOp rDGet td ty) := pe_dget hu ho hi hs
theorem pe_dinT (hu : X.A.units + 1 < cLine) (hi : PE X i ty) (ho : PE X o td) (h1 : behindInMarks .In o = false := by rfl) : PE X (.Compare i [.In] [o] pos) (tOp rDIn ty td) := pe_cmp (pc_din hu hi ho) h1
theorem pt_dinT (hu : X.A.units + 1 < cLine) (hi : PE X i ty) (ho : PE X o td) (h1 : behindInMarks .In o = false := by rfl) : PT X (.Compare i [.In] [o] pos) (tB (tOp rDIn ty td)) := pt_cmp (pc_din hu hi ho) h1
theorem pt_dniT (hu : X.A.units + 1 < cLine) (hi : PE X i ty) (ho : PE X o td) (h1 : behindInMarks .NotIn o = false := by rfl) : PT X (.Compare i [.NotIn] [o] pos) (tB (tOp rDNotIn ty td)) := pt_cmp (pc_dnotin hu hi ho) h1
theorem call_lenDr : CallR X (.builtin "len") rLenD := by
  intro pins s σ H us vs Q I r h
  obtain ⟨a, kvs, rfl, ha, q⟩ := h
  cases r with
  | cons r rr =>
    cases rr
    cases r
    exact d_len I ha fun t s' I' => ⟨.int kvs.length, H, I', ⟨t, rfl⟩, q⟩
end
theorem Ok.chgD {B : Ba} {G H : Hp} {M : List Re} {k : Nat} {p : Addr} {kvs kvs' : List (Key × Rp)} {ws : List (Key × V)} (o : Ok B G H M) (hk : M[k]? = some (dicR p kvs)) (h : DkR G ws kvs') : Ok B G (upd H p (.dK ws)) (M.set k (dicR p kvs')) := by
  have gp : G p = none := o.z p (mem_feet (List.mem_of_getElem? hk) (List.mem_singleton.mpr rfl))
  exact o.chg (R' := dicR p kvs') hk rfl rfl (Ex.refl _) (fun a u z n => by rw [upd_ne fun q => n (List.mem_singleton.mpr q)]; exact z) (Ex.mut o.i gp) (fun _ _ _ _ y => y) ⟨ws, upd_same, h⟩
section
variable {W : WX} {Γ : Ctx} {M : List Re} {te ta tb tv td : TE} {K : PySem.W.Frag} {n i j idx : Nat} {r : Rp} {κ : KV} {ε : KX} {kvs : List (Key × Rp)} {z : Bool} {k : Key} {p : Addr}
theorem rD_get {v : V} {G H : Hp} (h : (rD z kvs).p v G) (e : Ex G H) : ∃ d ws, v = .ref d ∧ Rd H d (.dK ws) ∧ DkR G ws kvs := by
  obtain ⟨d, ws, rfl, h2, h3⟩ := h
  refine ⟨d, ws, rfl, ?_, h3⟩
  rcases h2 with ⟨o, q⟩ | ⟨_, q⟩
  · exact .inr ⟨o, e _ _ q⟩
  · exact .inl (e _ _ q)
theorem om_dget (hv : valA kvs k = some r) (kk : κ r M) : OM rDGet (rD z kvs) (rV (kV k)) M κ := fun B G H x y o hx hy Q q => by
  obtain ⟨d, ws, rfl, h2, h3⟩ := rD_get hx o.i
  obtain rfl : y = kV k := hy
  have hh := h3.val k
  rw [hv] at hh
  obtain ⟨v, h4, h5⟩ := hh
  exact ⟨d, v, rfl, .inl ⟨ws, k, h2, rfl, h4.symm⟩, q v G H r M kk o (Ex.refl _) h5⟩
theorem DkR.isSome {G : Hp} {ws : List (Key × V)} (h : DkR G ws kvs) (k : Key) : (valV ws k).isSome = (valA kvs k).isSome := by
  have hh := h.val k
  cases e : valA kvs k with
  | none => rw [e] at hh; rw [hh]; rfl
  | some r => rw [e] at hh; obtain ⟨v, h4, _⟩ := hh; rw [h4]; rfl
theorem om_din (kk : κ (rB (valA kvs k).isSome) M) : OM rDIn (rV (kV k)) (rD z kvs) M κ := fun B G H y x o hy hx Q q => by
  obtain ⟨d, ws, rfl, h2, h3⟩ := rD_get hx o.i
  obtain rfl : y = kV k := hy
  exact ⟨d, _, rfl, .inl ⟨ws, k, h2, rfl, rfl⟩, q _ G H _ M kk o (Ex.refl _) (by rw [h3.isSome k]; rfl)⟩
theorem om_dni (kk : κ (rB (!(valA kvs k).isSome)) M) : OM rDNotIn (rV (kV k)) (rD z kvs) M κ := fun B G H y x o hy hx Q q => by
  obtain ⟨d, ws, rfl, h2, h3⟩ := rD_get hx o.i
  obtain rfl : y = kV k := hy
  exact ⟨d, _, rfl, .inl ⟨ws, k, h2, rfl, rfl⟩, q _ G H _ M kk o (Ex.refl _) (by rw [h3.isSome k]; rfl)⟩
theorem am_lenD (kk : κ (nI kvs.length) M) : AM rLenD [rD z kvs] M κ := fun B G H vs o ra Q q => by
  obtain ⟨x, rfl, hx⟩ := ra1 ra
  obtain ⟨d, ws, rfl, h2, h3⟩ := rD_get hx o.i
  exact ⟨d, ws, rfl, h2, q _ G H _ M kk o (Ex.refl _) (by rw [h3.len]; rfl)⟩
theorem e_dnew (kk : ∀ p, κ (rV (.ref p)) (M ++ [dicR p []])) : EW W Γ M tDNewK κ ε := fun B G H σ o en Q q x p hp => by
  have gp := fresh_back o.i hp
  have g3 := Gr.out (o := .dK []) o.i hp
  exact q (.ref p) _ _ (rV (.ref p)) _ (kk p) (o.add (R := dicR p []) g3 (show [p].Nodup by simp) (fun a ha => by rw [List.mem_singleton.mp ha]; exact ⟨hp, gp⟩) ⟨[], upd_same, .nil⟩) (Ex.refl _) rfl
theorem om_dniO (idx : Nat) (hk : M[idx]? = some (dicR p kvs)) (kk : κ (rB (!(valA kvs k).isSome)) M) : OM rDNotIn (rV (kV k)) (rV (.ref p)) M κ := fun B G H y x o hy hx Q q => by
  obtain rfl : x = V.ref p := hx
  obtain rfl : y = kV k := hy
  obtain ⟨ws, h2, h3⟩ := o.m _ (List.mem_of_getElem? hk)
  exact ⟨p, _, rfl, .inl ⟨ws, k, .inl h2, rfl, rfl⟩, q _ G H _ M kk o (Ex.refl _) (by rw [h3.isSome k]; rfl)⟩
theorem ws_dput {κ : Kn} (idx : Nat) (h : EW W Γ M tv (fun r M1 => EW W Γ M1 td (fun r1 M2 => ∃ p, r1 = rV (.ref p) ∧ EW W Γ M2 ta (fun r2 M3 => ∃ k kvs, r2 = rV (kV k) ∧ M3[idx]? = some (dicR p kvs) ∧ kvs.length < 50000 ∧ κ.nx Γ (M3.set idx (dicR p (putA kvs k r)))) (κ.ex Γ)) (κ.ex Γ)) (κ.ex Γ)) : WP W Γ M (sDPut td ta tv) κ := fun B G H σ D o en d => by
  have dx : ∀ {G1 : Hp}, Ex G G1 → GoX B G1 (κ.ex Γ) W σ := fun e cls fs dd G' H' M' k o' e' xd => d.ex σ G' H' Γ M' cls dd fs o' (en.mono (e.trans e')) xd k
  refine h B G H σ o en _ (fun v G1 H1 r M1 h1 o1 e1 hv => h1 B G1 H1 σ o1 (en.mono e1) _ (fun x G2 H2 r1 M2 h2 o2 e2 hx => ?_) (dx e1)) (dx (Ex.refl _))
  obtain ⟨p, rfl, h3⟩ := h2
  obtain rfl : x = V.ref p := hx
  refine h3 B G2 H2 σ o2 (en.mono (e1.trans e2)) _ (fun y G3 H3 r2 M3 h4 o3 e3 hy => ?_) (dx (e1.trans e2))
  obtain ⟨k, kvs, rfl, hk, hl, kk⟩ := h4
  obtain rfl : y = kV k := hy
  obtain ⟨ws, q2, q3⟩ := o3.m _ (List.mem_of_getElem? hk)
  refine ⟨p, _, rfl, .inl ⟨ws, k, q2, rfl, sz_lt (by rw [q3.len]; omega), rfl⟩, d.nx σ G3 _ Γ _ (o3.chgD hk (q3.put (r.mono (e2.trans e3) hv))) (en.mono (e1.trans (e2.trans e3))) kk⟩
theorem ix_K (h : EvX Γ td (rD true kvs)) : IX Γ (iKeys td) (kvs.map (·.1)) (fun k => rV (kV k)) := fun σ G en H e R q => h σ G en H e _ fun v G1 H1 g1 hv => by
  obtain ⟨d, ws, rfl, h2, h3⟩ := hv
  obtain ⟨o, ho⟩ : ∃ o, G1 d = some (.frz o (.dK ws)) := by
    rcases h2 with q | q
    · exact q
    · exact nomatch q.1
  have el : ws.length = (kvs.map (·.1)).length := by rw [h3.len, List.length_map]
  refine ⟨d, o, rfl, .inl ⟨ws, g1.i _ _ ho, q G1 H1 _ g1 ⟨fun i H' hi ex => ⟨ex _ _ ho, by omega⟩, fun H' ex => ⟨ex _ _ ho, by omega⟩, fun i H' x H'' hi ex y => ?_⟩⟩⟩
  obtain ⟨y1, k, v, y2, rfl⟩ := y
  refine ⟨y1, fun b hb => ?_⟩
  rw [← h3.keys, List.getElem?_map, y2] at hb
  have : k = b := by simpa using hb
  rw [this]; rfl
end
def tPre (t : TS) : TS := fun D σ H => t D σ H ∨ ∃ d u, H d = some u ∧ Mut (some u) ∧ ∀ od, t D σ (upd H d (.frz od u))
theorem ps_pre {X : Cx} {st : Stmt} {t : TS} (h : PS X st t) : PS X st (tPre t) := ⟨fun pins s σ H D I hw => by
  rcases hw with hw | ⟨d, u, hd, mu, hw⟩
  · exact h.run pins s σ H D I hw
  · obtain ⟨od, I1⟩ := I.lock hd mu
    exact h.run pins s σ _ D I1 (hw od)⟩
section
variable {B : Ba} {G H : Hp} {M : List Re} {W : WX} {Γ : Ctx} {t : TS} {κ : Kn} {kvs : List (Key × Rp)} {p : Addr} {i k : Nat} {od : Obj}
theorem Ok.frzD (o : Ok B G H M) (hk : M[k]? = some (dicR p kvs)) : ∃ ws, H p = some (.dK ws) ∧ ∀ od, ∃ G2, Ex G G2 ∧ Ok B G2 (upd H p (.frz od (.dK ws))) (M.eraseIdx k) ∧ (rD true kvs).p (.ref p) G2 := by
  have hm := List.mem_of_getElem? hk
  obtain ⟨ws, h1, h2⟩ := o.m _ hm
  have gp : G p = none := o.z p (mem_feet hm (List.mem_singleton.mpr rfl))
  have hp0 : B.H0 p = none := by
    rcases o.f _ hm p (List.mem_singleton.mpr rfl) with q | q
    · exact q
    · exact absurd q.1 (show ¬ (true = false) by decide)
  refine ⟨ws, h1, fun od => ?_⟩
  have e : Ex G (upd G p (.frz od (.dK ws))) := Ex.new gp
  refine ⟨upd G p (.frz od (.dK ws)), e, ⟨o.g.trans e, o.l.trans e, fun a u z n => ?_, fun a u z => ?_, fun a u z t y => ?_, fun a ha => ?_, fun r hr => ?_, fun a ha => ?_, feet_erase_nodup o.d, fun r hr => o.f r (mem_erase hr)⟩, ⟨p, ws, rfl, .inl ⟨od, upd_same⟩, h2.mono e⟩⟩
  · rw [upd_ne (ne_of_none z hp0)]; exact o.h a u z n
  · by_cases c : a = p
    · subst c
      rw [upd_same] at z ⊢
      exact z
    · rw [upd_ne c] at z ⊢
      exact o.i a u z
  · rw [upd_ne (ne_of_none z hp0)]; exact o.n a u z t y
  · by_cases c : a = p
    · subst c; exact ⟨_, upd_same, mt_frz⟩
    · rw [upd_ne c]; exact o.k a ha
  · exact r.loc (fun a ha u z => by
      rw [upd_ne (fun q => feet_apart o.d hk hr a ha (List.mem_singleton.mpr q))]; exact z) (r.mono e (o.m r (mem_erase hr)))
  · obtain ⟨r, hr, hf⟩ := List.mem_flatMap.mp ha
    have ne : a ≠ p := fun q => feet_apart o.d hk hr a hf (List.mem_singleton.mpr q)
    rw [upd_ne ne]
    exact o.z a (feet_erase_sub ha)
theorem w_frzD (k i : Nat) (hk : M[k]? = some (dicR p kvs)) (hi : Γ[i]? = some (some (rV (.ref p)))) (h : WP W (Γ.set i (some (rD true kvs))) (M.eraseIdx k) t κ) : WP W Γ M (tPre t) κ := fun B G H σ D o en d => by
  obtain ⟨ws, h1, h2⟩ := o.frzD hk
  refine .inr ⟨p, .dK ws, h1, trivial, fun od => ?_⟩
  obtain ⟨G2, e, o2, hr⟩ := h2 od
  obtain ⟨v, hv1, hv2⟩ := en.get hi
  obtain rfl : v = V.ref p := hv2
  exact h B G2 _ σ D o2 (En.put hr (en.mono e) hv1) d
end
end Mu

namespace Mu
open PySem PySem.Spec PyProof.Rows L2 He Evl StX
def lentO (cs : Addr → Bool) : HO → Bool
  | .lst _ => true
  | .dK _ => true
  | .ins C _ _ => cs C
  | .frz _ (.dK _) => true
  | .dT _ => true
  | .frz _ (.dT _) => true
  | _ => false
def borX (cs : Addr → Bool) (G H : Hp) (M : List Re) : Hp := fun a => match G a with
  | some o => some o
  | none => if a ∈ feet M then (match H a with
    | some o => if lentO cs o = true then some o else none
    | none => none) else none
def nlX (cs : Addr → Bool) (G : Hp) : Hp := fun a => match G a with
  | some o => if lentO cs o = true then none else some o
  | none => none
def LFX (cs : Addr → Bool) (r : Rp) : Prop := ∀ v G, r.p v G → r.p v (nlX cs G)
section
variable {B : Ba} {G H G2 H2 : Hp} {M : List Re} {W : WX} {Γ Γ' Γ1 : Ctx} {te ta tb tl : TE} {t : TT} {K : PySem.W.Frag} {κ : KV} {ε : KX} {r r0 : Rp} {rs rs0 : List Rp} {i j k n : Nat} {p C : Addr} {fs : FL} {vs : List Nat} {cs : Addr → Bool}
theorem borX_g : Ex G (borX cs G H M) := fun a o z => by
  unfold borX
  rw [z]
theorem borX_i (e : Ex G H) : Ex (borX cs G H M) H := fun a o z => by
  unfold borX at z
  cases q : G a with
  | some u =>
    rw [q] at z
    cases z
    exact e _ _ q
  | none =>
    rw [q] at z
    by_cases c : a ∈ feet M
    · rw [if_pos c] at z
      cases y : H a with
      | none => rw [y] at z; cases z
      | some u =>
        rw [y] at z
        dsimp only at z
        split at z
        · exact z
        · cases z
    · rw [if_neg c] at z
      cases z
theorem borX_no {a : Addr} (hg : G a = none) (hf : a ∉ feet M) : borX cs G H M a = none := by
  unfold borX
  rw [hg, if_neg hf]
theorem borX_at {a : Addr} {o : HO} (hg : G a = none) (hf : a ∈ feet M) (h : H a = some o) (hl : lentO cs o = true) : borX cs G H M a = some o := by
  unfold borX
  rw [hg, if_pos hf, h]
  dsimp only
  rw [if_pos hl]
theorem borX_nl {a : Addr} {o : HO} (hg : G a = none) (h : H a = some o) (hl : lentO cs o = false) : borX cs G H M a = none := by
  unfold borX
  rw [hg]
  by_cases c : a ∈ feet M
  · rw [if_pos c, h]
    dsimp only
    rw [hl]; rfl
  · rw [if_neg c]
theorem nlX_at {a : Addr} {o : HO} (h : nlX cs G a = some o) : G a = some o ∧ lentO cs o = false := by
  unfold nlX at h
  cases q : G a with
  | none => rw [q] at h; cases h
  | some u =>
    rw [q] at h
    dsimp only at h
    split at h
    · cases h
    · rename_i c
      cases h
      exact ⟨rfl, by simpa using c⟩
theorem Ok.borX (o : Ok B G H M) (g : Gr (borX cs G H M) H G2 H2) : ∃ G3, Gr G H G3 H2 ∧ Ex (nlX cs G2) G3 ∧ ∀ a u, G3 a = some u → G2 a = some u := by
  refine ⟨fun a => if a ∈ feet M then none else G2 a, ⟨fun a u z => ?_, g.h, fun a u z => ?_, fun a u z t y => ?_⟩, fun a u z => ?_, fun a u z => ?_⟩
  · have c : a ∉ feet M := fun q => by rw [o.z a q] at z; cases z
    show (if a ∈ feet M then none else G2 a) = some u
    rw [if_neg c]
    exact g.g a u (borX_g a u z)
  · have z' : (if a ∈ feet M then none else G2 a) = some u := z
    by_cases c : a ∈ feet M
    · rw [if_pos c] at z'; cases z'
    · rw [if_neg c] at z'; exact g.i a u z'
  · show (if a ∈ feet M then none else G2 a) = none
    by_cases c : a ∈ feet M
    · rw [if_pos c]
    · rw [if_neg c]
      exact g.n a u z t (borX_no y c)
  · obtain ⟨z1, z2⟩ := nlX_at z
    show (if a ∈ feet M then none else G2 a) = some u
    have c : a ∉ feet M := fun q => by
      have gz := o.z a q
      obtain ⟨R, hR, ha⟩ := List.mem_flatMap.mp q
      obtain ⟨w, hw, t⟩ := R.at_ (o.m R hR) a ha
      have hu := g.i a u z1
      rw [g.h a w hw] at hu
      cases hu
      have hb : Mu.borX cs G H M a = none := borX_nl gz hw z2
      rw [g.n a _ hw t hb] at z1
      cases z1
    rw [if_neg c]
    exact z1
  · have z' : (if a ∈ feet M then none else G2 a) = some u := z
    by_cases c : a ∈ feet M
    · rw [if_pos c] at z'; cases z'
    · rw [if_neg c] at z'; exact z'
def BxR (cs : Addr → Bool) (M : List Re) (r0 r : Rp) : Prop := ∀ B G H, Ok B G H M → ∀ v, r0.p v G → r.p v (borX cs G H M)
def BxC (cs : Addr → Bool) (M : List Re) (Γ Γ' : Ctx) : Prop := ∀ B G H σ, Ok B G H M → En σ G Γ → En σ (borX cs G H M) Γ'
theorem bx_same : BxR cs M r r := fun B G H o v h => r.mono borX_g h
theorem bx_refl : BxC cs M Γ Γ := fun B G H σ o en => en.mono borX_g
theorem bx_set (h : BxC cs M Γ Γ1) (hi : Γ[i]? = some (some r0)) (hr : BxR cs M r0 r) : BxC cs M Γ (Γ1.set i (some r)) := fun B G H σ o en => by
  obtain ⟨v, h1, h2⟩ := en.get hi
  exact En.put (hr B G H o v h2) (h B G H σ o en) h1
theorem bx_lst (hk : M[k]? = some (lstR p rs)) : BxR cs M (rV (.ref p)) (rL K rs) := fun B G H o v hv => by
  obtain rfl : v = V.ref p := hv
  have hm := List.mem_of_getElem? hk
  obtain ⟨ws, h1, h2⟩ := o.m _ hm
  have hf := mem_feet hm (List.mem_singleton.mpr rfl)
  exact ⟨p, ws, rfl, borX_at (o.z p hf) hf h1 rfl, h2.mono borX_g⟩
theorem bx_dic {kvs : List (Key × Rp)} (hk : M[k]? = some (dicR p kvs)) : BxR cs M (rV (.ref p)) (rD false kvs) := fun B G H o v hv => by
  obtain rfl : v = V.ref p := hv
  have hm := List.mem_of_getElem? hk
  obtain ⟨ws, h1, h2⟩ := o.m _ hm
  have hf := mem_feet hm (List.mem_singleton.mpr rfl)
  exact ⟨p, ws, rfl, .inr ⟨rfl, borX_at (o.z p hf) hf h1 rfl⟩, h2.mono borX_g⟩
theorem bx_fs {fs0 fs1 : FL} (h : Paired (fun a b => a.1 = b.1 ∧ BxR cs M a.2 b.2) fs0 fs1) : ∀ {B : Ba} {G H : Hp} {ws : List (Str × V)}, Ok B G H M → FsR G ws fs0 → FsR (borX cs G H M) ws fs1 := by
  induction h with
  | nil => intro B G H ws o q; cases q; exact .nil
  | cons h t ih => intro B G H ws o q; cases q with | cons a b => exact .cons ⟨a.1.trans h.1, h.2 B G H o _ a.2⟩ (ih o b)
theorem bx_ins {own : Bool} {fs0 fs1 : FL} (hk : M[k]? = some (insR own p C fs0)) (hC : cs C = true) (h : Paired (fun a b => a.1 = b.1 ∧ BxR cs M a.2 b.2) fs0 fs1) : BxR cs M (rV (.ref p)) (rIns C fs1) := fun B G H o v hv => by
  obtain rfl : v = V.ref p := hv
  have hm := List.mem_of_getElem? hk
  obtain ⟨dx, ws, h1, h2⟩ := o.m _ hm
  have hf := mem_feet hm (List.mem_singleton.mpr rfl)
  exact ⟨p, dx, ws, rfl, borX_at (o.z p hf) hf h1 hC, bx_fs h o h2⟩
theorem lfx_ra (h : ∀ r ∈ rs, LFX cs r) : ∀ {ws : List V}, RA G ws rs → RA (nlX cs G) ws rs := by
  induction rs with
  | nil => intro ws q; cases q; exact .nil
  | cons a t ih => intro ws q; cases q with | cons x y => exact .cons (h a List.mem_cons_self _ _ x) (ih (fun r hr => h r (List.mem_cons_of_mem _ hr)) y)
theorem e_bxO (cs : Addr → Bool) (hb : BxC cs M Γ Γ') (h : EvNX Γ' te rs) (lf : ∀ r ∈ rs, LFX cs r) (kk : ∀ p, κ (rV (.ref p)) (M ++ [lstR p rs])) : EW W Γ M te κ ε := fun B G H σ o en Q q x =>
  h σ _ (hb B G H σ o en) H (borX_i o.i) Q fun p ws G2 H2 g hp gp h2 ra => by
    obtain ⟨G3, g3, e3, e4⟩ := o.borX g
    have gp3 : G3 p = none := by
      cases z : G3 p with
      | none => rfl
      | some u => rw [e4 p u z] at gp; cases gp
    exact q _ G3 H2 _ _ (kk p) (o.add (R := lstR p rs) g3 (show [p].Nodup by simp) (fun a ha => by rw [List.mem_singleton.mp ha]; exact ⟨hp, gp3⟩) ⟨ws, h2, Paired.mono (fun _ b z => b.mono e3 z) (lfx_ra lf ra)⟩) g3.g rfl
theorem e_bxN (cs : Addr → Bool) (hb : BxC cs M Γ Γ') (h : EvNX Γ' te rs) (lf : ∀ r ∈ rs, LFX cs r) (kk : κ (rL K rs) M) : EW W Γ M te κ ε := fun B G H σ o en Q q x =>
  e_bxO (κ := fun r M' => ∃ p ss M, r = rV (.ref p) ∧ M' = M ++ [lstR p ss] ∧ κ (rL K ss) M) (ε := ε) (W := W) cs hb h lf (fun p => ⟨p, rs, M, rfl, rfl, kk⟩) B G H σ o en Q q.frz x
theorem et_bx (cs : Addr → Bool) {κ : Bool → List Re → Prop} {c : Bool} (hb : BxC cs M Γ Γ') (h : EvTX Γ' t c) (kk : κ c M) : ET W Γ M t κ ε := fun B G H σ o en Q q x =>
  h σ _ (hb B G H σ o en) H (borX_i o.i) Q fun H2 e => q c G H2 M kk (o.ex e) (Ex.refl _)
theorem lfx_v {v : V} : LFX cs (rV v) := fun _ _ h => h
end
section
variable {W : WX} {Γ : Ctx} {M : List Re} {t : TS} {κ : Kn} {p C d : Addr} {fs : FL} {kvs : List (Key × Rp)} {i k : Nat} {B : Ba} {G H : Hp}
theorem Ok.frzM (o : Ok B G H M) (hk : M[k]? = some (dicR d kvs)) : ∃ G2, Ex G G2 ∧ Ok B G2 H (M.eraseIdx k) ∧ (rD false kvs).p (.ref d) G2 := by
  have hm := List.mem_of_getElem? hk
  obtain ⟨ws, h1, h2⟩ := o.m _ hm
  have gp : G d = none := o.z d (mem_feet hm (List.mem_singleton.mpr rfl))
  have e : Ex G (upd G d (.dK ws)) := Ex.new gp
  refine ⟨upd G d (.dK ws), e, ⟨o.g.trans e, o.l.trans e, o.h, ex_add o.i h1, fun a u z t y => ?_, o.k, fun r hr => r.mono e (o.m r (mem_erase hr)), fun a ha => ?_, feet_erase_nodup o.d, fun r hr => o.f r (mem_erase hr)⟩, ⟨d, ws, rfl, .inr ⟨rfl, upd_same⟩, h2.mono e⟩⟩
  · rcases o.f _ hm d (List.mem_singleton.mpr rfl) with q | q
    · rw [upd_ne (ne_of_none z q)]; exact o.n a u z t y
    · exact absurd q.1 (show ¬ (true = false) by decide)
  · obtain ⟨r, hr, hf⟩ := List.mem_flatMap.mp ha
    have ne : a ≠ d := fun q => feet_apart o.d hk hr a hf (List.mem_singleton.mpr q)
    rw [upd_ne ne]
    exact o.z a (feet_erase_sub ha)
theorem FsR.setS {f : Str} {r r0 : Rp} (hr : ∀ v, r0.p v G → r.p v G) : ∀ {ws : List (Str × V)} {rs : FL}, FsR G ws rs → rs.lookup f = some r0 → FsR G ws (setR f r rs)
  | _, _, .nil, h => by cases h
  | (g, x) :: ws, (g', r') :: rs, .cons h t, e => by
    obtain ⟨h1, h2⟩ := h
    have h1' : g = g' := h1
    subst h1'
    rw [List.lookup_cons] at e
    show FsR G ((g, x) :: ws) (if g = f then (g, r) :: rs else (g, r') :: setR f r rs)
    by_cases c : g = f
    · subst c
      rw [show (g == g) = true by simp] at e
      cases e
      rw [if_pos rfl]
      exact .cons ⟨rfl, hr _ h2⟩ t
    · have q : (f == g) = false := by simpa using fun z : f = g => c z.symm
      rw [q] at e
      rw [if_neg c]
      exact .cons ⟨rfl, h2⟩ (FsR.setS hr t e)
theorem w_frzID {f : Str} {k2 : Nat} (k i : Nat) (hk : M[k]? = some (insR true p C fs)) (hk2 : (M.eraseIdx k)[k2]? = some (dicR d kvs)) (hf : fs.lookup f = some (rV (.ref d))) (hi : Γ[i]? = some (some (rV (.ref p)))) (h : WP W (Γ.set i (some (rIns C (setR f (rD false kvs) fs)))) ((M.eraseIdx k).eraseIdx k2) t κ) : WP W Γ M t κ := fun B G H σ D o en dd => by
  obtain ⟨G2, e, o2, hr⟩ := o.frzI hk
  obtain ⟨G3, e3, o3, hr3⟩ := o2.frzM hk2
  obtain ⟨v, hv1, hv2⟩ := en.get hi
  obtain rfl : v = V.ref p := hv2
  refine h B G3 H σ D o3 (En.put ?_ (en.mono (e.trans e3)) hv1) dd
  obtain ⟨a, dx, ws, ea, h1, h2⟩ := hr
  exact ⟨a, dx, ws, ea, e3 _ _ h1, (h2.mono e3).setS (fun v hv => by obtain rfl : v = V.ref d := hv; exact hr3) hf⟩
end
section
variable {CX : CXT} {P : Program} {w : World} {K : PySem.W.Frag} {mg : Str → Option Value} {base : Heap} {k : Nat} {f : Addr} {name qual : Str} {params : Arguments} {body : List Stmt} {scope : Scope} {N ps : List Str} {sp : Sp} {fd : FuncData}
theorem fn_kw {pd : Str} (F : FunD K name qual params body scope [] [] f fd) (S : FnScope N (ps ++ [pd]) scope) (hCX : CXUp CX)
    (hb : ∀ us : List Value, us.length = ps.length → bindArgs fd ⟨us, []⟩ = ((alloc ({ cls := .type "dict", data := .dict #[] } : Obj) : Sem Addr) >>= fun d => pure (ps.zip us ++ [(pd, Value.ref d)])))
    (hbody : ∀ (cdv : Value) (A : Around) (outer : List Env) (s : Shared) (H : Hp) (vs : List V) (Q : VK) (E : XK), Room k (A.deeper (envOfC qual scope s.heap.objs.size f cdv)) → sp vs H Q E →
      ∃ t, PSs (cxOf CX P w K mg base N qual scope f cdv A outer s H E) body t ∧ t { nx := fun _ H' => Q .non H', rt := Q } (L2.start N vs) H) :
    FnR P w K mg base CX (k + 1) f (fun vs H Q E => vs.length = ps.length ∧ ∀ d, H d = Option.none → sp (vs ++ [V.ref d]) (upd H d (.dK [])) Q E) := by
  obtain ⟨oc, od, dV, kV, doc, pm, an, cdv, ct, osl, rfl, lk, hcd, _, _⟩ := F.ex
  intro A outer s H us vs Q E hr e0 r hsp
  obtain ⟨hl, hq⟩ := hsp
  have hn : H s.heap.objs.size = Option.none := e0.hok.fresh (Nat.le_refl _)
  have hl1 : us.length = ps.length := by rw [← r.length]; exact hl
  refine run_bnd lk hcd S hr e0 (G := fun xs H2 => ∃ d, H d = Option.none ∧ xs = vs ++ [V.ref d] ∧ H2 = upd H d (.dK [])) (fun A' Ex Q' h => ?_) fun s2 H2 xs ⟨d, hd, ex, eH⟩ hr' => ?_
  · rw [hb us hl1]
    refine wpAny_bind (wpAny_alloc (wpAny_pure ?_))
    have e2 := env0_laid (u := .dK []) (o := ({ cls := .type "dict", data := .dict #[] } : Obj)) e0 (dk_empty _ (env0_big e0))
    have un := un_laid (fs := frs outer) (s := s) (o := ({ cls := .type "dict", data := .dict #[] } : Obj)) (u := .dK []) hn
    have z := h _ _ (vs ++ [V.ref s.heap.objs.size]) (us ++ [Value.ref s.heap.objs.size]) e2 un rfl (fun e s' => hCX outer s H _ _ E e s' un (fun b o q => Heap.get?_push_of_some _ q) rfl) (r.append (.cons rfl .nil))
      (by rw [List.length_append, List.length_append, hl] <;> rfl) ⟨_, hn, rfl, rfl⟩
    rw [List.zip_append hl1.symm] at z
    exact z
  · subst ex eH
    exact hbody cdv A outer s2 _ _ Q E hr' (hq d hd)
end
def spK (n : Nat) (sp : Sp) : Sp := fun vs H Q E => vs.length = n ∧ ∀ d, H d = Option.none → sp (vs ++ [V.ref d]) (upd H d (.dK [])) Q E
theorem feet_perm {M M' : List Re} (h : M.Perm M') : (feet M).Perm (feet M') := by
  unfold feet
  exact h.flatMap_right _
theorem Ok.perm {B : Ba} {G H : Hp} {M M' : List Re} (o : Ok B G H M) (h : M.Perm M') : Ok B G H M' :=
  ⟨o.g, o.l, o.h, o.i, o.n, o.k, fun r hr => o.m r (h.mem_iff.mpr hr), fun a ha => o.z a ((feet_perm h).mem_iff.mpr ha), (feet_perm h).nodup_iff.mp o.d, fun r hr => o.f r (h.mem_iff.mpr hr)⟩
theorem e_makeC {W : WX} {Γ : Ctx} {M : List Re} {κ : KV} {ε : KX} {C : Addr} {E : XK} {ta : TA} {n : Nat} {R : List V → Hp → List Re → KV → KX → Prop} (h : EA W Γ M ta (fun rs M1 => rs.length + 1 = n ∧ ∀ p d vs G, RA G vs (rV (.ref p) :: (rs ++ [rV (.ref d)])) → R vs G (insR true p C [] :: dicR d [] :: M1) (fun r M' => r = rV .non ∧ ∃ M2, M'.Perm M2 ∧ κ (rV (.ref p)) M2) (fun _ _ _ => False)) ε) : EW W Γ M (tMakeR C (spK n (spC R)) E ta) κ ε := fun B G H σ o en Q q x =>
  h B G H σ o en _ (fun vs G1 H1 rs M1 h1 o1 e1 ra => fun p dx hp hdx ne => by
    obtain ⟨hl, hR⟩ := h1
    refine ⟨by show vs.length + 1 = n; rw [ra.len]; exact hl, fun d hd => ?_⟩
    have hp1 : upd H1 dx (.own p) p = none := by rw [upd_ne (Ne.symm ne)]; exact hp
    have g1 := Gr.out (o := .own p) o1.i hdx
    have g2 : Gr G1 (upd H1 dx (.own p)) G1 (upd (upd H1 dx (.own p)) p (.ins C dx [])) := Gr.out g1.i hp1
    have gp : G1 p = none := fresh_back o1.i hp
    have o2 : Ok B G1 (upd (upd H1 dx (.own p)) p (.ins C dx [])) (M1 ++ [insR true p C []]) := (o1.gr g1).add (R := insR true p C []) g2 (show [p].Nodup by simp) (fun a ha => by rw [List.mem_singleton.mp ha]; exact ⟨hp1, gp⟩) ⟨dx, [], upd_same, .nil⟩
    have g3 : Gr G1 (upd (upd H1 dx (.own p)) p (.ins C dx [])) G1 (upd (upd (upd H1 dx (.own p)) p (.ins C dx [])) d (.dK [])) := Gr.out g2.i hd
    have gd : G1 d = none := fresh_back g2.i hd
    have o3 : Ok B G1 (upd (upd (upd H1 dx (.own p)) p (.ins C dx [])) d (.dK [])) ((M1 ++ [insR true p C []]) ++ [dicR d []]) := o2.add (R := dicR d []) g3 (show [d].Nodup by simp) (fun a ha => by rw [List.mem_singleton.mp ha]; exact ⟨hd, gd⟩) ⟨[], upd_same, .nil⟩
    have o4 : Ok B G1 (upd (upd (upd H1 dx (.own p)) p (.ins C dx [])) d (.dK [])) (insR true p C [] :: dicR d [] :: M1) := o3.perm (by
      rw [List.append_assoc]
      exact List.perm_append_comm)
    refine ⟨B, G1, _, _, _, o4, hR p d _ G1 (.cons rfl (ra.append (.cons rfl .nil))), fun v G' H' r M' z o' e' hv => ?_, fun _ _ _ _ _ _ z => z.elim⟩
    obtain ⟨rfl, M2, pm, kk⟩ := z
    obtain rfl : v = V.non := hv
    exact ⟨rfl, q _ G' H' _ M2 kk (o'.perm pm) (e1.trans e') rfl⟩) x
theorem FunD.bindsK {K : PySem.W.Frag} {x qual : Str} {params : Arguments} {body : List Stmt} {scope : Scope} {kws : List (Str × V)} {f : Addr} {fd : FuncData} {ps : List Str} {pd : Str} (F : FunD K x qual params body scope [] kws f fd)
    (h : ∀ (kV doc pm : Value) (an : Option Addr) (cdv ct : Value) (us : List Value), us.length = ps.length → bindArgs (PySem.W.fnOf x qual params body scope .none kV doc pm an cdv ct) ⟨us, []⟩ = ((alloc ({ cls := .type "dict", data := .dict #[] } : Obj) : Sem Addr) >>= fun d => pure (ps.zip us ++ [(pd, Value.ref d)]))) : ∀ us : List Value, us.length = ps.length → bindArgs fd ⟨us, []⟩ = ((alloc ({ cls := .type "dict", data := .dict #[] } : Obj) : Sem Addr) >>= fun d => pure (ps.zip us ++ [(pd, Value.ref d)])) := by
  obtain ⟨oc, od, dV, kV, doc, pm, an, cdv, ct, osl, rfl, lk, hcd, hD, hK⟩ := F.ex
  rcases hD with ⟨_, rfl⟩ | ⟨e, _⟩
  · exact h kV doc pm an cdv ct
  · exact absurd rfl e
theorem bindsD1 {K : PySem.W.Frag} {x qual : Str} {params : Arguments} {body : List Stmt} {scope : Scope} {dvs : List V} {kws : List (Str × V)} {f : Addr} {fd : FuncData} {ps : List Str} (F : FunD K x qual params body scope dvs kws f fd) (hd : dvs ≠ [])
    (h : ∀ (T : Addr) (kV doc pm : Value) (an : Option Addr) (cdv ct : Value) (us its : List Value), us.length = ps.length → its.length = dvs.length →
      ∃ k, bindArgs (PySem.W.fnOf x qual params body scope (.ref T) kV doc pm an cdv ct) ⟨us, []⟩ = seqItems? (.ref T) >>= k ∧ k (some its.toArray) = pure (ps.zip (us ++ its.drop dvs.length))) : Binds K fd ps [] := by
  obtain ⟨ds, hv, hb⟩ := F.binds1 ps.length dvs.length hd (by omega) h
  rw [List.drop_length] at hv
  cases hv
  exact hb
theorem x_sorted0 {Γ : Ctx} {te : TE} {K : PySem.W.Frag} (h : EvX Γ te (rL K [])) : EvX Γ (tCB (rSortedS K) (tCons te tNil)) (rL K []) := fun σ G en H e Q q => h σ G en H e _ fun v G1 H1 g1 hv => by
  obtain ⟨a, ws, rfl, h1, h2⟩ := hv
  cases h2
  refine ⟨a, [], rfl, sq_of (g1.i _ _ h1), by show 0 < 64; decide, fun ys p hp _ hn => ?_⟩
  obtain rfl := List.Perm.eq_nil hp
  have g3 := Gr.new (o := .lst []) g1.i hn
  exact q _ _ _ (g1.trans g3) ⟨p, [], rfl, upd_same, .nil⟩
end Mu
theorem L2.Room.u1 {k : Nat} {A : PySem.Around} (r : L2.Room k A) : A.units + 1 < PySem.cLine := by have := r.un; omega

namespace Mu
open PySem PySem.Spec PyProof.Rows L2 He Evl
def Ites (x : Str) : It := ⟨fun i _ => i < x.cps.size, fun i H v H' => ∃ T c, v = .ref T ∧ H T = none ∧ H' = upd H T (.tup [.int (i : Nat), .str ⟨#[c]⟩]) ∧ x.cps[i]? = some c, fun i _ => i = x.cps.size⟩
theorem turn_enumS {P : Program} {w : World} {K : PySem.W.Frag} {elts : List Expr} {kk : Nat} {tpos : Pos} (x : Str) (t : Tok) (e it : Addr) :
    Turn P w K (.Tuple elts kk tpos) (Ites x) [e, it] e (fun i h => (∃ old, IsEnum h e it ((i : Nat) : Int) old) ∧ h.IsStrIter it (strIterType x) x t i ∧ e ≠ it) where
  mem := by simp
  obj := fun i h st b hb => by
    obtain ⟨⟨old, he⟩, ⟨o, ho, hc, hd⟩, _⟩ := st
    have e' : b = e ∨ b = it := by simpa using hb
    rcases e' with z | z
    · rw [z]; exact ⟨_, he, fun v q => nomatch q⟩
    · rw [z]; exact ⟨o, ho, fun v q => by rw [hd] at q; cases q⟩
  keep := fun i h h' st k => let ⟨⟨old, he⟩, ⟨o, ho, r⟩, hne⟩ := st; ⟨⟨old, k e (by simp) _ he⟩, ⟨o, k it (by simp) o ho, r⟩, hne⟩
  item := by
    intro X hP hw hK hc i pins s σ H E I hf st hg
    subst hP hw hK
    obtain ⟨⟨old, he⟩, hit, hne⟩ := st
    have hi : i < x.cps.size := hg
    have hel : e < s.heap.objs.size := Heap.lt_size he
    have hil : it < s.heap.objs.size := by obtain ⟨_, q, _⟩ := hit; exact Heap.lt_size q
    have hh : X.A.in1.handled = none := I.ok.hd hc
    refine wpAny_pyNext_enum_itemD (Draws.text hh it x t) he hit hi hne (by simpa using hne) fun u h' tk hu ho hit' hT hsz hk => ?_
    obtain ⟨c, u', hc2, rfl⟩ := hu
    refine ⟨_, rfl, wpAny_letOwnedTupleGo_enum (s := { s with heap := h', toks := tk + 1 }) ho fun h'' he' sb => ?_⟩
    have hT2 : h''.get? s.heap.objs.size = some { cls := .type "tuple", data := .seq #[.int i tk, .str ⟨#[c]⟩ u'] } := (sb.2 _ (Nat.ne_of_gt hel)).trans hT
    have new : ObjOk X.prog X.w (upd H s.heap.objs.size (.tup [.int (i : Nat), .str ⟨#[c]⟩])) h'' s.heap.objs.size (.tup [.int (i : Nat), .str ⟨#[c]⟩]) :=
      ⟨by show 2 ≤ sizeLine; decide, [.int i tk, .str ⟨#[c]⟩ u'], .cons ⟨_, rfl⟩ (.cons ⟨_, rfl⟩ .nil), ⟨_, hT2, rfl, _, rfl⟩⟩
    have I1 : Inv X pins σ (upd H s.heap.objs.size (.tup [.int (i : Nat), .str ⟨#[c]⟩])) { s with heap := h'', toks := tk + 1 } :=
      I.turnedNew (ch := [e, it]) (fun b ob hb q => (sb.2 b (fun z => hb (by simp [z]))).trans (hk b ob (fun z => hb (by simp [z])) (fun z => hb (by simp [z])) q)) hf (Nat.le_refl _) new
    obtain ⟨oi, ho2, r2⟩ := hit'
    refine ⟨.ref s.heap.objs.size, _, I1, rfl, ⟨_, c, rfl, I.hok.fresh (Nat.le_refl _), rfl, hc2⟩, ⟨⟨.str ⟨#[c]⟩ u', ?_⟩, ⟨oi, (sb.2 it (Ne.symm hne)).trans ho2, r2⟩, hne⟩, fun b hb => ?_⟩
    · have e1 : ((i + 1 : Nat) : Int) = (i : Int) + 1 := by omega
      rw [e1]; exact he'
    · have hb' : b < s.heap.objs.size := by
        have e' : b = e ∨ b = it := by simpa using hb
        rcases e' with z | z
        · rw [z]; exact hel
        · rw [z]; exact hil
      rw [upd_ne (Nat.ne_of_lt hb')]
      exact (hf b hb).1
  done := by
    intro X hP hw hK hc i pins s σ H E I hf st hg
    subst hP hw hK
    obtain ⟨⟨old, he⟩, hit, hne⟩ := st
    obtain rfl : i = x.cps.size := hg
    obtain ⟨f0, f1, f2, f3, f4, f5⟩ := hf it (by simp)
    have hh : X.A.in1.handled = none := I.ok.hd hc
    exact wpAny_pyNext_enum_endD (Draws.text hh it x t) he hit fun h' eb => ⟨rfl, I.turned (t' := s.toks) (fun b o hb q => eb b o hb q) f0 f1 f3 f4 f5⟩
  self := fun A i s Q E st h => let ⟨⟨_, he⟩, _⟩ := st; wpAny_pyIter_enum he h
def iEnS (ta : TA) : TI := fun σ H R => ta σ H fun vs H1 => ∃ x, vs = [.str x] ∧ R (Ites x) H1
theorem pi_enumS {X : Cx} {e : Expr} {ta : TA} {p pos tpos : Pos} {elts : List Expr} {kk : Nat} (hg : Gl X "enumerate") (hm : X.mg "enumerate" = none) (ha : PA X [e] ta) (hs : starEach [e] X.env = [(false, eval e X.env)] := by rfl) :
    PI X (.Tuple elts kk tpos) (.Call (.Name "enumerate" p) [e] [] pos) (iEnS ta) := by
  refine ⟨fun pins s σ H R I h => ?_⟩
  refine Call_ (ld_blt I hg hm boot_enumerate (PyProof.Rows.callWith_type1 (thn (ha.run pos pins s σ H _ I h) fun us s1 ⟨vs, H1, I1, r1, q1⟩ => ?_) hs rfl))
  obtain ⟨x, ex, q⟩ := q1
  subst ex
  cases r1 with
  | cons r rr =>
    cases rr
    obtain ⟨t, rfl⟩ := r
    refine call_enumerate_str fun h' he hit hsz hk => wpAny_pyIter_enum he ?_
    have I2 : Inv X pins σ H1 { s1 with heap := h' } := I1.kept (t' := s1.toks) hk
    refine ⟨s1.heap.objs.size + 1, [s1.heap.objs.size + 1, s1.heap.objs.size], _, _, H1, rfl, I2, turn_enumS x t (s1.heap.objs.size + 1) s1.heap.objs.size, ⟨⟨.none, he⟩, hit, Nat.succ_ne_self _⟩, fun b hb => ?_, q⟩
    have e' : b = s1.heap.objs.size + 1 ∨ b = s1.heap.objs.size := by simpa using hb
    have hle : s1.heap.objs.size ≤ b := by
      rcases e' with z | z
      · rw [z]; exact Nat.le_add_right _ _
      · rw [z]; exact Nat.le_refl _
    exact I1.fpOk hle (I1.hok.fresh hle)
section
variable {W : WX} {Γ : Ctx} {M : List Re} {te ta tb tv td : TE} {K : PySem.W.Frag} {r : Rp} {κ : KV} {ε : KX} {kvs : List (Key × Rp)} {z : Bool} {s : Str} {p : Addr}
theorem om_dgetF (hv : valA kvs (.inr s) = some r) (kk : κ r M) : OM rDGet (rD z kvs) (rV (.str s)) M κ := om_dget (k := .inr s) hv kk
theorem om_dinF (kk : κ (rB (valA kvs (.inr s)).isSome) M) : OM rDIn (rV (.str s)) (rD z kvs) M κ := om_din (k := .inr s) kk
theorem om_dniF (kk : κ (rB (!(valA kvs (.inr s)).isSome)) M) : OM rDNotIn (rV (.str s)) (rD z kvs) M κ := om_dni (k := .inr s) kk
theorem om_dniS (idx : Nat) (hk : M[idx]? = some (dicR p kvs)) (kk : κ (rB (!(valA kvs (.inr s)).isSome)) M) : OM rDNotIn (rV (.str s)) (rV (.ref p)) M κ := om_dniO (k := .inr s) idx hk kk
theorem am_lenDO (idx : Nat) (hk : M[idx]? = some (dicR p kvs)) (kk : κ (nI kvs.length) M) : AM rLenD [rV (.ref p)] M κ := fun B G H vs o ra Q q => by
  obtain ⟨x, rfl, hx⟩ := ra1 ra
  obtain rfl : x = V.ref p := hx
  obtain ⟨ws, h2, h3⟩ := o.m _ (List.mem_of_getElem? hk)
  exact ⟨p, ws, rfl, .inl h2, q _ G H _ M kk o (Ex.refl _) (by rw [h3.len]; rfl)⟩
theorem ws_dputS {κ : Kn} (idx : Nat) (h : EW W Γ M tv (fun r M1 => EW W Γ M1 td (fun r1 M2 => ∃ p, r1 = rV (.ref p) ∧ EW W Γ M2 ta (fun r2 M3 => ∃ s kvs, r2 = rV (.str s) ∧ M3[idx]? = some (dicR p kvs) ∧ kvs.length < 50000 ∧ κ.nx Γ (M3.set idx (dicR p (putA kvs (.inr s) r)))) (κ.ex Γ)) (κ.ex Γ)) (κ.ex Γ)) : WP W Γ M (sDPut td ta tv) κ := ws_dput idx (by
  have key : ∀ (r2 : Rp) (M3 : List Re) (p : Addr) (r : Rp), (∃ s kvs, r2 = rV (.str s) ∧ M3[idx]? = some (dicR p kvs) ∧ kvs.length < 50000 ∧ κ.nx Γ (M3.set idx (dicR p (putA kvs (.inr s) r)))) → ∃ k kvs, r2 = rV (kV k) ∧ M3[idx]? = some (dicR p kvs) ∧ kvs.length < 50000 ∧ κ.nx Γ (M3.set idx (dicR p (putA kvs k r))) := fun r2 M3 p r ⟨s, kvs, h1, h2⟩ => ⟨.inr s, kvs, h1, h2⟩
  intro B G H σ o en Q q x
  refine h B G H σ o en Q (fun v G' H' r M' k o' e hv => q v G' H' r M' (fun B G H σ o en Q q x => k B G H σ o en Q (fun v G' H' r1 M' k o' e hv => q v G' H' r1 M' ?_ o' e hv) x) o' e hv) x
  obtain ⟨p, hp, k2⟩ := k
  exact ⟨p, hp, fun B G H σ o en Q q x => k2 B G H σ o en Q (fun v G' H' r2 M' k o' e hv => q v G' H' r2 M' (key _ _ _ _ k) o' e hv) x⟩)
theorem IX.map {β γ : Type} {ti : TI} {l : List β} {f : β → γ} {ρ : γ → Rp} (h : IX Γ ti (l.map f) ρ) : IX Γ ti l (fun b => ρ (f b)) := fun σ G en H e R q => h σ G en H e R fun G1 H1 J g it => q G1 H1 J g ⟨fun i H hi ex => it.goes i H (by rw [List.length_map]; exact hi) ex, fun H ex => by
    have := it.stops H ex
    rw [List.length_map] at this
    exact this, fun i H x H' hi ex y => by
    obtain ⟨h1, h2⟩ := it.yld i H x H' (by rw [List.length_map]; exact hi) ex y
    exact ⟨h1, fun a ha => h2 (f a) (by rw [List.getElem?_map, ha]; rfl)⟩⟩
theorem ix_KC {l : List Nat} (h : EvX Γ td (rD true kvs)) (e : kvs.map (·.1) = l.map fun c => Sum.inr (ltr c)) : IX Γ (iKeys td) l rC := by
  have z := ix_K h
  rw [e] at z
  exact z.map
end
theorem cr_sortedSK (K : PySem.W.Frag) {X : Cx} (hK : X.K = K := by rfl) : CallR X (.builtin "sorted") (rSortedS K) := by
  subst hK
  exact cr_sortedS
theorem w_forES {α : Type} {W : WX} {Γ : Ctx} {M : List Re} {K : PySem.W.Frag} {te : TE} {tu : TS} {κ : Kn} {j j' : Nat} {s : Str} (P : Nat → α → Prop) (Γi : Nat → α → Ctx) (Mi : Nat → α → List Re) (h : EvX Γ te (rV (.str s))) (a0 : α) (p0 : P 0 a0) (s0 : Sub Γ (Γi 0 a0)) (m0 : M = Mi 0 a0)
    (hs : ∀ i a c, s.cps.toList[i]? = some c → P i a → WP W (((Γi i a).set j (some (nI i))).set j' (some (rC c))) (Mi i a) tu (kLoop (LI P Γi Mi (i + 1)) κ)) (hd : ∀ a, P s.cps.toList.length a → κ.nx (Γi s.cps.toList.length a) (Mi s.cps.toList.length a)) : WP W Γ M (tFor (iEnS (tCons te tNil)) (gTup K 2 (gCons (gName j) (gCons (gName j') gNil))) tu) κ := fun B G H σ D o en d => by
  refine h σ G en H o.i _ fun v G1 H1 g1 hv => ?_
  obtain rfl : v = V.str s := hv
  have o1 := (o.gr g1).low (Ex.refl G1)
  have eb : Ex B.Gl G1 := o.l.trans g1.g
  have el : s.cps.toList.length = s.cps.size := by simp
  refine ⟨s, rfl, for_I (n := s.cps.toList.length) (fun i σ' H' => Pv (B.low G1) (LI P Γi Mi i) σ' H') ⟨G1, Γ, M, o1, en.mono g1.g, a0, p0, s0, m0⟩ (fun i σ' H' hi _ => (show i < s.cps.size by omega)) (fun σ' H' _ => el) (fun i σ' H' x H'' hi ⟨G2, Γ2, M2, o2, en2, a, pa, sa, ma⟩ y => ?_) (fun σ' H' ⟨G2, Γ2, M2, o2, en2, a, pa, sa, ma⟩ => ?_)⟩
  · obtain ⟨T, c, rfl, hT, rfl, hc⟩ := y
    subst ma
    have hb : s.cps.toList[i]? = some c := by simpa using hc
    have d2 := (d.low eb).loop (I := LI P Γi Mi (i + 1))
    refine ⟨T, _, rfl, st_of upd_same, rfl, _, _, rfl, _, _, rfl, rfl, ?_⟩
    exact hs i a c hb pa (B.low G1) G2 _ _ _ (o2.ex (Ex.new hT)) (((en2.weak sa).set (r := nI i) rfl j).set (r := rC c) rfl j') d2
  · subst ma
    exact d.nx _ G2 H' _ _ (o2.up eb) (en2.weak sa) (hd a pa)
end Mu

namespace Mu
open PySem PySem.Spec PyProof.Rows L2 He Evl
def sL (l : List Nat) : Str := ⟨l.toArray⟩
abbrev rSt (l : List Nat) : Rp := rV (.str (sL l))
section
variable {l l' : List Nat} {n : Nat}
theorem sL_cps : (sL l).cps.toList = l := rfl
theorem sL_len : (sL l).length = l.length := by show l.toArray.size = _; simp
theorem sL_of (s : Str) : sL s.cps.toList = s := by
  unfold sL
  cases s
  simp
theorem sL_app : sL l ++ sL l' = sL (l ++ l') := by
  show (⟨l.toArray ++ l'.toArray⟩ : Str) = ⟨(l ++ l').toArray⟩
  simp
theorem cutS_to (h : n ≤ l.length) : cutS (sL l) none (some (n : Int)) = sL (l.take n) := by
  unfold cutS
  rw [HT.sIx_none, HT.sIx_nat, sL_len, Nat.min_eq_left h, List.drop_zero, Nat.sub_zero]
  rfl
theorem cutS_from (h : n ≤ l.length) : cutS (sL l) (some (n : Int)) none = sL (l.drop n) := by
  unfold cutS
  rw [HT.sIx_none, HT.sIx_nat, sL_len, Nat.min_eq_left h]
  show sL (((l.drop n)).take (l.length - n)) = _
  rw [List.take_of_length_le (by rw [List.length_drop]; omega)]
end
section
variable {W : WX} {Γ : Ctx} {M : List Re} {te tb : TE} {κ : KV} {ε : KX} {l l' : List Nat} {n : Nat} {r1 r2 : Rp}
theorem e_sSTo (hb : EvX Γ tb (nI n)) (h : EW W Γ M te (fun r M1 => ∃ l, r = rSt l ∧ n ≤ l.length ∧ l.length ≤ 100000 ∧ κ (rSt (l.take n)) M1) ε) : EW W Γ M (tSl rSlS te tNoPart (tPart tb)) κ ε := fun B G H σ o en Q q x =>
  h B G H σ o en _ (fun v G1 H1 r M1 h1 o1 e1 hv => by
    obtain ⟨l, rfl, h2, h3, kk⟩ := h1
    obtain rfl : v = V.str (sL l) := hv
    refine hb σ G1 (en.mono e1) H1 o1.i _ fun w G2 H2 g2 hw => ?_
    obtain rfl : w = V.int (n : Int) := hw
    refine ⟨_, rfl, sL l, rfl, sz_of (by rw [sL_len]; exact h3), ?_⟩
    rw [cutS_to h2]
    exact q _ G2 H2 _ M1 kk (o1.gr g2) (e1.trans g2.g) rfl) x
theorem e_sSFrom (hb : EvX Γ tb (nI n)) (h : EW W Γ M te (fun r M1 => ∃ l, r = rSt l ∧ n ≤ l.length ∧ l.length ≤ 100000 ∧ κ (rSt (l.drop n)) M1) ε) : EW W Γ M (tSl rSlS te (tPart tb) tNoPart) κ ε := fun B G H σ o en Q q x =>
  h B G H σ o en _ (fun v G1 H1 r M1 h1 o1 e1 hv => by
    obtain ⟨l, rfl, h2, h3, kk⟩ := h1
    obtain rfl : v = V.str (sL l) := hv
    refine hb σ G1 (en.mono e1) H1 o1.i _ fun w G2 H2 g2 hw => ?_
    obtain rfl : w = V.int (n : Int) := hw
    refine ⟨_, rfl, sL l, rfl, sz_of (by rw [sL_len]; exact h3), ?_⟩
    rw [cutS_from h2]
    exact q _ G2 H2 _ M1 kk (o1.gr g2) (e1.trans g2.g) rfl) x
theorem om_addL (hl : l.length + l'.length ≤ 100000) (k : κ (rSt (l ++ l')) M) : OM rAddT (rSt l) (rSt l') M κ := om (x_is (x_addT (x_v rfl) (x_v rfl) (by rw [sL_len, sL_len]; exact hl)) (by rw [sL_app])) k
theorem om_ixT {c : Nat} (hl : l.length ≤ 100000) (hc : l[n]? = some c) (k : κ (rC c) M) : OM rIxS (rSt l) (nI n) M κ := om (x_ixS (x_v rfl) (x_v rfl) (by rw [sL_len]; exact hl) hc) k
theorem am_lenL (hl : l.length ≤ 100000) (k : κ (nI l.length) M) : AM rLenT [rSt l] M κ := am_lenT (by rw [sL_len]; exact hl) (by rw [sL_len]; exact k)
theorem ix_T (h : EvX Γ te (rSt l)) : IX Γ (iStr te) l rC := ix_S h
end
section
variable {W : WX} {Γ : Ctx} {M : List Re} {tl : TE} {K : PySem.W.Frag} {j : Nat} {β α : Type} {l : List β} {ρ : β → Rp} {tu : TS} {κ : Kn} {B : Ba} {G1 H1 : Hp} {J : It} {σ : L2.St} {D : Ends}
theorem w_loop (P : Nat → α → Prop) (Γi : Nat → α → Ctx) (Mi : Nat → α → List Re) (it : Itm G1 J l ρ) (o : Ok B G1 H1 M) (en : En σ G1 Γ) (d : Dk B W D κ) (a0 : α) (p0 : P 0 a0) (s0 : Sub Γ (Γi 0 a0)) (m0 : M = Mi 0 a0)
    (hs : ∀ i a x, l[i]? = some x → P i a → WP W ((Γi i a).set j (some (ρ x))) (Mi i a) tu (kLoop (LI P Γi Mi (i + 1)) κ)) (hd : ∀ a, P l.length a → κ.nx (Γi l.length a) (Mi l.length a)) :
    ∃ W : Nat → Nat → L2.St → Hp → Prop, (∃ m, W 0 m σ H1) ∧ ∀ i m σ H, W i m σ H →
      (J.stop i H ∧ D.nx σ H) ∨ (J.go i H ∧ ∃ N : L2.St → Hp → Prop, (∀ σ' H', N σ' H' → ∃ m', m' < m ∧ W (i + 1) m' σ' H') ∧ ∀ x H', J.yld i H x H' → gName j x σ H' fun σ2 H2 => tu { D with nx := N, ct := N, bk := D.nx } σ2 H2) := by
  have o1 := o.low (Ex.refl G1)
  have eb : Ex B.Gl G1 := o.l
  refine for_I (n := l.length) (fun i σ' H' => Pv (B.low G1) (LI P Γi Mi i) σ' H') ⟨G1, Γ, M, o1, en, a0, p0, s0, m0⟩ (fun i σ' H' hi ⟨G2, _, _, o2, _⟩ => it.goes i H' hi (o2.l.trans o2.i)) (fun σ' H' ⟨G2, _, _, o2, _⟩ => it.stops H' (o2.l.trans o2.i)) (fun i σ' H' x H'' hi ⟨G2, Γ2, M2, o2, en2, a, pa, sa, ma⟩ y => ?_) (fun σ' H' ⟨G2, Γ2, M2, o2, en2, a, pa, sa, ma⟩ => ?_)
  · obtain ⟨rfl, hx⟩ := it.yld i H' x H'' hi (o2.l.trans o2.i) y
    subst ma
    obtain ⟨b, hb⟩ : ∃ b, l[i]? = some b := ⟨_, List.getElem?_eq_getElem hi⟩
    have d2 := (d.low eb).loop (I := LI P Γi Mi (i + 1))
    exact hs i a b hb pa (B.low G1) G2 _ _ _ o2 ((en2.weak sa).set ((ρ b).mono o2.l (hx b hb)) j) ⟨fun σ G H Γ M o en z => d2.nx σ G H Γ M o en z, d2.rt, d2.bk, fun σ G H Γ M o en z => d2.ct σ G H Γ M o en z, d2.ex⟩
  · subst ma
    exact d.nx _ G2 H' _ _ (o2.up eb) (en2.weak sa) (hd a pa)
theorem itm_L {a : Addr} {ws : List V} (h1 : G1 a = some (.lst ws)) (h2 : RA G1 ws (l.map ρ)) : Itm G1 (Itl K a) l ρ := by
  have el : ws.length = l.length := by rw [h2.len, List.length_map]
  refine ⟨fun i H' hi ex => ?_, fun H' ex => ⟨ws, sq_of (ex _ _ h1), by omega⟩, fun i H' x H'' hi ex y => ?_⟩
  · exact ⟨ws, ws[i]'(by omega), sq_of (ex _ _ h1), List.getElem?_eq_getElem (by omega)⟩
  · obtain ⟨y1, y2⟩ := y
    refine ⟨y1, fun b hb => ?_⟩
    obtain ⟨r, hr, hx⟩ := h2.getV (y2 ws (sq_of (ex _ _ h1)))
    rw [List.getElem?_map, hb] at hr
    cases hr
    exact hx
theorem w_forEv (h : EW W Γ M tl (fun r M1 => ∃ (l : List β) (ρ : β → Rp) (P : Nat → α → Prop) (Γi : Nat → α → Ctx) (Mi : Nat → α → List Re) (a0 : α), r = rL K (l.map ρ) ∧ P 0 a0 ∧ Sub Γ (Γi 0 a0) ∧ M1 = Mi 0 a0 ∧ (∀ i a x, l[i]? = some x → P i a → WP W ((Γi i a).set j (some (ρ x))) (Mi i a) tu (kLoop (LI P Γi Mi (i + 1)) κ)) ∧ (∀ a, P l.length a → κ.nx (Γi l.length a) (Mi l.length a))) (κ.ex Γ)) : WP W Γ M (tFor (iList K tl) (gName j) tu) κ := fun B G H σ D o en d =>
  h B G H σ o en _ (fun v G1 H1 r M1 z o1 e1 hv => by
    obtain ⟨l, ρ, P, Γi, Mi, a0, rfl, p0, s0, m0, hs, hd⟩ := z
    obtain ⟨a, ws, rfl, h1, h2⟩ := hv
    exact ⟨a, rfl, ⟨ws, sq_of (o1.i _ _ h1)⟩, w_loop P Γi Mi (itm_L h1 h2) o1 (en.mono e1) d a0 p0 s0 m0 hs hd⟩) (fun cls fs dd G' H' M' k o' e' xd => d.ex σ G' H' Γ M' cls dd fs o' (en.mono e') xd k)
end
end Mu

namespace Mu
open PySem PySem.Spec PyProof.Rows L2 He Evl
section
variable {Γ : Ctx} {te : TE} {t1 : TT} {j j1 : Nat} {vs vs1 : List Nat} {β γ : Type} {ti ti1 : TI} {l : List β} {ρ : β → Rp} {l1 : β → List γ} {ρ1 : β → γ → Rp} {f1 : β → γ → Bool} {rr : β → γ → Rp}
end
end Mu

namespace Mu
open PySem PySem.Spec PyProof.Rows L2 He Evl
section
variable {prog : Program} {w : World} {A : Around} {E : Value → Shared → Prop} {s : Shared} {K : PySem.W.Frag} {x C f : Addr} {ox : Obj} {od : Option Obj} {name : Str} {b : Value}
end
section
variable {X : Cx} {CX : CXT} {k : Nat} {f C : Addr} {fd : FuncData} {ps : List Str} {sp : Sp} {E : XK}
end
section
variable {K : PySem.W.Frag} {Γ : Ctx} {te : TE} {s : Str}
theorem x_isIntS (h : EvX Γ te (rV (.str s))) : EvX Γ (tCB (rIsi K) (tCons te (tCons (tC (.ty "int")) tNil))) (rB false) := fun σ G en => Ev.d (ev_isi (h σ G en) (.ty _) fun v H hv => ⟨_, by obtain rfl : v = V.str s := hv; exact .base (.str s), kit_ty (by decide +kernel)⟩)
theorem x_isStrS (h : EvX Γ te (rV (.str s))) : EvX Γ (tCB (rIsi K) (tCons te (tCons (tC (.ty "str")) tNil))) (rB true) := fun σ G en => Ev.d (ev_isi (h σ G en) (.ty _) fun v H hv => ⟨_, by obtain rfl : v = V.str s := hv; exact .base (.str s), kit_same⟩)
end
end Mu

namespace Mu
open PySem PySem.Spec PyProof.Rows L2 He Evl
abbrev Cl := Value × (Addr → Value → Option Addr → TS)
section
variable {X : Cx} {n : Str} {i : Nat} {body : List Stmt} {h0 : ExceptHandler} {hds : List ExceptHandler} {l : List Cl} {pos : Pos} {tb : WX → TS} {Wo : WX}
end
section
variable {W : WX} {Γ : Ctx} {M : List Re} {K : PySem.W.Frag} {i : Nat} {tb : WX → TS} {κ : Kn}
end
end Mu

namespace Mu
open PySem PySem.Spec PyProof.Rows L2 He Evl
def rListK : List V → Hp → VK → Prop := fun xs H Q => ∃ p kvs, xs = [.ref p] ∧ Rd H p (.dK kvs) ∧ ∀ q, H q = none → Q (.ref q) (upd H q (.lst (kvs.map fun kv => kV kv.1)))
theorem call_listR {X : Cx} (hc : X.calm = true) : CallR X (.type "list") rListK := by
  intro pins s σ H xs us Q I r h
  obtain ⟨p, kvs, rfl, hk, q⟩ := h
  obtain ⟨u, rfl, rx⟩ := vals1 r
  cases (show u = Value.ref p from rx)
  obtain ⟨z, lo, vs, rk, hd⟩ := (show ObjOk X.prog X.w H s.heap p (.dK kvs) from hk.ok I.hok)
  obtain ⟨ep, hat⟩ := hd.dictAt
  have ll : kvs.length = vs.length := Paired.length rk
  have zz : vs.length ≤ sizeLine := by rw [← ll]; exact z
  refine PySem.W.kdl_call (PySem.W.kdl_dict (knd := mixKind X.prog X.w) (kvs := vs) (ep := ep) lo) (I.ok.hd hc) hat zz fun h' tk acc c' kp hS ha => ?_
  have ek : (kvs.map fun kv => kV kv.1) = (kvs.map (·.1)).map kV := by rw [List.map_map]; rfl
  have ok : ObjOk X.prog X.w (upd H s.heap.objs.size (.lst (kvs.map fun kv => kV kv.1))) h' s.heap.objs.size (.lst (kvs.map fun kv => kV kv.1)) := by
    refine ⟨by rw [List.length_map]; exact z, acc.toList, c', vals_of_at ?_ fun j x w h1 h2 => ?_, by rw [Array.toArray_toList]; exact hS⟩
    · have e0 : acc.toList.length = acc.size := by simp
      rw [List.length_map, e0, ha.1, ll]
    · obtain ⟨k, y, hky, hi⟩ := ha.2 j w (by rw [← Array.getElem?_toList]; exact h2)
      rw [ek, List.getElem?_map, KV.keys rk, List.getElem?_map, hky] at h1
      cases h1
      exact keyIs_rel hi
  exact ⟨.ref s.heap.objs.size, _, I.laid kp (Nat.le_refl _) ok, rfl, q _ (I.hok.fresh (Nat.le_refl _))⟩
theorem ra_ltr {G : Hp} : ∀ l : List Nat, RA G (l.map fun c => V.str (ltr c)) (l.map rC)
  | [] => .nil
  | _ :: l => .cons rfl (ra_ltr l)
section
variable {W : WX} {Γ : Ctx} {M : List Re} {ta tb : TE} {K : PySem.W.Frag} {κ : KV} {kvs : List (Key × Rp)} {z : Bool} {l : List Nat}
theorem am_listK (hk : kvs.map (·.1) = l.map fun c => (Sum.inr (ltr c) : Key)) (kk : κ (rL K (l.map rC)) M) : AM rListK [rD z kvs] M κ := fun B G H vs o ra Q q => by
  obtain ⟨x, rfl, hx⟩ := ra1 ra
  obtain ⟨d, ws, rfl, h2, h3⟩ := rD_get hx o.i
  refine ⟨d, ws, rfl, h2, fun p hp => ?_⟩
  have e : (ws.map fun kv => kV kv.1) = l.map fun c => V.str (ltr c) := by
    rw [show (ws.map fun kv => kV kv.1) = (ws.map (·.1)).map kV by rw [List.map_map]; rfl, h3.keys, hk, List.map_map]; rfl
  rw [e]
  have g := Gr.new (o := .lst (l.map fun c => V.str (ltr c))) o.i hp
  refine q _ _ _ (rL K (l.map rC)) M kk (o.gr g) g.g ⟨p, _, rfl, upd_same, ?_⟩
  exact ra_ltr _
end
theorem w_forRW {α : Type} {W : WX} {Γ : Ctx} {M : List Re} {ta : TE} {tu : TS} {κ : Kn} {j : Nat} (h : EW W Γ M ta (fun r M1 => ∃ (n : Nat) (P : Nat → α → Prop) (Γi : Nat → α → Ctx) (Mi : Nat → α → List Re) (a0 : α), r = nI n ∧ n ≤ 100000 ∧ P 0 a0 ∧ Sub Γ (Γi 0 a0) ∧ M1 = Mi 0 a0 ∧ (∀ i a, i < n → P i a → WP W ((Γi i a).set j (some (nI i))) (Mi i a) tu (kLoop (LI P Γi Mi (i + 1)) κ)) ∧ (∀ a, P n a → κ.nx (Γi n a) (Mi n a))) (κ.ex Γ)) : WP W Γ M (tFor (iRng1 (tCons ta tNil)) (gName j) tu) κ := fun B G H σ D o en d => by
  refine h B G H σ o en _ (fun v G1 H1 r M1 z o1 e1 hv => ?_) (fun cls fs dd G' H' M' k o' e' xd => d.ex σ G' H' Γ M' cls dd fs o' (en.mono e') xd k)
  obtain ⟨n, P, Γi, Mi, a0, rfl, hn, p0, s0, m0, hs, hd⟩ := z
  obtain rfl : v = V.int (n : Int) := hv
  refine (show tFor (iRng1 (tCons (tC (.int (n : Int))) tNil)) (gName j) tu D σ H1 from Mu.s_forR (G := H1) n (Ex.refl H1) (ea_cons ev_c ea_nil) hn (fun i σ' H' => ∃ G Γ M, Ok B G H' M ∧ En σ' G Γ ∧ LI P Γi Mi i Γ M) (fun H2 e => ⟨G1, Γ, M1, o1.ex e, en.mono e1, a0, p0, s0, m0⟩) (fun i σ' H' hi ⟨G2, Γ2, M2, o2, en2, a, pa, sa, ma⟩ => ?_) (fun σ' H' ⟨G2, Γ2, M2, o2, en2, a, pa, sa, ma⟩ => ?_))
  · subst ma
    exact hs i a hi pa B G2 H' _ _ o2 ((en2.weak sa).set (r := nI i) rfl j) d.loop
  · subst ma
    exact d.nx _ G2 H' _ _ o2 (en2.weak sa) (hd a pa)
theorem EW.drop {W : WX} {Γ : Ctx} {M : List Re} {te : TE} {κ : KV} {ε : KX} (k : Nat) (h : EW W Γ M te (fun r M' => κ r (M'.eraseIdx k)) ε) : EW W Γ M te κ ε := fun B G H σ o en Q q x => h B G H σ o en Q (fun v G' H' r M' z o' e hv => q v G' H' r (M'.eraseIdx k) z o'.drop e hv) x
section
variable {Γ : Ctx} {ta tb : TE} {K : PySem.W.Frag}
end
end Mu

namespace Mu
open PySem PySem.Spec PyProof.Rows L2 He Evl
section
variable {X : Cx} {CX : CXT} {k : Nat} {f C : Addr} {fd : FuncData} {ps : List Str} {sp : Sp} {E : L2.St → XK} {a b e fe : Expr} {es : List Expr} {ta tb tf : TE} {t : TA} {pos : Pos}
end
section
variable {W : WX} {Γ : Ctx} {M : List Re} {te tb : TE} {ta : TA} {C : Addr} {sp : Sp} {κ : KV} {ε : KX}
def InsC (C : Addr) (r : Rp) : Prop := ∀ v G, r.p v G → ∃ a dx fs, v = .ref a ∧ G a = some (.ins C dx fs)
end
end Mu

namespace Mu
open PySem PySem.Spec PyProof.Rows L2 He Evl
section
variable {W : WX} {Γ : Ctx} {M : List Re} {te : TE} {ti : TI} {K : PySem.W.Frag} {κ : KV} {ε : KX} {i0 j : Nat} {vs : List Nat} {β : Type} {l : List β} {ρ : β → Rp} {p : Addr}
end
end Mu

namespace Mu
open PySem PySem.Spec PyProof.Rows L2 Evl
section
variable {X : Cx} {CX : CXT} {k : Nat} {f C : Addr} {fd : FuncData} {ps : List Str} {sp : Sp} {o i : Expr} {to ti : TE} {pos : Pos}
end
section
variable {W : WX} {Γ : Ctx} {M : List Re} {κ : Kn} {C p : Addr} {sp : Sp} {j : Nat} {tv ti : TE}
end
theorem ra_app {G : Hp} : ∀ {vs ws : List V} {rs ss : List Rp}, RA G vs rs → RA G ws ss → RA G (vs ++ ws) (rs ++ ss)
  | _, _, _, _, .nil, h => h
  | _, _, _, _, .cons a b, h => .cons a (ra_app b h)
section
variable {W : WX} {Γ : Ctx} {M : List Re} {κ : KV} {ε : KX} {sp : Sp} {ta : TA}
theorem e_callD {v : V} {E : XK} (h : EA W Γ M ta (fun rs M1 => CM sp (rs ++ [rV v]) M1 κ) ε) : EW W Γ M (tCall sp [v] E ta) κ ε := fun B G H σ o en Q q x =>
  h B G H σ o en _ (fun vs G1 H1 rs M1 k1 o1 e1 ra => k1 E B G1 H1 _ o1 (ra_app ra (.cons rfl .nil)) Q (q.up e1)) x
theorem e_callD0 {E : XK} (h : EA W Γ M ta (fun rs M1 => CM sp (rs ++ [nI 0]) M1 κ) ε) : EW W Γ M (tCall sp [.int 0] E ta) κ ε := e_callD h
end
theorem tab_is {K : PySem.W.Frag} {C : Addr} {m : List Nat} : ∀ v G, (rTab K C m).p v G → ∃ a dx ws, v = .ref a ∧ G a = some (.ins C dx ws) := fun v G h => by
  obtain ⟨a, dx, t, c, rfl, h2, _⟩ := h
  exact ⟨a, dx, _, rfl, h2⟩
theorem x_niTn {K : PySem.W.Frag} {Γ : Ctx} {ta tb : TE} {n : Nat} {l : List Nat} (ha : EvX Γ ta (nI n)) (hb : EvX Γ tb (rTn K l)) : EvX Γ (tOp (rIn K true) ta tb) (rB (!decide (n ∈ l))) :=
  x_is (x_inTi (l := l.map fun k => ((k : Nat) : Int)) true ha (x_is hb (by unfold rTn; rw [List.map_map]; rfl))) (by
    show rB (!decide (((n : Nat) : Int) ∈ l.map fun k => ((k : Nat) : Int))) = _
    congr 2
    rw [decide_eq_decide, List.mem_map]
    exact ⟨fun ⟨a, h, e⟩ => by rw [← Int.ofNat_inj.mp e]; exact h, fun h => ⟨n, h, rfl⟩⟩)
section
variable {W : WX} {Γ : Ctx} {M : List Re} {κ : KV} {ε : KX} {ta tb : TE}
end
end Mu

namespace Mu
open PySem PySem.Spec PyProof.Rows L2 Evl
section
variable {X : Cx} {CX : CXT} {k : Nat} {f C : Addr} {fd : FuncData} {ps : List Str} {sp : Sp} {E : XK}
end
section
variable {W : WX} {Γ : Ctx} {M : List Re} {κ : KV} {ε : KX} {sp : Sp} {C : Addr} {r0 : Rp}
theorem insC_ins {fs : FL} : InsC C (rIns C fs) := fun v G h => by
  obtain ⟨a, dx, ws, rfl, h2, _⟩ := h
  exact ⟨a, dx, ws, rfl, h2⟩
theorem om_inI {E : XK} {r1 : Rp} {neg b : Bool} (hi : InsC C r0) (h : CM sp [r0, r1] M (fun r M' => r = rB b ∧ κ (rB (if neg then !b else b)) M')) : OM (rOwnIn C neg sp E) r1 r0 M κ := fun B G H x y o hx hy Q q => by
  obtain ⟨a, dx, fs, rfl, h3⟩ := hi _ _ hy
  refine ⟨a, dx, fs, rfl, o.i _ _ h3, h E B G H [.ref a, x] o (.cons hy (.cons hx .nil)) _ fun v G' H' r M' z o' e hv => ?_⟩
  obtain ⟨rfl, k⟩ := z
  obtain rfl : v = V.bl b := hv
  exact ⟨b, rfl, q _ G' H' _ M' k o' e rfl⟩
end
end Mu

namespace Mu
open PySem PySem.Spec PyProof.Rows L2 He Evl
def frzR (p : Addr) (od : Obj) (ws : List (Key × V)) (kvs : List (Key × Rp)) : Re where
  own := true
  ft := [p]
  p := fun G H => H p = some (.frz od (.dK ws)) ∧ DkR G ws kvs
  mono := fun e ⟨h1, h2⟩ => ⟨h1, h2.mono e⟩
  loc := fun k ⟨h1, h2⟩ => ⟨k p (List.mem_singleton.mpr rfl) _ h1, h2⟩
  at_ := fun ⟨h1, _⟩ a ha => by rw [List.mem_singleton.mp ha]; exact ⟨_, h1, fun _ z => nomatch z⟩
section
variable {B : Ba} {G H : Hp} {M : List Re} {W : WX} {Γ : Ctx} {t tu : TS} {κ : Kn} {κv : KV} {kvs : List (Key × Rp)} {ws : List (Key × V)} {p : Addr} {i j k : Nat} {od : Obj} {r : Rp} {α : Type}
theorem Ok.lock (o : Ok B G H M) (hk : M[k]? = some (dicR p kvs)) (h1 : H p = some (.dK ws)) (h2 : DkR G ws kvs) : Ok B G (upd H p (.frz od (.dK ws))) (M.set k (frzR p od ws kvs)) := by
  have gp : G p = none := o.z p (mem_feet (List.mem_of_getElem? hk) (List.mem_singleton.mpr rfl))
  exact o.chg (R' := frzR p od ws kvs) hk rfl rfl (Ex.refl _) (fun a u z n => by rw [upd_ne fun q => n (List.mem_singleton.mpr q)]; exact z) (Ex.mut o.i gp) (fun _ _ _ _ y => y) ⟨upd_same, h2⟩
end
end Mu

namespace Mu
open PySem PySem.Spec PyProof.Rows L2 He Evl
section
variable {W : WX} {Γ : Ctx} {M : List Re} {κ : KV} {ε : KX} {K : PySem.W.Frag} {rs : List Rp} {r : Rp} {ta tb td tx : TE} {p : Addr} {kvs : List (Key × Rp)}
theorem atI_lastR {α : Type} {xs : List α} {v : α} (h : xs.getLast? = some v) : atI xs (-1) = some v := by
  obtain ⟨ys, rfl⟩ := List.getLast?_eq_some_iff.mp h
  exact atI_last ys v
theorem ra_last {G : Hp} : ∀ {vs : List V} {rs : List Rp} {r : Rp}, RA G vs rs → rs.getLast? = some r → ∃ v, vs.getLast? = some v ∧ r.p v G
  | _, _, r, .nil, h => by simp at h
  | _, _, r, .cons (a := v) (b := q) a .nil, h => ⟨v, rfl, by
    have : q = r := by simpa using h
    rw [← this]; exact a⟩
  | _, _, r, .cons a (.cons b c), h => by
    obtain ⟨v, h1, h2⟩ := ra_last (.cons b c) (by rw [List.getLast?_cons_cons] at h; exact h)
    exact ⟨v, by rw [List.getLast?_cons_cons]; exact h1, h2⟩
theorem om_ixLast (h : rs.getLast? = some r) (k : κ r M) : OM (rIxL K) (rL K rs) (rI (-1)) M κ := fun B G H x y o hx hy Q q => by
  obtain ⟨a, vs, rfl, h1, h2⟩ := hx
  obtain rfl : y = V.int (-1) := hy
  obtain ⟨v, h3, h4⟩ := ra_last h2 h
  exact ⟨a, vs, -1, v, rfl, rfl, sq_of (o.i _ _ h1), atI_lastR h3, q v G H r M k o (Ex.refl _) h4⟩
end
end Mu

namespace Mu
open PySem PySem.Spec PyProof.Rows L2 He Evl
def CValI (K : PySem.W.Frag) (C : Addr) (f : Str) (i : Int) : Prop := ∃ u, ClX.CVal K C (.type "type") f (.int i) u
theorem e_cval {W : WX} {Γ : Ctx} {M : List Re} {κ : KV} {ε : KX} {K : PySem.W.Frag} {C : Addr} {f : Str} {i : Int} (r : ClX.CRead K C (.type "type")) (c : CValI K C f i) (k : κ (rI i) M) : EW W Γ M (ClX.tCVal K (tC (.ref C)) f) κ ε := fun B G H σ o en Q q x => by
  obtain ⟨u, c⟩ := c
  exact ⟨C, _, _, u, rfl, r, c, q _ G H _ M k o (Ex.refl _) rfl⟩
def tCM (dv : List V) (sp : Sp) (E : L2.St → XK) (t : TA) : TE := fun σ H Q => t σ H fun vs H2 => sp (dv ++ vs) H2 Q (E σ)
section
variable {X : Cx} {CX : CXT} {k : Nat} {C g f : Addr} {fd : FuncData} {ps : List Str} {sp : Sp} {E : L2.St → XK} {x m : Str} {e : Expr} {es : List Expr} {p pos apos : Pos} {t : TA} {pl : Sem Bool} {i : Nat}
def tMakeV (i : Nat) (C : Addr) (t : TE) : TE := fun σ H Q => σ[i]? = some (some (.ref C)) ∧ t σ H Q
end
section
variable {W : WX} {Γ : Ctx} {M : List Re} {κ : KV} {ε : KX} {i : Nat} {C : Addr} {t : TE}
theorem e_makeV (hi : Γ[i]? = some (some (rV (.ref C)))) (h : EW W Γ M t κ ε) : EW W Γ M (tMakeV i C t) κ ε := fun B G H σ o en Q q x => by
  obtain ⟨u, hu1, hu2⟩ := en.get hi
  obtain rfl : u = V.ref C := hu2
  exact ⟨hu1, h B G H σ o en Q q x⟩
end
section
variable {W : WX} {Γ : Ctx} {M : List Re} {κ : KV} {ε : KX} {C : Addr} {sp : Sp} {ta : TA}
theorem e_cm {E : L2.St → XK} (h : EA W Γ M ta (fun rs M1 => CM sp (rV (.ref C) :: rs) M1 κ) ε) : EW W Γ M (tCM [.ref C] sp E ta) κ ε := fun B G H σ o en Q q x =>
  h B G H σ o en _ (fun vs G1 H1 rs M1 h1 o1 e1 ra => h1 (E σ) B G1 H1 (.ref C :: vs) o1 (.cons rfl ra) Q (q.up e1)) x
theorem e_cmS (h : EA W Γ M ta (fun rs M1 => XM sp (rV (.ref C) :: rs) M1 κ ε) ε) : EW W Γ M (tCM [.ref C] sp (WE W) ta) κ ε := fun B G H σ o en Q q x =>
  h B G H σ o en _ (fun vs G1 H1 rs M1 h1 o1 e1 ra => h1 B G1 H1 (.ref C :: vs) W σ o1 (.cons rfl ra) Q (q.up e1) (x.up e1)) x
theorem e_sm {E : L2.St → XK} (h : EA W Γ M ta (fun rs M1 => CM sp rs M1 κ) ε) : EW W Γ M (tCM [] sp E ta) κ ε := fun B G H σ o en Q q x =>
  h B G H σ o en _ (fun vs G1 H1 rs M1 h1 o1 e1 ra => h1 (E σ) B G1 H1 vs o1 ra Q (q.up e1)) x
theorem e_smS (h : EA W Γ M ta (fun rs M1 => XM sp rs M1 κ ε) ε) : EW W Γ M (tCM [] sp (WE W) ta) κ ε := fun B G H σ o en Q q x =>
  h B G H σ o en _ (fun vs G1 H1 rs M1 h1 o1 e1 ra => h1 B G1 H1 vs W σ o1 ra Q (q.up e1) (x.up e1)) x
end
section
variable {CX : CXT} {P : Program} {w : World} {K : PySem.W.Frag} {mg : Str → Option Value} {base : Heap} {k : Nat} {f : Addr}
end
section
variable {W : WX} {Γ : Ctx} {M : List Re} {te : TE} {t : TT} {K : PySem.W.Frag} {C : Addr} {m : List Nat} {ti : TI} {α β : Type} {l : List β} {j1 j2 : Nat} {tu : TS} {κ : Kn}
end
end Mu

namespace Mu
open PySem PySem.Spec PyProof.Rows L2 He Evl
section
variable {W : WX} {Γ : Ctx} {M : List Re} {κ : KV} {ε : KX} {K : PySem.W.Frag} {te ta tb : TE}
theorem x_mulN {m n : Nat} (ha : EvX Γ ta (nI m)) (hb : EvX Γ tb (nI n)) (h : m < 2 ^ 64 ∨ n < 2 ^ 64) : EvX Γ (tOp (L2.rI CMul fun i j => .int (i * j)) ta tb) (nI (m * n)) := x_is (x_I ha hb (by
  rcases h with h | h
  · exact .inl ⟨by omega, by omega⟩
  · exact .inr ⟨by omega, by omega⟩)) (by show rI _ = rI _; congr 1)
theorem x_divN {m n : Nat} (ha : EvX Γ ta (nI m)) (hb : EvX Γ tb (nI n)) (h : 0 < n) (h2 : n < 1073741824) : EvX Γ (tOp (L2.rI CDiv fun i j => .int (i / j)) ta tb) (nI (m / n)) := x_is (x_I ha hb ⟨by omega, by omega⟩) (by show rI _ = rI _; congr 1)
end
end Mu

namespace Mu
open PySem PySem.Spec PyProof.Rows L2 He Evl StX
section
variable {CX : CXT} {P : Program} {w : World} {K : PySem.W.Frag} {mg : Str → Option Value} {base : Heap} {k : Nat} {f : Addr} {sp : Sp} {fd : FuncData}
end
section
variable {X : Cx} {CX : CXT} {k : Nat} {f : Addr} {sp : Sp} {E : L2.St → XK} {x kn : Str} {p pos kp : Pos} {e ek : Expr} {es : List Expr} {t : TA} {te : TE}
end
section
variable {W : WX} {Γ : Ctx} {M : List Re} {κ : KV} {ε : KX} {K : PySem.W.Frag} {sp : Sp} {ta : TA} {te : TE}
end
end Mu

namespace Mu
open PySem PySem.Spec PyProof.Rows L2 He Evl StX
section
variable {M : List Re} {cs : Addr → Bool} {p : Addr} {od : Obj} {ws : List (Key × V)} {kvs : List (Key × Rp)} {k : Nat}
end
section
variable {W : WX} {Γ : Ctx} {M : List Re} {κ : KV} {ε : KX} {K : PySem.W.Frag} {rs : List Rp} {r : Rp} {ta tb td tx : TE} {p : Addr} {kvs : List (Key × Rp)} {z : Bool}
end
section
variable {α : Type} {ρ : α → Rp} {cl : List (Nat × α)} {n m : Nat} {a : α}
end
section
variable {W : WX} {Γ : Ctx} {M : List Re} {κ : KV} {ε : KX} {ta : TA} {C : Addr} {R : List V → Hp → List Re → KV → KX → Prop}
end
section
variable {M : List Re} {κ : KV} {K : PySem.W.Frag} {p p2 : Addr} {kvs : List (Key × Rp)}
end
section
variable {B : Ba} {G H : Hp} {M : List Re} {R R' : Re} {k : Nat} {W : WX} {Γ : Ctx} {t : TS} {κ : Kn}
end
section
variable {W : WX} {Γ : Ctx} {M : List Re} {κ : KV} {ε : KX} {K : PySem.W.Frag} {tl te : TE} {t : TT} {j : Nat} {vs : List Nat} {α : Type}
end
theorem EW.frzI {W : WX} {Γ : Ctx} {M : List Re} {te : TE} {κ : KV} {ε : KX} (h : EW W Γ M te (fun r M' => ∃ p C fs M1, r = rV (.ref p) ∧ M' = M1 ++ [insR true p C fs] ∧ κ (rIns C fs) M1) ε) : EW W Γ M te κ ε := fun B G H σ o en Q q x => h B G H σ o en Q q.frzI x
section
variable {Γ : Ctx} {M : List Re} {W : WX} {κ : Kn} {K : PySem.W.Frag} {te ta tb : TE} {α : Type} [DecidableEq α] {ρ : α → Rp} {δ : α → PyData} {k j1 j2 j3 j4 j5 : Nat} {p : α} {l : List α} {r1 r2 r3 r4 r5 : Rp}
end
section
variable {W : WX} {Γ : Ctx} {M : List Re} {te : TE} {i : Nat} {p : Addr}
end
end Mu

namespace Mu
open PySem PySem.Spec PyProof.Rows L2 He Evl
section
variable {α : Type}
def valT (kvs : List (List Key × α)) (k : List Key) : Option α := (kvs.find? fun kv => decide (kv.1 = k)).map (·.2)
def putT (kvs : List (List Key × α)) (k : List Key) (v : α) : List (List Key × α) := if (kvs.any fun kv => decide (kv.1 = k)) = true then kvs.map (fun kv => if kv.1 = k then (kv.1, v) else kv) else kvs ++ [(k, v)]
end
abbrev DtR (G : Hp) : List (List Key × V) → List (List Key × Rp) → Prop := Paired fun a b => a.1 = b.1 ∧ b.2.p a.2 G
section
variable {G G' : Hp} {ws : List (List Key × V)} {kvs : List (List Key × Rp)} {k : List Key} {v : V} {r : Rp}
theorem DtR.mono (e : Ex G G') (h : DtR G ws kvs) : DtR G' ws kvs := Paired.mono (fun _ b z => ⟨z.1, b.2.mono e z.2⟩) h
theorem DtR.len (h : DtR G ws kvs) : ws.length = kvs.length := Paired.length h
theorem DtR.keys (h : DtR G ws kvs) : ws.map (·.1) = kvs.map (·.1) := by
  induction h with
  | nil => rfl
  | cons a t ih => rw [List.map_cons, List.map_cons, a.1, ih]
theorem DtR.val (h : DtR G ws kvs) (k : List Key) : match valT kvs k with
    | some r => ∃ v, valV ws k = some v ∧ r.p v G
    | none => valV ws k = none := by
  induction h with
  | nil => rfl
  | @cons a b as bs ha t ih =>
    unfold valT valV at ih ⊢
    rw [List.find?_cons, List.find?_cons, ha.1]
    by_cases c : b.1 = k
    · rw [decide_eq_true c]
      exact ⟨a.2, rfl, ha.2⟩
    · rw [decide_eq_false c]
      exact ih
theorem DtR.any (h : DtR G ws kvs) (k : List Key) : (ws.any fun kv => decide (kv.1 = k)) = kvs.any fun kv => decide (kv.1 = k) := by
  induction h with
  | nil => rfl
  | cons a t ih => rw [List.any_cons, List.any_cons, a.1, ih]
theorem DtR.repl (h : DtR G ws kvs) (hr : r.p v G) : DtR G (ws.map fun kv => if kv.1 = k then (kv.1, v) else kv) (kvs.map fun kv => if kv.1 = k then (kv.1, r) else kv) := by
  induction h with
  | nil => exact .nil
  | @cons a b as bs ha t ih =>
    refine .cons ?_ ih
    dsimp only
    rw [ha.1]
    by_cases c : b.1 = k
    · rw [if_pos c, if_pos c]; exact ⟨rfl, hr⟩
    · rw [if_neg c, if_neg c]; exact ha
theorem DtR.snoc (h : DtR G ws kvs) (hr : r.p v G) : DtR G (ws ++ [(k, v)]) (kvs ++ [(k, r)]) := by
  induction h with
  | nil => exact .cons ⟨rfl, hr⟩ .nil
  | cons a t ih => exact .cons a ih
theorem DtR.put (h : DtR G ws kvs) (hr : r.p v G) : DtR G (putK ws k v) (putT kvs k r) := by
  unfold putK putT
  rw [h.any k]
  split
  · exact h.repl hr
  · exact h.snoc hr
theorem DtR.isSome (h : DtR G ws kvs) (k : List Key) : (valV ws k).isSome = (valT kvs k).isSome := by
  have hh := h.val k
  cases e : valT kvs k with
  | none => rw [e] at hh; rw [hh]; rfl
  | some r => rw [e] at hh; obtain ⟨v, h4, _⟩ := hh; rw [h4]; rfl
end
def rK (k : List Key) : Rp := ⟨fun v G => ∃ a, v = .ref a ∧ G a = some (.tup (k.map kV)), fun e ⟨a, h1, h2⟩ => ⟨a, h1, e _ _ h2⟩⟩
section
variable {W : WX} {Γ : Ctx} {M : List Re} {te ta tb tv td : TE} {K : PySem.W.Frag} {n i j idx : Nat} {r : Rp} {κ : KV} {ε : KX} {kvs : List (List Key × Rp)} {z : Bool} {k : List Key} {p : Addr}
end
end Mu

namespace Mu
open PySem PySem.Spec PyProof.Rows L2 He Evl
section
variable {CX : CXT} {P : Program} {w : World} {K : PySem.W.Frag} {mg : Str → Option Value} {base : Heap} {k : Nat} {f : Addr}
end
section
variable {X : Cx} {CX : CXT} {k : Nat} {f : Addr} {fd : FuncData} {ps : List Str} {sp : Sp} {dvs : List V} {ds : List Value} {E : XK} {x : Str} {p pos : Pos} {e : Expr} {es : List Expr} {t : TA}
end
section
variable {P : Program} {w : World} {K : PySem.W.Frag} {mg mb : Str → Option Value} {CX : CXT} {k : Nat} {fa a : Addr} {fd : FuncData} {x : Str} {sp : Sp} {s₁ : Shared} {vs : List Value} {ns : List Int}
end
section
variable {α : Type} {P : α → Prop} {enc : α → List Nat}
end
section
variable {W : WX} {Γ : Ctx} {M : List Re} {κ : KV} {ε : KX} {K : PySem.W.Frag} {ll : List (List Nat)} {tk tv : TE} {r : Rp} {k : Key}
end
end Mu

namespace Mu
open PySem PySem.Spec PyProof.Rows L2 He Evl
section
variable {X : Cx} {CX : CXT} {k n : Nat} {f C : Addr} {fd : FuncData} {ps ks : List Str} {sp : Sp} {x : Str} {p pos : Pos} {e : Expr} {es : List Expr} {kws : List Keyword} {t tk : TA} {g : List Value → List Value → List Value} {gV : List V → List V → List V}
end
section
variable {W : WX} {Γ : Ctx} {M : List Re} {κ : KV} {ε : KX} {ta tk : TA} {C : Addr} {n m : Nat} {R : List V → Hp → List Re → KV → KX → Prop}
end
section
variable {B : Ba} {G H : Hp} {M : List Re} {W : WX} {Γ : Ctx} {t : TS} {κ : Kn} {K : PySem.W.Frag} {own : Bool} {p e C : Addr} {fs : FL} {rs : List Rp} {kvs : List (List Key × Rp)} {f : Str}
end
section
variable {W : WX} {Γ : Ctx} {M : List Re} {κ : KV} {ε : KX} {K : PySem.W.Frag} {ti : TI} {tk tv td te : TE} {j : Nat} {vs : List Nat} {β α : Type} {ρ : β → Rp} {l : List β} {tu : TS}
end
section
variable {W : WX} {Γ : Ctx} {M : List Re} {κ : KV} {ε : KX} {K : PySem.W.Frag} {t : TS} {i m n : Nat} {r r' : Rp}
end
end Mu

namespace Mu
open PySem PySem.Spec PyProof.Rows L2 He Evl
section
variable {W : WX} {Γ : Ctx} {M : List Re} {κ : KV} {ε : KX} {K : PySem.W.Frag} {td te ta tx : TE} {t : TT} {a b a' b' : Re} {r : Rp} {k : List Key} {kvs : List (List Key × Rp)} {z : Bool}
theorem EXT.ofW {κ : Bool → List Re → Prop} (h : ∀ W, ET W Γ M t κ (fun _ _ _ => False)) : EXT Γ M t κ := fun B G H σ o en Q q => h (fun _ _ _ _ => True) B G H σ o en Q q (fun _ _ _ _ _ _ z => z.elim)
end
section
variable {B : Ba} {G H : Hp} {M M1 : List Re} {W : WX} {Γ : Ctx} {t : TS} {te : TE} {κ : Kn} {K : PySem.W.Frag} {own : Bool} {p d e C : Addr} {fs : FL} {rs : List Rp} {kvs : List (List Key × Rp)} {f : Str} {Q : VK}
end
end Mu

namespace Mu
open PySem PySem.Spec PyProof.Rows L2 He Evl
section
variable {X : Cx} {o i e f : Expr} {pos apos cpos : Pos} {td ty tx : TE} {K : PySem.W.Frag}
end
section
variable {W : WX} {Γ : Ctx} {M : List Re} {te ta tb tv td tx : TE} {K : PySem.W.Frag} {r : Rp} {κ : KV} {ε : KX} {kvs : List (List Key × Rp)} {z : Bool} {m : List Nat}
end
section
variable {prog : Program} {w : World} {A : Around} {E : Value → Shared → Prop} {s : Shared}
end
section
variable {W : WX} {Γ : Ctx} {M : List Re} {κ : KV} {ε : KX} {tk tv : TE} {r : Rp} {k : List Key}
end
section
variable {W : WX} {Γ : Ctx} {M : List Re} {κ : Kn}
theorem w_cnt (h : κ.ct Γ M) : WP W Γ M tCont κ := fun B G H σ D o en d => d.ct σ G H Γ M o en h
end
section
variable {B : Ba} {G H : Hp} {M M1 : List Re} {W : WX} {Γ : Ctx} {te : TE} {κ : KV} {ε : KX} {Q : VK}
end
end Mu

namespace Mu
open PySem PySem.Spec PyProof.Rows L2 He Evl
def rMulT : R2 := fun x y H Q => ∃ a i, x = .str a ∧ y = .int i ∧ a.length ≤ 16 ∧ -(2 ^ 63 : Int) ≤ i ∧ i ≤ ((1048576 : Nat) : Int) ∧ Q (.str (Txt.mul a i)) H
theorem op_mulT {X : Cx} : OpR X (binaryOp .Mult) rMulT := by
  intro pins s σ H x y v u Q I rx ry h
  obtain ⟨a, i, rfl, rfl, h1, h2, h3, q⟩ := h
  obtain ⟨t, rfl⟩ := rx
  obtain ⟨t', rfl⟩ := ry
  exact SB.mul (mulOk_of 16 1048576 h1 h3 h2 (by decide) (by decide)) (fun t' tk => ⟨.str (Txt.mul a i), H, I.tok _, ⟨_, rfl⟩, q⟩)
theorem fold_rep {l : List Nat} : ∀ (k : Nat) (acc : Array Nat), (List.replicate k l.toArray).foldl (· ++ ·) acc = acc ++ ((List.replicate k l).flatten).toArray
  | 0, acc => by simp
  | k + 1, acc => by
    rw [List.replicate_succ, List.foldl_cons, fold_rep k, List.replicate_succ, List.flatten_cons]
    simp
theorem mul_sL {l : List Nat} {k : Nat} : Txt.mul (sL l) (k : Int) = sL ((List.replicate k l).flatten) := by
  unfold Txt.mul
  by_cases h : (k : Int) < 1
  · rw [if_pos h]
    obtain rfl : k = 0 := by omega
    rfl
  · rw [if_neg h]
    split
    · rename_i hc
      rw [Bool.or_eq_true, beq_iff_eq, beq_iff_eq, sL_len] at hc
      rcases hc with z | z
      · obtain rfl : k = 1 := by omega
        simp
      · obtain rfl : l = [] := List.length_eq_zero_iff.mp z
        congr 1
        induction k with
        | zero => rfl
        | succ k ih =>
          by_cases y : k = 0
          · subst y; rfl
          · rw [List.replicate_succ, List.flatten_cons, ← ih (by omega)]
            rfl
    · show (⟨(List.replicate ((k : Int).toNat) l.toArray).foldl (· ++ ·) #[]⟩ : Str) = ⟨((List.replicate k l).flatten).toArray⟩
      rw [fold_rep, Int.toNat_natCast]
      simp
section
variable {W : WX} {Γ : Ctx} {M : List Re} {κ : KV} {ε : KX} {K : PySem.W.Frag} {td te ta tb : TE} {l : List Nat} {k : Nat}
theorem om_mulT (h1 : l.length ≤ 16) (h2 : k ≤ 1048576) (kk : κ (rSt ((List.replicate k l).flatten)) M) : OM rMulT (rSt l) (nI k) M κ := fun B G H x y o hx hy Q q => by
  obtain rfl : x = V.str (sL l) := hx
  obtain rfl : y = V.int (k : Int) := hy
  refine ⟨sL l, (k : Int), rfl, rfl, by rw [sL_len]; exact h1, by omega, by omega, ?_⟩
  rw [mul_sL]
  exact q _ G H _ M kk o (Ex.refl _) rfl
theorem x_mulT (ha : EvX Γ ta (rSt l)) (hb : EvX Γ tb (nI k)) (h1 : l.length ≤ 16) (h2 : k ≤ 1048576) : EvX Γ (tOp rMulT ta tb) (rSt ((List.replicate k l).flatten)) := by
  apply EvX.by
  intro W ε
  exact e_op (e_x ha (e_x hb (om_mulT h1 h2 ⟨rfl, rfl⟩)))
theorem am_min2 {a b : Nat} (kk : κ (nI (min a b)) M) : AM (fun xs H Q => ∃ i j, xs = [V.int i, V.int j] ∧ Q (V.int (if j < i then j else i)) H) [nI a, nI b] M κ := fun B G H vs o ra Q q => by
  obtain ⟨x, y, rfl, hx, hy⟩ := ra2 ra
  obtain rfl : x = V.int (a : Int) := hx
  obtain rfl : y = V.int (b : Int) := hy
  refine ⟨_, _, rfl, q (V.int (if (b : Int) < a then b else a)) G H _ M kk o (Ex.refl _) ?_⟩
  show V.int (if (b : Int) < a then (b : Int) else a) = V.int ((min a b : Nat) : Int)
  congr 1
  split <;> omega
end
end Mu

namespace Mu
open PySem PySem.Spec PyProof.Rows L2 He Evl
section
variable {W : WX} {Γ : Ctx} {M : List Re} {κ : KV} {ε : KX} {K : PySem.W.Frag} {td te ta tb tc : TE} {l : List Nat} {p : Addr} {rs rs2 : List Rp} {i : Nat}
theorem e_extN (k : Nat) (hi : Γ[i]? = some (some (rV (.ref p)))) (h : EvNX Γ ta rs2) (hk : M[k]? = some (lstR p rs)) (hz : rs.length + rs2.length ≤ 100000) (kk : κ (rV .non) (M.set k (lstR p (rs ++ rs2)))) : EW W Γ M (tBM K "list" rExtend (tVar i) (tCons ta tNil)) κ ε := fun B G H σ o en Q q x => by
  obtain ⟨v, hv1, hv2⟩ := en.get hi
  obtain rfl : v = V.ref p := hv2
  obtain ⟨ws0, hp0, ra0⟩ := o.m _ (List.mem_of_getElem? hk)
  refine ⟨.ref p, hv1, Or.inl ⟨rfl, ws0, sq_of hp0⟩, h σ G en H o.i _ fun b vs G2 H2 g hb gb h2 ra => ?_⟩
  have o2 := o.gr g
  obtain ⟨ws, hp, ra1⟩ := o2.m _ (List.mem_of_getElem? hk)
  have gp : G2 p = none := o2.z p (mem_feet (List.mem_of_getElem? hk) (List.mem_singleton.mpr rfl))
  refine ⟨p, b, ws, vs, rfl, rfl, hp, h2, sz_of (by rw [ra1.len, ra.len]; exact hz), q .non G2 _ (rV .non) _ kk (o2.chg (R' := lstR p (rs ++ rs2)) hk rfl rfl (Ex.refl _) (fun a u z n => ?_) (Ex.mut o2.i gp) (fun _ _ _ _ y => y) ⟨ws ++ vs, upd_same, ra1.append ra⟩) g.g rfl⟩
  rw [upd_ne fun q => n (List.mem_singleton.mpr q)]
  exact z
end
end Mu

namespace Mu
open PySem PySem.Spec PyProof.Rows L2 He Evl
section
variable {W : WX} {Γ : Ctx} {M : List Re} {κ : KV} {ε : KX} {K : PySem.W.Frag} {td te ta tb tc t1 t2 : TE} {l : List Nat} {p : Addr} {rs rs2 : List Rp} {i a b : Nat}
end
end Mu

namespace Mu
open PySem PySem.Spec PyProof.Rows L2 He Evl
theorem Cm.ex {G0 H0 H' H'' : Hp} {Dl : Addr} {rs : List Rp} (p : Cm G0 H0 Dl rs H') (e : Ex H' H'') : Cm G0 H0 Dl rs H'' := by
  obtain ⟨p1, G', ws, g, hG, hD, ra⟩ := p
  exact ⟨p1, G', ws, g.more e, hG, e _ _ hD, ra⟩
section
variable {W : WX} {Γ : Ctx} {M : List Re} {κ : KV} {ε : KX} {K : PySem.W.Frag} {td te ta tb tc ts t1 t2 : TE} {tt : TT} {l m : List Nat} {p : Addr} {rs rs2 : List Rp} {i a b j1 j2 : Nat} {vs : List Nat}
theorem e_popL {r : Rp} (k : Nat) (hi : Γ[i]? = some (some (rV (.ref p)))) (hk : M[k]? = some (lstR p (rs ++ [r]))) (kk : κ r (M.set k (lstR p rs))) : EW W Γ M (tBM0 K "list" rPop (tVar i)) κ ε := fun B G H σ o en Q q x => by
  obtain ⟨v, hv1, hv2⟩ := en.get hi
  obtain rfl : v = V.ref p := hv2
  have hm := List.mem_of_getElem? hk
  obtain ⟨ws, hp, ra⟩ := o.m _ hm
  have gp : G p = none := o.z p (mem_feet hm (List.mem_singleton.mpr rfl))
  obtain ⟨w, hw1, hw2⟩ := ra_last (r := r) ra (by simp)
  have ha : RA G ws.dropLast rs := by
    have key : ∀ {rs : List Rp} {ws : List V}, RA G ws (rs ++ [r]) → RA G ws.dropLast rs := fun {rs} => by
      induction rs with
      | nil =>
        intro ws h
        cases h with
        | cons a b => cases b; exact .nil
      | cons x rs ih =>
        intro ws h
        cases h with
        | cons a b =>
          rename_i v vs
          have b : RA G vs (rs ++ [r]) := b
          have hne : vs ≠ [] := fun z => by rw [z] at b; have := RA.len b; simp at this
          rw [List.dropLast_cons_of_ne_nil hne]
          exact .cons a (ih b)
    exact key ra
  refine ⟨.ref p, hv1, Or.inl ⟨rfl, ws, sq_of hp⟩, p, ws, w, rfl, rfl, hp, ?_, ?_⟩
  · rw [← List.getLast?_eq_getElem?]; exact hw1
  · refine q w G _ r _ kk (o.chg (R' := lstR p rs) hk rfl rfl (Ex.refl _) (fun a u z n => ?_) (Ex.mut o.i gp) (fun _ _ _ _ y => y) ⟨ws.dropLast, upd_same, ha⟩) (Ex.refl _) hw2
    rw [upd_ne fun q => n (List.mem_singleton.mpr q)]
    exact z
end
end Mu

namespace Mu
open PySem PySem.Spec PyProof.Rows L2 He Evl
section
variable {P : Program} {w : World} {A : Around} {E : Value → Shared → Prop} {s : Shared}
end
section
variable {Γ : Ctx} {te : TE} {K : PySem.W.Frag} {w : World} {l : List Nat}
end
end Mu

namespace Mu
open PySem PySem.Spec PyProof.Rows L2 He Evl
section
variable {B : Ba} {G H : Hp} {M : List Re} {R : Re}
end
end Mu

namespace Mu
open PySem PySem.Spec PyProof.Rows L2 He Evl
end Mu

namespace Mu
open PySem PySem.Spec PyProof.Rows L2 He Evl
section
variable {W : WX} {Γ Γ' : Ctx} {M : List Re} {ta tb : TE} {j : Nat} {β α : Type} {ti : TI} {l : List β} {ρ : β → Rp} {tu : TS} {κ : Kn}
end
end Mu

namespace Mu
open PySem PySem.Spec PyProof.Rows L2 He Evl
section
variable {W : WX} {Γ : Ctx} {M : List Re} {κ : KV} {ε : KX} {ta : TA} {C : Addr} {n : Nat} {R : List V → Hp → List Re → KV → KX → Prop} {ds : List V}
end
section
variable {W : WX} {Γ : Ctx} {M : List Re} {κ : KV} {ε : KX} {te : TE} {K : PySem.W.Frag} {p : Addr} {rs0 : List Rp} {i : Nat}
end
end Mu

namespace Mu
open PySem PySem.Spec PyProof.Rows L2 He Evl
end Mu

namespace Mu
open PySem PySem.Spec PyProof.Rows L2 He Evl
end Mu

namespace Mu
open PySem PySem.Spec PyProof.Rows L2 He Evl
end Mu

namespace Mu
open PySem PySem.Spec PyProof.Rows L2 He Evl
def setsC (Γ : Ctx) (ups : List (Nat × Rp)) : Ctx := ups.foldl (fun Γ u => Γ.set u.1 (some u.2)) Γ
def setsS (σ : L2.St) : List Nat → List V → L2.St
  | j :: js, x :: xs => setsS (σ.set j (some x)) js xs
  | _, _ => σ
theorem En.sets {G : Hp} : ∀ {ups : List (Nat × Rp)} {xs : List V} {σ : L2.St} {Γ : Ctx}, En σ G Γ → RA G xs (ups.map (·.2)) → En (setsS σ (ups.map (·.1)) xs) G (setsC Γ ups)
  | [], xs, σ, Γ, en, ra => by cases ra; exact en
  | u :: us, xs, σ, Γ, en, ra => by
    cases ra with
    | cons hx ra => exact En.sets (ups := us) (en.set hx u.1) ra
def Tgt (g : TG) (r : Rp) (ups : List (Nat × Rp)) : Prop := ∀ (v : V) (G H : Hp) (σ : L2.St) (Q : L2.St → Hp → Prop), r.p v G → Ex G H → (∀ xs, RA G xs (ups.map (·.2)) → Q (setsS σ (ups.map (·.1)) xs) H) → g v σ H Q
section
variable {W : WX} {Γ : Ctx} {M : List Re} {te tl td : TE} {tu : TS} {κ : Kn} {K : PySem.W.Frag} {α β : Type} {j j1 j2 j3 j4 : Nat} {r r' r1 r2 r3 r4 : Rp} {g : TG} {ups : List (Nat × Rp)}
theorem Tgt.as (h : Tgt g r' ups) (hr : ∀ v G, r.p v G → r'.p v G) : Tgt g r ups := fun v G H σ Q hv e k => h v G H σ Q (hr v G hv) e k
theorem ra_c {G : Hp} {vs : List V} {rs : List Rp} (h : RA G vs (r :: rs)) : ∃ v ws, vs = v :: ws ∧ r.p v G ∧ RA G ws rs := by
  cases h with
  | cons hx h => exact ⟨_, _, rfl, hx, h⟩
theorem ra_n {G : Hp} {vs : List V} (h : RA G vs []) : vs = [] := by cases h; rfl
theorem tgt_2 : Tgt (gTup K 2 (gCons (gName j1) (gCons (gName j2) gNil))) (rT K [r1, r2]) [(j1, r1), (j2, r2)] := fun v G H σ Q hv e k => by
  obtain ⟨a, vs, rfl, h1, h2⟩ := hv
  obtain ⟨x, _, rfl, hx, h2⟩ := ra_c h2
  obtain ⟨y, _, rfl, hy, h2⟩ := ra_c h2
  obtain rfl := ra_n h2
  exact ⟨a, _, rfl, ex_t e h1, rfl, _, _, rfl, _, _, rfl, rfl, k [x, y] (.cons hx (.cons hy .nil))⟩
theorem w_un (h : EW W Γ M te (fun r M' => ∃ ups, Tgt g r ups ∧ κ.nx (setsC Γ ups) M') (κ.ex Γ)) : WP W Γ M (tAsg te g) κ := fun B G H σ D o en d =>
  h B G H σ o en _ (fun v G1 H1 r M1 z o1 e1 hv => by
    obtain ⟨ups, ht, hn⟩ := z
    exact ht v G1 H1 σ _ hv o1.i fun xs ra => d.nx _ G1 H1 _ M1 o1 ((en.mono e1).sets ra) hn) (fun cls fs dd G' H' M' k o' e' xd => d.ex σ G' H' Γ M' cls dd fs o' (en.mono e') xd k)
theorem Ok.tup {B : Ba} {G H : Hp} {q : Addr} {xs : List V} (o : Ok B G H M) (h : H q = some (.tup xs)) : ∃ G2, Ex G G2 ∧ Ok B G2 H M ∧ G2 q = some (.tup xs) := by
  cases gq : G q with
  | some u =>
    have := o.i q u gq
    rw [h] at this
    cases this
    exact ⟨G, Ex.refl _, o, gq⟩
  | none =>
    have e : Ex G (upd G q (.tup xs)) := Ex.new gq
    refine ⟨upd G q (.tup xs), e, ⟨o.g.trans e, o.l.trans e, o.h, ex_add o.i h, fun a u z t y => ?_, o.k, fun r hr => r.mono e (o.m r hr), fun a ha => ?_, o.d, o.f⟩, upd_same⟩
    · have ne : a ≠ q := fun c => by
        subst c
        by_cases f : a ∈ B.F
        · obtain ⟨u2, z2, t2⟩ := o.k a f
          rw [h] at z2
          cases z2
          exact t2 _ rfl
        · have := o.h a u z f
          rw [h] at this
          cases this
          exact t _ rfl
      rw [upd_ne ne]
      exact o.n a u z t y
    · have ne : a ≠ q := fun c => by
        subst c
        obtain ⟨r, hr, hf⟩ := List.mem_flatMap.mp ha
        obtain ⟨u, z, t⟩ := r.at_ (o.m r hr) a hf
        rw [h] at z
        cases z
        exact t _ rfl
      rw [upd_ne ne]
      exact o.z a ha
theorem Ok.keys {B : Ba} {H : Hp} : ∀ {ws : List (List Key × V)} {bs : List Addr} {G : Hp}, Ok B G H M → IsKeys H ws bs → ∃ G2, Ex G G2 ∧ Ok B G2 H M ∧ RA G2 (bs.map V.ref) (ws.map fun kv => rK kv.1)
  | [], bs, G, o, h => by cases h; exact ⟨G, Ex.refl _, o, .nil⟩
  | kv :: ws, bs, G, o, h => by
    cases h with
    | @cons _ b _ bs h1 h2 =>
      obtain ⟨G2, e2, o2, q2⟩ := o.tup h1
      obtain ⟨G3, e3, o3, ra⟩ := Ok.keys o2 h2
      exact ⟨G3, e2.trans e3, o3, .cons ⟨b, rfl, e3 _ _ q2⟩ ra⟩
end
section
variable {B : Ba} {G H : Hp} {M : List Re} {W : WX} {Γ : Ctx} {t : TS} {κ : Kn} {kvs : List (List Key × Rp)} {ws : List (List Key × V)} {p : Addr} {k : Nat} {od : Obj} {cs : Addr → Bool}
end
end Mu

namespace Lc3
open PySem PySem.Spec PyProof.Rows L2
section
variable {P : Program} {w : World} {B : Around} {Z : Result → Shared → Prop} {s0 : Shared} {C : Expr} {q : Nat} {I0 L0 : Value} {en : Env} {tgt src nxt el : Expr} {cs : List Expr}
abbrev no : Value → Shared → Prop := fun _ _ => False
abbrev tsts (cs : List Expr) (en : Env) : Sem Bool := forIn cs true fun z r => if r = true then do let k ← isTrue z en (eval z en); pure (ForInStep.yield k) else pure (ForInStep.yield r)
def TurnBy (P : Program) (w : World) (B : Around) (Z : Result → Shared → Prop) (tgt : Expr) (cs : List Expr) (en : Env) (I0 : Value) (J : Nat → Shared → Prop) (todo : (Shared → Prop) → Shared → Prop) : Prop := ∀ n s, J n s →
  wpAny (model P w) B (pyNext I0) (fun r a => match r with
    | none => Z (.ok .next) a
    | some v => wpAny (model P w) B (letOwnedTupleGo tgt I0 v) (fun _ b => wpAny (model P w) B (assign tgt en v) (fun _ c =>
        wpAny (model P w) B (tsts cs en) (fun k d => if k = true then todo (fun e => ∃ m, m < n ∧ J m e) d else ∃ m, m < n ∧ J m d) no c) no b) no a) no s
theorem mid (hT : compTurn C q I0 L0 en = (do
      standAt src.pos
      match ← pyNext I0 with
      | none => pure (.done .next)
      | some v =>
        letOwnedTupleGo tgt I0 v
        assign tgt en v
        let mut good := true
        for z in cs do
          if good then good ← isTrue z en (eval z en)
        if good then
          let u ← eval nxt en
          standAt nxt.pos
          let u ← foldedSetIterable nxt en u
          let _ ← runOwn (.compStart C (q + 1) (← holding [u] (pyIter u)) L0 en) en
        again (.compLoop C q I0 L0 en))) (hD : (model P w).den (.compLoop C q I0 L0 en) = (compTurn C q I0 L0 en).onRaise fun x => do noteFrame x en; theTreesLotGoes x) (hU : B.under (.compLoop C q I0 L0 en) = B) (hf : ∀ u, foldedSetIterable nxt en u = pure u) (J : Nat → Shared → Prop)
    (turn : TurnBy P w B Z tgt cs en I0 J fun good d => wpAny (model P w) B (eval nxt en) (fun u e => wpAny (model P w) B (pyIter u) (fun i f => codeAny (model P w) B (.compStart C (q + 1) i L0 en) (fun r g => match r with
      | .ok _ => good g
      | .error _ => False) f) no e) no d) (n : Nat) (h : J n s0) : codeAny (model P w) B (.compLoop C q I0 L0 en) Z s0 := by
  refine codeAny_loop rfl J (fun n s hI => ?_) n h
  rw [hU, hD]
  refine wpAny_noted ?_
  rw [hT]
  refine wpAny_bind (wpAny_standAt (wpAny_bind (wpAny_mono (turn n s hI) (fun r a ha => ?_) fun _ _ z => z.elim)))
  cases r with
  | none => exact wpAny_pure ha
  | some v =>
    refine wpAny_bind (wpAny_mono ha (fun _ b hb => wpAny_bind (wpAny_mono hb (fun _ c hc => wpAny_bind (wpAny_mono hc (fun k d hd => ?_) fun _ _ z => z.elim)) fun _ _ z => z.elim)) fun _ _ z => z.elim)
    cases k with
    | false => exact wpAny_pure ⟨rfl, hd⟩
    | true =>
      refine wpAny_bind (wpAny_mono hd (fun u e he => ?_) fun _ _ z => z.elim)
      refine wpAny_bind (wpAny_standAt (wpAny_bind (wpAny_of_eq (hf u) (wpAny_bind (wpAny_holding (wpAny_mono he (fun i f hif => ?_) fun _ _ z => z.elim))))))
      refine wpAny_bind (wpAny_runOwn ?_)
      rw [Around.mark_none]
      refine codeAny_mono hif fun r g hr => ?_
      cases r with
      | ok fl =>
        first
          | exact wpAny_pure ⟨rfl, hr⟩
          | exact wpAny_bind (wpAny_pure (wpAny_pure ⟨rfl, hr⟩))
      | error x => exact hr.elim
end

abbrev TB := Addr → L2.St → Hp → (Hp → Prop) → Prop
def Kp (vs : List Nat) (σ σ' : L2.St) : Prop := σ.length = σ'.length ∧ ∀ (j : Nat) (v : V), j ∉ vs → σ[j]? = some (some v) → σ'[j]? = some (some v)
def Ends (Y : Cx) (pins : List (Addr × Obj)) (vs : List Nat) (σ : L2.St) (N : Hp → Prop) : Shared → Prop := fun g => ∃ H' σ', Inv Y pins σ' H' g ∧ Kp vs σ σ' ∧ N H'
structure ClOk (Y : Cx) (D : Addr) (C : Expr) (q : Nat) (src : Expr) (vs : List Nat) (tB : TB) : Prop where
  run : ∀ (pins : List (Addr × Obj)) (s : Shared) (σ : L2.St) (H : Hp) (N : Hp → Prop), Inv Y pins σ H s → tB D σ H N → wpAny (model Y.prog Y.w) Y.A (eval src Y.env) (fun u e => wpAny (model Y.prog Y.w) Y.A (pyIter u) (fun i f => codeAny (model Y.prog Y.w) Y.A (.compStart C q i (.ref D) Y.env) (fun r g => match r with
    | .ok _ => Ends Y pins vs σ N g
    | .error _ => False) f) no e) no s
structure TdOk (Y : Cx) (D : Addr) (vs : List Nat) (todo : (Shared → Prop) → Shared → Prop) (tB : TB) : Prop where
  mono : ∀ {A B : Shared → Prop} {s : Shared}, (∀ g, A g → B g) → todo A s → todo B s
  run : ∀ (pins : List (Addr × Obj)) (s : Shared) (σ : L2.St) (H : Hp) (N : Hp → Prop), Inv Y pins σ H s → tB D σ H N → todo (Ends Y pins vs σ N) s
section
variable {Y : Cx} {D : Addr} {C tgt src nxt el : Expr} {cs : List Expr} {q : Nat} {wi : TI} {g : TG} {tt : TT} {te : TE} {tB : TB} {vs vs' : List Nat} {todo : (Shared → Prop) → Shared → Prop}
theorem td_mid (h : ClOk Y D C q nxt vs tB) : TdOk Y D vs (fun good d => wpAny (model Y.prog Y.w) Y.A (eval nxt Y.env) (fun u e => wpAny (model Y.prog Y.w) Y.A (pyIter u) (fun i f => codeAny (model Y.prog Y.w) Y.A (.compStart C q i (.ref D) Y.env) (fun r g => match r with
      | .ok _ => good g
      | .error _ => False) f) no e) no d) tB where
  mono := fun hk h => wpAny_mono h (fun u e he => wpAny_mono he (fun i f hf => codeAny_mono hf fun r g hg => by
    cases r with
    | ok _ => exact hk g hg
    | error _ => exact hg) fun _ _ z => z) fun _ _ z => z
  run := h.run
end

def tLcB (wi : TI) (g : TG) (tt : TT) (tB : TB) (vs : List Nat) : TE := fun σ H Q => wi σ H fun J H1 => ∀ D, H1 D = none → ∃ W : Nat → Nat → Hp → Prop, (∃ m, W 0 m (upd H1 D (.lst []))) ∧ ∀ i m H, W i m H →
  (J.stop i H ∧ Q (.ref D) H) ∨ (J.go i H ∧ ∃ N : Hp → Prop, (∀ H', N H' → ∃ m', m' < m ∧ W (i + 1) m' H') ∧ ∀ x H', J.yld i H x H' → g x (wipe σ vs) H' fun σ2 H2 => wipe σ2 vs = wipe σ vs ∧ tt σ2 H2 fun b H3 => if b = true then tB D σ2 H3 N else N H3)
section
variable {X : Cx}
abbrev cells (X : Cx) (scope : Scope) (n : Nat) : List (Str × Addr) := cellsFrom (n + 1) scope.names (cloFrom X.env.cells scope.names [])
theorem whole {pins : List (Addr × Obj)} {s : Shared} {σ : L2.St} {H : Hp} {Q : VK} {elt t0 i0 t1 i1 t2 i2 : Expr} {f0 f1 f2 : List Expr} {scope : Scope} {own : List (Str × Nat)} {vs1 : List Nat} {pos pos' : Pos} {wi : TI} {g : TG} {tt : TT} {tB : TB} {use : Option (Value → Sem Unit)} {Qf : Value → Shared → Prop}
    (hc : X.calm = true) (hN : X.N.Nodup) (I : Inv X pins σ H s) (hi : PI X t0 i0 wi) (ok : BlkOk X.N X.env.scope scope own) (hv : ∀ i ∈ vs1, i ∈ own.map (·.2))
    (hg : ∀ (s : Shared) (H : Hp) (n : Addr) (cl : List (Str × Addr)) (fp : List Addr), PG (X.blk s H scope (compEnvC scope cl n X.env) fp) t0 g)
    (ht : ∀ (s : Shared) (H : Hp) (n : Addr) (cl : List (Str × Addr)) (fp : List Addr), PTs (X.blk s H scope (compEnvC scope cl n X.env) fp) f0 tt)
    (hcl : ∀ (D : Addr) (s : Shared) (H : Hp) (n : Addr) (cl : List (Str × Addr)) (fp : List Addr), ClOk (X.blk s H scope (compEnvC scope cl n X.env) fp) D (.ListComp elt [⟨t0, i0, f0, 0⟩, ⟨t1, i1, f1, 0⟩, ⟨t2, i2, f2, 0⟩] scope pos) 1 i1 vs1 tB)
    (hs : ∀ x, foldedSetIterable i0 X.env x = pure x) (hs1 : ∀ env x, foldedSetIterable i1 env x = pure x)
    (h : tLcB wi g tt tB (own.map (·.2)) σ H Q)
    (hR : ∀ D n s' m H', Inv X pins σ H' s' → Q (.ref D) H' → s'.heap.Ns n m → FpOk X pins H' n → compPost (model X.prog X.w) X.A X.xe use Qf (.ref D) n (.ok .next) s') :
    wpAny (model X.prog X.w) X.A (comprehension (.ListComp elt [⟨t0, i0, f0, 0⟩, ⟨t1, i1, f1, 0⟩, ⟨t2, i2, f2, 0⟩] scope pos) scope X.env pos' (newList []) false (eval i0 X.env) use) Qf X.xe s := by
  have clo : ∀ y ∈ scope.names, y.2 = .free → ∃ c, X.env.cells.lookup y.1 = some c := fun y hy e => (ok.free y hy e).elim (fun z => I.ok.has _ (.inl z)) fun z => I.ok.has _ (.inr z)
  refine wpAny_comprehension_free (use := use) rfl hs (closure_ok clo) ok.kind (fun y hy e => by rw [ok.uniq y hy, e]) (wpAny_mono (hi.run pins s σ H _ I h) (fun xv a ha => wpAny_mono ha (fun itv b hb => ?_) fun _ _ z => z) fun _ _ z => z)
  obtain ⟨it, fp, tn, J, Hb, rfl, Ib, T, stb, fb, hq⟩ := hb
  refine wpAny_newObj_type (newEnv_comp ?_) (by show 0 ≤ sizeLine; decide)
  generalize eD : b.heap.objs.size = D
  obtain ⟨W, ⟨m0, w0⟩, turn⟩ := hq D (Ib.hok.fresh (Nat.le_of_eq eD))
  generalize ec : ({ b with heap := b.heap.push { cls := .type "list", data := .seq ([] : List Value).toArray } } : Shared) = c
  have hc0 : c.heap = b.heap.push { cls := .type "list", data := .seq ([] : List Value).toArray } := by rw [← ec]
  have Ic : Inv X pins σ (upd Hb D (.lst [])) c := by
    rw [← ec]
    refine Ib.laid (t' := b.toks) (fun x o e => Heap.get?_push_of_some _ e) (Nat.le_of_eq eD) ⟨Nat.zero_le _, [], 0, .nil, ?_⟩
    rw [← eD]
    exact Heap.get?_push_size _ rfl
  have low : ∀ x ∈ fp, x < b.heap.objs.size := fun x hx => (T.obj _ _ stb x hx).elim fun o z => Heap.lt_size z.1
  have fc : ∀ x ∈ fp, FpOk X pins (upd Hb D (.lst [])) x ∧ x < c.heap.objs.size := fun x hx => by
    have hl := low x hx
    refine ⟨⟨?_, (fb x hx).2⟩, by rw [hc0, Heap.size_push]; exact Nat.lt_succ_of_lt hl⟩
    rw [upd_ne (by rw [← eD]; exact Nat.ne_of_lt hl)]
    exact (fb x hx).1
  have stc : tn 0 c.heap := T.keep _ _ _ stb fun x _ o e => by rw [hc0]; exact Heap.get?_push_of_some _ e
  have Id := block_start Ic ok hN fc
  have pg := hg c (upd Hb D (.lst [])) c.heap.objs.size (cells X scope c.heap.objs.size) fp
  have pt := ht c (upd Hb D (.lst [])) c.heap.objs.size (cells X scope c.heap.objs.size) fp
  have pc := hcl D c (upd Hb D (.lst [])) c.heap.objs.size (cells X scope c.heap.objs.size) fp
  have nofp : ∀ x ∈ fp, (upd Hb D (.lst [])) x = none := fun x hx => (fc x hx).1.1
  show codeAny _ _ (.compStart _ 0 (.ref it) (.ref D) (compEnvC scope (cells X scope c.heap.objs.size) c.heap.objs.size X.env)) (compPost (model X.prog X.w) X.A X.xe use Qf (.ref D) c.heap.objs.size) { c with heap := pushCells (c.heap.push { cls := .type "dict", data := .dict #[] }) scope.names }
  generalize ee : compEnvC scope (cells X scope c.heap.objs.size) c.heap.objs.size X.env = en at Id pg pt pc ⊢
  have eL : en.locals = c.heap.objs.size := by subst ee; rfl
  generalize eH : upd Hb D (.lst []) = Hc at Ic Id pg pt pc w0 nofp fc
  generalize ed : ({ c with heap := pushCells (c.heap.push { cls := .type "dict", data := .dict #[] }) scope.names } : Shared) = d at Id ⊢
  have std : tn 0 d.heap := T.keep _ _ _ stc fun x _ o e => by rw [← ed]; exact pushCells_keeps _ _ _ _ (Heap.get?_push_of_some _ e)
  have stat : ∀ {σ' : L2.St} {H' : Hp} {s' : Shared}, Inv (X.blk c Hc scope en fp) [] σ' H' s' → (∀ x ∈ fp, H' x = none) → ∀ x ∈ fp, FpOk (X.blk c Hc scope en fp) [] H' x := fun {σ' H' s'} I' hn x hx =>
    ⟨hn x hx, (I'.ok.exf x hx).1, I'.ok.exfs x hx, .inl hx, fun y k e => (I'.ok.exf x hx).2 y k e, fun p hp => absurd (show p ∈ ([] : List (Addr × Obj)) ++ [] from hp) (by simp)⟩
  have loop : codeAny (model X.prog X.w) X.A (.compLoop (.ListComp elt [⟨t0, i0, f0, 0⟩, ⟨t1, i1, f1, 0⟩, ⟨t2, i2, f2, 0⟩] scope pos) 0 (.ref it) (.ref D) en) (compPost (model X.prog X.w) X.A X.xe use Qf (.ref D) c.heap.objs.size) d := by
    refine mid (src := i0) (tgt := t0) (cs := f0) (nxt := i1) rfl rfl rfl (hs1 en) (fun k a => ∃ i H', Inv (X.blk c Hc scope en fp) [] (wipe σ (own.map (·.2))) H' a ∧ tn i a.heap ∧ (∀ x ∈ fp, H' x = none) ∧ W i k H') ?_ m0 ⟨0, Hc, Id, std, nofp, w0⟩
    rintro k a ⟨i, H2, I2, st2, n2, w2⟩
    rcases turn i k H2 w2 with ⟨stop, qq⟩ | ⟨go, N, hNx, step⟩
    · refine wpAny_mono (T.done (X.blk c Hc scope en fp) rfl rfl rfl hc i [] a _ H2 no I2 (stat I2 n2) st2 stop) (fun r e he => ?_) fun _ _ z => z
      obtain ⟨rfl, I3⟩ := he
      have I4 : Inv X pins σ H2 e := Ic.call' (ch := fp) I3.os I3.base I3.hok I3.bare fun x hx => ⟨(fc x hx).1.2.2.2.1, (fc x hx).1.2.1, (fc x hx).1.2.2.2.2.1, (fc x hx).1.2.2.2.2.2⟩
      have nC : H2 c.heap.objs.size = none := by rw [← eL]; exact I3.free
      obtain ⟨m, hn, _⟩ := I3.loc
      have hn : e.heap.Ns en.locals m := hn
      rw [eL] at hn
      exact hR D c.heap.objs.size e m H2 I4 qq hn (Ic.fpOk (Nat.le_refl _) nC)
    · refine wpAny_mono (T.item (X.blk c Hc scope en fp) rfl rfl rfl hc i [] a _ H2 no I2 (stat I2 n2) st2 go) (fun r e he => ?_) fun _ _ z => z
      obtain ⟨u, rfl, he⟩ := he
      refine wpAny_mono he (fun _ f hf => ?_) fun _ _ z => z
      obtain ⟨x, H3, I3, r3, y3, st3, n3⟩ := hf
      have I3' := I3.pinned (stat I3 n3) (T.obj _ _ st3)
      refine wpAny_mono (pg.run _ f _ H3 x u _ I3' r3 (step x H3 y3)) (fun _ f2 hf2 => ?_) fun _ _ z => z
      obtain ⟨σ4, H4, I4, hw4, q4⟩ := hf2
      refine wpAny_mono (pt.run _ f2 σ4 H4 _ I4 q4) (fun bb f3 hf3 => ?_) fun _ _ z => z
      obtain ⟨H5, I5, q5⟩ := hf3
      have fin : ∀ {σ6 : L2.St} {g2 : Shared} {H' : Hp}, Inv (X.blk c Hc scope en fp) ([] ++ pinsAt fp f.heap) σ6 H' g2 → Kp vs1 σ4 σ6 → N H' → ∃ m, m < k ∧ ∃ i H', Inv (X.blk c Hc scope en fp) [] (wipe σ (own.map (·.2))) H' g2 ∧ tn i g2.heap ∧ (∀ x ∈ fp, H' x = none) ∧ W i m H' := fun {σ6 g2 H'} I' hk nx => by
        obtain ⟨m', hm, w'⟩ := hNx H' nx
        have pin' : ∀ x ∈ fp, ∀ o, f.heap.get? x = some o → g2.heap.get? x = some o ∧ H' x = none := fun x hx o eo =>
          have z := I'.pin (x, o) (List.mem_append_right _ (List.mem_append_right _ (mem_pinsAt hx eo)))
          ⟨z.1, z.2.1⟩
        refine ⟨m', hm, i + 1, H', (I'.unpinned (pins := [])).weak ?_ (fun j v ej => ?_), T.keep _ _ _ st3 fun x hx o eo => (pin' x hx o eo).1, fun x hx => ?_, w'⟩
        · rw [← hw4, wipe_length]
          exact hk.1
        · rw [← hw4] at ej
          obtain ⟨e1, e2⟩ := wipe_some ej
          exact hk.2 j v (fun z => e2 (hv j z)) e1
        · obtain ⟨o, eo, _⟩ := T.obj _ _ st3 x hx
          exact (pin' x hx o eo).2
      cases bb with
      | false =>
        rw [if_neg Bool.false_ne_true] at q5 ⊢
        exact fin I5 ⟨rfl, fun _ _ _ e => e⟩ q5
      | true =>
        rw [if_pos rfl] at q5 ⊢
        exact (td_mid pc).mono (fun g2 hg2 => by
          obtain ⟨H', σ6, I6, k6, nx6⟩ := hg2
          exact fin I6 k6 nx6) ((td_mid pc).run _ f3 σ4 H5 N I5 q5)
  exact codeAny_compStart_list loop (T.self X.A 0 _ _ _ std loop)
end
end Lc3

namespace Mu
open PySem PySem.Spec PyProof.Rows L2 He Evl Lc3
section
variable {Γ : Ctx} {te : TE} {tB : TB} {j : Nat} {vs : List Nat} {β : Type} {ti : TI} {l : List β} {ρ : β → Rp} {r : Rp} {rs : β → List Rp}
end
end Mu

namespace Mu
open PySem PySem.Spec PyProof.Rows L2 He Evl
section
variable {α : Type} [DecidableEq α]
end
section
variable {W : WX} {Γ : Ctx} {M : List Re} {κ : KV} {ε : KX} {K : PySem.W.Frag} {t1 t2 t3 : TE} {a b c : Nat} {x y z : Int}
end
section
variable {Γ : Ctx} {ta tb : TE} {m n : Nat} {K : PySem.W.Frag} {α : Type} {rs : α → Rp}
theorem x_minM (ha : EvX Γ ta (nI m)) (hb : EvX Γ tb (nI n)) : EvX Γ (tCB (fun xs H Q => ∃ i j, xs = [V.int i, V.int j] ∧ Q (V.int (if j < i then j else i)) H) (tCons ta (tCons tb tNil))) (nI (min m n)) := EvX.by fun W ε =>
  e_cb (a_cons (e_x ha (a_cons (e_x hb (a_nil (am_min2 ⟨rfl, rfl⟩))))))
end
end Mu

namespace Mu
open PySem PySem.Spec PyProof.Rows L2 He Evl
theorem KT.keys {H : Hp} {kvs : List (List Key × V)} {xs : List (List Key × Addr × Value)} (r : KT H kvs xs) : xs.map (·.1) = kvs.map (·.1) := by
  induction r with
  | nil => rfl
  | cons h t ih => rw [List.map_cons, List.map_cons, ih, h.1]
end Mu
theorem L2.Room.u2 {k : Nat} {A : PySem.Around} (r : L2.Room k A) : A.units + 2 < PySem.cLine := by have := r.un; omega

namespace Lc3
open PySem PySem.Spec PyProof.Rows L2
section
variable {X : Cx}
end
end Lc3

namespace Mu
open PySem PySem.Spec PyProof.Rows L2 He Evl Lc3
theorem Gr.tup {G H G2 H2 : Hp} {q : Addr} {xs : List V} (g : Gr G H G2 H2) (h : H2 q = some (.tup xs)) : ∃ G3, Ex G2 G3 ∧ Gr G H G3 H2 ∧ G3 q = some (.tup xs) ∧ ∀ a, a ≠ q → G2 a = none → G3 a = none := by
  cases gq : G2 q with
  | some u =>
    have := g.i q u gq
    rw [h] at this
    cases this
    exact ⟨G2, Ex.refl _, g, gq, fun _ _ z => z⟩
  | none =>
    have e : Ex G2 (upd G2 q (.tup xs)) := Ex.new gq
    refine ⟨upd G2 q (.tup xs), e, ⟨g.g.trans e, g.h, ex_add g.i h, fun a o z t y => ?_⟩, upd_same, fun a ne z => by rw [upd_ne ne]; exact z⟩
    have ne : a ≠ q := fun c => by
      subst c
      have z2 := g.h _ _ z
      rw [h] at z2
      cases z2
      exact t _ rfl
    rw [upd_ne ne]
    exact g.n a o z t y
section
variable {t : TT} {te tk tv td : TE} {W : WX} {Γ : Ctx} {M : List Re} {κ : KV} {ε : KX} {K : PySem.W.Frag} {vs : List Nat} {j : Nat} {β : Type} {l : List β} {kf : β → List Key} {f : β → Bool} {rr : β → Rp} {kvs : List (List Key × Rp)}
end
end Mu

namespace Mu
open PySem PySem.Spec PyProof.Rows L2 He Evl
def SpDt (sp : Sp) (vs : List V) (G : Hp) (kvs : List (List Key × Rp)) : Prop := ∀ H, Ex G H → ∀ Q : VK, (∀ p ws G2 H2, Gr G H G2 H2 → H p = none → G2 p = none → H2 p = some (.dT ws) → DtR G2 ws kvs → Q (.ref p) H2) → ∀ E : XK, sp vs H Q E
def spDt (R : List V → Hp → List (List Key × Rp) → Prop) : Sp := fun vs H Q _ => ∃ G kvs, Ex G H ∧ R vs G kvs ∧ ∀ p ws G2 H2, Gr G H G2 H2 → H p = none → G2 p = none → H2 p = some (.dT ws) → DtR G2 ws kvs → Q (.ref p) H2
theorem SpDt.of {R : List V → Hp → List (List Key × Rp) → Prop} {vs : List V} {G : Hp} {kvs : List (List Key × Rp)} (h : R vs G kvs) : SpDt (spDt R) vs G kvs := fun H e Q q _ => ⟨G, kvs, e, h, q⟩
section
variable {W : WX} {Γ Γ' : Ctx} {M : List Re} {te : TE} {t : TS} {κ : KV} {ε : KX} {kvs : List (List Key × Rp)} {rs : List Rp} {sp : Sp} {G H : Hp} {σ : L2.St} {Q : VK} {z : Bool} {cs : Addr → Bool}
end
end Mu

namespace Mu
open PySem PySem.Spec PyProof.Rows L2 He Evl
def tRevL (K : PySem.W.Frag) (te ts : TE) : TE := fun σ H Q => te σ H fun x H1 => ts σ H1 fun k H2 => k = V.int (-1) ∧ ∃ a xs, x = V.ref a ∧ SqL K H2 a xs ∧ ∀ p, H2 p = none → Q (.ref p) (upd H2 p (.lst xs.reverse))
theorem pe_revSl {K : PySem.W.Frag} {X : Cx} {e st : Expr} {te ts : TE} {p2 pos : Pos} (he : PE X e te) (hs : PE X st ts) (hq : ∀ a b, subscripted (.Slice none none (some st) p2) false (.ref a) (.ref b) = operate [.ref a, .ref b] (getItem (.ref a) (.ref b)) := by intro _ _; with_unfolding_all rfl) (hK : X.K = K := by rfl) : PE X (.Subscript e (.Slice none none (some st) p2) pos) (tRevL K te ts) := by
  subst hK
  refine ⟨fun pins s σ H Q I h => ?_⟩
  refine Subscript_ (thn (he.run pins s σ H _ I h) fun v s1 ⟨x, H1, I1, r1, q1⟩ => ?_)
  refine wpAny_Slice ?_
  rw [evalPart_none]; refine wpAny_pure (wpAny_pure ?_); rw [evalPart_some]
  refine thn (hs.run pins s1 σ H1 _ I1 q1) fun vk s3 ⟨k, H3, I3, rk, q3⟩ => ?_
  obtain ⟨rfl, a, xs, rfl, hx, q⟩ := q3
  obtain ⟨t, rfl⟩ := rk
  obtain rfl : v = Value.ref a := r1
  have I4 : Inv X pins σ H3 { s3 with heap := s3.heap.push { cls := .type "slice", data := .fields #[.none, .none, .int (-1) t] } } := I3.kept (t' := s3.toks) fun b ob q => Heap.get?_push_of_some _ q
  obtain ⟨its, r, ht, hz⟩ := I4.list hx
  have hlen := r.length
  have hg : wpAny (model X.prog X.w) X.A (getItem (.ref a) (.ref s3.heap.objs.size)) (EP X pins σ Q) X.xe { s3 with heap := s3.heap.push { cls := .type "slice", data := .fields #[.none, .none, .int (-1) t] } } := by
    refine wpAny_getItem_list_slice ht.isList (Heap.IsSliceOf.new ..) .none .none (.int (-1) t) (by decide) ?_ (by rw [List.size_toArray] <;> omega)
    rw [PySem.W.krv_pick]
    refine ⟨.ref _, _, I4.laid (a := (s3.heap.push { cls := .type "slice", data := .fields #[.none, .none, .int (-1) t] }).objs.size) (t' := s3.toks) (o := .lst xs.reverse) (fun b ob q => Heap.get?_push_of_some _ q) (Nat.le_refl _) ?_, rfl, q _ (I4.hok.fresh (Nat.le_refl _))⟩
    exact ⟨by rw [List.length_reverse]; exact hz, _, 0, r.reverse, Heap.get?_push_size _ rfl⟩
  show wpAny (model X.prog X.w) X.A (subscriptTail e (.Slice none none (some st) p2) (.ref a) (.ref s3.heap.objs.size)) (EP X pins σ Q) X.xe _
  exact tail_any (ops := [.ref a, .ref s3.heap.objs.size]) ht.isList.typeIs slot_list_getitem.lookup hg (hq _ _)
section
variable {W : WX} {Γ : Ctx} {M : List Re} {te ts : TE} {ta : TA} {κ : KV} {ε : KX} {K : PySem.W.Frag} {C : Addr} {sp : Sp} {E : XK}
end
end Mu

namespace Mu
open PySem PySem.Spec PyProof.Rows L2 He Evl
section
variable {X : Cx} {CX : CXT} {k n : Nat} {f : Addr} {fd : FuncData} {ps ks : List Str} {sp : Sp} {x : Str} {p pos : Pos} {e : Expr} {es : List Expr} {kws : List Keyword} {t tk : TA} {g : List Value → List Value → List Value} {gV : List V → List V → List V}
end
section
variable {W : WX} {Γ : Ctx} {M : List Re} {κ : KV} {ε : KX} {ta tk : TA} {n m : Nat} {sp : Sp} {E : XK} {dv : V} {rd : Rp}
end
end Mu

namespace Mu
open PySem PySem.Spec PyProof.Rows L2 He Evl
section
variable {X : Cx} {CX : CXT} {k : Nat} {C g : Addr} {f : Str} {fd : FuncData} {ps : List Str} {sp : Sp} {E : L2.St → XK} {o value : Expr} {pos pos' : Pos} {ta tv : TE}
end
end Mu

namespace Mu
open PySem PySem.Spec PyProof.Rows L2 He Evl
end Mu

namespace Mu
open PySem PySem.Spec PyProof.Rows L2 He Evl
section
variable {X : Cx} {CX : CXT} {k : Nat} {f C : Addr} {fd : FuncData} {ps : List Str} {sp : Sp} {m : Str} {pos pos' : Pos} {x : Str} {e : Expr} {i : Nat} {te : TE}
end
section
variable {W : WX} {Γ : Ctx} {M : List Re} {κ : Kn} {C p : Addr} {sp : Sp} {i : Nat} {te : TE}
end
end Mu

namespace Mu
open PySem PySem.Spec PyProof.Rows L2 He Evl StX GenW
section
variable {X : Cx} {st : Stmt} {test : Expr} {a b : List Stmt} {pos : Pos} {ts : TS} {tc : TT} {t u : TGn}
theorem ps_nox (h : PS X.nox st ts) : PS X st ts := ⟨fun pins s σ H D I hw =>
  wpAny_mono (h.run pins s σ H D (I.wish _) hw) (fun _ _ q => q.unwish) fun _ _ z => False.elim z⟩
end
section
variable {P : Program} {w : World} {K : PySem.W.Frag} {mg : Str → Option Value} {base : Heap} {x qual : Str} {params : Arguments} {body : List Stmt} {scope : Scope} {dvs : List V} {kws : List (Str × V)} {f : Addr} {fd : FuncData}
end
abbrev XF0 : XK := fun _ _ _ => False
structure GKn where
  nx : List V → Ctx → List Re → Prop
  rt : List V → Rp → List Re → Prop := fun _ _ _ => False
  bk : List V → Ctx → List Re → Prop := fun _ _ _ => False
  ct : List V → Ctx → List Re → Prop := fun _ _ _ => False
def GKn.at_ (κ : GKn) (ys : List V) : Kn := { nx := κ.nx ys, rt := κ.rt ys, bk := κ.bk ys, ct := κ.ct ys }
abbrev W0 : WX := fun _ _ _ _ => False
section
variable {Γ Γ' : Ctx} {M : List Re} {ys : List V} {t u : TGn} {ts : TS} {tc : TT} {te : TE} {κ : GKn} {v : V}
theorem ext_t {b : Bool} (h : EvTX Γ tc b) : EXT Γ M tc (fun c M' => c = b ∧ M' = M) := EXT.ofW fun W => w_tx h ⟨rfl, rfl⟩
end
end Mu

namespace Mu
open PySem PySem.Spec PyProof.Rows L2 He Evl StX GenW
def kNo : Resume → Sem PySem.Fin := fun _ => .unsupported ""
def lull : GenState → GenState
  | .suspended _ l c p fs cl => .suspended kNo l c p fs cl
  | x => x
def Nap : GenState → Prop
  | .suspended .. => True
  | _ => False
theorem lull_seen (x : GenState) : (lull x).seen = x.seen := by cases x <;> rfl
theorem lull_bare (x : GenState) : (lull x).bare = x.bare := by cases x <;> rfl
def Fine (x : GenState) : Prop := ∀ k l c p fs cl, x = .suspended k l c p fs cl → k = kNo ∨ splitAtGen fs = none
structure Lu (g : Nat) (R : GenState) (G G2 : Array GenState) : Prop where
  sz : G2.size = G.size
  nap : Nap R
  here : G[g]? = some (lull R)
  real : G2[g]? = some R
  ent : ∀ (i : Nat) (x y : GenState), G[i]? = some x → G2[i]? = some y → x = y ∨ x = lull y
  fine : ∀ (i : Nat) (x : GenState), G[i]? = some x → Fine x
theorem Lu.get {g : Nat} {R : GenState} {G G2 : Array GenState} (h : Lu g R G G2) {i : Nat} {x : GenState} (e : G[i]? = some x) : ∃ y, G2[i]? = some y ∧ (x = y ∨ x = lull y) := by
  have hi := (Array.getElem?_eq_some_iff.mp e).1
  have hi2 : i < G2.size := by rw [h.sz]; exact hi
  exact ⟨G2[i], Array.getElem?_eq_getElem hi2, h.ent i x _ e (Array.getElem?_eq_getElem hi2)⟩
theorem set_at {G : Array GenState} {i j : Nat} {x y : GenState} (h : (G.setIfInBounds i x)[j]? = some y) : (i = j ∧ y = x) ∨ (i ≠ j ∧ G[j]? = some y) := by
  by_cases c : i = j
  · subst c
    left
    by_cases b : i < G.size
    · have q : (G.setIfInBounds i x)[i]? = some x := by simp [b]
      rw [q] at h
      exact ⟨rfl, (Option.some.inj h).symm⟩
    · have q : (G.setIfInBounds i x)[i]? = none := by
        rw [Array.getElem?_eq_none_iff]
        simp only [Array.size_setIfInBounds]
        omega
      rw [q] at h; cases h
  · right
    rw [Array.getElem?_setIfInBounds_ne c] at h
    exact ⟨c, h⟩
theorem Lu.set {g i : Nat} {R x : GenState} {G G2 : Array GenState} (h : Lu g R G G2) (hi : i ≠ g) (hx : Fine x) : Lu g R (G.setIfInBounds i x) (G2.setIfInBounds i x) where
  sz := by rw [Array.size_setIfInBounds, Array.size_setIfInBounds, h.sz]
  nap := h.nap
  here := by rw [Array.getElem?_setIfInBounds_ne hi]; exact h.here
  real := by rw [Array.getElem?_setIfInBounds_ne hi]; exact h.real
  ent := fun j a b ea eb => by
    rcases set_at ea with ⟨q, e1⟩ | ⟨q, e1⟩
    · rcases set_at eb with ⟨_, e2⟩ | ⟨q2, _⟩
      · exact .inl (e1.trans e2.symm)
      · exact absurd q q2
    · rcases set_at eb with ⟨q2, _⟩ | ⟨_, e2⟩
      · exact absurd q2 q
      · exact h.ent j a b e1 e2
  fine := fun j a ea => by
    rcases set_at ea with ⟨_, e1⟩ | ⟨_, e1⟩
    · rw [e1]; exact hx
    · exact h.fine j a e1
theorem push_get {G : Array GenState} {i : Nat} {x y : GenState} (h : (G.push x)[i]? = some y) : (i = G.size ∧ y = x) ∨ G[i]? = some y := by
  rw [Array.getElem?_push] at h
  split at h
  · rename_i c
    exact .inl ⟨c, (Option.some.inj h).symm⟩
  · exact .inr h
theorem Lu.push {g : Nat} {R : GenState} {G G2 : Array GenState} (h : Lu g R G G2) (c : Code) : Lu g R (G.push (.fresh c)) (G2.push (.fresh c)) where
  sz := by rw [Array.size_push, Array.size_push, h.sz]
  nap := h.nap
  here := by
    have hl := (Array.getElem?_eq_some_iff.mp h.here).1
    rw [Array.getElem?_push, if_neg (Nat.ne_of_lt hl)]; exact h.here
  real := by
    have hl := (Array.getElem?_eq_some_iff.mp h.real).1
    rw [Array.getElem?_push, if_neg (Nat.ne_of_lt hl)]; exact h.real
  ent := fun j a b ea eb => by
    rcases push_get ea with ⟨q, e1⟩ | e1
    · rcases push_get eb with ⟨_, e2⟩ | e2
      · exact .inl (e1.trans e2.symm)
      · have := (Array.getElem?_eq_some_iff.mp e2).1
        rw [h.sz, q] at this
        exact absurd this (Nat.lt_irrefl _)
    · rcases push_get eb with ⟨q, _⟩ | e2
      · have := (Array.getElem?_eq_some_iff.mp e1).1
        rw [q, h.sz] at this
        exact absurd this (Nat.lt_irrefl _)
      · exact h.ent j a b e1 e2
  fine := fun j a ea => by
    rcases push_get ea with ⟨_, e1⟩ | e1
    · rw [e1]; exact fun _ _ _ _ _ _ z => nomatch z
    · exact h.fine j a e1
theorem lull_nap {x : GenState} (h : Nap x) : ∃ k l c p fs cl, x = .suspended k l c p fs cl ∧ lull x = .suspended kNo l c p fs cl := by
  cases x with
  | suspended k l c p fs cl => exact ⟨k, l, c, p, fs, cl, rfl, rfl⟩
  | fresh c => exact h.elim
  | running => exact h.elim
  | finished => exact h.elim
theorem Lu.start {g : Nat} {R : GenState} {G : Array GenState} (h : G[g]? = some R) (hn : Nap R) : Lu g R (G.map lull) G where
  sz := by rw [Array.size_map]
  nap := hn
  here := by rw [Array.getElem?_map, h]; rfl
  real := h
  ent := fun i x y ex ey => by
    rw [Array.getElem?_map, ey] at ex
    exact .inr (Option.some.inj ex).symm
  fine := fun i x ex => by
    rw [Array.getElem?_map] at ex
    cases q : G[i]? with
    | none => rw [q] at ex; cases ex
    | some y =>
      rw [q] at ex
      have e : lull y = x := Option.some.inj ex
      subst e
      intro k l c p fs cl e
      cases y with
      | suspended k' l' c' p' fs' cl' =>
        have e : GenState.suspended kNo l' c' p' fs' cl' = .suspended k l c p fs cl := e
        injection e with e1
        exact .inl e1.symm
      | fresh c => exact nomatch e
      | running => exact nomatch e
      | finished => exact nomatch e
theorem Lu.allBare {g : Nat} {R : GenState} {G G2 : Array GenState} (h : Lu g R G G2) (b : AllBare G) : AllBare G2 := fun y hy => by
  obtain ⟨i, hi, e⟩ := Array.mem_iff_getElem.mp hy
  have hi1 : i < G.size := by rw [← h.sz]; exact hi
  have e1 : G[i]? = some G[i] := Array.getElem?_eq_getElem hi1
  have e2 : G2[i]? = some y := by rw [Array.getElem?_eq_getElem hi, e]
  have hb := b _ (Array.mem_of_getElem? e1)
  rcases h.ent i _ y e1 e2 with q | q
  · rw [← q]; exact hb
  · rw [q, lull_bare] at hb; exact hb
theorem allBare_lull {G : Array GenState} (b : AllBare G) : AllBare (G.map lull) := fun y hy => by
  obtain ⟨x, hx, e⟩ := Array.mem_map.mp hy
  rw [← e, lull_bare]; exact b x hx
section
variable {M : Model}
theorem no_run {Γ : PySem.Ctx} {p : Pos} {w : String} {fs : List Frame} {s s' : Shared} {e : End} (h : Runs M Γ p (.unsupported w) fs s e s') : False := by
  generalize ht : (Sem.unsupported w : Sem PySem.Fin) = t at h
  induction h <;> first | (cases ht; done) | (rename_i ih1 ih2; exact ih1 ht) | (rename_i ih1; exact ih1 ht)
def NoG (e : End) : Prop := ∀ v g₀ l k c p fs, e = .susp v g₀ l k c p fs → splitAtGen fs = none
theorem NoG.fine {e : End} (h : NoG e) : Fine e.genState := by
  cases e with
  | ret r => exact fun _ _ _ _ _ _ z => nomatch z
  | susp v g l k c p fs =>
    intro k' l' c' p' fs' cl' z
    have z : GenState.suspended k l c p fs (g || fs.any Frame.guarded) = .suspended k' l' c' p' fs' cl' := z
    injection z with _ _ _ _ z5
    rw [← z5]
    exact .inr (h v g l k c p fs rfl)
theorem split_app {a b : List Frame} (ha : splitAtGen a = none) (hb : splitAtGen b = none) : splitAtGen (a ++ b) = none := by
  induction a with
  | nil => exact hb
  | cons f a ih =>
    cases f with
    | gen g k l c p => exact nomatch ha
    | ret k h g l c p kp =>
      have ha : (splitAtGen a).map _ = none := ha
      have h1 : splitAtGen a = none := Option.map_eq_none_iff.mp ha
      show (splitAtGen (a ++ b)).map _ = none
      rw [ih h1]; rfl
theorem split_tail {f : Frame} {a : List Frame} (h : splitAtGen (f :: a) = none) : splitAtGen a = none := by
  cases f with
  | gen g k l c p => exact nomatch h
  | ret k hh g l c p kp =>
    have h : (splitAtGen a).map _ = none := h
    exact Option.map_eq_none_iff.mp h
theorem fresh_dz {c : Code} {y : GenState} (q : GenState.fresh c = y ∨ GenState.fresh c = lull y) : y = .fresh c := by
  rcases q with q | q
  · exact q.symm
  · cases y with
    | fresh d => exact q.symm
    | suspended k l c p fs cl => exact nomatch q
    | running => exact nomatch q
    | finished => exact nomatch q
theorem Lu.ne {g i : Nat} {R : GenState} {G G2 : Array GenState} {c : Code} (l : Lu g R G G2) (h : G[i]? = some (.fresh c)) : i ≠ g := fun z => by
  subst z
  obtain ⟨k, l', c, p, fs, cl, _, e2⟩ := lull_nap l.nap
  rw [l.here, e2] at h; cases h
theorem Lu.fr {g i : Nat} {R : GenState} {G G2 : Array GenState} {c : Code} (l : Lu g R G G2) (h : G[i]? = some (.fresh c)) : G2[i]? = some (.fresh c) := by
  obtain ⟨y, ey, q⟩ := l.get h
  rw [fresh_dz q] at ey; exact ey
theorem runs_lull {g : Nat} {R : GenState} {Γ : PySem.Ctx} {p : Pos} {t : Sem PySem.Fin} {fs : List Frame} {s s' : Shared} {e : End} (h : Runs M Γ p t fs s e s') :
    ∀ G2, splitAtGen fs = none → Lu g R s.gens G2 → ∃ G3, Runs M Γ p t fs { s with gens := G2 } e { s' with gens := G3 } ∧ Lu g R s'.gens G3 ∧ NoG e := by
  have nog : ∀ r, NoG (.ret r) := fun r _ _ _ _ _ _ _ z => nomatch z
  induction h with
  | done => exact fun G2 _ l => ⟨G2, .done, l, nog _⟩
  | raise => exact fun G2 _ l => ⟨G2, .raise, l, nog _⟩
  | again hq _ ih => exact fun G2 hf l => let ⟨G3, a, b, c⟩ := ih G2 hf l; ⟨G3, .again hq a, b, c⟩
  | rule _ ih => exact fun G2 hf l => let ⟨G3, a, b, c⟩ := ih G2 hf l; ⟨G3, .rule a, b, c⟩
  | «at» _ ih => exact fun G2 hf l => let ⟨G3, a, b, c⟩ := ih G2 hf l; ⟨G3, .at a, b, c⟩
  | load ho _ ih => exact fun G2 hf l => let ⟨G3, a, b, c⟩ := ih G2 hf l; ⟨G3, .load ho a, b, c⟩
  | update ho _ ih => exact fun G2 hf l => let ⟨G3, a, b, c⟩ := ih G2 hf l; ⟨G3, .update ho a, b, c⟩
  | loadIfAlive _ ih => exact fun G2 hf l => let ⟨G3, a, b, c⟩ := ih G2 hf l; ⟨G3, .loadIfAlive a, b, c⟩
  | point _ ih => exact fun G2 hf l => let ⟨G3, a, b, c⟩ := ih G2 hf l; ⟨G3, .point a, b, c⟩
  | alloc _ ih => exact fun G2 hf l => let ⟨G3, a, b, c⟩ := ih G2 hf l; ⟨G3, .alloc a, b, c⟩
  | fresh _ ih => exact fun G2 hf l => let ⟨G3, a, b, c⟩ := ih G2 hf l; ⟨G3, .fresh a, b, c⟩
  | ask _ ih => exact fun G2 hf l => let ⟨G3, a, b, c⟩ := ih G2 hf l; ⟨G3, .ask a, b, c⟩
  | choose hn _ ih => exact fun G2 hf l => let ⟨G3, a, b, c⟩ := ih G2 hf l; ⟨G3, .choose hn a, b, c⟩
  | os _ ih => exact fun G2 hf l => let ⟨G3, a, b, c⟩ := ih G2 hf l; ⟨G3, .os a, b, c⟩
  | handled _ ih => exact fun G2 hf l => let ⟨G3, a, b, c⟩ := ih G2 hf l; ⟨G3, .handled a, b, c⟩
  | stack _ ih => exact fun G2 hf l => let ⟨G3, a, b, c⟩ := ih G2 hf l; ⟨G3, .stack a, b, c⟩
  | thread _ ih => exact fun G2 hf l => let ⟨G3, a, b, c⟩ := ih G2 hf l; ⟨G3, .thread a, b, c⟩
  | genState hg _ ih =>
    intro G2 hf l
    obtain ⟨G3, a, b, c⟩ := ih G2 hf l
    obtain ⟨y, ey, q⟩ := l.get hg
    refine ⟨G3, .genState (st := y) ey ?_, b, c⟩
    rcases q with q | q
    · rw [← q]; exact a
    · rw [q, lull_seen] at a; exact a
  | newGen _ ih =>
    intro G2 hf l
    obtain ⟨G3, a, b, c⟩ := ih (G2.push _) hf (l.push _)
    rw [← l.sz] at a
    exact ⟨G3, .newGen a, b, c⟩
  | call _ _ ih1 ih2 =>
    intro G2 hf l
    obtain ⟨G3, a, b, _⟩ := ih1 G2 rfl l
    obtain ⟨G4, a2, b2, c2⟩ := ih2 G3 hf b
    exact ⟨G4, .call a a2, b2, c2⟩
  | callSusp _ ih =>
    intro G2 hf l
    obtain ⟨G3, a, b, c⟩ := ih G2 rfl l
    refine ⟨G3, .callSusp a, b, fun v g₀ l k c' p fs z => ?_⟩
    injection z with _ _ _ _ _ _ z7
    rw [← z7]
    exact split_app (c _ _ _ _ _ _ _ rfl) rfl
  | yield =>
    intro G2 hf l
    refine ⟨G2, .yield, l, fun v g₀ l k c' p fs z => ?_⟩
    injection z with _ _ _ _ _ _ z7
    rw [← z7]; rfl
  | @resumeFresh Γ p g' l1 k1 s1 c1 e1 s2 e2 s3 hg _ hq _ ih1 ih2 =>
    intro G2 hf l
    have ne := l.ne hg
    obtain ⟨G3, a, b, c⟩ := ih1 (G2.setIfInBounds g' .running) rfl (l.set ne fun _ _ _ _ _ _ z => nomatch z)
    obtain ⟨G4, a2, b2, c2⟩ := ih2 (G3.setIfInBounds g' _) hf (b.set ne c.fine)
    exact ⟨G4, .resumeFresh (l.fr hg) a hq a2, b2, c2⟩
  | @resumeSuspended Γ p g' r1 l1 k1 s1 k2 l2 c2 p2 fs2 cl2 e1 s2 e2 s3 hg hr hq _ ih1 ih2 =>
    intro G2 hf l
    by_cases hk : g' = g
    · subst hk
      obtain ⟨k, l', c, p, fs, cl, _, e2⟩ := lull_nap l.nap
      rw [l.here, e2] at hg
      injection hg with hg
      injection hg with e1
      rw [← e1] at hr
      exact (no_run hr).elim
    obtain ⟨y, ey, q⟩ := l.get hg
    rcases q with q | q
    · subst q
      rcases l.fine _ _ hg _ _ _ _ _ _ rfl with z | z
      · rw [z] at hr
        exact (no_run hr).elim
      obtain ⟨G3, a, b, c⟩ := ih1 (G2.setIfInBounds g' .running) z (l.set hk fun _ _ _ _ _ _ z => nomatch z)
      obtain ⟨G4, a2, b2, c2⟩ := ih2 (G3.setIfInBounds g' _) hf (b.set hk c.fine)
      exact ⟨G4, .resumeSuspended ey a hq a2, b2, c2⟩
    · cases y with
      | suspended k l' c p fs cl =>
        have q : GenState.suspended _ _ _ _ _ _ = .suspended kNo l' c p fs cl := q
        injection q with e1
        rw [e1] at hr
        exact (no_run hr).elim
      | fresh c => exact nomatch q
      | running => exact nomatch q
      | finished => exact nomatch q
  | resumeJustStarted hg hv _ ih =>
    intro G2 hf l
    obtain ⟨G3, a, b, c⟩ := ih G2 hf l
    exact ⟨G3, .resumeJustStarted (l.fr hg) hv a, b, c⟩
  | resumeThrowFresh hg _ ih =>
    intro G2 hf l
    obtain ⟨G3, a, b, c⟩ := ih (G2.setIfInBounds _ .finished) hf (l.set (l.ne hg) fun _ _ _ _ _ _ z => nomatch z)
    exact ⟨G3, .resumeThrowFresh (l.fr hg) a, b, c⟩
  | resumeRunning hg _ ih =>
    intro G2 hf l
    obtain ⟨G3, a, b, c⟩ := ih G2 hf l
    obtain ⟨y, ey, q⟩ := l.get hg
    refine ⟨G3, .resumeRunning ?_ a, b, c⟩
    rcases q with q | q
    · rw [q]; exact ey
    · cases y with
      | running => exact ey
      | suspended k l c p fs cl => exact nomatch q
      | fresh c => exact nomatch q
      | finished => exact nomatch q
  | resumeFinished hg _ ih =>
    intro G2 hf l
    obtain ⟨G3, a, b, c⟩ := ih G2 hf l
    obtain ⟨y, ey, q⟩ := l.get hg
    refine ⟨G3, .resumeFinished ?_ a, b, c⟩
    rcases q with q | q
    · rw [q]; exact ey
    · cases y with
      | finished => exact ey
      | suspended k l c p fs cl => exact nomatch q
      | fresh c => exact nomatch q
      | running => exact nomatch q
  | segRet _ _ ih1 ih2 =>
    intro G2 hf l
    obtain ⟨G3, a, b, _⟩ := ih1 G2 rfl l
    obtain ⟨G4, a2, b2, c2⟩ := ih2 G3 (split_tail hf) b
    exact ⟨G4, .segRet a a2, b2, c2⟩
  | segGen _ _ _ _ => exact fun G2 hf l => nomatch hf
  | segSuspOut hs _ ih =>
    intro G2 hf l
    obtain ⟨G3, a, b, c⟩ := ih G2 rfl l
    refine ⟨G3, .segSuspOut hs a, b, fun v g₀ l k c' p fs z => ?_⟩
    injection z with _ _ _ _ _ _ z7
    rw [← z7]
    exact split_app (c _ _ _ _ _ _ _ rfl) hs
  | segSuspGen hs _ _ _ _ _ => exact fun G2 hf l => by rw [hs] at hf; cases hf
theorem wakes_lull {g g' : Nat} {R : GenState} {Γ : PySem.Ctx} {p : Pos} {r : Resume} {res : GenResult} {s s' : Shared} (h : Wakes M Γ p g' r s res s') {G2 : Array GenState} (l : Lu g R s.gens G2) :
    ∃ G3, Wakes M Γ p g' r { s with gens := G2 } res { s' with gens := G3 } ∧ Lu g R s'.gens G3 := by
  unfold Wakes at h
  split at h
  · exact h.elim
  · rename_i c hg
    have ne := l.ne hg
    have h2 := l.fr hg
    split at h
    · obtain ⟨e₁, s₁, hr, hq, e1, rfl⟩ := h
      obtain ⟨G3, a, b, c2⟩ := runs_lull hr (G2.setIfInBounds g' .running) rfl (l.set ne fun _ _ _ _ _ _ z => nomatch z)
      refine ⟨G3.setIfInBounds g' e₁.genState, ?_, b.set ne c2.fine⟩
      unfold Wakes
      dsimp only
      rw [h2]
      exact ⟨e₁, _, a, hq, e1, rfl⟩
    · rename_i v hv
      obtain ⟨e1, rfl⟩ := h
      refine ⟨G2, ?_, l⟩
      unfold Wakes
      dsimp only
      rw [h2]
      cases v <;> first | exact ⟨e1, rfl⟩ | exact (hv rfl).elim
    · obtain ⟨e1, rfl⟩ := h
      refine ⟨G2.setIfInBounds g' .finished, ?_, l.set ne fun _ _ _ _ _ _ z => nomatch z⟩
      unfold Wakes
      dsimp only
      rw [h2]
      exact ⟨e1, rfl⟩
  · rename_i k l1 c p1 fs cl hg
    obtain ⟨e₁, s₁, hr, hq, e1, rfl⟩ := h
    by_cases hk : g' = g
    · subst hk
      obtain ⟨k', l', c', p', fs', cl', _, e2⟩ := lull_nap l.nap
      rw [l.here, e2] at hg
      injection hg with hg
      injection hg with e3
      rw [← e3] at hr
      exact (no_run hr).elim
    obtain ⟨y, ey, q⟩ := l.get hg
    rcases q with q | q
    · subst q
      rcases l.fine _ _ hg _ _ _ _ _ _ rfl with z | z
      · rw [z] at hr
        exact (no_run hr).elim
      obtain ⟨G3, a, b, c2⟩ := runs_lull hr (G2.setIfInBounds g' .running) z (l.set hk fun _ _ _ _ _ _ z => nomatch z)
      refine ⟨G3.setIfInBounds g' e₁.genState, ?_, b.set hk c2.fine⟩
      unfold Wakes
      dsimp only
      rw [ey]
      exact ⟨e₁, _, a, hq, e1, rfl⟩
    · cases y with
      | suspended k' l' c' p' fs' cl' =>
        have q : GenState.suspended k l1 c p1 fs cl = .suspended kNo l' c' p' fs' cl' := q
        injection q with e3
        rw [e3] at hr
        exact (no_run hr).elim
      | fresh c => exact nomatch q
      | running => exact nomatch q
      | finished => exact nomatch q
  · rename_i hg
    obtain ⟨e1, rfl⟩ := h
    obtain ⟨y, ey, q⟩ := l.get hg
    have ey : G2[g']? = some .running := by
      rcases q with q | q
      · rw [q]; exact ey
      · cases y with
        | running => exact ey
        | suspended k l c p fs cl => exact nomatch q
        | fresh c => exact nomatch q
        | finished => exact nomatch q
    refine ⟨G2, ?_, l⟩
    unfold Wakes
    dsimp only
    rw [ey]
    exact ⟨e1, rfl⟩
  · rename_i hg
    obtain ⟨e1, rfl⟩ := h
    obtain ⟨y, ey, q⟩ := l.get hg
    have ey : G2[g']? = some .finished := by
      rcases q with q | q
      · rw [q]; exact ey
      · cases y with
        | finished => exact ey
        | suspended k l c p fs cl => exact nomatch q
        | fresh c => exact nomatch q
        | running => exact nomatch q
    refine ⟨G2, ?_, l⟩
    unfold Wakes
    dsimp only
    rw [ey]
    exact ⟨e1, rfl⟩
theorem wp_lull {α : Type} {g : Nat} {R : GenState} {Γ : PySem.Ctx} (t : Sem α) : ∀ (Q : α → Pos → Shared → Prop) (E : Value → Pos → Shared → Prop) (p : Pos) (s : Shared) (G2 : Array GenState), Lu g R s.gens G2 → Sem.wp M Γ t Q E p s →
    Sem.wp M Γ t (fun a p' s' => ∃ G, Lu g R G s'.gens ∧ Q a p' { s' with gens := G }) (fun e p' s' => ∃ G, Lu g R G s'.gens ∧ E e p' { s' with gens := G }) p { s with gens := G2 } := by
  induction t with
  | pure a => intro Q E p s G2 l h; exact ⟨s.gens, l, h⟩
  | raise e => intro Q E p s G2 l h; exact ⟨s.gens, l, h⟩
  | unsupported _ => intro Q E p s G2 l h; exact h
  | finish _ => intro Q E p s G2 l h; exact h
  | register _ _ _ => intro Q E p s G2 l h; exact h
  | fork _ _ _ => intro Q E p s G2 l h; exact h
  | await _ _ _ _ _ _ => intro Q E p s G2 l h; exact h
  | yield _ _ _ _ _ => intro Q E p s G2 l h; exact h
  | rule _ k ih => intro Q E p s G2 l h; exact ih () Q E p s G2 l h
  | «at» p' k ih => intro Q E p s G2 l h; exact ih () Q E p' s G2 l h
  | load a _ k ih => intro Q E p s G2 l h; obtain ⟨o, ho, h⟩ := h; exact ⟨o, ho, ih o Q E p s G2 l h⟩
  | update a _ f k ih => intro Q E p s G2 l h; exact ⟨h.1, ih () Q E p { s with heap := s.heap.update a f } G2 l h.2⟩
  | loadIfAlive a k ih => intro Q E p s G2 l h; exact ih _ Q E p s G2 l h
  | point _ k ih => intro Q E p s G2 l h; exact ih () Q E p s G2 l h
  | alloc o k ih => intro Q E p s G2 l h; exact ih _ Q E p { s with heap := s.heap.push o } G2 l h
  | fresh k ih => intro Q E p s G2 l h; exact ih _ Q E p { s with toks := s.toks + 1 } G2 l h
  | ask k ih => intro Q E p s G2 l h; exact ih _ Q E p s G2 l h
  | choose src m k ih => intro Q E p s G2 l h; exact ⟨h.1, ih _ Q E p { s with drawn := s.drawn.bump src } G2 l h.2⟩
  | os q _ k ih => intro Q E p s G2 l h; exact ih _ Q E p { s with os := (Os.step s.os q).1 } G2 l h
  | call c hd _ _ k ih =>
    intro Q E p s G2 l h
    obtain ⟨r, s', hr, h⟩ := h
    obtain ⟨G3, a, b, _⟩ := runs_lull hr G2 rfl l
    exact ⟨r, _, a, ih r Q E p s' G3 b h⟩
  | handled own k ih => intro Q E p s G2 l h; exact ih _ Q E p s G2 l h
  | genState g' k ih =>
    intro Q E p s G2 l h
    obtain ⟨st, hs, h⟩ := h
    obtain ⟨y, ey, q⟩ := l.get hs
    refine ⟨y, ey, ih _ Q E p s G2 l ?_⟩
    rcases q with q | q
    · rw [← q]; exact h
    · rw [q, lull_seen] at h; exact h
  | newGen c k ih =>
    intro Q E p s G2 l h
    have h2 := ih _ Q E p { s with gens := s.gens.push (.fresh c) } (G2.push (.fresh c)) (l.push c) h
    rw [← l.sz] at h2
    exact h2
  | resume g' r _ k ih =>
    intro Q E p s G2 l h
    obtain ⟨res, s', hw, h⟩ := h
    obtain ⟨G3, a, b⟩ := wakes_lull hw l
    exact ⟨res, _, a, ih res Q E p s' G3 b h⟩
  | stack k ih => intro Q E p s G2 l h; exact ih _ Q E p s G2 l h
  | thread k ih => intro Q E p s G2 l h; exact ih _ Q E p s G2 l h
theorem wpAny_lull {α : Type} {A : Around} {t : Sem α} {Q : α → Shared → Prop} {E : Value → Shared → Prop} {s : Shared} {g : Nat} {R : GenState} (hg : s.gens[g]? = some R) (hn : Nap R) (h : wpAny M A t Q E { s with gens := s.gens.map lull }) :
    wpAny M A t (fun a s' => s'.gens[g]? = some R ∧ ∃ G, (AllBare G → AllBare s'.gens) ∧ Q a { s' with gens := G }) (fun e s' => ∃ G, (AllBare G → AllBare s'.gens) ∧ E e { s' with gens := G }) s := fun Γ p hΓ => by
  have q := wp_lull t _ _ p { s with gens := s.gens.map lull } s.gens (Lu.start hg hn) (h Γ p hΓ)
  refine Sem.wp_mono M Γ t (fun a p' s' hq => ?_) (fun e p' s' hq => ?_) _ _ q
  · obtain ⟨G, l, q⟩ := hq
    exact ⟨l.real, G, l.allBare, q⟩
  · obtain ⟨G, l, q⟩ := hq
    exact ⟨G, l.allBare, q⟩
end
end Mu

namespace Mu
open PySem PySem.Spec PyProof.Rows L2 He Evl StX GenW
def gone : Obj := { cls := .none, data := .freed }
def cut (L : Nat) (h : Heap) : Heap := { h with objs := Array.ofFn (n := L) fun i => (h.objs[i.val]?).getD gone }
theorem cut_at {L b : Nat} {h : Heap} : (cut L h).objs[b]? = if b < L then some ((h.objs[b]?).getD gone) else none := by
  unfold cut
  dsimp only
  rw [Array.getElem?_ofFn]
  split <;> rfl
theorem cut_get {L b : Nat} {h : Heap} (hb : b < L) : (cut L h).get? b = h.get? b := by
  unfold Heap.get?
  rw [cut_at, if_pos hb]
  cases q : h.objs[b]? with
  | none => rfl
  | some o => rfl
theorem cut_of {L b : Nat} {h : Heap} {o : Obj} (e : (cut L h).get? b = some o) : b < L ∧ h.get? b = some o := by
  by_cases hb : b < L
  · exact ⟨hb, (cut_get hb).symm.trans e⟩
  · have q : (cut L h).objs[b]? = none := by rw [cut_at, if_neg hb]
    unfold Heap.get? at e
    rw [q] at e
    cases e
theorem cut_size {L : Nat} {h : Heap} : (cut L h).objs.size = L := by
  unfold cut
  simp
structure Fm where
  P : Program
  w : World
  K : PySem.W.Frag
  mg : Str → Option Value
  base : Heap
  N : List Str
  qual : Str
  scope : Scope
  f : Addr
  cd : Value
  A : Around
  outer : List Env
  pn : List (Addr × Obj)
  L : Addr
  E : List Addr
def Fm.pe (F : Fm) (s : Shared) : List (Addr × Obj) := F.E.map fun b => (b, (s.heap.get? b).getD gone)
theorem Fm.mem_pe {F : Fm} {s : Shared} {b : Addr} (h : b ∈ F.E) : (b, (s.heap.get? b).getD gone) ∈ F.pe s := List.mem_map.mpr ⟨b, h, rfl⟩
theorem Fm.of_pe {F : Fm} {s : Shared} {p : Addr × Obj} (h : p ∈ F.pe s) : p.1 ∈ F.E ∧ p.2 = (s.heap.get? p.1).getD gone := by
  obtain ⟨b, hb, e⟩ := List.mem_map.mp h
  subst e
  exact ⟨hb, rfl⟩
def Fm.env (F : Fm) : Env := envOfC F.qual F.scope F.L F.f F.cd
def Fm.X (F : Fm) (s : Shared) (H : Hp) : Cx where
  prog := F.P
  w := F.w
  K := F.K
  mg := F.mg
  base := F.base
  A := F.A.deeper F.env
  N := F.N
  s_0 := { s with heap := cut F.L s.heap }
  H_0 := H
  env := F.env
  outer := F.outer
  stack := F.env :: F.outer
  ex := []
  fn := fun _ => true
  calm := true
  pn := F.pn ++ F.pe s
  xe := fun _ _ => False
structure Fit (F : Fm) : Prop where
  kind : F.scope.kind = .function
  cells : ∀ n, cellsFrom n F.scope.names [] = []
  plain : ∀ x, F.scope.names.lookup x ≠ some .cell ∧ F.scope.names.lookup x ≠ some .free
  hd : F.A.handled = none
  bsz : F.base.objs.size ≤ F.L
  below : ∀ b ∈ frs F.outer, b < F.L
theorem Fit.nocell {F : Fm} (h : Fit F) : F.env.cells = [] := h.cells _
structure Slp (F : Fm) (ip : List (Addr × Obj)) (σ : L2.St) (h : Heap) : Prop where
  loc : ∃ m, h.Ns F.L m ∧ ∀ (i : Nat) (x : Str) (v : V), F.N[i]? = some x → σ[i]? = some (some v) → Vis F.scope x → ∃ u, RelV v u ∧ m x = some u
  pin : ∀ p ∈ F.pn ++ ip, h.get? p.1 = some p.2 ∧ F.L < p.1 ∧ ∀ v, p.2.data ≠ .cell v
  len : σ.length = F.N.length
theorem Fm.inv {F : Fm} (hF : Fit F) {s : Shared} {H : Hp} {σ : L2.St} {ip : List (Addr × Obj)} (e0 : Env0 F.P F.w F.K F.mg F.base F.A F.outer s H) (hn : H F.L = none) (hp : ∀ p ∈ F.pn ++ ip, H p.1 = none) (hE : ∀ b ∈ F.E, H b = none ∧ F.L < b ∧ ∃ o, s.heap.get? b = some o ∧ ∀ v, o.data ≠ .cell v) (z : Slp F ip σ s.heap) : Inv (F.X s H) ip σ H s := by
  have nc : ∀ x c, F.env.cells.lookup x ≠ some c := fun x c e => by rw [hF.nocell] at e; cases e
  have hfr : ∀ b, b ∈ frs F.outer → ∃ o, s.heap.get? b = some o := fun b hb => by
    obtain ⟨_, o, ho, _⟩ := e0.funs.mem hb
    exact ⟨o, ho⟩
  have fun2 : ∀ l : List Env, (∀ b ∈ frs l, b < F.L) → s.heap.FunFrames F.base l → (cut F.L s.heap).FunFrames F.base l := by
    intro l
    induction l with
    | nil => intro _ _; trivial
    | cons env r ih =>
      intro hb hl
      obtain ⟨hk, ⟨L, o, hf, hn, ho, hd⟩, hr⟩ := hl
      have e : frs (env :: r) = L :: frs r := by unfold frs; rw [List.filterMap_cons, hf]
      rw [e] at hb
      exact ⟨hk, ⟨L, o, hf, hn, (cut_get (hb L List.mem_cons_self)).trans ho, hd⟩, ih (fun b q => hb b (List.mem_cons_of_mem _ q)) hr⟩
  refine ⟨⟨e0.mod, hF.kind, rfl, rfl, ?_, fun x y c h1 _ => absurd h1 (nc x c), fun x hx => ?_, fun x c _ h => absurd h (nc x c), fun _ => hF.hd, Around.frames_deeper e0.frames, .inr ⟨rfl, rfl⟩, fun b q => (nomatch q), fun b o e => ?_, ?_, fun b o e q => (nomatch q), fun b q => (nomatch q), fun2 F.outer hF.below e0.funs, e0.frf⟩,
    rfl, e0.bare, ⟨fun b o e n _ _ => (cut_of e).2, fun b o e n _ _ => ⟨o.slots, (cut_of e).2⟩, fun b o e n _ => n, fun b o e _ => ⟨o, (cut_of e).2⟩, fun _ _ q => q, fun _ _ _ q => q, fun b ps q => ⟨#[], by rw [show H b = some (.tbl ps) from q]; simp⟩⟩, ?_, fun x c e => absurd e (nc x c), hn, fun x c e => absurd e (nc x c), fun p q => ?_, e0.hok, z.len⟩
  · show (cut F.L s.heap).objs.size ≤ F.L
    rw [cut_size]; exact Nat.le_refl _
  · rcases hx with q | q
    · exact absurd q (hF.plain x).1
    · exact absurd q (hF.plain x).2
  · have hl : b < F.L := Nat.lt_of_lt_of_le (Heap.lt_size e) hF.bsz
    exact ⟨(cut_get hl).trans (e0.bs b o e).1, (e0.bs b o e).2⟩
  · show F.base.objs.size ≤ (cut F.L s.heap).objs.size
    rw [cut_size]
    exact hF.bsz
  · obtain ⟨m, hm, hl⟩ := z.loc
    refine ⟨m, hm, fun i x v e1 e2 e3 => ?_⟩
    obtain ⟨u, r, q⟩ := hl i x v e1 e2 e3
    refine ⟨u, r, .inl ⟨?_, q⟩⟩
    rcases e3 with k | k | k
    · exact k
    · exact absurd k (hF.plain x).1
    · exact absurd k (hF.plain x).2
  · have pr : p ∈ F.pn ++ ip → s.heap.get? p.1 = some p.2 ∧ H p.1 = none ∧ p.1 ≠ F.L ∧ p.1 ∉ frs F.outer ∧ ∀ v, p.2.data ≠ .cell v := fun q => by
      obtain ⟨h1, h2, h3⟩ := z.pin p q
      exact ⟨h1, hp p q, Nat.ne_of_gt h2, fun hm => absurd (hF.below _ hm) (Nat.not_lt.mpr (Nat.le_of_lt h2)), h3⟩
    rcases List.mem_append.mp q with q | q
    · rcases List.mem_append.mp q with q | q
      · exact pr (List.mem_append_left _ q)
      · obtain ⟨h1, h2⟩ := Fm.of_pe q
        obtain ⟨h3, h4, o, h5, h6⟩ := hE _ h1
        rw [h5] at h2
        have h2 : p.2 = o := h2
        exact ⟨by rw [h2]; exact h5, h3, Nat.ne_of_gt h4, fun hm => absurd (hF.below _ hm) (Nat.not_lt.mpr (Nat.le_of_lt h4)), by rw [h2]; exact h6⟩
    · exact pr (List.mem_append_right _ q)
theorem Fm.slp {F : Fm} {s₀ s : Shared} {Hr H : Hp} {σ : L2.St} {ip : List (Addr × Obj)} (hF : Fit F) (I : Inv (F.X s₀ Hr) ip σ H s) (hip : ∀ p ∈ F.pn ++ ip, F.L < p.1) : Slp F ip σ s.heap := by
  obtain ⟨m, hm, hl⟩ := I.loc
  refine ⟨⟨m, hm, fun i x v e1 e2 e3 => ?_⟩, fun p q => ?_, I.len⟩
  · obtain ⟨u, r, q⟩ := hl i x v e1 e2 e3
    refine ⟨u, r, ?_⟩
    rcases q with ⟨_, q⟩ | ⟨k, _⟩
    · exact q
    · rcases k with k | k
      · exact absurd k (hF.plain x).1
      · exact absurd k (hF.plain x).2
  · have q2 : p ∈ (F.pn ++ F.pe s₀) ++ ip := (List.mem_append.mp q).elim (fun z => List.mem_append_left _ (List.mem_append_left _ z)) fun z => List.mem_append_right _ z
    obtain ⟨h1, _, _, _, h5⟩ := I.pin p q2
    exact ⟨h1, hip p q, h5⟩
theorem Slp.keep {F : Fm} {ip : List (Addr × Obj)} {σ : L2.St} {h h' : Heap} {oL : Obj} (z : Slp F ip σ h) (e : h.get? F.L = some oL) (e' : h'.get? F.L = some oL) (hp : ∀ p ∈ F.pn ++ ip, h'.get? p.1 = some p.2) : Slp F ip σ h' := by
  obtain ⟨m, ⟨o, es, ep, ho, r⟩, hl⟩ := z.loc
  rw [e] at ho; cases ho
  exact ⟨⟨m, ⟨oL, es, ep, e', r⟩, hl⟩, fun p q => ⟨hp p q, (z.pin p q).2⟩, z.len⟩
structure Bel (X : Cx) (pins : List (Addr × Obj)) (L : Addr) (E T : List Addr) : Prop where
  s0 : ∀ b, L ≤ b → b < X.s_0.heap.objs.size → b ∈ X.ex ∨ b ∈ T
  loc : (X.env.locals < L ∧ E = []) ∨ (L < X.env.locals ∧ E = [X.env.locals])
  cell : ∀ x c, X.env.cells.lookup x = some c → c < L
  pin : ∀ p ∈ X.pn ++ pins, p.1 < L
  fs : ∀ b ∈ X.fs, b < L
theorem Bel.of {X : Cx} {pins : List (Addr × Obj)} {σ : L2.St} {H : Hp} {s : Shared} (I : Inv X pins σ H s) : Bel X pins s.heap.objs.size [] [] where
  s0 := fun b h1 h2 => absurd (Nat.lt_of_lt_of_le h2 I.sz) (Nat.not_lt.mpr h1)
  loc := .inl ⟨I.lt, rfl⟩
  cell := fun x c e => (I.cell x c e).choose_spec.lt
  pin := fun p q => Heap.lt_size (I.pin p q).1
  fs := fun b hb => by
    obtain ⟨_, o, ho, _⟩ := I.ok.funs.mem hb
    exact Nat.lt_of_lt_of_le (Heap.lt_size ho) I.sz
theorem Bel.own {X : Cx} {pins : List (Addr × Obj)} {L : Addr} {E T : List Addr} (b : Bel X pins L E T) {σ : L2.St} {H : Hp} {s : Shared} (I : Inv X pins σ H s) : ∀ x ∈ E, H x = none ∧ L < x ∧ ∃ o, s.heap.get? x = some o ∧ ∀ v, o.data ≠ .cell v := fun x hx => by
  rcases b.loc with ⟨_, e⟩ | ⟨h, e⟩
  · rw [e] at hx; exact nomatch hx
  · rw [e] at hx
    rw [List.mem_singleton.mp hx]
    obtain ⟨m, ⟨o, es, ep, ho, hd, _⟩, _⟩ := I.loc
    exact ⟨I.free, h, o, ho, fun v q => by rw [hd] at q; cases q⟩
theorem Bel.ne {X : Cx} {pins : List (Addr × Obj)} {L : Addr} {E T : List Addr} (b : Bel X pins L E T) {x : Addr} (h : L ≤ x) (hx : x ∉ E) : x ≠ X.env.locals := fun e => by
  rcases b.loc with ⟨q, _⟩ | ⟨_, q⟩
  · rw [e] at h; exact absurd q (Nat.not_lt.mpr h)
  · exact hx (by rw [q, e]; exact List.mem_singleton.mpr rfl)
theorem Inv.gens {X : Cx} {pins : List (Addr × Obj)} {σ : L2.St} {H : Hp} {s : Shared} (I : Inv X pins σ H s) {G : Array GenState} (hG : AllBare G) : Inv X pins σ H { s with gens := G } :=
  ⟨I.ok, I.os, hG, I.base, I.loc, I.cell, I.free, I.freeC, I.pin, I.hok, I.len⟩
structure Of (F : Fm) (X : Cx) : Prop where
  P : F.P = X.prog
  w : F.w = X.w
  K : F.K = X.K
  mg : F.mg = X.mg
  base : F.base = X.base
  outer : F.outer = X.stack
theorem Inv.slept {X : Cx} {F : Fm} {pins ip : List (Addr × Obj)} {T : List Addr} {τ σ : L2.St} {Hr H : Hp} {s₀ s : Shared} (hO : Of F X) (hb : Bel X pins F.L F.E T) (Ic : Inv X pins τ Hr s₀) (hT : ∀ b ∈ T, (∃ u, Hr b = some u) ∧ ∃ xs, H b = some (.lst xs)) (I : Inv (F.X s₀ Hr) ip σ H s) : Inv X pins τ H s := by
  have hpE : ∀ b ∈ F.E, ∃ o, s₀.heap.get? b = some o ∧ s.heap.get? b = some o ∧ H b = none := fun b hb2 => by
    obtain ⟨_, _, o, ho, _⟩ := hb.own Ic b hb2
    have q := I.pin _ (List.mem_append_left _ (List.mem_append_right _ (Fm.mem_pe (s := s₀) hb2)))
    rw [ho] at q
    exact ⟨o, ho, q.1, q.2.1⟩
  have hU0 := I.base
  have hos : s.os = s₀.os := I.os
  have hok := I.hok
  have hbare := I.bare
  obtain ⟨P, w, K, mg, base, N, qual, scope, f, cd, A, outer, pn, L, E⟩ := F
  obtain ⟨rfl, rfl, rfl, rfl, rfl, rfl⟩ := hO
  obtain ⟨hh, g, d, t, o⟩ := s
  have ho : o = s₀.os := hos
  subst ho
  have hU : Un (frs X.stack) [] Hr H (cut L s₀.heap) hh := hU0
  have hok : HOk X.prog X.w H hh := hok
  have nx : ∀ b : Addr, b ∉ ([] : List Addr) := fun b q => nomatch q
  have any : ∀ b o, b < L → s₀.heap.get? b = some o → Hr b = none → ∃ sl, hh.get? b = some { o with slots := sl } := fun b o hl e n => hU.any ((cut_get hl).trans e) n (nx b)
  have hlt : ∀ b, b ∉ (List.range s₀.heap.objs.size).filter (fun b => decide (L ≤ b ∧ b ∉ E ∧ b ∉ T)) → b < s₀.heap.objs.size → b < L ∨ b ∈ E ∨ b ∈ T := fun b hc hs => by
    by_cases h1 : b < L
    · exact .inl h1
    by_cases h2 : b ∈ E
    · exact .inr (.inl h2)
    by_cases h3 : b ∈ T
    · exact .inr (.inr h3)
    exact absurd (List.mem_filter.mpr ⟨List.mem_range.mpr hs, decide_eq_true ⟨Nat.not_lt.mp h1, h2, h3⟩⟩) hc
  refine Ic.step (ch := (List.range s₀.heap.objs.size).filter (fun b => decide (L ≤ b ∧ b ∉ E ∧ b ∉ T))) (fun b hm => ?_) (fun b o hLb hfs hc e n => ?_) (fun b o _ hfs hc e n => any b o (hb.fs b hfs) e n) (fun b o hc e n => ?_) (fun b o hc e => ?_) hU.tups hU.frzs hU.tbls (fun m' hm => ?_) hok hbare
  · obtain ⟨q1, q2, q3⟩ := of_decide_eq_true (List.mem_filter.mp hm).2
    refine ⟨?_, hb.ne q1 q2, fun x c e => Nat.ne_of_lt (Nat.lt_of_lt_of_le (hb.cell x c e) q1), fun p hp => Nat.ne_of_lt (Nat.lt_of_lt_of_le (hb.pin p hp) q1)⟩
    by_cases h : b < X.s_0.heap.objs.size
    · rcases hb.s0 b q1 h with z | z
      · exact .inl z
      · exact absurd z q3
    · exact .inr (Nat.not_lt.mp h)
  · rcases hlt b hc (Heap.lt_size e) with hl | hl | hl
    · refine hU.keep b o ((cut_get hl).trans e) n (fun q => ?_) (nx b)
      rcases List.mem_cons.mp (Ic.stkSub b q) with z | z
      · exact hLb z
      · exact hfs z
    · obtain ⟨o', h1, h2, _⟩ := hpE b hl
      rw [e] at h1; cases h1
      exact h2
    · obtain ⟨⟨u, h1⟩, _⟩ := hT b hl
      rw [n] at h1; cases h1
  · rcases hlt b hc (Heap.lt_size e) with hl | hl | hl
    · exact hU.free b o ((cut_get hl).trans e) n (nx b)
    · obtain ⟨_, _, _, h3⟩ := hpE b hl
      exact h3
    · obtain ⟨⟨u, h1⟩, _⟩ := hT b hl
      rw [n] at h1; cases h1
  · rcases hlt b hc (Heap.lt_size e) with hl | hl | hl
    · exact hU.there b o ((cut_get hl).trans e) (nx b)
    · obtain ⟨o', _, h2, _⟩ := hpE b hl
      exact ⟨o', h2⟩
    · obtain ⟨_, xs, h2⟩ := hT b hl
      obtain ⟨_, its, n, _, h3⟩ := hok b _ h2
      exact ⟨_, h3⟩
  · obtain ⟨o', es, ep, eL, r⟩ := hm
    rcases hb.loc with ⟨hl, _⟩ | ⟨_, he⟩
    · obtain ⟨sl, h1⟩ := any _ o' hl eL Ic.free
      exact ⟨_, es, ep, h1, r⟩
    · obtain ⟨o2, h1, h2, _⟩ := hpE X.env.locals (by show X.env.locals ∈ E; rw [show E = [X.env.locals] from he]; exact List.mem_singleton.mpr rfl)
      rw [eL] at h1; cases h1
      exact ⟨_, es, ep, h2, r⟩
theorem Inv.slept2 {X : Cx} {F : Fm} {pins ip : List (Addr × Obj)} {T : List Addr} {τ σ : L2.St} {H : Hp} {s : Shared} {oL : Obj} (hb : Bel X pins F.L F.E T) (Ic : Inv X pins τ H s) (z : Slp F ip σ s.heap) (hL : s.heap.get? F.L = some oL) (hn : H F.L = none) (hp : ∀ p ∈ F.pn ++ ip, H p.1 = none ∧ p.1 ∉ F.E) : Inv X (pins ++ (F.L, oL) :: (F.pn ++ ip)) τ H s :=
  Ic.pins_of fun p q => by
    rcases List.mem_append.mp q with q | q
    · exact Ic.pin p (List.mem_append_right _ q)
    · have big : F.L ≤ p.1 → p.1 ∉ X.fs := fun h hm => absurd (hb.fs _ hm) (Nat.not_lt.mpr h)
      rcases List.mem_cons.mp q with q | q
      · subst q
        obtain ⟨m, ⟨o, es, ep, ho, hd, _⟩, _⟩ := z.loc
        rw [hL] at ho; cases ho
        refine ⟨hL, hn, hb.ne (Nat.le_refl _) (fun h => ?_), big (Nat.le_refl _), fun v y => by rw [hd] at y; cases y⟩
        exact absurd (hb.own Ic _ h).2.1 (Nat.lt_irrefl _)
      · obtain ⟨h1, h2, h3⟩ := z.pin p q
        exact ⟨h1, (hp p q).1, hb.ne (Nat.le_of_lt h2) (hp p q).2, big (Nat.le_of_lt h2), h3⟩
end Mu

namespace Mu
open PySem PySem.Spec PyProof.Rows L2 He Evl StX GenW
structure Gh where
  ys : List V
  τ : L2.St
  Hr : Hp
abbrev YL := Gh → V → Hp → (L2.St → Hp → Prop) → Prop
abbrev QL := Gh → Hp → Prop
structure G2E where
  nx : Gh → L2.St → Hp → Prop
  rt : Gh → VK
  bk : Gh → L2.St → Hp → Prop := fun _ _ _ => False
  ct : Gh → L2.St → Hp → Prop := fun _ _ _ => False
abbrev TG2 := YL → G2E → Gh → L2.St → Hp → Prop
abbrev GJ := Gh → Shared → Prop
def Y2 (F : Fm) (J : GJ) (yl : YL) : Protocol := fun n s₀ v s kap =>
  ∃ γ x ip σ H C, n + 1 + γ.ys.length = sizeLine ∧ J γ s₀ ∧ RelV x v ∧ Inv (F.X s₀ γ.Hr) ip σ H s ∧ (∀ p ∈ F.pn ++ ip, F.L < p.1 ∧ p.1 ∉ F.E) ∧ yl γ x H C ∧
    ∀ s' τ' H', C τ' H' → J ⟨γ.ys ++ [x], τ', H'⟩ s' → Inv (F.X s' H') ip σ H' s' → kap (.send .none) s'
def R2 (F : Fm) (J : GJ) (Q : QL) : GenEnd := fun n s₀ r s => match r with
  | .ok (.ret u) => ∃ γ ip σ H, J γ s₀ ∧ Inv (F.X s₀ γ.Hr) ip σ H s ∧ u = .none ∧ Q γ H
  | _ => False
def SP2 (F : Fm) (ip : List (Addr × Obj)) (D : G2E) (γ : Gh) (s₀ : Shared) (f : Flow) (s : Shared) : Prop :=
  match f with
  | .next => ∃ σ H, Inv (F.X s₀ γ.Hr) ip σ H s ∧ D.nx γ σ H
  | .brk => ∃ σ H, Inv (F.X s₀ γ.Hr) ip σ H s ∧ D.bk γ σ H
  | .cont => ∃ σ H, Inv (F.X s₀ γ.Hr) ip σ H s ∧ D.ct γ σ H
  | .ret u => ∃ v σ H, Inv (F.X s₀ γ.Hr) ip σ H s ∧ RelV v u ∧ D.rt γ v H
structure C2 (F : Fm) (ip : List (Addr × Obj)) (A : Around) (c : Code) (fs : List Frame) (gd : Bool → Bool) : Prop where
  ip : ∀ p ∈ F.pn ++ ip, F.L < p.1 ∧ p.1 ∉ F.E
  over : A.over c fs = F.A.deeper F.env
  split : splitAtGen fs = none
  guard : fs.any Frame.guarded = false
  gd : gd false = false
abbrev SegG (F : Fm) (J : GJ) (yl : YL) (A : Around) (R : GenEnd) (n : Nat) (s₀ : Shared) (c : Code) (t : Sem PySem.Fin) (fs : List Frame) (s : Shared) : Prop := Seg (model F.P F.w) A R (Y2 F J yl) n s₀ c t fs s
def K2 (F : Fm) (J : GJ) (yl : YL) (ip : List (Addr × Obj)) (A : Around) (R : GenEnd) (c : Code) (fs : List Frame) (K : Flow → Sem PySem.Fin) (D : G2E) : Prop :=
  ∀ (n : Nat) (γ : Gh) (s₀ s : Shared) (f : Flow), n + γ.ys.length = sizeLine → J γ s₀ → SP2 F ip D γ s₀ f s → SegG F J yl A R n s₀ c (K f) fs s
structure G2 (F : Fm) (st : Stmt) (t : TG2) : Prop where
  run : ∀ (J : GJ) (yl : YL) (A : Around) (ip : List (Addr × Obj)) (R : GenEnd) (n : Nat) (γ : Gh) (s₀ : Shared) (c : Code) (fs : List Frame) (K : Flow → Sem PySem.Fin) (Jx : Value → Sem PySem.Fin) (gd : Bool → Bool) (lv : List Value → List Value) (s : Shared) (σ : L2.St) (H : Hp) (D : G2E),
    C2 F ip A c fs gd → n + γ.ys.length = sizeLine → K2 F J yl ip A R c fs K D → J γ s₀ → Inv (F.X s₀ γ.Hr) ip σ H s → t yl D γ σ H → SegG F J yl A R n s₀ c ((exec st F.env).wrap K Jx gd lv) fs s
structure G2s (F : Fm) (st : List Stmt) (t : TG2) : Prop where
  run : ∀ (J : GJ) (yl : YL) (A : Around) (ip : List (Addr × Obj)) (R : GenEnd) (n : Nat) (γ : Gh) (s₀ : Shared) (c : Code) (fs : List Frame) (K : Flow → Sem PySem.Fin) (Jx : Value → Sem PySem.Fin) (gd : Bool → Bool) (lv : List Value → List Value) (s : Shared) (σ : L2.St) (H : Hp) (D : G2E),
    C2 F ip A c fs gd → n + γ.ys.length = sizeLine → K2 F J yl ip A R c fs K D → J γ s₀ → Inv (F.X s₀ γ.Hr) ip σ H s → t yl D γ σ H → SegG F J yl A R n s₀ c ((execs st F.env).wrap K Jx gd lv) fs s
def G2E.at_ (D : G2E) (γ : Gh) : Ends := { nx := D.nx γ, rt := D.rt γ, bk := D.bk γ, ct := D.ct γ }
def tP2 (t : TS) : TG2 := fun _ D γ σ H => t (D.at_ γ) σ H
def t02 : TG2 := fun _ D γ σ H => D.nx γ σ H
def tThen2 (t u : TG2) : TG2 := fun yl D γ σ H => t yl { D with nx := fun γ' σ' H' => u yl D γ' σ' H' } γ σ H
def tIf2 (c : TT) (t u : TG2) : TG2 := fun yl D γ σ H => c σ H fun b H1 => if b = true then t yl D γ σ H1 else u yl D γ σ H1
def tY2 (te : TE) : TG2 := fun yl D γ σ H => γ.ys.length < sizeLine ∧ te σ H fun x H1 => yl γ x H1 fun τ' H2 => D.nx ⟨γ.ys ++ [x], τ', H2⟩ σ H2
def tWh2 (c : TT) (tb : TG2) : TG2 := fun yl D γ σ H => ∃ W : Nat → Gh → L2.St → Hp → Prop, (∃ m, W m γ σ H) ∧ ∀ m γ σ H, W m γ σ H →
  c σ H fun b H1 => if b = true then ∃ N : Gh → L2.St → Hp → Prop, (∀ γ' σ' H', N γ' σ' H' → ∃ m', m' < m ∧ W m' γ' σ' H') ∧ tb yl { D with nx := N, ct := N, bk := D.nx } γ σ H1 else D.nx γ σ H1
section
variable {F : Fm} {st : Stmt} {rest body : List Stmt} {test e : Expr} {pos yp : Pos} {ts : TS} {tc : TT} {te : TE} {t u : TG2} {a b : List Stmt}
theorem sp2_of {ip : List (Addr × Obj)} {D : G2E} {γ : Gh} {s₀ s : Shared} {f : Flow} (h : SP (F.X s₀ γ.Hr) ip (D.at_ γ) f s) : SP2 F ip D γ s₀ f s := by
  cases f with
  | next => exact h
  | brk => exact h
  | cont => exact h
  | ret u => obtain ⟨v, σ, H, I, r, q⟩ := h; exact ⟨v, σ, H, I, r, q⟩
theorem g2_ps (h : ∀ s H, PS (F.X s H) st ts) : G2 F st (tP2 ts) := by
  refine ⟨fun J yl A ip R n γ s₀ c fs K Jx gd lv s σ H D g hn k hJ I ht => seg_wrap ?_⟩
  rw [g.over]
  exact wpAny_mono ((h s₀ γ.Hr).run ip s σ H (D.at_ γ) I ht) (fun f s' hs => k n γ s₀ s' f hn hJ (sp2_of hs)) fun _ _ z => z.elim
theorem g2s_nil : G2s F [] t02 := ⟨fun J yl A ip R n γ s₀ c fs K Jx gd lv s σ H D g hn k hJ I ht => seg_execs_nil (k n γ s₀ s .next hn hJ ⟨σ, H, I, ht⟩)⟩
theorem g2s_cons (a : G2 F st t) (b : G2s F rest u) : G2s F (st :: rest) (tThen2 t u) := by
  refine ⟨fun J yl A ip R n γ s₀ c fs K Jx gd lv s σ H D g hn k hJ I ht => seg_execs_cons ?_⟩
  refine a.run J yl A ip R n γ s₀ c fs _ Jx gd lv s σ H { D with nx := fun γ' σ' H' => u yl D γ' σ' H' } g hn (fun n' γ' s₀' s' f hn' hJ' hs => ?_) hJ I ht
  cases f with
  | next =>
    obtain ⟨σ', H', I', q⟩ := hs
    exact b.run J yl A ip R n' γ' s₀' c fs K Jx gd lv s' σ' H' D g hn' k hJ' I' q
  | brk => exact k n' γ' s₀' s' .brk hn' hJ' hs
  | cont => exact k n' γ' s₀' s' .cont hn' hJ' hs
  | ret u => exact k n' γ' s₀' s' (.ret u) hn' hJ' hs
theorem g2_if (hc : ∀ s H, PT (F.X s H) test tc) (ha : G2s F a t) (hb : G2s F b u) : G2 F (.If test a b pos) (tIf2 tc t u) := by
  refine ⟨fun J yl A ip R n γ s₀ c fs K Jx gd lv s σ H D g hn k hJ I ht => ?_⟩
  rw [exec_If]
  refine seg_bind_wrap (wpAny_standAt ?_)
  refine seg_bind_wrap ?_
  rw [g.over]
  refine wpAny_mono ((hc s₀ γ.Hr).run ip s σ H _ I ht) (fun d s1 hd => ?_) fun _ _ z => z.elim
  obtain ⟨H1, I1, q1⟩ := hd
  cases d with
  | true => exact ha.run J yl A ip R n γ s₀ c fs K Jx gd lv s1 σ H1 D g hn k hJ I1 q1
  | false => exact hb.run J yl A ip R n γ s₀ c fs K Jx gd lv s1 σ H1 D g hn k hJ I1 q1
theorem g2_yield (he : ∀ s H, PE (F.X s H) e te) (hco : F.env.scope.isCoroutine = false := by rfl) (hi : interactive F.env = false := by rfl) : G2 F (.Expr (.Yield (some e) yp) pos) (tY2 te) := by
  refine ⟨fun J yl A ip R n γ s₀ c fs K Jx gd lv s σ H D g hn k hJ I ht => ?_⟩
  obtain ⟨hlt, ht⟩ := ht
  obtain ⟨n, rfl⟩ : ∃ m, n = m + 1 := ⟨n - 1, by omega⟩
  refine seg_Expr_Yield g.split g.gd g.guard ?_ hco hi
  rw [g.over]
  refine wpAny_mono ((he s₀ γ.Hr).run ip s σ H _ I ht) (fun v s' hv => ?_) fun _ _ z => z.elim
  obtain ⟨x, H1, I1, rv, q⟩ := hv
  intro kap hk
  refine ⟨γ, x, ip, σ, H1, _, hn, hJ, rv, I1, g.ip, q, fun s2 τ' H' hC hJ' I' => hk .none s2 ?_⟩
  refine k n ⟨γ.ys ++ [x], τ', H'⟩ s2 s2 .next ?_ hJ' ⟨σ, H', I', hC⟩
  show n + (γ.ys ++ [x]).length = _
  rw [List.length_append, List.length_singleton]; omega
theorem c2_loop {ip : List (Addr × Obj)} {A : Around} {c c' : Code} {fs : List Frame} {gd : Bool → Bool} {k : Result → Sem PySem.Fin} {l kp : List Value} {p : Pos} (g : C2 F ip A c fs gd) (hw : c'.weight = 0) (hu : c'.cUnits = 0) : C2 F ip A c' (.ret k none (gd false) l c p kp :: fs) id where
  ip := g.ip
  over := (over_loop hw hu).trans g.over
  split := by
    show (splitAtGen fs).map _ = none
    rw [g.split]; rfl
  guard := by
    show (gd false || fs.any Frame.guarded) = false
    rw [g.gd, g.guard]; rfl
  gd := rfl
theorem g2_while {tb : TG2} (hc : ∀ s H, PT (F.X s H) test tc) (hb : G2s F body tb) : G2 F (.While test body [] pos) (tWh2 tc tb) := by
  refine ⟨fun J yl A ip R n γ s₀ c fs K Jx gd lv s σ H D g hn k hJ I ht => ?_⟩
  obtain ⟨W, ⟨m0, w0⟩, turn⟩ := ht
  refine seg_While fun p => ?_
  have gl := fun (kk : Result → Sem PySem.Fin) => c2_loop (k := kk) (c' := .whileLoop test body [] F.env) (l := lv []) (kp := []) (p := p) g rfl rfl
  have loop : ∀ (m n : Nat) (γ : Gh) (s₀ s : Shared) (σ : L2.St) (H : Hp), n + γ.ys.length = sizeLine → W m γ σ H → J γ s₀ → Inv (F.X s₀ γ.Hr) ip σ H s →
      SegG F J yl A R n s₀ (.whileLoop test body [] F.env) ((model F.P F.w).den (.whileLoop test body [] F.env))
        (.ret (fun r => ((match r with | .ok f => (.pure f : Sem Flow) | .error e => .raise e).onRaise (cameBack F.env)).wrap K Jx gd lv) none (gd false) (lv []) c p [] :: fs) s := by
    intro m
    induction m using Nat.strongRecOn with
    | ind m ih =>
      intro n γ s₀ s σ H hn w hJ I
      refine seg_whileLoop ?_
      rw [(gl _).over]
      refine wpAny_mono ((hc s₀ γ.Hr).run ip s σ H _ I (turn m γ σ H w)) (fun b s' hb' => ?_) fun _ _ z => z.elim
      obtain ⟨H2, I2, q2⟩ := hb'
      cases b with
      | true =>
        obtain ⟨N, hN, q2⟩ := q2
        rw [if_pos rfl]
        refine hb.run J yl A ip R n γ s₀ _ _ _ _ id id s' σ H2 { D with nx := N, ct := N, bk := D.nx } (gl _) hn (fun n' γ' s₀' s3 f hn' hJ' hs => ?_) hJ I2 q2
        cases f with
        | next =>
          obtain ⟨σ3, H3, I3, n3⟩ := hs
          obtain ⟨m', hm, w3⟩ := hN γ' σ3 H3 n3
          exact seg_again rfl (ih m' hm n' γ' s₀' s3 σ3 H3 hn' w3 hJ' I3)
        | cont =>
          obtain ⟨σ3, H3, I3, n3⟩ := hs
          obtain ⟨m', hm, w3⟩ := hN γ' σ3 H3 n3
          exact seg_again rfl (ih m' hm n' γ' s₀' s3 σ3 H3 hn' w3 hJ' I3)
        | brk => exact seg_leaf (.ok .next) (k n' γ' s₀' s3 .next hn' hJ' hs)
        | ret v => exact seg_leaf (.ok (.ret v)) (k n' γ' s₀' s3 (.ret v) hn' hJ' hs)
      | false =>
        rw [if_neg Bool.false_ne_true]
        refine seg_execs_nil ?_
        exact seg_leaf (.ok .next) (k n γ s₀ s' .next hn hJ ⟨σ, H2, I2, q2⟩)
  exact loop m0 n γ s₀ s σ H hn w0 hJ I
end
section
variable {M : Model} {A : Around} {R : GenEnd} {Y : Protocol} {n : Nat} {s₀ s : Shared} {c : Code} {fs : List Frame} {env : Env} {K : Flow → Sem PySem.Fin} {Jx : Value → Sem PySem.Fin} {gd : Bool → Bool} {lv : List Value → List Value}
end
section
variable {prog : Program} {w : World} {A : Around} {R : GenEnd} {Y : Protocol} {n : Nat} {s₀ s : Shared} {c : Code} {fs : List Frame} {env : Env}
end
section
variable {F : Fm} {body : List Stmt} {pos : Pos}
end
end Mu

namespace Mu
open PySem PySem.Spec PyProof.Rows L2 He Evl StX GenW
section
variable {M : Model} {A : Around} {R : GenEnd} {Y : Protocol} {n g : Nat} {E : Value → Shared → Prop} {s : Shared} {gs : GenState}
abbrev Onward (M : Model) (A : Around) (R : GenEnd) (Y : Protocol) (n : Nat) (gs : GenState) : Resume → Shared → Prop := fun r s => match n with
  | 0 => False
  | m + 1 => gs.Goes M A R Y m r s
theorem resume_nap {r : Resume} {l : List Value} {α : Type} {k : GenResult → Sem α} {Q : α → Shared → Prop} (hg : s.gens[g]? = some gs) (hgo : gs.Goes M A R Y n r (s.setGen g .running))
    (hR : ∀ x s₁, R n (s.setGen g .running) x s₁ → wpAny M A (k (End.ret x).result) Q E (s₁.setGen g .finished))
    (hY : ∀ v s₁ gs', gs'.bare = true → Nap gs' → Y (n - 1) (s.setGen g .running) v s₁ (Onward M A R Y n gs') → wpAny M A (k (.yielded v)) Q E (s₁.setGen g gs')) : wpAny M A (.resume g r l k) Q E s := by
  intro Γ p hΓ
  rw [Sem.wp_resume]
  have turn : ∀ c t fs p1, Seg M A R Y n (s.setGen g .running) c t fs (s.setGen g .running) → ∃ e₁ s₁, Runs M (Γ.wake c p) p1 t fs (s.setGen g .running) e₁ s₁ ∧ e₁.quiet = true ∧ Sem.wp M Γ (k e₁.result) (fun a _ s' => Q a s') (fun e _ s' => E e s') p (s₁.setGen g e₁.genState) := fun c t fs p1 hs => by
    obtain ⟨e₁, s₁, hr, he⟩ := seg_iff.mp hs (Γ.wake c p) p1 rfl (hΓ.wake c p)
    refine ⟨e₁, s₁, hr, ?_⟩
    cases e₁ with
    | ret x => exact ⟨rfl, hR x s₁ he Γ p hΓ⟩
    | susp v g₀ l₀ k₀ c₀ p₀ fs₀ =>
      obtain ⟨hq, hy⟩ := he
      refine ⟨hq, hY v s₁ _ (End.bare_of_quiet hq) trivial ?_ Γ p hΓ⟩
      cases n with
      | zero => exact hy
      | succ m => exact hy
  cases gs with
  | fresh c =>
    obtain ⟨rfl, hs⟩ := hgo
    obtain ⟨e₁, s₁, a1, a2, a3⟩ := turn c _ [] p hs
    refine ⟨e₁.result, s₁.setGen g e₁.genState, ?_, a3⟩
    unfold Wakes
    rw [hg]
    exact ⟨e₁, s₁, a1, a2, rfl, rfl⟩
  | suspended k₀ l₀ c₀ p₀ fs₀ cl =>
    obtain ⟨e₁, s₁, a1, a2, a3⟩ := turn c₀ _ fs₀ p₀ hgo
    refine ⟨e₁.result, s₁.setGen g e₁.genState, ?_, a3⟩
    unfold Wakes
    rw [hg]
    exact ⟨e₁, s₁, a1, a2, rfl, rfl⟩
  | running => exact False.elim hgo
  | finished => exact False.elim hgo
end
section
variable {prog : Program} {w : World} {A : Around} {E : Value → Shared → Prop} {s : Shared} {F : Fm} {J : GJ} {yl : YL} {QL : QL}
theorem next_nap {a : Addr} {g n : Nat} {gs : GenState} {Q : Option Value → Shared → Prop} (hh : A.handled = none) (hl : s.heap.NoLimit) (hroom : A.depth < recursionLimit) (hg : s.heap.IsGen a g) (hgs : s.gens[g]? = some gs)
    (hgo : gs.Goes (model prog w) A.in1 (R2 F J QL) (Y2 F J yl) n (.send .none) (s.setGen g .running))
    (hY : ∀ v s₁ gs', gs'.bare = true → Nap gs' → Y2 F J yl (n - 1) (s.setGen g .running) v s₁ (Onward (model prog w) A.in1 (R2 F J QL) (Y2 F J yl) n gs') → Q (some v) (s₁.setGen g gs'))
    (hP : ∀ s₁, R2 F J QL n (s.setGen g .running) (.ok (.ret .none)) s₁ → ∀ h', (∀ b o, s₁.heap.get? b = some o → h'.get? b = some o) → Q none { s₁.setGen g .finished with heap := h' }) :
    wpAny (model prog w) A (pyNext (.ref a)) Q E s := by
  unfold pyNext
  refine wpAny_bind (wpAny_attempt (wpAny_callSpecial?_slot (name := Str.ofString "__next__") hg.typeIs slot_gen_next (wpAny_call_entry slot_gen_next hg.typeIs entry_gen_next ?_ (args_gen_next _))))
  show wpAny _ A.in1 (Builtin.Generator.genWake (.ref a) (.send .none)) _ _ s
  unfold Builtin.Generator.genWake
  refine wpAny_bind (wpAny_holding (wpAny_genNumber hg (wpAny_bind (wpAny_genState hgs ?_))))
  have stop : ∀ s₁, R2 F J QL n (s.setGen g .running) (.ok (.ret .none)) s₁ → wpAny (model prog w) A.in1 (newExc (.type "StopIteration") []) (fun e s2 => ∃ h', (∀ b o, s₁.heap.get? b = some o → h'.get? b = some o) ∧ s2 = { s₁.setGen g .finished with heap := h' } ∧ s2.TypeIs e "StopIteration" ∧ ∃ x, e = .ref x) (fun _ _ => False) (s₁.setGen g .finished) := fun s₁ hp => by
    simp only [newExc, newTuple]
    refine wpAny_bind (wpAny_newObj_type ?_ (by size_fits))
    refine wpAny_bind (m := firstArgMember _ _) (wpAny_of_eq (a := Value.none) (by first | rfl | (simp only [firstArgMember]; rfl)) ?_)
    refine wpAny_newObj_type ?_ (by size_fits)
    exact ⟨_, fun b o hb => Heap.get?_push_of_some _ (Heap.get?_push_of_some _ hb), rfl, ⟨_, Heap.get?_push_size _ rfl, rfl⟩, _, rfl⟩
  cases gs with
  | running => exact False.elim hgo
  | finished => exact False.elim hgo
  | _ =>
    refine wpAny_bind (wpAny_roomToWake hl hroom ?_)
    show wpAny _ A.in1 (.resume g (.send .none) [] _) _ _ s
    refine resume_nap hgs hgo (fun x s₁ hx => ?_) (fun v s₁ gs' hb hn hv => wpAny_pure ⟨v, rfl, wpAny_pure (hY v s₁ gs' hb hn hv)⟩)
    obtain ⟨u, rfl, rfl⟩ : ∃ u, x = .ok (.ret u) ∧ u = .none := by
      cases x with
      | error e => exact False.elim hx
      | ok f =>
        cases f with
        | ret u => exact ⟨u, rfl, (by obtain ⟨_, _, _, _, _, _, z, _⟩ := hx; exact z)⟩
        | next => exact False.elim hx
        | brk => exact False.elim hx
        | cont => exact False.elim hx
    show wpAny _ A.in1 (newExc (.type "StopIteration") [] >>= _) _ _ _
    refine wpAny_bind (wpAny_mono (stop s₁ hx) (fun e s2 h2 => ?_) fun _ _ z => False.elim z)
    obtain ⟨h', hk, rfl, ht, x, rfl⟩ := h2
    simp only [raiseNew]
    refine wpAny_bind (wpAny_bind (wpAny_handled ?_))
    rw [show A.in1.handled = none from hh]
    refine wpAny_throw ?_
    refine wpAny_bind (wpAny_isInstance (T := "StopIteration") (b := true) ht isSubtype_stop ?_)
    exact wpAny_pure (hP s₁ hx h' hk)
end
end Mu

namespace Mu
open PySem PySem.Spec PyProof.Rows L2 He Evl StX GenW
abbrev SpY := List V → Gh → YL → QL → Prop
structure Made2 (P : Program) (w : World) (K : PySem.W.Frag) (mg : Str → Option Value) (base : Heap) (k : Nat) (outer : List Env) (s : Shared) (pr : Gh → YL → QL → Prop) (s' : Shared) (fm : Around → List Addr → Fm) (a g : Nat) (c : Code) (σ0 : L2.St) : Prop where
  eqs : ∀ A E, (fm A E).P = P ∧ (fm A E).w = w ∧ (fm A E).K = K ∧ (fm A E).mg = mg ∧ (fm A E).base = base ∧ (fm A E).outer = outer ∧ (fm A E).A = A ∧ (fm A E).L = s.heap.objs.size ∧ (fm A E).E = E
  fit : ∀ A E, A.handled = none → Fit (fm A E)
  go : ∀ A E, ∃ go, (a, go) ∈ (fm A E).pn ∧ ∀ h : Heap, h.get? a = some go → h.IsGen a g
  slp : ∀ A E, Slp (fm A E) [] σ0 s'.heap
  new : s'.gens[g]? = some (.fresh c)
  os : s'.os = s.os
  bare : AllBare s'.gens
  keep : ∀ b o, s.heap.get? b = some o → s'.heap.get? b = some o
  run : ∀ A E J yl Q γ s2, (∀ b ∈ E, s'.heap.objs.size ≤ b) → Room k A → γ.ys = [] → J γ s2 → pr γ yl Q → Inv ((fm A E).X s2 γ.Hr) [] σ0 γ.Hr s2 → Seg (model P w) A (R2 (fm A E) J Q) (Y2 (fm A E) J yl) sizeLine s2 c ((model P w).den c) [] s2
structure GnY (P : Program) (w : World) (K : PySem.W.Frag) (mg : Str → Option Value) (base : Heap) (k : Nat) (f : Addr) (fd : FuncData) (ps : List Str) (sp : SpY) : Prop where
  len : ∀ vs γ yl Q, sp vs γ yl Q → vs.length = ps.length
  run : ∀ (A : Around) (outer : List Env) (s : Shared) (H : Hp) (args : Args) (us : List Value) (vs : List V), Room k A → Env0 P w K mg base A outer s H → BindsTo s fd args (ps.zip us) → Vals vs us → vs.length = ps.length →
    codeAny (model P w) A (.call (.ref f) args) (fun r s' => ∃ fm a g c σ0, r = .ok (.ret (.ref a)) ∧ Made2 P w K mg base k outer s (fun γ yl Q => sp vs γ yl Q) s' fm a g c σ0) s
theorem cells_nil : ∀ (names : List (Str × NameKind)) (n : Nat) (acc : List (Str × Addr)), (∀ y ∈ names, y.2 ≠ .cell) → cellsFrom n names acc = acc
  | [], _, _, _ => rfl
  | (x, kd) :: r, n, acc, h => by
    have hk : kd ≠ .cell := h (x, kd) List.mem_cons_self
    have e : (kd == NameKind.cell) = false := by cases kd <;> first | rfl | exact absurd rfl hk
    show (if (kd == .cell) = true then _ else cellsFrom n r acc) = acc
    rw [e, if_neg Bool.false_ne_true]
    exact cells_nil r n acc fun y hy => h y (List.mem_cons_of_mem _ hy)
structure YScope (N P : List Str) (sc : Scope) : Prop where
  g : GScope N P sc
  nc : ∀ y ∈ sc.names, y.2 ≠ .cell
theorem YScope.nd {N P : List Str} {sc : Scope} (S : YScope N P sc) : N.Nodup := S.g.nd
theorem YScope.plain {N P : List Str} {sc : Scope} (S : YScope N P sc) (x : Str) : sc.names.lookup x ≠ some .cell ∧ sc.names.lookup x ≠ some .free :=
  ⟨fun e => S.nc _ (PySem.mem_of_lookup e) rfl, fun e => S.g.nofree _ (PySem.mem_of_lookup e) rfl⟩
theorem gy_of {P : Program} {w : World} {K : PySem.W.Frag} {mg : Str → Option Value} {base : Heap} {k : Nat} {f : Addr} {name qual : Str} {params : Arguments} {body : List Stmt} {scope : Scope} {dV kV doc pm cdv ct oc : Value} {an od : Option Addr}
    {osl : Array (Option Value)} {N ps : List Str} {sp : SpY} (lk : K.lookup f = some ⟨oc, od, .func (PySem.W.fnOf name qual params body scope dV kV doc pm an cdv ct), osl⟩) (hcd : PySem.W.codeIn K cdv qual = true) (S : YScope N ps scope)
    (len : ∀ vs γ yl Q, sp vs γ yl Q → vs.length = ps.length)
    (hbody : ∀ (A : Around) (outer : List Env) (pn : List (Addr × Obj)) (L : Addr) (E : List Addr), Room k (A.deeper (envOfC qual scope L f cdv)) →
      Fit ⟨P, w, K, mg, base, N, qual, scope, f, cdv, A, outer, pn, L, E⟩ → ∃ t, G2s ⟨P, w, K, mg, base, N, qual, scope, f, cdv, A, outer, pn, L, E⟩ body t ∧ ∀ vs γ yl Q, γ.ys = [] → sp vs γ yl Q → t yl { nx := fun γ _ H' => Q γ H', rt := fun γ v H' => v = .non ∧ Q γ H' } γ (start N vs) γ.Hr) :
    GnY P w K mg base (k + 1) f (PySem.W.fnOf name qual params body scope dV kV doc pm an cdv ct) ps sp := by
  refine ⟨len, fun A outer s H args us vs hr e0 hb r hl => ?_⟩
  have KX : K.In s.heap := e0.mod.kin.keeps fun b o e => (e0.bs b o e).1
  have lim : s.heap.NoLimit := e0.mod.nolimit.keeps fun b o e => (e0.bs b o e).1
  have hkind : ∀ y ∈ ps.zip us, scope.names.lookup y.1 = some .local ∨ (scope.names.lookup y.1 = some .cell ∧ ((cellsFrom (s.heap.objs.size + 1) scope.names []).lookup y.1).isSome = true) := fun ⟨n, v⟩ hy =>
    .inl ((S.g.par n (List.of_mem_zip hy).1).resolve_right (S.plain n).1)
  refine codeAny_call_generator hr.depth (KX _ _ lk) rfl S.g.co S.g.gen rfl (PySem.W.codeRec_of KX hcd) (hb _ _ _ _ ?_)
  refine wpAny_newFunctionEnv_cells S.g.kind hkind fun env he s1 x => ?_
  subst he
  obtain ⟨h1, tk, es1, hk1⟩ := x.done
  have lt1 : s.heap.objs.size < s1.heap.objs.size := x.toInCall.ns.lt
  have gen1 : s1.gens = s.gens := by rw [es1]
  refine ⟨lim.keeps x.toInCall.keep, ?_⟩
  have I1 := inv_startG (E := XF0) S.g hr.hd e0 hl r x
  obtain ⟨m, hm, hlk⟩ := I1.loc
  have key : ∀ (go : Obj) (nm qn : Value) (tk2 : Nat), go.cls = .type "generator" → go.data = .fields #[.int s1.gens.size 0, nm, qn] → go.slots = #[] → (∀ h : Heap, (h.push go).get? h.objs.size = some go) → ∃ fm a g c σ0, (Except.ok (.ret (.ref s1.heap.objs.size)) : Result) = .ok (.ret (.ref a)) ∧
      Made2 P w K mg base (k + 1) outer s (fun γ yl Q => sp vs γ yl Q) { s1 with gens := s1.gens.push (.fresh (.func body (envOfC qual scope s.heap.objs.size f cdv))), toks := tk2, heap := s1.heap.push go } fm a g c σ0 := by
    intro go nm qn tk2 hgc hgd hgs hgp
    refine ⟨fun Aw E => ⟨P, w, K, mg, base, N, qual, scope, f, cdv, Aw, outer, [(s1.heap.objs.size, go)], s.heap.objs.size, E⟩, s1.heap.objs.size, s1.gens.size, _, start N vs, rfl, fun _ _ => ⟨rfl, rfl, rfl, rfl, rfl, rfl, rfl, rfl, rfl⟩, fun Aw _ hh => ?_, fun _ _ => ⟨go, List.mem_singleton.mpr rfl, fun h e => ⟨go, nm, qn, e, hgc, hgd, hgs⟩⟩, fun _ _ => ?_, Array.getElem?_push_size .., ?_, AllBare.push (by rw [gen1]; exact e0.bare) rfl, fun b o e => Heap.get?_push_of_some _ (x.toInCall.keep b o e), ?_⟩
    · refine ⟨S.g.kind, fun n => cells_nil _ n [] S.nc, S.plain, hh, e0.bsz, fun b hb2 => ?_⟩
      obtain ⟨_, o, ho, _⟩ := e0.funs.mem hb2
      exact Heap.lt_size ho
    · refine ⟨⟨m, hm.push go, fun i y v e1 e2 e3 => ?_⟩, fun p hp => ?_, I1.len⟩
      · obtain ⟨u, ru, q⟩ := hlk i y v e1 e2 e3
        refine ⟨u, ru, ?_⟩
        rcases q with ⟨_, q⟩ | ⟨kk, _⟩
        · exact q
        · rcases kk with kk | kk
          · exact absurd kk (S.plain y).1
          · exact absurd kk (S.plain y).2
      · rw [List.append_nil] at hp
        rw [List.mem_singleton.mp hp]
        exact ⟨hgp _, lt1, fun v q => by rw [hgd] at q; cases q⟩
    · show s1.os = s.os
      rw [es1]
    · intro Aw E J yl Q γ s2 hE hrw hy hJ hpr I2
      have hF : Fit ⟨P, w, K, mg, base, N, qual, scope, f, cdv, Aw, outer, [(s1.heap.objs.size, go)], s.heap.objs.size, E⟩ := by
        refine ⟨S.g.kind, fun n => cells_nil _ n [] S.nc, S.plain, hrw.hd, e0.bsz, fun b hb2 => ?_⟩
        obtain ⟨_, o, ho, _⟩ := e0.funs.mem hb2
        exact Heap.lt_size ho
      obtain ⟨t, ht, hq⟩ := hbody Aw outer [(s1.heap.objs.size, go)] s.heap.objs.size E (hrw.deeper _) hF
      refine seg_func ?_
      refine ht.run J yl Aw [] _ sizeLine γ s2 _ [] _ _ id id s2 (start N vs) γ.Hr _ ⟨fun p hp => ?_, over_func, rfl, rfl, rfl⟩ (by rw [hy]; rfl) (fun n γ' s₀ s' fl hn hJ' hs => ?_) hJ I2 (hq vs γ yl Q hy hpr)
      · rw [List.append_nil] at hp
        rw [List.mem_singleton.mp hp]
        refine ⟨lt1, fun hm => ?_⟩
        have := hE _ hm
        rw [show ({ s1 with gens := s1.gens.push (.fresh (.func body (envOfC qual scope s.heap.objs.size f cdv))), toks := tk2, heap := s1.heap.push go } : Shared).heap.objs.size = s1.heap.objs.size + 1 from Heap.size_push _ _] at this
        exact absurd this (Nat.not_le.mpr (Nat.lt_succ_self _))
      · cases fl with
        | next =>
          obtain ⟨σ', H', I', hQ⟩ := hs
          exact seg_end (.ok (.ret .none)) ⟨γ', [], σ', H', hJ', I', rfl, hQ⟩
        | brk => obtain ⟨_, _, _, q⟩ := hs; exact False.elim q
        | cont => obtain ⟨_, _, _, q⟩ := hs; exact False.elim q
        | ret u =>
          obtain ⟨v, σ', H', I', rv, ev, hQ⟩ := hs
          subst ev
          have eu : u = Value.none := rv
          exact seg_end (.ok (.ret u)) ⟨γ', [], σ', H', hJ', I', eu, hQ⟩
  exact key _ _ _ _ rfl rfl rfl fun h => Heap.get?_push_size _ rfl
abbrev Jc (X : Cx) (pins : List (Addr × Obj)) (T : List Addr) : GJ := fun γ s => Inv X pins γ.τ γ.Hr s ∧ ∀ b ∈ T, ∃ u, γ.Hr b = some u
abbrev priv (F : Fm) (oL : Obj) (ip : List (Addr × Obj)) : List (Addr × Obj) := (F.L, oL) :: (F.pn ++ ip)
section
variable {X : Cx} {F : Fm} {pins : List (Addr × Obj)} {T : List Addr} {a g n : Nat} {A : Around} {yl : YL} {Q : QL}
structure Dozes (X : Cx) (pins : List (Addr × Obj)) (T : List Addr) (F : Fm) (g : Nat) (A : Around) (yl : YL) (Q : QL) (n : Nat) (C : L2.St → Hp → Prop) (oL : Obj) (ip : List (Addr × Obj)) (gs : GenState) : Prop where
  nap : Nap gs
  wake : ∀ s2 τ' H', Inv X (pins ++ priv F oL ip) τ' H' s2 → C τ' H' → (∀ b ∈ T, ∃ u, H' b = some u) → s2.gens[g]? = some gs → Onward (model X.prog X.w) A (R2 F (Jc X pins T) Q) (Y2 F (Jc X pins T) yl) n gs (.send .none) (s2.setGen g .running)
theorem slp_of {s : Shared} {τ : L2.St} {H : Hp} {oL : Obj} {ip : List (Addr × Obj)} (I : Inv X (pins ++ priv F oL ip) τ H s) : s.heap.get? F.L = some oL ∧ H F.L = none ∧ (∀ p ∈ F.pn ++ ip, s.heap.get? p.1 = some p.2 ∧ H p.1 = none) := by
  have h1 := I.pin (F.L, oL) (List.mem_append_right _ (List.mem_append_right _ List.mem_cons_self))
  refine ⟨h1.1, h1.2.1, fun p hp => ?_⟩
  have h2 := I.pin p (List.mem_append_right _ (List.mem_append_right _ (List.mem_cons_of_mem _ hp)))
  exact ⟨h2.1, h2.2.1⟩
theorem wakeInv {s : Shared} {τ σ : L2.St} {H : Hp} {oL : Obj} {h : Heap} {ip : List (Addr × Obj)} (hO : Of F X) (hA : F.A = A) (hfr : A.frames = some X.stack) (hF : Fit F) (hB : Bel X pins F.L F.E T) (I : Inv X (pins ++ priv F oL ip) τ H s) (z : Slp F ip σ h) (hL : h.get? F.L = some oL) : Inv (F.X (s.setGen g .running) H) ip σ H (s.setGen g .running) := by
  obtain ⟨q1, q2, q3⟩ := slp_of I
  have e0 := I.env0
  have own := hB.own (L2.Inv.unpinned I)
  obtain ⟨e1, e2, e3, e4, e5, e6⟩ := hO
  have e0' : Env0 F.P F.w F.K F.mg F.base F.A F.outer (s.setGen g .running) H := by
    rw [e1, e2, e3, e4, e5, e6, hA]
    exact ⟨hfr, e0.mod, e0.bs, e0.bsz, e0.funs, e0.frf, e0.hok, allBare_setGen e0.bare rfl⟩
  exact Fm.inv hF e0' q2 (fun p hp => (q3 p hp).2) own (z.keep hL q1 fun p hp => (q3 p hp).1)
theorem gturn {E : Value → Shared → Prop} {s : Shared} {τ : L2.St} {H : Hp} {oL : Obj} {ip : List (Addr × Obj)} {gs : GenState} (hO : Of F X) (hA : F.A = A.in1) (hfr : A.frames = some X.stack) (hF : Fit F) (hB : Bel X pins F.L F.E T) (hgo : ∃ go, (a, go) ∈ F.pn ∧ ∀ h : Heap, h.get? a = some go → h.IsGen a g)
    (hh : A.handled = none) (hroom : A.depth < recursionLimit) (hyT : ∀ γ x H C, yl γ x H C → ∀ b ∈ T, ∃ xs, H b = some (.lst xs)) (hQT : ∀ γ H, Q γ H → ∀ b ∈ T, ∃ xs, H b = some (.lst xs)) (I : Inv X (pins ++ priv F oL ip) τ H s) (hgs : s.gens[g]? = some gs) (hgoes : gs.Goes (model X.prog X.w) A.in1 (R2 F (Jc X pins T) Q) (Y2 F (Jc X pins T) yl) n (.send .none) (s.setGen g .running)) :
    wpAny (model X.prog X.w) A (pyNext (.ref a)) (fun r s' => match r with
      | none => ∃ γ H', Inv X pins γ.τ H' s' ∧ Q γ H'
      | some u => ∃ γ x H' C oL' ip' gs', RelV x u ∧ yl γ x H' C ∧ Inv X (pins ++ priv F oL' ip') γ.τ H' s' ∧ s'.gens[g]? = some gs' ∧ Dozes X pins T F g A.in1 yl Q n C oL' ip' gs') E s := by
  obtain ⟨go, hmem, hig⟩ := hgo
  have hgl : g < s.gens.size := (Array.getElem?_eq_some_iff.mp hgs).1
  have hIs : s.heap.IsGen a g := hig _ ((slp_of I).2.2 _ (List.mem_append_left _ hmem)).1
  refine wpAny_gsz (n := g + 1) hgl (next_nap hh I.nolimit hroom hIs hgs hgoes (fun v s₁ gs' hb hn hv hsz => ?_) (fun s₁ hp h' hk hsz => ?_))
  · obtain ⟨γ, x, ip', σ, H', C, hcount, hJ, rv, Ig, hip, hyl, hk⟩ := hv
    have hsz1 : g < s₁.gens.size := by
      have q : (s₁.setGen g gs').gens.size = s₁.gens.size := setGen_size _ _ _
      have hsz : g + 1 ≤ (s₁.setGen g gs').gens.size := hsz
      omega
    have z := Fm.slp hF Ig fun p hp => (hip p hp).1
    obtain ⟨m, ⟨oL', es, ep, hL, r⟩, _⟩ := id Ig.loc
    have hL : s₁.heap.get? F.L = some oL' := hL
    have Ic0 := Inv.slept hO hB hJ.1 (fun b hb2 => ⟨hJ.2 b hb2, hyT γ x H' C hyl b hb2⟩) Ig
    have Ic := Inv.slept2 (oL := oL') (ip := ip') hB Ic0 z hL Ig.free fun p hp => ⟨(Ig.pin p ((List.mem_append.mp hp).elim (fun z => List.mem_append_left _ (List.mem_append_left _ z)) fun z => List.mem_append_right _ z)).2.1, (hip p hp).2⟩
    refine ⟨γ, x, H', C, oL', ip', gs', rv, hyl, Inv.gens Ic (allBare_setGen Ic.bare hb), setGen_at hsz1, hn, fun s2 τ' H2 I2 hC hT2 hg2 => hk (s2.setGen g .running) τ' H2 hC ⟨?_, hT2⟩ (wakeInv hO hA hfr hF hB I2 z hL)⟩
    exact L2.Inv.unpinned (Inv.gens I2 (allBare_setGen I2.bare rfl))
  · obtain ⟨γ, ip', σ, H', hJ, Ig, _, hQ⟩ := hp
    have Ic := Inv.slept hO hB hJ.1 (fun b hb2 => ⟨hJ.2 b hb2, hQT γ H' hQ b hb2⟩) Ig
    exact ⟨γ, H', L2.Inv.kept (Inv.gens Ic (allBare_setGen Ic.bare rfl)) (t' := s₁.toks) hk, hQ⟩
end
end Mu

namespace Mu
open PySem PySem.Spec PyProof.Rows L2 He Evl StX GenW
abbrev TGy := L2.St → Hp → ((Gh → YL → QL → Prop) → Hp → Prop) → Prop
def MadeE (X : Cx) (pins : List (Addr × Obj)) (k : Nat) (σ : L2.St) (κ : (Gh → YL → QL → Prop) → Hp → Prop) (u : Value) (s' : Shared) : Prop :=
  ∃ H1 s1 pr fm a g c σ0, Inv X pins σ H1 s1 ∧ u = .ref a ∧ Made2 X.prog X.w X.K X.mg X.base k X.stack s1 pr s' fm a g c σ0 ∧ κ pr H1
structure PY (X : Cx) (k : Nat) (e : Expr) (tg : TGy) : Prop where
  run : ∀ (pins : List (Addr × Obj)) (s : Shared) (σ : L2.St) (H : Hp) (κ : (Gh → YL → QL → Prop) → Hp → Prop), Inv X pins σ H s → tg σ H κ → wpAny (model X.prog X.w) X.A (eval e X.env) (MadeE X pins k σ κ) X.xe s
def tCallY (sp : SpY) (n : Nat) (t : TA) : TGy := fun σ H κ => t σ H fun vs H1 => vs.length = n ∧ κ (fun γ yl Q => sp vs γ yl Q) H1
section
variable {X : Cx} {k : Nat} {f C : Addr} {fd : FuncData} {ps : List Str} {sp : SpY} {x m : Str} {p pos pos' apos : Pos} {o e : Expr} {es : List Expr} {ta : TE} {t : TA}
theorem run_gy {pins : List (Addr × Obj)} {σ : L2.St} {H : Hp} {s : Shared} {us : List Value} {vs : List V} {κ : (Gh → YL → QL → Prop) → Hp → Prop} {E : Value → Shared → Prop} (F : GnY X.prog X.w X.K X.mg X.base k f fd ps sp) (hr : Room k X.A) (hb : Binds X.K fd ps [])
    (I : Inv X pins σ H s) (r : Vals vs us) (hl : vs.length = ps.length) (h : κ (fun γ yl Q => sp vs γ yl Q) H) : wpAny (model X.prog X.w) X.A (call (.ref f) us) (MadeE X pins k σ κ) E s := by
  have hl2 : us.length = ps.length := by rw [← r.length]; exact hl
  have hbind := hb s us I.kIn (by rw [List.append_nil]; exact hl2)
  rw [List.append_nil] at hbind
  refine wpAny_call (codeAny_mono (F.run X.A X.stack s H ⟨us, []⟩ us vs hr I.env0 hbind r hl) fun r s' hq => ?_)
  obtain ⟨fm, a, g, c, σ0, rfl, M⟩ := hq
  exact ⟨H, s, _, fm, a, g, c, σ0, I, rfl, M, h⟩
theorem py_call (F : GnY X.prog X.w X.K X.mg X.base k f fd ps sp) (hr : Room k X.A) (hg : Gl X x) (hm : X.mg x = some (.ref f)) (hk : PySem.W.keepIn X.K (.ref f) = true) (hb : Binds X.K fd ps [])
    (ha : PA X (e :: es) t) (hdb : (x == ("__debug__" : Str)) = false := by decide) (he : starEach (e :: es) X.env = (false, eval e X.env) :: starEach es X.env := by rfl) (hpl : (backTo pos' (starEach es X.env)).any (·.1) = false := by rfl) :
    PY X k (.Call (.Name x p) (e :: es) [] pos') (tCallY sp ps.length t) := by
  refine ⟨fun pins s σ H κ I h => wpAny_Call_Name_kw (ld_glob I hg hm ?_ hdb)⟩
  refine PySem.W.callWith_K (h₀ := X.base) I.ok.mod.kin hk (thn (ha.run pos' pins s σ H _ I h) fun us s1 ⟨vs, H1, I1, r, hl, q⟩ => ⟨I1.kIn, ?_⟩) he hpl
  exact run_gy F hr hb I1 r hl q
end
section
variable {X : Cx} {F : Fm} {pins : List (Addr × Obj)} {a g n k : Nat} {yl : YL} {Q : QL}
theorem lulled {α : Type} {A : Around} {t : Sem α} {Φ : α → Shared → Prop} {E : Value → Shared → Prop} {s : Shared} {gs : GenState} (hg : s.gens[g]? = some gs) (hn : Nap gs) (h : wpAny (model X.prog X.w) A t Φ (fun _ _ => False) { s with gens := s.gens.map lull }) :
    wpAny (model X.prog X.w) A t (fun a s' => s'.gens[g]? = some gs ∧ ∃ G, (AllBare G → AllBare s'.gens) ∧ Φ a { s' with gens := G }) E s :=
  wpAny_mono (wpAny_lull hg hn h) (fun _ _ z => z) fun _ _ z => by obtain ⟨_, _, z⟩ := z; exact z.elim
theorem back {σ : L2.St} {H : Hp} {s : Shared} {G : Array GenState} (hb : AllBare G → AllBare s.gens) (I : Inv X pins σ H { s with gens := G }) : Inv X pins σ H s := Inv.gens I (hb I.bare)
structure Begin (X : Cx) (pins : List (Addr × Obj)) (T : List Addr) (F : Fm) (A : Around) (a g : Nat) (pr : Gh → YL → QL → Prop) (s1 : Shared) (c : Code) (σ0 : L2.St) (oL : Obj) : Prop where
  of : Of F X
  ar : F.A = A.in1
  fit : Fit F
  bel : Bel X pins F.L F.E T
  go : ∃ go, (a, go) ∈ F.pn ∧ ∀ h : Heap, h.get? a = some go → h.IsGen a g
  get : s1.gens[g]? = some (.fresh c)
  obj : s1.heap.get? F.L = some oL
  slp : Slp F [] σ0 s1.heap
  big : ∀ b ∈ F.E, s1.heap.objs.size ≤ b
  run : ∀ yl Q γ s2, γ.ys = [] → Jc X pins T γ s2 → pr γ yl Q → Inv (F.X s2 γ.Hr) [] σ0 γ.Hr s2 → Seg (model X.prog X.w) A.in1 (R2 F (Jc X pins T) Q) (Y2 F (Jc X pins T) yl) sizeLine s2 c ((model X.prog X.w).den c) [] s2
theorem begin_of {A : Around} {E T : List Addr} {s0 s1 : Shared} {pr : Gh → YL → QL → Prop} {fm : Around → List Addr → Fm} {c : Code} {σ0 : L2.St} (hr : Room k A.in1) (hB : Bel X pins s0.heap.objs.size E T) (hE : ∀ b ∈ E, s1.heap.objs.size ≤ b) (M : Made2 X.prog X.w X.K X.mg X.base k X.stack s0 pr s1 fm a g c σ0) :
    ∃ oL, Begin X pins T (fm A.in1 E) A a g pr s1 c σ0 oL ∧ (fm A.in1 E).L = s0.heap.objs.size := by
  obtain ⟨q1, q2, q3, q4, q5, q6, q7, q8, q9⟩ := M.eqs A.in1 E
  have z := M.slp A.in1 E
  obtain ⟨m, ⟨oL, es, ep, hL, rr⟩, hl⟩ := id z.loc
  exact ⟨oL, ⟨⟨q1, q2, q3, q4, q5, q6⟩, q7, M.fit _ _ hr.hd, by rw [q8, q9]; exact hB, M.go _ _, M.new, hL, z, by rw [q9]; exact hE, fun yl Q γ s2 h1 h2 h3 h4 => M.run A.in1 E (Jc X pins T) yl Q γ s2 hE hr h1 h2 h3 h4⟩, q8⟩
theorem Begin.inv {A : Around} {T : List Addr} {pr : Gh → YL → QL → Prop} {s1 s2 : Shared} {c : Code} {σ0 τ : L2.St} {oL : Obj} {H : Hp} (b : Begin X pins T F A a g pr s1 c σ0 oL) (I : Inv X pins τ H s2) (hk : ∀ x o, F.L ≤ x → s1.heap.get? x = some o → s2.heap.get? x = some o) (hn : ∀ x, F.L ≤ x → x < s1.heap.objs.size → H x = none) : Inv X (pins ++ priv F oL []) τ H s2 := by
  have z := b.slp
  have h1 : ∀ p ∈ F.pn ++ [], p.1 < s1.heap.objs.size := fun p hp => Heap.lt_size (z.pin p hp).1
  refine Inv.slept2 b.bel I (z.keep b.obj (hk _ _ (Nat.le_refl _) b.obj) fun p hp => hk _ _ (Nat.le_of_lt (z.pin p hp).2.1) (z.pin p hp).1) (hk _ _ (Nat.le_refl _) b.obj) (hn _ (Nat.le_refl _) (Heap.lt_size b.obj)) fun p hp => ⟨hn _ (Nat.le_of_lt (z.pin p hp).2.1) (h1 p hp), fun hm => absurd (b.big _ hm) (Nat.not_le.mpr (h1 p hp))⟩
theorem Begin.goes {A : Around} {T : List Addr} {pr : Gh → YL → QL → Prop} {s1 s2 : Shared} {c : Code} {σ0 τ : L2.St} {oL : Obj} {H : Hp} (b : Begin X pins T F A a g pr s1 c σ0 oL) (hfr : A.frames = some X.stack) (I : Inv X (pins ++ priv F oL []) τ H s2) (hT : ∀ b ∈ T, ∃ u, H b = some u) (h : pr ⟨[], τ, H⟩ yl Q) :
    (GenState.fresh c).Goes (model X.prog X.w) A.in1 (R2 F (Jc X pins T) Q) (Y2 F (Jc X pins T) yl) sizeLine (.send .none) (s2.setGen g .running) :=
  ⟨rfl, b.run yl Q ⟨[], τ, H⟩ _ rfl ⟨L2.Inv.unpinned (Inv.gens I (allBare_setGen I.bare rfl)), hT⟩ h (wakeInv b.of b.ar hfr b.fit b.bel I b.slp b.obj)⟩
end
def ylFor (g : TG) (tb : TS) (D : Ends) : YL := fun γ x H2 C => g x γ.τ H2 fun σ3 H3 => tb { D with nx := C, ct := C, bk := D.nx } σ3 H3
def tForY (tg : TGy) (g : TG) (tb : TS) : TS := fun D σ H => tg σ H fun pr H1 => pr ⟨[], σ, H1⟩ (ylFor g tb D) fun γ H2 => D.nx γ.τ H2
section
variable {X : Cx} {k : Nat} {iter tg : Expr} {body : List Stmt} {ty : TGy} {g : TG} {tb : TS} {pos : Pos}
theorem ps_forY0 (hx : X.xe = fun _ _ => False) (hr : Room (k + 1) X.A) (hi : PY X k iter ty) (hg : PG X tg g) (hb : PSs X body tb)
    (hs : ∀ x, foldedSetIterable iter X.env x = pure x := by intro _; rfl) : PS X (.For tg iter body [] pos) (tForY ty g tb) := by
  have ff : ∀ {α : Type} {A : Around} {t : Sem α} {Φ : α → Shared → Prop} {s : Shared} {E : Value → Shared → Prop}, wpAny (model X.prog X.w) A t Φ X.xe s → wpAny (model X.prog X.w) A t Φ E s := fun h => wpAny_mono h (fun _ _ z => z) fun _ _ z => by rw [hx] at z; exact z.elim
  have ff0 : ∀ {α : Type} {A : Around} {t : Sem α} {Φ : α → Shared → Prop} {s : Shared}, wpAny (model X.prog X.w) A t Φ X.xe s → wpAny (model X.prog X.w) A t Φ (fun _ _ => False) s := fun h => ff h
  refine ⟨fun pins s σ H D I h => ?_⟩
  refine wpAny_For (thn (hi.run pins s σ H _ I h) fun v s1 h1 => ?_) hs
  obtain ⟨H1, s0, pr, fm, a, gn, c, σ0, I0, rfl, M, hpr⟩ := h1
  obtain ⟨oL, B, hFL⟩ := begin_of (A := X.A) (E := []) (T := []) hr.in1 (Bel.of I0) (fun b y => nomatch y) M
  have I1 : Inv X pins σ H1 s1 := I0.call' (ch := []) M.os (Un.kept M.keep) (I0.hok.kept M.keep) M.bare fun b y => nomatch y
  generalize fm X.A.in1 [] = F at B hFL
  have I1 := B.inv I1 (fun _ _ _ e => e) fun x hx _ => I0.hok.fresh (by rw [← hFL]; exact hx)
  obtain ⟨go, hmem, hig⟩ := id B.go
  have hIs : ∀ {oL' ip τ H' s'}, Inv X (pins ++ priv F oL' ip) τ H' s' → s'.heap.IsGen a gn := fun I' => hig _ ((slp_of I').2.2 _ (List.mem_append_left _ hmem)).1
  refine wpAny_pyIter_gen (hIs I1) ?_
  refine codeAny_forLoop_any (fun n s' => ∃ τ H' oL ip gs, Inv X (pins ++ priv F oL ip) τ H' s' ∧ s'.gens[gn]? = some gs ∧ gs.Goes (model X.prog X.w) X.A.in1 (R2 F (Jc X pins []) fun γ H2 => D.nx γ.τ H2) (Y2 F (Jc X pins []) (ylFor g tb D)) n (.send .none) (s'.setGen gn .running)) ?_ sizeLine
    ⟨σ, H1, oL, [], _, I1, B.get, B.goes I1.ok.frames I1 (fun b y => nomatch y) hpr⟩
  rintro n s3 ⟨τ, H3, oL3, ip3, gs, I3, hgs, hgo⟩
  refine wpAny_mono (gturn (E := fun _ _ => False) B.of B.ar I3.ok.frames B.fit B.bel B.go hr.hd hr.depth (fun _ _ _ _ _ b y => nomatch y) (fun _ _ _ b y => nomatch y) I3 hgs hgo) (fun r s4 h4 => ?_) fun _ _ z => False.elim z
  cases r with
  | none =>
    obtain ⟨γ, H4, I4, q4⟩ := h4
    exact wpAny_execs_nil ⟨γ.τ, H4, I4, q4⟩
  | some u =>
    obtain ⟨γ, x, H4, C, oL4, ip4, gs4, rv, q4, I4, hg4, hz⟩ := h4
    obtain ⟨o, nm, qn, ho, hc, hd, _⟩ := hIs I4
    refine go_of ho hc hd (by decide) ?_
    refine wpAny_mono (lulled hg4 hz.nap (ff0 (hg.run _ _ γ.τ H4 x u _ (Inv.gens I4 (allBare_lull I4.bare)) rv q4))) (fun _ s5 h5 => ?_) fun _ _ z => False.elim z
    obtain ⟨hg5, G5, b5, τ5, H5, I5, q5⟩ := h5
    have I5 := back b5 I5
    refine wpAny_mono (lulled hg5 hz.nap (ff0 (hb.run _ _ τ5 H5 _ (Inv.gens I5 (allBare_lull I5.bare)) q5))) (fun f s6 h6 => ?_) fun _ _ z => False.elim z
    obtain ⟨hg6, G6, b6, q6⟩ := h6
    have again : ∀ {τ7 H7}, Inv X (pins ++ priv F oL4 ip4) τ7 H7 s6 → C τ7 H7 → ∃ m, m < n ∧ ∃ τ H' oL ip gs, Inv X (pins ++ priv F oL ip) τ H' s6 ∧ s6.gens[gn]? = some gs ∧ gs.Goes (model X.prog X.w) X.A.in1 (R2 F (Jc X pins []) fun γ H2 => D.nx γ.τ H2) (Y2 F (Jc X pins []) (ylFor g tb D)) m (.send .none) (s6.setGen gn .running) := fun {τ7 H7} I7 c7 => by
      have w := hz.wake s6 τ7 H7 I7 c7 (fun b y => nomatch y) hg6
      cases n with
      | zero => exact False.elim w
      | succ m => exact ⟨m, Nat.lt_succ_self m, τ7, H7, oL4, ip4, gs4, I7, hg6, w⟩
    cases f with
    | next => obtain ⟨τ7, H7, I7, c7⟩ := q6; exact again (back b6 I7) c7
    | cont => obtain ⟨τ7, H7, I7, c7⟩ := q6; exact again (back b6 I7) c7
    | brk => obtain ⟨τ7, H7, I7, c7⟩ := q6; exact ⟨τ7, H7, L2.Inv.unpinned (back b6 I7), c7⟩
    | ret v => obtain ⟨x7, τ7, H7, I7, r7, c7⟩ := q6; exact ⟨x7, τ7, H7, L2.Inv.unpinned (back b6 I7), r7, c7⟩
end
end Mu

namespace Mu
open PySem PySem.Spec PyProof.Rows L2 He Evl StX GenW
def ylLst (S : Addr) (σ : L2.St) : YL := fun γ x H2 C => γ.τ = σ ∧ ∃ acc, H2 S = some (.lst acc) ∧ acc.length < sizeLine ∧ C σ (upd H2 S (.lst (acc ++ [x])))
def tListY (tg : TGy) : TE := fun σ H Q => tg σ H fun pr H1 => ∀ S, H1 S = none → pr ⟨[], σ, upd H1 S (.lst [])⟩ (ylLst S σ) fun γ H2 => γ.τ = σ ∧ Q (.ref S) H2
section
variable {X : Cx} {F : Fm} {pins : List (Addr × Obj)} {a g k : Nat} {A : Around}
theorem drainY {pr : Gh → YL → QL → Prop} {S : Addr} {σ σ0 : L2.St} {Q : VK} {R : Result → Shared → Prop} {s1 : Shared} {c : Code} {oL : Obj} (B : Begin X pins [] F A.in1 a g pr s1 c σ0 oL) (hfr : A.frames = some X.stack) (hh : A.handled = none) (hd : A.depth < recursionLimit)
    (hend : ∀ H' s', Inv X pins σ H' s' → Q (.ref S) H' → R (.ok (.ret .none)) s') :
    ∀ (n : Nat) (s : Shared) (τ : L2.St) (H : Hp) (oL : Obj) (ip : List (Addr × Obj)) (gs : GenState), Inv X (pins ++ priv F oL ip) τ H s → s.gens[g]? = some gs →
      gs.Goes (model X.prog X.w) A.in1.in1 (R2 F (Jc X pins []) fun γ H2 => γ.τ = σ ∧ Q (.ref S) H2) (Y2 F (Jc X pins []) (ylLst S σ)) n (.send .none) (s.setGen g .running) →
      codeAny (model X.prog X.w) A (.builtin "list.extend.loop" ⟨[.ref S, .ref a, .none], []⟩) R s := by
  intro n
  induction n using Nat.strongRecOn with
  | ind n ih =>
    intro s τ H oL ip gs I hgs hgo
    refine codeAny_builtin PySem.F.entry_extend_loop ?_
    rw [Around.under_plainId PySem.F.plain_extend_loop _]
    show wpAny _ A.in1 (pyNext (.ref a) >>= _) _ _ s
    refine wpAny_bind (wpAny_mono (gturn (E := fun _ _ => False) B.of B.ar hfr B.fit B.bel B.go hh hd (fun _ _ _ _ _ b y => nomatch y) (fun _ _ _ b y => nomatch y) I hgs hgo) (fun r s4 h4 => ?_) fun _ _ z => False.elim z)
    cases r with
    | none =>
      obtain ⟨γ, H4, I4, e, q4⟩ := h4
      rw [e] at I4
      exact wpAny_pure (hend H4 s4 I4 q4)
    | some u =>
      obtain ⟨γ, x, H4, C, oL4, ip4, gs4, rv, ⟨e, acc, hq, hlen, hC⟩, I4, hg4, hz⟩ := h4
      rw [e] at I4
      show wpAny _ A.in1 (updateSeq S (·.push u) >>= _) _ _ _
      obtain ⟨z, its, kk, r2, hl, eo⟩ := L2.Inv.lstM I4 hq
      have I5 := L2.Inv.lset (its' := its ++ [u]) (f := fun q => q.push u) (t' := s4.toks) I4 hq eo (by simp) (r2.append (.cons rv .nil)) (by rw [List.length_append, List.length_singleton]; omega)
      refine wpAny_bind (wpAny_updateSeq eo rfl (wpAny_pure ⟨plainId_quiet PySem.F.plain_extend_loop _, ?_⟩) (by rw [List.size_toArray]; omega) (by show (its.toArray.push u).size ≤ sizeLine + 1; rw [Array.size_push, List.size_toArray]; omega))
      have w := hz.wake _ σ _ I5 hC (fun b y => nomatch y) hg4
      cases n with
      | zero => exact False.elim w
      | succ m => exact ih m (Nat.lt_succ_self m) _ σ _ oL4 ip4 gs4 I5 hg4 w
theorem call_listY {σ σ0 : L2.St} {H1 : Hp} {pr : Gh → YL → QL → Prop} {s1 : Shared} {c : Code} {oL : Obj} {Q : VK} {E : Value → Shared → Prop} (B : Begin X pins [] F A.in1.in1 a g pr s1 c σ0 oL) (hfr : A.frames = some X.stack) (hh : A.handled = none) (hd : A.depth < recursionLimit) (I1 : Inv X pins σ H1 s1)
    (hn : ∀ x, F.L ≤ x → x < s1.heap.objs.size → H1 x = none) (h : ∀ S, H1 S = none → pr ⟨[], σ, upd H1 S (.lst [])⟩ (ylLst S σ) fun γ H2 => γ.τ = σ ∧ Q (.ref S) H2) : wpAny (model X.prog X.w) A (call (.type "list") [.ref a]) (EP X pins σ Q) E s1 := by
  obtain ⟨go, hmem, hig⟩ := id B.go
  have hga : s1.heap.IsGen a g := hig _ (B.slp.pin _ (List.mem_append_left _ hmem)).1
  obtain ⟨o, nm, qn, hoa, _⟩ := id hga
  have hSa : s1.heap.objs.size ≠ a := Nat.ne_of_gt (Heap.lt_size hoa)
  refine callType_codes (Q₁ := fun obj s₁ => obj = .ref s1.heap.objs.size ∧ s₁ = { s1 with heap := s1.heap.push { cls := .type "list", data := .seq #[] } }) PySem.F.called_list (PySem.F.typeCall_list_1 _) PySem.F.entry_list_init
    (code_list_new _ ⟨rfl, rfl⟩) fun obj s₁ h₁ => ?_
  obtain ⟨rfl, rfl⟩ := h₁
  have g0 : (s1.heap.push { cls := .type "list", data := .seq #[] }).get? s1.heap.objs.size = some { cls := .type "list", data := .seq #[] } := Heap.get?_push_size _ rfl
  refine ⟨⟨_, g0, rfl⟩, PySem.F.args_list_init_2 _ _, ?_⟩
  show wpAny _ A.in1.in1 (Builtin.List.listItems (.ref s1.heap.objs.size) >>= fun old => (Builtin.List.listUpdate (.ref s1.heap.objs.size) (fun _ => #[]) >>= fun _ => letGo old.toList.reverse >>= fun _ => Builtin.List.listExtendWith (.ref s1.heap.objs.size) (.ref a) .none)) _ _ _
  refine wpAny_bind ?_
  unfold Builtin.List.listItems
  refine wpAny_bind (wpAny_seqItems g0 rfl (wpAny_pure ?_))
  refine wpAny_bind ?_
  show wpAny _ A.in1.in1 (updateSeq s1.heap.objs.size (fun _ => #[])) _ _ _
  refine wpAny_updateSeq g0 rfl ?_
  have g1 := Heap.get?_update_self (Obj.mapSeq (fun _ => (#[] : Array Value))) g0 rfl
  refine wpAny_bind (wpAny_letGo ?_)
  unfold Builtin.List.listExtendWith
  have kup : ∀ (hp : Heap) (f : Obj → Obj), (∀ b o, s1.heap.get? b = some o → hp.get? b = some o) → ∀ b o, s1.heap.get? b = some o → (hp.update s1.heap.objs.size f).get? b = some o := fun hp f q b o e =>
    (Heap.get?_update_other _ _ (Nat.ne_of_gt (Heap.lt_size e))).trans (q b o e)
  have q0 : ∀ b o, s1.heap.get? b = some o → (s1.heap.push { cls := .type "list", data := .seq #[] }).get? b = some o := fun b o e => Heap.get?_push_of_some _ e
  have q1 := kup _ (Obj.mapSeq (fun _ => (#[] : Array Value))) q0
  have ty : ∀ {hp : Heap}, (∀ b o, s1.heap.get? b = some o → hp.get? b = some o) → hp.IsGen a g := fun q => hga.keeps q
  refine wpAny_bind (wpAny_typeOf (Heap.IsGen.typeIs (s := { s1 with heap := _ }) (ty q1)) ?_)
  have t1 : Builtin.List.listSameRef (.ref s1.heap.objs.size) (.ref a) = false := by simp [Builtin.List.listSameRef, hSa]
  simp only [t1, show (Value.type "generator" == Value.type "list") = false by decide, show (Value.type "generator" == Value.type "tuple") = false by decide, Bool.or_false, Bool.false_eq_true, if_false]
  refine wpAny_bind (wpAny_pyIter_gen (s := { s1 with heap := _ }) (ty q1) (wpAny_bind (wpAny_holding ?_)))
  unfold Builtin.List.listLengthHint
  refine wpAny_bind (wpAny_specialOf (Heap.IsGen.typeIs (s := { s1 with heap := _ }) (ty q1)) PySem.F.gen_no_len ?_)
  show wpAny _ A.in1.in1 (specialOf (Value.ref a) (Str.ofString "__length_hint__") >>= _) _ _ _
  refine wpAny_bind (wpAny_specialOf (Heap.IsGen.typeIs (s := { s1 with heap := _ }) (ty q1)) PySem.F.gen_no_hint (wpAny_pure ?_))
  show wpAny _ A.in1.in1 (rule "list.extend.makes-room" >>= fun _ => Builtin.List.listTouch (.ref s1.heap.objs.size) >>= fun _ => again (.builtin "list.extend.loop" ⟨[.ref s1.heap.objs.size, .ref a, .none], []⟩)) _ _ _
  refine wpAny_bind (wpAny_rule (wpAny_bind ?_))
  show wpAny _ A.in1.in1 (updateSeq s1.heap.objs.size (·.push .none) >>= fun _ => updateSeq s1.heap.objs.size (·.pop)) _ _ _
  refine wpAny_bind (wpAny_updateSeq g1 rfl ?_)
  have g2 := Heap.get?_update_self (Obj.mapSeq (·.push Value.none)) g1 rfl
  refine wpAny_updateSeq (hz := by seq_fits) g2 rfl ?_
  have g3 := Heap.get?_update_self (Obj.mapSeq (·.pop)) g2 rfl
  have q3 := kup _ (Obj.mapSeq (·.pop)) (kup _ (Obj.mapSeq (·.push Value.none)) q1)
  refine wpAny_pure ⟨plainId_quiet PySem.F.plain_extend_loop _, ?_⟩
  have IS := L2.Inv.laid (o := .lst []) (t' := s1.toks) I1 q3 (Nat.le_refl _) ⟨Nat.zero_le _, [], _, .nil, g3⟩
  have I5 := B.inv IS (fun x o _ e => q3 x o e) fun x h1 h2 => by rw [upd_ne (Nat.ne_of_lt h2)]; exact hn x h1 h2
  refine drainY (A := A.in1) B hfr hh hd (fun H' s' I' q' => ⟨rfl, .ref s1.heap.objs.size, H', I', rfl, q'⟩) sizeLine _ σ _ oL [] _ I5 B.get (B.goes hfr I5 (fun b y => nomatch y) (h _ (I1.hok.fresh (Nat.le_refl _))))
theorem pe_listY {e : Expr} {tg : TGy} {nm : Str} {p pos : Pos} (h : PY X k e tg) (hr : Room (k + 3) X.A) (hg : Gl X nm) (hmg : X.mg nm = none) (hv : bootBuiltins nm = some (.type "list")) (hnm : nm ≠ "__name__" := by decide) (hdb : (nm == ("__debug__" : Str)) = false := by decide)
    (he : starEach [e] X.env = (false, eval e X.env) :: starEach [] X.env := by rfl) : PE X (.Call (.Name nm p) [e] [] pos) (tListY tg) := by
  refine ⟨fun pins s σ H Q I hq => wpAny_Call_Name_kw (ld_blt I hg hmg hv (PyProof.Rows.callWith_type1 ?_ he rfl) hnm hdb)⟩
  rw [he]
  show wpAny _ _ (spliced ((false, eval e X.env) :: backTo pos (starEach [] X.env))) _ _ s
  refine Calls.spliced_cons (thn (h.run pins s σ H _ I hq) fun u s1 ⟨H1, s0, pr, fm, a, g, c, σ0, I0, ea, M, hpr⟩ => Calls.spliced_nil ?_)
  subst ea
  have r3 : Room k X.A.in1.in1.in1 := (show Room (k + 2) X.A.in1 from hr.in1).in1.in1
  obtain ⟨oL, B, hFL⟩ := begin_of (A := X.A.in1.in1) (E := []) (T := []) r3 (Bel.of I0) (fun b y => nomatch y) M
  have I1 : Inv X pins σ H1 s1 := I0.call' (ch := []) M.os (Un.kept M.keep) (I0.hok.kept M.keep) M.bare fun b y => nomatch y
  exact call_listY B I1.ok.frames hr.hd hr.depth I1 (fun x hx _ => I0.hok.fresh (by rw [← hFL]; exact hx)) hpr
end
end Mu

namespace Mu
open PySem PySem.Spec PyProof.Rows L2 He Evl StX GenW
section
variable {X : Cx} {k : Nat}
end
end Mu

namespace Mu
open PySem PySem.Spec PyProof.Rows L2 He Evl StX GenW
def del (F : List Addr) (H : Hp) : Hp := fun a => if a ∈ F then none else H a
theorem del_some {F : List Addr} {H : Hp} {a : Addr} {o : HO} (h : del F H a = some o) : a ∉ F ∧ H a = some o := by
  unfold del at h
  split at h
  · cases h
  · rename_i z; exact ⟨z, h⟩
theorem del_none {F : List Addr} {H : Hp} {a : Addr} (h : del F H a = none) : a ∈ F ∨ H a = none := by
  unfold del at h
  split at h
  · rename_i z; exact .inl z
  · exact .inr h
theorem del_in {F : List Addr} {H : Hp} {a : Addr} (h : a ∈ F) : del F H a = none := by unfold del; rw [if_pos h]
theorem del_out {F : List Addr} {H : Hp} {a : Addr} (h : a ∉ F) : del F H a = H a := by unfold del; rw [if_neg h]
structure Gw (G Hr : Hp) (F : List Addr) (G1 H1 : Hp) (F1 : List Addr) : Prop where
  g : Ex G G1
  i : Ex G1 H1
  h : ∀ a o, Hr a = some o → a ∉ F → H1 a = some o
  n : ∀ a o, Hr a = some o → Mt o → a ∉ F → G a = none → G1 a = none
  f : ∀ a ∈ F1, G1 a = none ∧ (∃ o, H1 a = some o ∧ Mt o) ∧ (a ∈ F ∨ Hr a = none)
  nd : F1.Nodup
def DEM (yl : YL) (Q : QL) (out : List Rp) : Nat → Gh → Hp → List Addr → Prop
  | 0, _, _, _ => False
  | m + 1, γ, G, F => (∀ r, out[γ.ys.length]? = some r → ∀ x G1 H1 F1 C, Gw G γ.Hr F G1 H1 F1 → r.p x G1 →
      (∀ τ' H2, Ex G1 H2 → (∀ a ∈ F1, ∀ o, H1 a = some o → H2 a = some o) → DEM yl Q out m ⟨γ.ys ++ [x], τ', H2⟩ G1 F1 → C τ' H2) → yl γ x H1 C) ∧
    (out[γ.ys.length]? = none → ∀ G1 H1 F1, Gw G γ.Hr F G1 H1 F1 → Q γ H1)
def At (yl : YL) (Q : QL) (out : List Rp) (Gl : Hp) (m : Nat) (γ : Gh) (G H : Hp) (M : List Re) : Prop :=
  ∃ Gv F, DEM yl Q out m γ Gv F ∧ Ok ⟨Gv, del F γ.Hr, [], Gl⟩ G H M ∧ γ.ys.length + m ≤ 1000000
theorem gw_of {Gv Hr G H Gl : Hp} {F : List Addr} {M : List Re} (o : Ok ⟨Gv, del F Hr, [], Gl⟩ G H M) : Gw Gv Hr F G H (feet M) where
  g := o.g
  i := o.i
  h := fun a u e n => o.h a u ((del_out n).trans e) fun q => nomatch q
  n := fun a u e t n z => o.n a u ((del_out n).trans e) t z
  f := fun a ha => by
    obtain ⟨r, hr, hf⟩ := List.mem_flatMap.mp ha
    refine ⟨o.z a ha, r.at_ (o.m r hr) a hf, ?_⟩
    rcases o.f r hr a hf with q | q
    · exact del_none q
    · exact nomatch q.2
  nd := o.d
theorem At.gr {yl : YL} {Q : QL} {out : List Rp} {m : Nat} {γ : Gh} {G H G2 H2 Gl : Hp} {M : List Re} (a : At yl Q out Gl m γ G H M) (g : Gr G H G2 H2) : At yl Q out Gl m γ G2 H2 M := by
  obtain ⟨Gv, F, d, o, l⟩ := a
  exact ⟨Gv, F, d, o.gr g, l⟩
structure GKy where
  nx : Nat → Ctx → List Re → Prop
  rt : Nat → Rp → List Re → Prop := fun _ _ _ => False
  bk : Nat → Ctx → List Re → Prop := fun _ _ _ => False
  ct : Nat → Ctx → List Re → Prop := fun _ _ _ => False
def GKy.at_ (κ : GKy) (i : Nat) : Kn := { nx := κ.nx i, rt := κ.rt i, bk := κ.bk i, ct := κ.ct i }
structure Gky (yl : YL) (Q : QL) (out : List Rp) (Gl : Hp) (D : G2E) (κ : GKy) : Prop where
  nx : ∀ m γ σ G H Γ M, At yl Q out Gl m γ G H M → En σ G Γ → κ.nx γ.ys.length Γ M → D.nx γ σ H
  rt : ∀ m γ v G H r M, At yl Q out Gl m γ G H M → r.p v G → κ.rt γ.ys.length r M → D.rt γ v H
  bk : ∀ m γ σ G H Γ M, At yl Q out Gl m γ G H M → En σ G Γ → κ.bk γ.ys.length Γ M → D.bk γ σ H
  ct : ∀ m γ σ G H Γ M, At yl Q out Gl m γ G H M → En σ G Γ → κ.ct γ.ys.length Γ M → D.ct γ σ H
def GWY (out : List Rp) (Γ : Ctx) (M : List Re) (i : Nat) (t : TG2) (κ : GKy) : Prop := ∀ yl Q Gl m γ G H σ D, γ.ys.length = i → At yl Q out Gl m γ G H M → En σ G Γ → Gky yl Q out Gl D κ → t yl D γ σ H
section
variable {out : List Rp} {Γ Γ' : Ctx} {M : List Re} {i : Nat} {t u : TG2} {ts : TS} {tc : TT} {te tl : TE} {κ : GKy} {r : Rp} {K : PySem.W.Frag}
theorem y_seq (h : GWY out Γ M i t { κ with nx := fun i' Γ' M' => GWY out Γ' M' i' u κ }) : GWY out Γ M i (tThen2 t u) κ := fun yl Q Gl m γ G H σ D e a en d =>
  h yl Q Gl m γ G H σ _ e a en ⟨fun m' γ' σ' G' H' Γ' M' a' en' w => w yl Q Gl m' γ' G' H' σ' D rfl a' en' d, d.rt, d.bk, d.ct⟩
theorem y_ps (h : WP W0 Γ M ts (κ.at_ i)) : GWY out Γ M i (tP2 ts) κ := fun yl Q Gl m γ G H σ D e a en d => by
  subst e
  obtain ⟨Gv, F, dm, o, l⟩ := a
  exact h _ G H σ _ o en ⟨fun σ' G' H' Γ' M' o' en' z => d.nx m γ σ' G' H' Γ' M' ⟨Gv, F, dm, o', l⟩ en' z, fun v G' H' r' M' o' hv z => d.rt m γ v G' H' r' M' ⟨Gv, F, dm, o', l⟩ hv z, fun σ' G' H' Γ' M' o' en' z => d.bk m γ σ' G' H' Γ' M' ⟨Gv, F, dm, o', l⟩ en' z, fun σ' G' H' Γ' M' o' en' z => d.ct m γ σ' G' H' Γ' M' ⟨Gv, F, dm, o', l⟩ en' z, fun _ _ _ _ _ _ _ _ _ _ _ z => z.elim⟩
theorem y_nil (h : κ.nx i Γ M) : GWY out Γ M i t02 κ := fun yl Q Gl m γ G H σ D e a en d => d.nx m γ σ G H Γ M a en (e ▸ h)
theorem y_if (b : Bool) (h : EXT Γ M tc (fun c M' => c = b ∧ M' = M)) (h1 : b = true → GWY out Γ M i t κ) (h2 : b = false → GWY out Γ M i u κ) : GWY out Γ M i (tIf2 tc t u) κ := fun yl Q Gl m γ G H σ D e a en d => by
  obtain ⟨Gv, F, dm, o, l⟩ := a
  refine h _ G H σ o en _ fun c G2 H2 M2 z o2 e2 => ?_
  obtain ⟨rfl, rfl⟩ := z
  have a2 : At yl Q out Gl m γ G2 H2 M2 := ⟨Gv, F, dm, o2, l⟩
  cases c with
  | true =>
    rw [if_pos rfl]
    exact h1 rfl yl Q Gl m γ G2 H2 σ D e a2 (en.mono e2) d
  | false =>
    rw [if_neg (fun z => nomatch z)]
    exact h2 rfl yl Q Gl m γ G2 H2 σ D e a2 (en.mono e2) d
theorem y_yield (h : EvX Γ te r) (ho : out[i]? = some r) (hn : κ.nx (i + 1) Γ M) : GWY out Γ M i (tY2 te) κ := fun yl Q Gl m γ G H σ D e a en d => by
  subst e
  obtain ⟨Gv, F, dm, o, l⟩ := a
  cases m with
  | zero => exact False.elim dm
  | succ m =>
    refine ⟨by rw [sizeLine_eq]; omega, h σ G en H o.i _ fun x G2 H2 g hx => ?_⟩
    have o2 := o.gr g
    refine dm.1 r ho x G2 H2 (feet M) _ (gw_of o2) hx fun τ' H3 e3 k3 dm3 => d.nx m _ σ G2 H3 Γ M ⟨G2, feet M, dm3, ?_, ?_⟩ (en.mono g.g) ?_
    · exact ⟨Ex.refl _, o2.l, fun b w z _ => (del_some (F := feet M) (H := H3) z).2, e3, fun _ _ _ _ y => y, fun b q => (nomatch q), fun s hs => s.loc (fun b hb w z => k3 b (mem_feet hs hb) w z) (o2.m s hs), o2.z, o2.d, fun s hs b hb => .inl (del_in (mem_feet hs hb))⟩
    · show (γ.ys ++ [x]).length + m ≤ 1000000
      rw [List.length_append, List.length_singleton]; omega
    · show κ.nx (γ.ys ++ [x]).length Γ M
      rw [List.length_append, List.length_singleton]; exact hn
theorem y_while {α : Type} (P : Nat → α → Prop) (I : α → Nat) (Γi : α → Ctx) (Mi : α → List Re) (m0 : Nat) (a0 : α) (p0 : P m0 a0) (i0 : i = I a0) (s0 : Sub Γ (Γi a0)) (e0 : M = Mi a0)
    (hs : ∀ m a, P m a → ∃ b, EXT (Γi a) (Mi a) tc (fun c M' => c = b ∧ M' = Mi a) ∧
      (b = true → GWY out (Γi a) (Mi a) (I a) t { nx := fun i' Γ' M' => ∃ m' a', m' < m ∧ P m' a' ∧ i' = I a' ∧ Sub Γ' (Γi a') ∧ M' = Mi a', ct := fun i' Γ' M' => ∃ m' a', m' < m ∧ P m' a' ∧ i' = I a' ∧ Sub Γ' (Γi a') ∧ M' = Mi a', bk := κ.nx, rt := κ.rt }) ∧ (b = false → κ.nx (I a) (Γi a) (Mi a))) : GWY out Γ M i (tWh2 tc t) κ := fun yl Q Gl n γ G H σ D e a en d =>
  ⟨fun m γ' σ' H' => ∃ n' G' b, P m b ∧ γ'.ys.length = I b ∧ At yl Q out Gl n' γ' G' H' (Mi b) ∧ En σ' G' (Γi b), ⟨m0, n, G, a0, p0, e.trans i0, e0 ▸ a, en.weak s0⟩, fun m γ' σ' H' ⟨n1, G1, b, pb, ib, a1, en1⟩ => by
    obtain ⟨c, hb, h1, h2⟩ := hs m b pb
    obtain ⟨Gv, F, dm, o, l⟩ := a1
    refine hb _ G1 H' σ' o en1 _ fun c' G2 H2 M2 z o2 e2 => ?_
    obtain ⟨rfl, rfl⟩ := z
    have a2 : At yl Q out Gl n1 γ' G2 H2 (Mi b) := ⟨Gv, F, dm, o2, l⟩
    cases c' with
    | true =>
      rw [if_pos rfl]
      have fin : ∀ n2 γ2 σ2 G3 H3 Γ3 M3, At yl Q out Gl n2 γ2 G3 H3 M3 → En σ2 G3 Γ3 → (∃ m' a', m' < m ∧ P m' a' ∧ γ2.ys.length = I a' ∧ Sub Γ3 (Γi a') ∧ M3 = Mi a') → ∃ m', m' < m ∧ ∃ n' G' b, P m' b ∧ γ2.ys.length = I b ∧ At yl Q out Gl n' γ2 G' H3 (Mi b) ∧ En σ2 G' (Γi b) := fun n2 γ2 σ2 G3 H3 Γ3 M3 a3 en3 ⟨m', a', hm, pa', ia', sa', ma'⟩ => ⟨m', hm, n2, G3, a', pa', ia', ma' ▸ a3, en3.weak sa'⟩
      refine ⟨fun γ2 σ2 H3 => ∃ m', m' < m ∧ ∃ n' G' b, P m' b ∧ γ2.ys.length = I b ∧ At yl Q out Gl n' γ2 G' H3 (Mi b) ∧ En σ2 G' (Γi b), fun γ2 σ2 H3 z => z, ?_⟩
      exact h1 rfl yl Q Gl n1 γ' G2 H2 σ' _ ib a2 (en1.mono e2) ⟨fun n2 γ2 σ2 G3 H3 Γ3 M3 a3 en3 z => fin n2 γ2 σ2 G3 H3 Γ3 M3 a3 en3 z, d.rt, d.nx, fun n2 γ2 σ2 G3 H3 Γ3 M3 a3 en3 z => fin n2 γ2 σ2 G3 H3 Γ3 M3 a3 en3 z⟩
    | false =>
      rw [if_neg (fun z => nomatch z)]
      exact d.nx n1 γ' σ' G2 H2 _ _ a2 (en1.mono e2) (by rw [ib]; exact h2 rfl)⟩
theorem ok_del0 {G H : Hp} (e : Ex G H) : Ok ⟨G, del [] H, [], G⟩ G H [] where
  g := Ex.refl _
  l := Ex.refl _
  h := fun b w z _ => (del_some (F := []) (H := H) z).2
  i := e
  n := fun _ _ _ _ y => y
  k := fun _ h => (nomatch h)
  m := fun _ h => (nomatch h)
  z := fun _ h => (nomatch h)
  d := List.nodup_nil
  f := fun _ h => (nomatch h)
theorem run_Y {yl : YL} {Q : QL} {m : Nat} {γ : Gh} {G : Hp} {σ : L2.St} (w : GWY out Γ [] 0 t { nx := fun i _ _ => out[i]? = none, rt := fun i r _ => r = rV .non ∧ out[i]? = none }) (hy : γ.ys = []) (e : Ex G γ.Hr) (hm : m ≤ 1000000) (dm : DEM yl Q out m γ G []) (en : En σ G Γ) :
    t yl { nx := fun γ _ H' => Q γ H', rt := fun γ v H' => v = .non ∧ Q γ H' } γ σ γ.Hr := by
  have fin : ∀ {m' γ' G' H' M'}, At yl Q out G m' γ' G' H' M' → out[γ'.ys.length]? = none → Q γ' H' := fun {m' γ' G' H' M'} ⟨Gv, F, d, o, _⟩ z => by
    cases m' with
    | zero => exact False.elim d
    | succ m' => exact d.2 z _ _ _ (gw_of o)
  refine w yl Q G m γ G γ.Hr σ _ (by rw [hy]; rfl) ⟨G, [], dm, ok_del0 e, by rw [hy]; show 0 + m ≤ _; omega⟩ en ⟨fun m' γ' σ' G' H' Γ' M' a _ z => fin a z, fun m' γ' v G' H' r M' a hv z => ?_, fun _ _ _ _ _ _ _ _ _ z => z.elim, fun _ _ _ _ _ _ _ _ _ z => z.elim⟩
  · obtain ⟨rfl, z⟩ := z
    obtain rfl : v = V.non := hv
    exact ⟨rfl, fin a z⟩
end
def spYl (R : List V → Hp → List Rp → Prop) : SpY := fun vs γ yl Q => ∃ G out m, γ.ys = [] ∧ Ex G γ.Hr ∧ R vs G out ∧ m ≤ 1000000 ∧ DEM yl Q out m γ G []
def napR (F : List Addr) (H0 : Hp) : Re where
  own := false
  ft := F
  p := fun _ H => ∀ a ∈ F, ∃ o, H0 a = some o ∧ Mt o ∧ H a = some o
  mono := fun _ h => h
  loc := fun k h a ha => by
    obtain ⟨o, h1, h2, h3⟩ := h a ha
    exact ⟨o, h1, h2, k a ha o h3⟩
  at_ := fun h a ha => by
    obtain ⟨o, _, h2, h3⟩ := h a ha
    exact ⟨o, h3, h2⟩
structure Cons (B : Ba) (Gc Hr : Hp) (M : List Re) (Gg : Hp) (F : List Addr) : Prop where
  ok : Ok B Gc Hr M
  sub : Ex Gg Gc
  f : ∀ x ∈ F, Gc x = none ∧ B.H0 x = none ∧ x ∉ B.F ∧ x ∉ feet M
section
variable {B : Ba} {Gc Hr Gg G1 H1 G' H' : Hp} {M M' : List Re} {F F1 : List Addr}
theorem Cons.turn (c : Cons B Gc Hr M Gg F) (w : Gw Gg Hr F G1 H1 F1) : Ok (B.low (un Gc G1)) (un Gc G1) H1 (M ++ [napR F1 H1]) ∧ Ex Gc (un Gc G1) ∧ Ex G1 (un Gc G1) ∧ ∀ x ∈ F1, B.H0 x = none ∧ x ∉ B.F := by
  have o := c.ok
  have eC : Ex Gc H1 := fun a u z => w.h a u (o.i a u z) fun q => by rw [(c.f a q).1] at z; cases z
  have e2 : Ex G1 (un Gc G1) := ex_un_r eC w.i
  have out : ∀ a u, Hr a = some u → Mt u → a ∉ F → Gc a = none → un Gc G1 a = none := fun a u z t n y => by
    rw [un_r y]
    exact w.n a u z t n (fresh_back c.sub y)
  have nF : ∀ r ∈ M, ∀ a ∈ r.ft, a ∉ F := fun r hr a ha q => (c.f a q).2.2.2 (mem_feet hr ha)
  have o1 : Ok B (un Gc G1) H1 M := by
    refine ⟨o.g.trans ex_un_l, o.l.trans ex_un_l, fun a u z n => w.h a u (o.h a u z n) (fun q => by rw [(c.f a q).2.1] at z; cases z), un_in eC w.i, fun a u z t y => ?_, fun a ha => ?_, fun r hr => ?_, fun a ha => ?_, o.d, o.f⟩
    · have nf : a ∉ F := fun q => by rw [(c.f a q).2.1] at z; cases z
      by_cases hb : a ∈ B.F
      · obtain ⟨u2, z2, t2⟩ := o.k a hb
        exact out a u2 z2 t2 nf (o.n a u z t y)
      · exact out a u (o.h a u z hb) t nf (o.n a u z t y)
    · obtain ⟨u, z, t⟩ := o.k a ha
      exact ⟨u, w.h a u z fun q => (c.f a q).2.2.1 ha, t⟩
    · exact r.loc (fun a ha u z => w.h a u z (nF r hr a ha)) (r.mono ex_un_l (o.m r hr))
    · obtain ⟨r, hr, hf⟩ := List.mem_flatMap.mp ha
      obtain ⟨u, z, t⟩ := r.at_ (o.m r hr) a hf
      exact out a u z t (nF r hr a hf) (o.z a ha)
  have hF1 : ∀ x ∈ F1, Gc x = none ∧ B.H0 x = none ∧ x ∉ B.F ∧ x ∉ feet M := fun x hx => by
    rcases (w.f x hx).2.2 with q | q
    · exact c.f x q
    · refine ⟨fresh_back o.i q, ?_, fun hb => ?_, fun hm => ?_⟩
      · cases z : B.H0 x with
        | none => rfl
        | some u =>
          by_cases hb : x ∈ B.F
          · obtain ⟨u2, z2, _⟩ := o.k x hb
            rw [q] at z2; cases z2
          · have := o.h x u z hb
            rw [q] at this; cases this
      · obtain ⟨u2, z2, _⟩ := o.k x hb
        rw [q] at z2; cases z2
      · obtain ⟨r, hr, hf⟩ := List.mem_flatMap.mp hm
        obtain ⟨u, z, _⟩ := r.at_ (o.m r hr) x hf
        rw [q] at z; cases z
  refine ⟨?_, ex_un_l, e2, fun x hx => ⟨(hF1 x hx).2.1, (hF1 x hx).2.2.1⟩⟩
  have o2 : Ok (B.low (un Gc G1)) (un Gc G1) H1 M := o1.low (Ex.refl _)
  refine ⟨o2.g, o2.l, o2.h, o2.i, o2.n, o2.k, fun r hr => ?_, fun a ha => ?_, ?_, fun r hr a ha => ?_⟩
  · rcases List.mem_append.mp hr with q | q
    · exact o2.m r q
    · rw [List.mem_singleton.mp q]
      intro a ha
      obtain ⟨u, z, t⟩ := (w.f a ha).2.1
      exact ⟨u, z, t, z⟩
  · rw [feet_snoc] at ha
    rcases List.mem_append.mp ha with q | q
    · exact o2.z a q
    · rw [un_r (hF1 a q).1]; exact (w.f a q).1
  · rw [feet_snoc]
    refine List.nodup_append.mpr ⟨o2.d, w.nd, fun a ha b hb e => ?_⟩
    subst e
    exact (hF1 a hb).2.2.2 ha
  · rcases List.mem_append.mp hr with q | q
    · exact o2.f r q a ha
    · rw [List.mem_singleton.mp q] at ha
      exact .inl (hF1 a ha).2.1
theorem erase_last {α : Type} : ∀ {l : List α} {x : α}, (l ++ [x]).eraseIdx l.length = l
  | [], _ => rfl
  | a :: l, x => by
    show a :: (l ++ [x]).eraseIdx l.length = a :: l
    rw [erase_last]
theorem Ok.unnap {R : Re} (o : Ok B G' H' (M' ++ [R])) : Ok B G' H' M' := by
  have := o.drop (k := M'.length)
  rw [erase_last] at this
  exact this
theorem Cons.again {Gl : Hp} (o : Ok (B.low Gl) G' H' (M' ++ [napR F1 H1])) (el : Ex B.Gl Gl) (e : Ex G1 Gl) (hf : ∀ x ∈ F1, B.H0 x = none ∧ x ∉ B.F) : Cons B G' H' M' G1 F1 ∧ Ex G1 H' ∧ ∀ a ∈ F1, ∀ u, H1 a = some u → H' a = some u := by
  have e1 : Ex G1 G' := e.trans o.l
  have hd := o.d
  rw [feet_snoc] at hd
  refine ⟨⟨(Ok.unnap o).up el, e1, fun x hx => ⟨o.z x (by rw [feet_snoc]; exact List.mem_append_right _ hx), (hf x hx).1, (hf x hx).2, fun hm => (List.nodup_append.mp hd).2.2 x hm x hx rfl⟩⟩, e1.trans o.i, fun a ha u z => ?_⟩
  obtain ⟨u2, h1, _, h3⟩ := o.m (napR F1 H1) (List.mem_append_right _ (List.mem_singleton.mpr rfl)) a ha
  rw [z] at h1; cases h1
  exact h3
end
end Mu

namespace Mu
open PySem PySem.Spec PyProof.Rows L2 He Evl StX GenW
def Offers (G : Hp) (out : List Rp) (pr : Gh → YL → QL → Prop) : Prop := ∀ γ yl Q m G3, γ.ys = [] → Ex G G3 → Ex G3 γ.Hr → m ≤ 1000000 → DEM yl Q out m γ G3 [] → pr γ yl Q
def EvY (Γ : Ctx) (tg : TGy) (out : List Rp) : Prop := ∀ σ G, En σ G Γ → ∀ H, Ex G H → ∀ κ : (Gh → YL → QL → Prop) → Hp → Prop, (∀ pr G2 H2, Gr G H G2 H2 → Offers G2 out pr → κ pr H2) → tg σ H κ
section
variable {W : WX} {Γ : Ctx} {M : List Re} {te : TE} {ta : TA} {tg : TGy} {rs out outs : List Rp} {R : List V → Hp → List Rp → Prop} {n j : Nat} {C : Addr} {f : Str} {K : PySem.W.Frag} {ε : KX} {κ : KV} {r0 : Rp}
theorem offers_of {G : Hp} {vs : List V} (h : ∀ G3, Ex G G3 → R vs G3 out) : Offers G out (fun γ yl Q => spYl R vs γ yl Q) := fun γ yl Q m G3 h1 e1 e2 hm dm => ⟨G3, out, m, h1, e2, h G3 e1, hm, dm⟩
theorem y_call (ha : EvAX Γ ta rs) (hn : rs.length = n) (h : ∀ vs G, RA G vs rs → R vs G out) : EvY Γ (tCallY (spYl R) n ta) out := fun σ G en H e κ q =>
  ha σ G en H e _ fun vs G2 H2 g ra => ⟨by rw [ra.len, hn], q _ G2 H2 g (offers_of fun G3 e3 => h vs G3 (ra.mono e3))⟩
theorem set_last {α : Type} : ∀ {l : List α} {a b c : α}, ((l ++ [a]) ++ [b]).set l.length c = (l ++ [c]) ++ [b]
  | [], _, _, _ => rfl
  | x :: l, a, b, c => by
    show x :: (((l ++ [a]) ++ [b]).set l.length c) = _
    rw [set_last]; rfl
theorem get_last {α : Type} : ∀ {l : List α} {a b : α}, ((l ++ [a]) ++ [b])[l.length]? = some a
  | [], _, _ => rfl
  | x :: l, a, b => by
    show ((l ++ [a]) ++ [b])[l.length]? = some a
    exact get_last
theorem dem_list {B : Ba} {S : Addr} {σ : L2.St} {Qf : VK} (hl : out.length < 50000) (q : ∀ G' H', Ok B G' H' (M ++ [lstR S out]) → Qf (.ref S) H') :
    ∀ (m : Nat) (γ : Gh) (Gc Gg : Hp) (F : List Addr), γ.τ = σ → γ.ys.length + m = out.length + 1 → γ.ys.length ≤ out.length → Cons B Gc γ.Hr (M ++ [lstR S (out.take γ.ys.length)]) Gg F → Ex B.Gl Gc → DEM (ylLst S σ) (fun γ H2 => γ.τ = σ ∧ Qf (.ref S) H2) out m γ Gg F := by
  intro m
  induction m with
  | zero => intro γ Gc Gg F _ h1 h2 _ _; omega
  | succ m ih =>
    intro γ Gc Gg F hτ h1 h2 c el
    refine ⟨fun r hr x G1 H1 F1 C w hx hC => ?_, fun hn G1 H1 F1 w => ?_⟩
    · have hi : γ.ys.length < out.length := (List.getElem?_eq_some_iff.mp hr).1
      obtain ⟨o2, eC, e1, hf⟩ := c.turn w
      have hk : ((M ++ [lstR S (out.take γ.ys.length)]) ++ [napR F1 H1])[M.length]? = some (lstR S (out.take γ.ys.length)) := get_last
      obtain ⟨ws, hS, ra⟩ := o2.m _ (List.mem_of_getElem? hk)
      have gS : (un Gc G1) S = none := o2.z S (mem_feet (List.mem_of_getElem? hk) (List.mem_singleton.mpr rfl))
      have hw : ws.length = γ.ys.length := by rw [ra.len, List.length_take]; omega
      refine ⟨hτ, ws, hS, by rw [sizeLine_eq]; omega, ?_⟩
      have o3 := o2.chg (R' := lstR S (out.take γ.ys.length ++ [r])) (G2 := un Gc G1) (H2 := upd H1 S (.lst (ws ++ [x]))) hk rfl rfl (Ex.refl _) (fun a u z n => by rw [upd_ne fun e => n (List.mem_singleton.mpr e)]; exact z) (Ex.mut o2.i gS) (fun _ _ _ _ y => y) ⟨ws ++ [x], upd_same, ra.snoc (r.mono e1 hx)⟩
      rw [set_last] at o3
      obtain ⟨c2, k1, k2⟩ := Cons.again o3 (el.trans eC) e1 hf
      refine hC σ _ k1 k2 (ih ⟨γ.ys ++ [x], σ, _⟩ _ G1 F1 rfl ?_ ?_ ?_ (el.trans eC))
      · show (γ.ys ++ [x]).length + m = _
        rw [List.length_append, List.length_singleton]; omega
      · show (γ.ys ++ [x]).length ≤ _
        rw [List.length_append, List.length_singleton]; omega
      · show Cons B _ _ (M ++ [lstR S (out.take (γ.ys ++ [x]).length)]) G1 F1
        rw [List.length_append, List.length_singleton, List.take_add_one, hr]
        exact c2
    · obtain ⟨o2, eC, e1, hf⟩ := c.turn w
      refine ⟨hτ, q (un Gc G1) H1 ?_⟩
      have hi : γ.ys.length = out.length := by
        have := List.getElem?_eq_none_iff.mp hn
        omega
      have o3 := (Ok.unnap o2).up (el.trans eC)
      rw [hi, List.take_length] at o3
      exact o3
theorem xn_listY (h : EvY Γ tg out) (hl : out.length < 50000) : EvNX Γ (tListY tg) out := fun σ G en H e Q q =>
  h σ G en H e _ fun pr G1 H1 g ho S hS => by
    have gS := fresh_back g.i hS
    have g3 := Gr.out (o := .lst []) g.i hS
    have o1 : Ok ⟨G1, H1, [], G1⟩ G1 H1 [] := Ok.nil g.i
    have o2 := o1.add (R := lstR S []) g3 (show [S].Nodup by simp) (fun a ha => by rw [List.mem_singleton.mp ha]; exact ⟨hS, gS⟩) ⟨[], upd_same, .nil⟩
    have key : ∀ G' H', Ok ⟨G1, H1, [], G1⟩ G' H' ([] ++ [lstR S out]) → Q (.ref S) H' := fun G' H' o' => by
      obtain ⟨ws, h1, h2⟩ := o'.m (lstR S out) (List.mem_singleton.mpr rfl)
      exact q S ws G' H' (g.trans o'.to) (fresh_back g.h hS) (o'.z S (mem_feet (List.mem_singleton.mpr rfl) (List.mem_singleton.mpr rfl))) h1 h2
    exact ho _ _ _ (out.length + 1) G1 rfl (Ex.refl _) o2.i (by omega) (dem_list (B := ⟨G1, H1, [], G1⟩) (M := []) hl key (out.length + 1) ⟨[], σ, _⟩ G1 G1 [] rfl (by show 0 + _ = _; omega) (Nat.zero_le _) ⟨o2, Ex.refl _, fun x hx => nomatch hx⟩ (Ex.refl _))
end
def kNap (nap : Re) (κ : Kn) : Kn where
  nx := fun Γ' M' => ∃ M2, M' = M2 ++ [nap] ∧ κ.nx Γ' M2
  rt := fun r M' => ∃ M2, M' = M2 ++ [nap] ∧ κ.rt r M2
  bk := fun Γ' M' => ∃ M2, M' = M2 ++ [nap] ∧ κ.bk Γ' M2
  ct := fun Γ' M' => ∃ M2, M' = M2 ++ [nap] ∧ κ.ct Γ' M2
  ex := fun Γ' c f M' => ∃ M2, M' = M2 ++ [nap] ∧ κ.ex Γ' c f M2
section
variable {W : WX} {Γ : Ctx} {M : List Re} {tg : TGy} {out : List Rp} {j : Nat} {tb : TS} {κ : Kn} {α : Type}
theorem w_forY (h : EvY Γ tg out) (N : Nat) (hN : N ≤ 1000000) (P : Nat → α → Prop) (Γi : Nat → α → Ctx) (Mi : Nat → α → List Re) (hP : ∀ i a, P i a → i < N) (a0 : α) (p0 : P 0 a0) (s0 : Sub Γ (Γi 0 a0)) (m0 : M = Mi 0 a0)
    (hs : ∀ i a r nap, out[i]? = some r → P i a → WP W ((Γi i a).set j (some r)) (Mi i a ++ [nap]) tb (kNap nap (kLoop (LI P Γi Mi (i + 1)) κ))) (hd : ∀ i a, P i a → out[i]? = none → κ.nx (Γi i a) (Mi i a)) : WP W Γ M (tForY tg (gName j) tb) κ := fun B G H σ D o en d => by
  refine h σ G en H o.i _ fun pr G1 H1 g ho => ?_
  have dem : ∀ (m : Nat) (γ : Gh) (a : α) (Gc Gg : Hp) (F : List Addr), γ.ys.length + m = N → P γ.ys.length a → Cons B Gc γ.Hr (Mi γ.ys.length a) Gg F → Ex B.Gl Gc → En γ.τ Gc (Γi γ.ys.length a) → DEM (ylFor (gName j) tb D) (fun γ H2 => D.nx γ.τ H2) out m γ Gg F := by
    intro m
    induction m with
    | zero => intro γ a Gc Gg F h1 h2; have := hP _ _ h2; omega
    | succ m ih =>
      intro γ a Gc Gg F h1 pa c el en1
      refine ⟨fun r hr x G2 H2 F2 C w hx hC => ?_, fun hn G2 H2 F2 w => ?_⟩
      · obtain ⟨o2, eC, e2, hf⟩ := c.turn w
        have el2 : Ex B.Gl (un Gc G2) := el.trans eC
        have go : ∀ σ' G' H' Γ' M', Ok (B.low (un Gc G2)) G' H' M' → En σ' G' Γ' → (∃ M2, M' = M2 ++ [napR F2 H2] ∧ LI P Γi Mi (γ.ys.length + 1) Γ' M2) → C σ' H' := fun σ' G' H' Γ' M' o' en' z => by
          obtain ⟨M2, rfl, a', pa', sa', rfl⟩ := z
          obtain ⟨c2, k1, k2⟩ := Cons.again o' el2 e2 hf
          have el : (γ.ys ++ [x]).length = γ.ys.length + 1 := by rw [List.length_append, List.length_singleton]
          refine hC σ' H' k1 k2 (ih ⟨γ.ys ++ [x], σ', H'⟩ a' G' G2 F2 ?_ ?_ ?_ (el2.trans o'.l) ?_)
          · show (γ.ys ++ [x]).length + m = N
            rw [el]; omega
          · show P (γ.ys ++ [x]).length a'
            rw [el]; exact pa'
          · show Cons B G' H' (Mi (γ.ys ++ [x]).length a') G2 F2
            rw [el]; exact c2
          · show En σ' G' (Γi (γ.ys ++ [x]).length a')
            rw [el]; exact en'.weak sa'
        refine hs _ a r (napR F2 H2) hr pa (B.low (un Gc G2)) (un Gc G2) H2 (γ.τ.set j (some x)) _ o2 ((en1.mono eC).set (r.mono e2 hx) j) ⟨fun σ' G' H' Γ' M' o' en' z => go σ' G' H' Γ' M' o' en' z, fun v G' H' r' M' o' hv z => ?_, fun σ' G' H' Γ' M' o' en' z => ?_, fun σ' G' H' Γ' M' o' en' z => go σ' G' H' Γ' M' o' en' z, fun σ' G' H' Γ' M' cls dd fs o' en' xd z => ?_⟩
        · obtain ⟨M2, rfl, z⟩ := z
          exact d.rt v G' H' r' M2 ((Ok.unnap o').up el2) hv z
        · obtain ⟨M2, rfl, z⟩ := z
          exact d.nx σ' G' H' Γ' M2 ((Ok.unnap o').up el2) en' z
        · obtain ⟨M2, rfl, z⟩ := z
          exact d.ex σ' G' H' Γ' M2 cls dd fs ((Ok.unnap o').up el2) en' xd z
      · obtain ⟨o2, eC, e2, hf⟩ := c.turn w
        exact d.nx _ _ H2 _ _ ((Ok.unnap o2).up (el.trans eC)) (en1.mono eC) (hd _ a pa hn)
  have o1 := o.gr g
  refine ho ⟨[], σ, H1⟩ _ _ N G1 rfl (Ex.refl _) o1.i hN (dem N ⟨[], σ, H1⟩ a0 G1 G1 [] (Nat.zero_add _) p0 ⟨m0 ▸ o1, Ex.refl _, fun x hx => nomatch hx⟩ o1.l ((en.mono g.g).weak s0))
end
section
variable {out : List Rp} {Γ : Ctx} {M : List Re} {i j : Nat} {t : TG2} {tl : TE} {κ : GKy} {K : PySem.W.Frag} {α β : Type}
end
end Mu

namespace Mu
open PySem PySem.Spec PyProof.Rows L2 He Evl StX GenW
theorem pg_yt {X : Cx} {tg : Expr} (K : PySem.W.Frag) {n : Nat} {g : TGs} (h : PG X tg (gTup X.K n g)) (hK : X.K = K := by rfl) : PG X tg (gTup K n g) := hK ▸ h
theorem pe_yb {X : Cx} {ex : Expr} (K : PySem.W.Frag) {S : String} {rr : V → List V → Hp → VK → Prop} {to : TE} {ta : TA} (h : PE X ex (tBM X.K S rr to ta)) (hK : X.K = K := by rfl) : PE X ex (tBM K S rr to ta) := hK ▸ h
theorem pe_yb0 {X : Cx} {ex : Expr} (K : PySem.W.Frag) {S : String} {rr : V → List V → Hp → VK → Prop} {to : TE} (h : PE X ex (tBM0 X.K S rr to)) (hK : X.K = K := by rfl) : PE X ex (tBM0 K S rr to) := hK ▸ h
section
variable {P : Program} {w : World} {K : PySem.W.Frag} {mg : Str → Option Value} {base : Heap} {x qual : Str} {params : Arguments} {body : List Stmt} {scope : Scope} {dvs : List V} {kws : List (Str × V)} {f : Addr} {fd : FuncData}
theorem okGY {N ps : List Str} {k : Nat} {R : List V → Hp → List Rp → Prop} (F : FunD K x qual params body scope dvs kws f fd) (S : YScope N ps scope) (len : ∀ vs γ yl Q, spYl R vs γ yl Q → vs.length = ps.length)
    (hbody : ∀ (cdv : Value) (A : Around) (outer : List Env) (pn : List (Addr × Obj)) (L : Addr) (E : List Addr), Room k (A.deeper (envOfC qual scope L f cdv)) → Fit ⟨P, w, K, mg, base, N, qual, scope, f, cdv, A, outer, pn, L, E⟩ →
      ∃ t, G2s ⟨P, w, K, mg, base, N, qual, scope, f, cdv, A, outer, pn, L, E⟩ body t ∧ ∀ vs γ yl Q, spYl R vs γ yl Q → t yl { nx := fun γ _ H' => Q γ H', rt := fun γ v H' => v = .non ∧ Q γ H' } γ (start N vs) γ.Hr) : GnY P w K mg base (k + 1) f fd ps (spYl R) := by
  obtain ⟨oc, od, dV, kV, doc, pm, an, cdv, ct, osl, rfl, lk, hcd, _, _⟩ := F.ex
  refine gy_of lk hcd S len fun A outer pn L E hr hF => ?_
  obtain ⟨t, h1, h2⟩ := hbody cdv A outer pn L E hr hF
  exact ⟨t, h1, fun vs γ yl Q _ h => h2 vs γ yl Q h⟩
end
section
variable {F : Fm} {st : Stmt} {body a b : List Stmt} {test e : Expr} {pos yp : Pos} {ts : TS} {tc : TT} {te : TE} {t u : TG2}
theorem g2_ps' (h : ∀ s H, PS (F.X s H).nox st ts) : G2 F st (tP2 ts) := g2_ps fun s H => ps_nox (h s H)
theorem g2_if' (hc : ∀ s H, PT (F.X s H).nox test tc) (ha : G2s F a t) (hb : G2s F b u) : G2 F (.If test a b pos) (tIf2 tc t u) := g2_if (fun s H => PT.nox (hc s H)) ha hb
theorem g2_while' {tb : TG2} (hc : ∀ s H, PT (F.X s H).nox test tc) (hb : G2s F body tb) : G2 F (.While test body [] pos) (tWh2 tc tb) := g2_while (fun s H => PT.nox (hc s H)) hb
theorem g2_yield' (he : ∀ s H, PE (F.X s H).nox e te) (hco : F.env.scope.isCoroutine = false := by rfl) (hi : interactive F.env = false := by rfl) : G2 F (.Expr (.Yield (some e) yp) pos) (tY2 te) := g2_yield (fun s H => PE.nox (he s H)) hco hi
end
end Mu

namespace Mu
open PySem PySem.Spec PyProof.Rows L2 He Evl StX GenW
section
variable {Γ : Ctx} {te ts : TE} {K : PySem.W.Frag} {l r : List (List Nat)}
end
end Mu

namespace Mu
open PySem PySem.Spec PyProof.Rows L2 He Evl
def rNeF0 : L2.R2 := fun x y H Q => ∃ a b ks, x = .ref a ∧ y = .ref b ∧ Rd H a (.dK ks) ∧ H b = some (.dK []) ∧ Q (.bl (!decide (ks.length = 0))) H
theorem op_neF0 {X : Cx} (hu : X.A.units < cLine) : OpR X (compareOp .NotEq) rNeF0 := by
  intro pins s σ H x y v u Q I rx ry h
  obtain ⟨a, b, ks, rfl, rfl, ea, eb, q⟩ := h
  obtain rfl : v = Value.ref a := rx
  obtain rfl : u = Value.ref b := ry
  obtain ⟨_, ya, va, ra, da⟩ := (show ObjOk X.prog X.w H s.heap a (.dK ks) from ea.ok I.hok)
  obtain ⟨_, yb, vb, rb, db⟩ := (show ObjOk X.prog X.w H s.heap b (.dK []) from I.hok b _ eb)
  have hl := ra.length
  have hb0 := rb.length
  exact PySem.W.keq_ne (knd := mixKind X.prog X.w) (r := true) ya yb da db hu (fun e => by
    have : va = [] := List.length_eq_zero_iff.mp (by rw [e, ← hb0]; rfl)
    subst this
    exact .nil) (fin_bl I q (by rw [← hl, ← hb0]; cases ks <;> simp))
section
variable {W : WX} {Γ : Ctx} {M : List Re} {κ : KV} {ε : KX} {K : PySem.W.Frag} {te ts ta : TE} {rs : List Rp}
theorem e_neF0 {kvs : List (Key × Rp)} {z : Bool} (h : EvX Γ ta (rD z kvs)) (kk : ∀ q, κ (rB (!decide (kvs.length = 0))) (M ++ [dicR q []])) : EW W Γ M (tOp rNeF0 ta tDNewK) κ ε := e_op (e_x h (e_dnew fun q0 => fun B G H x y o hx hy Q q => by
  obtain ⟨d, ws, rfl, h1, h2⟩ := hx
  obtain rfl : y = V.ref q0 := hy
  have hm : (M ++ [dicR q0 []])[M.length]? = some (dicR q0 []) := by simp
  obtain ⟨ws2, h4, h5⟩ := o.m _ (List.mem_of_getElem? hm)
  cases h5
  have hr : Rd H d (.dK ws) := h1.symm.imp (fun e => o.i _ _ e.2) (fun ⟨oo, e⟩ => ⟨oo, o.i _ _ e⟩)
  exact ⟨d, q0, ws, rfl, rfl, hr, h4, q _ G H (rB (!decide (kvs.length = 0))) _ (kk q0) o (Ex.refl _) (by rw [h2.len]; rfl)⟩))
theorem x_revL (h : EvX Γ te (rL K rs)) (hs : EvX Γ ts (rI (-1))) : EvNX Γ (tRevL K te ts) rs.reverse := fun σ G en H e Q q => h σ G en H e _ fun v G1 H1 g1 hv => by
  obtain ⟨a, vs, rfl, h1, h2⟩ := hv
  refine hs σ G1 (en.mono g1.g) H1 g1.i _ fun k G2 H2 g2 hk => ?_
  obtain rfl : k = V.int (-1) := hk
  refine ⟨rfl, a, vs, rfl, sq_of (g2.i _ _ (g2.g _ _ h1)), fun p hp => ?_⟩
  have gr := g1.trans g2
  exact q p vs.reverse G2 _ (gr.trans (Gr.out (o := .lst vs.reverse) g2.i hp)) (fresh_back gr.h hp) (fresh_back g2.i hp) upd_same ((RA.mono g2.g h2).rev)
theorem w_brk' {tb : TS} {κ : Kn} (h : κ.bk Γ M) : WP W Γ M tBreak κ := fun B G H σ D o en d => d.bk σ G H Γ M o en h
end
end Mu

namespace MuL
open PySem PySem.Spec PyProof.Rows L2 He Evl Mu
structure Tx (P : Program) (K : PySem.W.Frag) (mg : Str → Option Value) where
  C_Table : Addr
  g_Table : mg "Table" = some (.ref C_Table)
  c_Table : Cls K C_Table
  ic_Table : Mu.IsC K C_Table
  sf_Table : PySem.W.selfFirst K C_Table = true
  na_Table_size : NoAttr K C_Table "size"
  na_Table_masks : NoAttr K C_Table "masks"
  na_Table_cells : NoAttr K C_Table "cells"
  C_Person : Addr
  g_Person : mg "Person" = some (.ref C_Person)
  c_Person : Cls K C_Person
  na_Person_size : NoAttr K C_Person "size"
  na_Person_ears : NoAttr K C_Person "ears"
  na_Person_mouths : NoAttr K C_Person "mouths"
  C_Cast : Addr
  g_Cast : mg "Cast" = some (.ref C_Cast)
  c_Cast : Cls K C_Cast
  na_Cast_size : NoAttr K C_Cast "size"
  na_Cast_folk : NoAttr K C_Cast "folk"
  na_Cast_roster : NoAttr K C_Cast "roster"
  C_Knower : Addr
  g_Knower : mg "Knower" = some (.ref C_Knower)
  c_Knower : Cls K C_Knower
  na_Knower_size : NoAttr K C_Knower "size"
  na_Knower_ears : NoAttr K C_Knower "ears"
  na_Knower_mouths : NoAttr K C_Knower "mouths"
  na_Knower_sure_words : NoAttr K C_Knower "sure_words"
  C_Doubter : Addr
  g_Doubter : mg "Doubter" = some (.ref C_Doubter)
  c_Doubter : Cls K C_Doubter
  na_Doubter_size : NoAttr K C_Doubter "size"
  na_Doubter_ears : NoAttr K C_Doubter "ears"
  na_Doubter_mouths : NoAttr K C_Doubter "mouths"
  C_KnowingDoubter : Addr
  g_KnowingDoubter : mg "KnowingDoubter" = some (.ref C_KnowingDoubter)
  c_KnowingDoubter : Cls K C_KnowingDoubter
  na_KnowingDoubter_size : NoAttr K C_KnowingDoubter "size"
  na_KnowingDoubter_ears : NoAttr K C_KnowingDoubter "ears"
  na_KnowingDoubter_mouths : NoAttr K C_KnowingDoubter "mouths"
  na_KnowingDoubter_sure_words : NoAttr K C_KnowingDoubter "sure_words"
  f_Person_table : Addr
  fd_Person_table : FuncData
  F_Person_table : FunD K "table" "Person.table" (defArgs s_Person_table) (defBody s_Person_table) (defScope s_Person_table) [] [] f_Person_table fd_Person_table
  pr_Person_table : Mu.PropG K C_Person "table" f_Person_table
  pr_Knower_table : Mu.PropG K C_Knower "table" f_Person_table
  pr_Doubter_table : Mu.PropG K C_Doubter "table" f_Person_table
  pr_KnowingDoubter_table : Mu.PropG K C_KnowingDoubter "table" f_Person_table
  f_bits : Addr
  fd_bits : FuncData
  F_bits : FunD K "bits" "bits" (defArgs s_bits) (defBody s_bits) (defScope s_bits) [] [] f_bits fd_bits
  g_bits : mg "bits" = some (.ref f_bits)
  f_mask_of : Addr
  fd_mask_of : FuncData
  F_mask_of : FunD K "mask_of" "mask_of" (defArgs s_mask_of) (defBody s_mask_of) (defScope s_mask_of) [] [] f_mask_of fd_mask_of
  g_mask_of : mg "mask_of" = some (.ref f_mask_of)
  f_masks_of : Addr
  fd_masks_of : FuncData
  F_masks_of : FunD K "masks_of" "masks_of" (defArgs s_masks_of) (defBody s_masks_of) (defScope s_masks_of) [] [] f_masks_of fd_masks_of
  g_masks_of : mg "masks_of" = some (.ref f_masks_of)
  f_check_size : Addr
  fd_check_size : FuncData
  F_check_size : FunD K "check_size" "check_size" (defArgs s_check_size) (defBody s_check_size) (defScope s_check_size) [] [] f_check_size fd_check_size
  g_check_size : mg "check_size" = some (.ref f_check_size)
  f_check_sizes : Addr
  fd_check_sizes : FuncData
  F_check_sizes : FunD K "check_sizes" "check_sizes" (defArgs s_check_sizes) (defBody s_check_sizes) (defScope s_check_sizes) [] [] f_check_sizes fd_check_sizes
  g_check_sizes : mg "check_sizes" = some (.ref f_check_sizes)
  f_Table___init__ : Addr
  fd_Table___init__ : FuncData
  F_Table___init__ : FunD K "__init__" "Table.__init__" (defArgs s_Table___init__) (defBody s_Table___init__) (defScope s_Table___init__) [] [] f_Table___init__ fd_Table___init__
  mk_Table : Mk K C_Table f_Table___init__
  f_all_words : Addr
  fd_all_words : FuncData
  F_all_words : FunD K "all_words" "all_words" (defArgs s_all_words) (defBody s_all_words) (defScope s_all_words) [] [] f_all_words fd_all_words
  g_all_words : mg "all_words" = some (.ref f_all_words)
  f_check_person : Addr
  fd_check_person : FuncData
  F_check_person : FunD K "check_person" "check_person" (defArgs s_check_person) (defBody s_check_person) (defScope s_check_person) [] [] f_check_person fd_check_person
  g_check_person : mg "check_person" = some (.ref f_check_person)
  f_Person___init__ : Addr
  fd_Person___init__ : FuncData
  F_Person___init__ : FunD K "__init__" "Person.__init__" (defArgs s_Person___init__) (defBody s_Person___init__) (defScope s_Person___init__) [] [] f_Person___init__ fd_Person___init__
  mk_Person : Mk K C_Person f_Person___init__
  f_check_word : Addr
  fd_check_word : FuncData
  F_check_word : FunD K "check_word" "check_word" (defArgs s_check_word) (defBody s_check_word) (defScope s_check_word) [] [] f_check_word fd_check_word
  g_check_word : mg "check_word" = some (.ref f_check_word)
  f_Person_heard : Addr
  fd_Person_heard : FuncData
  F_Person_heard : FunD K "heard" "Person.heard" (defArgs s_Person_heard) (defBody s_Person_heard) (defScope s_Person_heard) [] [] f_Person_heard fd_Person_heard
  M_Person_heard : Meth K C_Person "heard" f_Person_heard
  d_Person_heard : Mu.Dun K C_Person "heard" f_Person_heard
  f_Person_said : Addr
  fd_Person_said : FuncData
  F_Person_said : FunD K "said" "Person.said" (defArgs s_Person_said) (defBody s_Person_said) (defScope s_Person_said) [] [] f_Person_said fd_Person_said
  M_Person_said : Meth K C_Person "said" f_Person_said
  d_Person_said : Mu.Dun K C_Person "said" f_Person_said
  f_Cast_put : Addr
  fd_Cast_put : FuncData
  F_Cast_put : FunD K "put" "Cast.put" (defArgs s_Cast_put) (defBody s_Cast_put) (defScope s_Cast_put) [] [] f_Cast_put fd_Cast_put
  M_Cast_put : Meth K C_Cast "put" f_Cast_put
  d_Cast_put : Mu.Dun K C_Cast "put" f_Cast_put
  f_Cast___init__ : Addr
  fd_Cast___init__ : FuncData
  F_Cast___init__ : FunD K "__init__" "Cast.__init__" (defArgs s_Cast___init__) (defBody s_Cast___init__) (defScope s_Cast___init__) [] [] f_Cast___init__ fd_Cast___init__
  mk_Cast : Mk K C_Cast f_Cast___init__
  f__law_box : Addr
  fd__law_box : FuncData
  F__law_box : FunD K "_law_box" "_law_box" (defArgs s__law_box) (defBody s__law_box) (defScope s__law_box) [] [] f__law_box fd__law_box
  g__law_box : mg "_law_box" = some (.ref f__law_box)
  f__law_take : Addr
  fd__law_take : FuncData
  F__law_take : FunD K "_law_take" "_law_take" (defArgs s__law_take) (defBody s__law_take) (defScope s__law_take) [] [] f__law_take fd__law_take
  g__law_take : mg "_law_take" = some (.ref f__law_take)
  f__law_words : Addr
  fd__law_words : FuncData
  F__law_words : FunD K "_law_words" "_law_words" (defArgs s__law_words) (defBody s__law_words) (defScope s__law_words) [] [] f__law_words fd__law_words
  g__law_words : mg "_law_words" = some (.ref f__law_words)
  f__law_outs : Addr
  fd__law_outs : FuncData
  F__law_outs : FunD K "_law_outs" "_law_outs" (defArgs s__law_outs) (defBody s__law_outs) (defScope s__law_outs) [] [] f__law_outs fd__law_outs
  g__law_outs : mg "_law_outs" = some (.ref f__law_outs)
  f__law_person : Addr
  fd__law_person : FuncData
  F__law_person : FunD K "_law_person" "_law_person" (defArgs s__law_person) (defBody s__law_person) (defScope s__law_person) [] [] f__law_person fd__law_person
  g__law_person : mg "_law_person" = some (.ref f__law_person)
  f__law_letters : Addr
  fd__law_letters : FuncData
  F__law_letters : FunD K "_law_letters" "_law_letters" (defArgs s__law_letters) (defBody s__law_letters) (defScope s__law_letters) [] [] f__law_letters fd__law_letters
  g__law_letters : mg "_law_letters" = some (.ref f__law_letters)
  f__law_folk : Addr
  fd__law_folk : FuncData
  F__law_folk : FunD K "_law_folk" "_law_folk" (defArgs s__law_folk) (defBody s__law_folk) (defScope s__law_folk) [] [] f__law_folk fd__law_folk
  g__law_folk : mg "_law_folk" = some (.ref f__law_folk)
  f__law_own : Addr
  fd__law_own : FuncData
  F__law_own : FunD K "_law_own" "_law_own" (defArgs s__law_own) (defBody s__law_own) (defScope s__law_own) [] [] f__law_own fd__law_own
  g__law_own : mg "_law_own" = some (.ref f__law_own)
  f__law_made : Addr
  fd__law_made : FuncData
  F__law_made : FunD K "_law_made" "_law_made" (defArgs s__law_made) (defBody s__law_made) (defScope s__law_made) [.int 0] [] f__law_made fd__law_made
  g__law_made : mg "_law_made" = some (.ref f__law_made)
  f__law_cast : Addr
  fd__law_cast : FuncData
  F__law_cast : FunD K "_law_cast" "_law_cast" (defArgs s__law_cast) (defBody s__law_cast) (defScope s__law_cast) [] [] f__law_cast fd__law_cast
  g__law_cast : mg "_law_cast" = some (.ref f__law_cast)
  f_Cast_letters : Addr
  fd_Cast_letters : FuncData
  F_Cast_letters : FunD K "letters" "Cast.letters" (defArgs s_Cast_letters) (defBody s_Cast_letters) (defScope s_Cast_letters) [] [] f_Cast_letters fd_Cast_letters
  M_Cast_letters : Meth K C_Cast "letters" f_Cast_letters
  d_Cast_letters : Mu.Dun K C_Cast "letters" f_Cast_letters
  f_Cast___contains__ : Addr
  fd_Cast___contains__ : FuncData
  F_Cast___contains__ : FunD K "__contains__" "Cast.__contains__" (defArgs s_Cast___contains__) (defBody s_Cast___contains__) (defScope s_Cast___contains__) [] [] f_Cast___contains__ fd_Cast___contains__
  M_Cast___contains__ : Meth K C_Cast "__contains__" f_Cast___contains__
  d_Cast___contains__ : Mu.Dun K C_Cast "__contains__" f_Cast___contains__
  f_check_pattern : Addr
  fd_check_pattern : FuncData
  F_check_pattern : FunD K "check_pattern" "check_pattern" (defArgs s_check_pattern) (defBody s_check_pattern) (defScope s_check_pattern) [] [] f_check_pattern fd_check_pattern
  g_check_pattern : mg "check_pattern" = some (.ref f_check_pattern)
  f_open_places : Addr
  fd_open_places : FuncData
  F_open_places : FunD K "open_places" "open_places" (defArgs s_open_places) (defBody s_open_places) (defScope s_open_places) [] [] f_open_places fd_open_places
  g_open_places : mg "open_places" = some (.ref f_open_places)
  f_next_places : Addr
  fd_next_places : FuncData
  F_next_places : FunD K "next_places" "next_places" (defArgs s_next_places) (defBody s_next_places) (defScope s_next_places) [] [] f_next_places fd_next_places
  g_next_places : mg "next_places" = some (.ref f_next_places)
  f__law_all_rows : Addr
  fd__law_all_rows : FuncData
  F__law_all_rows : FunD K "_law_all_rows" "_law_all_rows" (defArgs s__law_all_rows) (defBody s__law_all_rows) (defScope s__law_all_rows) [] [] f__law_all_rows fd__law_all_rows
  g__law_all_rows : mg "_law_all_rows" = some (.ref f__law_all_rows)
  f_could_end : Addr
  fd_could_end : FuncData
  F_could_end : FunD K "could_end" "could_end" (defArgs s_could_end) (defBody s_could_end) (defScope s_could_end) [] [] f_could_end fd_could_end
  g_could_end : mg "could_end" = some (.ref f_could_end)
  f_rows_of : Addr
  fd_rows_of : FuncData
  F_rows_of : FunD K "rows_of" "rows_of" (defArgs s_rows_of) (defBody s_rows_of) (defScope s_rows_of) [] [] f_rows_of fd_rows_of
  g_rows_of : mg "rows_of" = some (.ref f_rows_of)
  f__law_pattern : Addr
  fd__law_pattern : FuncData
  F__law_pattern : FunD K "_law_pattern" "_law_pattern" (defArgs s__law_pattern) (defBody s__law_pattern) (defScope s__law_pattern) [] [] f__law_pattern fd__law_pattern
  g__law_pattern : mg "_law_pattern" = some (.ref f__law_pattern)
  f__law_matches : Addr
  fd__law_matches : FuncData
  F__law_matches : FunD K "_law_matches" "_law_matches" (defArgs s__law_matches) (defBody s__law_matches) (defScope s__law_matches) [] [] f__law_matches fd__law_matches
  g__law_matches : mg "_law_matches" = some (.ref f__law_matches)
  f__law_first_of_forty : Addr
  fd__law_first_of_forty : FuncData
  F__law_first_of_forty : FunD K "_law_first_of_forty" "_law_first_of_forty" (defArgs s__law_first_of_forty) (defBody s__law_first_of_forty) (defScope s__law_first_of_forty) [] [] f__law_first_of_forty fd__law_first_of_forty
  g__law_first_of_forty : mg "_law_first_of_forty" = some (.ref f__law_first_of_forty)
  f_law : Addr
  fd_law : FuncData
  F_law : FunD K "law" "law" (defArgs s_law) (defBody s_law) (defScope s_law) [] [] f_law fd_law
  g_law : mg "law" = some (.ref f_law)
  pf : Mu.PF P "/claim/cut.py"
  m_super : mg "super" = none
  C_UnknownPerson : Addr
  g_UnknownPerson : mg "UnknownPerson" = some (.ref C_UnknownPerson)
  C_BadPerson : Addr
  g_BadPerson : mg "BadPerson" = some (.ref C_BadPerson)
  C_UnknownWord : Addr
  g_UnknownWord : mg "UnknownWord" = some (.ref C_UnknownWord)
  C_BadPattern : Addr
  g_BadPattern : mg "BadPattern" = some (.ref C_BadPattern)
  f_UnknownPerson___init__ : Addr
  fd_UnknownPerson___init__ : FuncData
  cda_UnknownPerson___init__ : Addr
  cc_UnknownPerson___init__ : Addr
  S_UnknownPerson___init__ : Mu.FunS K "__init__" "UnknownPerson.__init__" (defArgs s_UnknownPerson___init__) (defBody s_UnknownPerson___init__) (defScope s_UnknownPerson___init__) "/claim/cut.py" C_UnknownPerson f_UnknownPerson___init__ fd_UnknownPerson___init__ cda_UnknownPerson___init__ cc_UnknownPerson___init__
  err_UnknownPerson : Mu.ErrC K C_UnknownPerson f_UnknownPerson___init__
  nf_UnknownPerson_letter : PySem.W.findIn K (.ref C_UnknownPerson) "letter" = some none
  nf_UnknownPerson_place : PySem.W.findIn K (.ref C_UnknownPerson) "place" = some none
  xm_UnknownPerson : PySem.W.exmOne K (.ref C_UnknownPerson) (.ref C_UnknownPerson) = some true
  f_BadPerson___init__ : Addr
  fd_BadPerson___init__ : FuncData
  cda_BadPerson___init__ : Addr
  cc_BadPerson___init__ : Addr
  S_BadPerson___init__ : Mu.FunS K "__init__" "BadPerson.__init__" (defArgs s_BadPerson___init__) (defBody s_BadPerson___init__) (defScope s_BadPerson___init__) "/claim/cut.py" C_BadPerson f_BadPerson___init__ fd_BadPerson___init__ cda_BadPerson___init__ cc_BadPerson___init__
  err_BadPerson : Mu.ErrC K C_BadPerson f_BadPerson___init__
  nf_BadPerson_part : PySem.W.findIn K (.ref C_BadPerson) "part" = some none
  xm_BadPerson : PySem.W.exmOne K (.ref C_BadPerson) (.ref C_BadPerson) = some true
  f_UnknownWord___init__ : Addr
  fd_UnknownWord___init__ : FuncData
  cda_UnknownWord___init__ : Addr
  cc_UnknownWord___init__ : Addr
  S_UnknownWord___init__ : Mu.FunS K "__init__" "UnknownWord.__init__" (defArgs s_UnknownWord___init__) (defBody s_UnknownWord___init__) (defScope s_UnknownWord___init__) "/claim/cut.py" C_UnknownWord f_UnknownWord___init__ fd_UnknownWord___init__ cda_UnknownWord___init__ cc_UnknownWord___init__
  err_UnknownWord : Mu.ErrC K C_UnknownWord f_UnknownWord___init__
  nf_UnknownWord_word : PySem.W.findIn K (.ref C_UnknownWord) "word" = some none
  xm_UnknownWord : PySem.W.exmOne K (.ref C_UnknownWord) (.ref C_UnknownWord) = some true
  f_BadPattern___init__ : Addr
  fd_BadPattern___init__ : FuncData
  cda_BadPattern___init__ : Addr
  cc_BadPattern___init__ : Addr
  S_BadPattern___init__ : Mu.FunS K "__init__" "BadPattern.__init__" (defArgs s_BadPattern___init__) (defBody s_BadPattern___init__) (defScope s_BadPattern___init__) "/claim/cut.py" C_BadPattern f_BadPattern___init__ fd_BadPattern___init__ cda_BadPattern___init__ cc_BadPattern___init__
  err_BadPattern : Mu.ErrC K C_BadPattern f_BadPattern___init__
  nf_BadPattern_place : PySem.W.findIn K (.ref C_BadPattern) "place" = some none
  xm_BadPattern : PySem.W.exmOne K (.ref C_BadPattern) (.ref C_BadPattern) = some true
  f_Knower___init__ : Addr
  fd_Knower___init__ : FuncData
  cda_Knower___init__ : Addr
  cc_Knower___init__ : Addr
  S_Knower___init__ : Mu.FunS K "__init__" "Knower.__init__" (defArgs s_Knower___init__) (defBody s_Knower___init__) (defScope s_Knower___init__) "/claim/cut.py" C_Knower f_Knower___init__ fd_Knower___init__ cda_Knower___init__ cc_Knower___init__
  mk_Knower : Mk K C_Knower f_Knower___init__
  f_Doubter_said : Addr
  fd_Doubter_said : FuncData
  cda_Doubter_said : Addr
  cc_Doubter_said : Addr
  S_Doubter_said : Mu.FunS K "said" "Doubter.said" (defArgs s_Doubter_said) (defBody s_Doubter_said) (defScope s_Doubter_said) "/claim/cut.py" C_Doubter f_Doubter_said fd_Doubter_said cda_Doubter_said cc_Doubter_said
  M_Doubter_said : Meth K C_Doubter "said" f_Doubter_said
  f_Knower_said : Addr
  fd_Knower_said : FuncData
  cda_Knower_said : Addr
  cc_Knower_said : Addr
  S_Knower_said : Mu.FunS K "said" "Knower.said" (defArgs s_Knower_said) (defBody s_Knower_said) (defScope s_Knower_said) "/claim/cut.py" C_Knower f_Knower_said fd_Knower_said cda_Knower_said cc_Knower_said
  M_Knower_said : Meth K C_Knower "said" f_Knower_said
  f_KnowingDoubter_said : Addr
  fd_KnowingDoubter_said : FuncData
  cda_KnowingDoubter_said : Addr
  cc_KnowingDoubter_said : Addr
  S_KnowingDoubter_said : Mu.FunS K "said" "KnowingDoubter.said" (defArgs s_KnowingDoubter_said) (defBody s_KnowingDoubter_said) (defScope s_KnowingDoubter_said) "/claim/cut.py" C_KnowingDoubter f_KnowingDoubter_said fd_KnowingDoubter_said cda_KnowingDoubter_said cc_KnowingDoubter_said
  M_KnowingDoubter_said : Meth K C_KnowingDoubter "said" f_KnowingDoubter_said
  mk_Doubter : Mk K C_Doubter f_Person___init__
  mk_KnowingDoubter : Mk K C_KnowingDoubter f_Knower___init__
  M_Knower_heard : Meth K C_Knower "heard" f_Person_heard
  M_Doubter_heard : Meth K C_Doubter "heard" f_Person_heard
  M_KnowingDoubter_heard : Meth K C_KnowingDoubter "heard" f_Person_heard
  sup_Knower_Knower___init__ : Mu.SupF K C_Knower C_Knower "__init__" f_Person___init__
  sup_KnowingDoubter_Knower___init__ : Mu.SupF K C_KnowingDoubter C_Knower "__init__" f_Person___init__
  sup_Doubter_Doubter_said : Mu.SupF K C_Doubter C_Doubter "said" f_Person_said
  sup_KnowingDoubter_Doubter_said : Mu.SupF K C_KnowingDoubter C_Doubter "said" f_Person_said
  sup_Knower_Knower_said : Mu.SupF K C_Knower C_Knower "said" f_Person_said
  sup_KnowingDoubter_Knower_said : Mu.SupF K C_KnowingDoubter C_Knower "said" f_Doubter_said
  sup_KnowingDoubter_KnowingDoubter_said : Mu.SupF K C_KnowingDoubter C_KnowingDoubter "said" f_Knower_said
  ty_Doubter_said : PySem.W.typeIn K (.ref f_Doubter_said) = some (.type "function")
  ty_Knower_said : PySem.W.typeIn K (.ref f_Knower_said) = some (.type "function")
  ty_Person___init__ : PySem.W.typeIn K (.ref f_Person___init__) = some (.type "function")
  ty_Person_said : PySem.W.typeIn K (.ref f_Person_said) = some (.type "function")
  m_len : mg "len" = none
  m_range : mg "range" = none
  m_tuple : mg "tuple" = none
  m_list : mg "list" = none
  m_int : mg "int" = none
  m_abs : mg "abs" = none
  m_enumerate : mg "enumerate" = none
  m_isinstance : mg "isinstance" = none
  m_bool : mg "bool" = none
  m_str : mg "str" = none
  m_sorted : mg "sorted" = none
  m_iter : mg "iter" = none
  m_min : mg "min" = none
  m_ValueError : mg "ValueError" = none
  gi_GREATEST_SIZE : ∃ t, mg "GREATEST_SIZE" = some (.int 6 t)
  gi_MOST_PEOPLE : ∃ t, mg "MOST_PEOPLE" = some (.int 8 t)
  gi_MOST_SIGNS : ∃ t, mg "MOST_SIGNS" = some (.int 12 t)
  gs_LETTERS : ∃ t, mg "LETTERS" = some (.str "abcdefghijklmnopqrstuvwxyz" t)
theorem mkTx {P : Program} {K : PySem.W.Frag} {h : Heap} {mg : Str → Option Value} (pf : Mu.PF P "/claim/cut.py") (X : K.In h) (G : h.Ns mainGlobals mg) (c : Mu.SaysP fa ex fn sn an K) : ∃ T : Tx P K mg, T.f_law = fAd K ("law", none) := by
  obtain ⟨fd_Person_table, F_Person_table⟩ := c.any_ 0 (d := d_Person_table) rfl
  obtain ⟨fd_bits, F_bits⟩ := c.def_ 0 (d := d_bits) rfl
  obtain ⟨fd_mask_of, F_mask_of⟩ := c.def_ 1 (d := d_mask_of) rfl
  obtain ⟨fd_masks_of, F_masks_of⟩ := c.def_ 2 (d := d_masks_of) rfl
  obtain ⟨fd_check_size, F_check_size⟩ := c.def_ 3 (d := d_check_size) rfl
  obtain ⟨fd_check_sizes, F_check_sizes⟩ := c.def_ 4 (d := d_check_sizes) rfl
  obtain ⟨fd_Table___init__, F_Table___init__⟩ := c.def_ 5 (d := d_Table___init__) rfl
  obtain ⟨fd_all_words, F_all_words⟩ := c.def_ 6 (d := d_all_words) rfl
  obtain ⟨fd_check_person, F_check_person⟩ := c.def_ 7 (d := d_check_person) rfl
  obtain ⟨fd_Person___init__, F_Person___init__⟩ := c.def_ 8 (d := d_Person___init__) rfl
  obtain ⟨fd_check_word, F_check_word⟩ := c.def_ 9 (d := d_check_word) rfl
  obtain ⟨fd_Person_heard, F_Person_heard⟩ := c.def_ 10 (d := d_Person_heard) rfl
  obtain ⟨fd_Person_said, F_Person_said⟩ := c.def_ 11 (d := d_Person_said) rfl
  obtain ⟨fd_Cast_put, F_Cast_put⟩ := c.def_ 12 (d := d_Cast_put) rfl
  obtain ⟨fd_Cast___init__, F_Cast___init__⟩ := c.def_ 13 (d := d_Cast___init__) rfl
  obtain ⟨fd__law_box, F__law_box⟩ := c.def_ 14 (d := d__law_box) rfl
  obtain ⟨fd__law_take, F__law_take⟩ := c.def_ 15 (d := d__law_take) rfl
  obtain ⟨fd__law_words, F__law_words⟩ := c.def_ 16 (d := d__law_words) rfl
  obtain ⟨fd__law_outs, F__law_outs⟩ := c.def_ 17 (d := d__law_outs) rfl
  obtain ⟨fd__law_person, F__law_person⟩ := c.def_ 18 (d := d__law_person) rfl
  obtain ⟨fd__law_letters, F__law_letters⟩ := c.def_ 19 (d := d__law_letters) rfl
  obtain ⟨fd__law_folk, F__law_folk⟩ := c.def_ 20 (d := d__law_folk) rfl
  obtain ⟨fd__law_own, F__law_own⟩ := c.def_ 21 (d := d__law_own) rfl
  obtain ⟨fd__law_made, F__law_made⟩ := c.def_ 22 (d := d__law_made) rfl
  obtain ⟨fd__law_cast, F__law_cast⟩ := c.def_ 23 (d := d__law_cast) rfl
  obtain ⟨fd_Cast_letters, F_Cast_letters⟩ := c.def_ 24 (d := d_Cast_letters) rfl
  obtain ⟨fd_Cast___contains__, F_Cast___contains__⟩ := c.def_ 25 (d := d_Cast___contains__) rfl
  obtain ⟨fd_check_pattern, F_check_pattern⟩ := c.def_ 26 (d := d_check_pattern) rfl
  obtain ⟨fd_open_places, F_open_places⟩ := c.def_ 27 (d := d_open_places) rfl
  obtain ⟨fd_next_places, F_next_places⟩ := c.def_ 28 (d := d_next_places) rfl
  obtain ⟨fd__law_all_rows, F__law_all_rows⟩ := c.def_ 29 (d := d__law_all_rows) rfl
  obtain ⟨fd_could_end, F_could_end⟩ := c.def_ 30 (d := d_could_end) rfl
  obtain ⟨fd_rows_of, F_rows_of⟩ := c.def_ 31 (d := d_rows_of) rfl
  obtain ⟨fd__law_pattern, F__law_pattern⟩ := c.def_ 32 (d := d__law_pattern) rfl
  obtain ⟨fd__law_matches, F__law_matches⟩ := c.def_ 33 (d := d__law_matches) rfl
  obtain ⟨fd__law_first_of_forty, F__law_first_of_forty⟩ := c.def_ 34 (d := d__law_first_of_forty) rfl
  obtain ⟨fd_law, F_law⟩ := c.def_ 35 (d := d_law) rfl
  obtain ⟨fd_UnknownPerson___init__, cda_UnknownPerson___init__, cc_UnknownPerson___init__, S_UnknownPerson___init__⟩ := c.sup_ 0 (d := d_UnknownPerson___init__) rfl
  obtain ⟨fd_BadPerson___init__, cda_BadPerson___init__, cc_BadPerson___init__, S_BadPerson___init__⟩ := c.sup_ 1 (d := d_BadPerson___init__) rfl
  obtain ⟨fd_UnknownWord___init__, cda_UnknownWord___init__, cc_UnknownWord___init__, S_UnknownWord___init__⟩ := c.sup_ 2 (d := d_UnknownWord___init__) rfl
  obtain ⟨fd_BadPattern___init__, cda_BadPattern___init__, cc_BadPattern___init__, S_BadPattern___init__⟩ := c.sup_ 3 (d := d_BadPattern___init__) rfl
  obtain ⟨fd_Knower___init__, cda_Knower___init__, cc_Knower___init__, S_Knower___init__⟩ := c.sup_ 4 (d := d_Knower___init__) rfl
  obtain ⟨fd_Doubter_said, cda_Doubter_said, cc_Doubter_said, S_Doubter_said⟩ := c.sup_ 5 (d := d_Doubter_said) rfl
  obtain ⟨fd_Knower_said, cda_Knower_said, cc_Knower_said, S_Knower_said⟩ := c.sup_ 6 (d := d_Knower_said) rfl
  obtain ⟨fd_KnowingDoubter_said, cda_KnowingDoubter_said, cc_KnowingDoubter_said, S_KnowingDoubter_said⟩ := c.sup_ 7 (d := d_KnowingDoubter_said) rfl
  exact ⟨⟨ga K "Table", glo_ok X G (c.fact 0 (f := .glo "Table") rfl), cls_ok (c.fact 1 (f := .cls "Table") rfl), Mu.isCB_ok (cls_ok (c.fact 2 (f := .cls "Table") rfl)) (c.exf 0 (f := (fun K => Mu.isCB K (ga K "Table"))) rfl), (c.exf 1 (f := (fun K => PySem.W.selfFirst K (ga K "Table"))) rfl), noat_ok (c.fact 3 (f := .noat "Table" "size") rfl), noat_ok (c.fact 4 (f := .noat "Table" "masks") rfl), noat_ok (c.fact 5 (f := .noat "Table" "cells") rfl), ga K "Person", glo_ok X G (c.fact 6 (f := .glo "Person") rfl), cls_ok (c.fact 7 (f := .cls "Person") rfl), noat_ok (c.fact 8 (f := .noat "Person" "size") rfl), noat_ok (c.fact 9 (f := .noat "Person" "ears") rfl), noat_ok (c.fact 10 (f := .noat "Person" "mouths") rfl), ga K "Cast", glo_ok X G (c.fact 11 (f := .glo "Cast") rfl), cls_ok (c.fact 12 (f := .cls "Cast") rfl), noat_ok (c.fact 13 (f := .noat "Cast" "size") rfl), noat_ok (c.fact 14 (f := .noat "Cast" "folk") rfl), noat_ok (c.fact 15 (f := .noat "Cast" "roster") rfl), ga K "Knower", glo_ok X G (c.fact 16 (f := .glo "Knower") rfl), cls_ok (c.fact 17 (f := .cls "Knower") rfl), noat_ok (c.fact 18 (f := .noat "Knower" "size") rfl), noat_ok (c.fact 19 (f := .noat "Knower" "ears") rfl), noat_ok (c.fact 20 (f := .noat "Knower" "mouths") rfl), noat_ok (c.fact 21 (f := .noat "Knower" "sure_words") rfl), ga K "Doubter", glo_ok X G (c.fact 22 (f := .glo "Doubter") rfl), cls_ok (c.fact 23 (f := .cls "Doubter") rfl), noat_ok (c.fact 24 (f := .noat "Doubter" "size") rfl), noat_ok (c.fact 25 (f := .noat "Doubter" "ears") rfl), noat_ok (c.fact 26 (f := .noat "Doubter" "mouths") rfl), ga K "KnowingDoubter", glo_ok X G (c.fact 27 (f := .glo "KnowingDoubter") rfl), cls_ok (c.fact 28 (f := .cls "KnowingDoubter") rfl), noat_ok (c.fact 29 (f := .noat "KnowingDoubter" "size") rfl), noat_ok (c.fact 30 (f := .noat "KnowingDoubter" "ears") rfl), noat_ok (c.fact 31 (f := .noat "KnowingDoubter" "mouths") rfl), noat_ok (c.fact 32 (f := .noat "KnowingDoubter" "sure_words") rfl), Mu.pAd K "Person" "table" "property", fd_Person_table, F_Person_table, Mu.propB_ok (c.exf 2 (f := (fun K => Mu.propB K (ga K "Person") "table" (Mu.pAd K "Person" "table" "property"))) rfl), Mu.propB_ok (c.exf 3 (f := (fun K => Mu.propB K (ga K "Knower") "table" (Mu.pAd K "Person" "table" "property"))) rfl), Mu.propB_ok (c.exf 4 (f := (fun K => Mu.propB K (ga K "Doubter") "table" (Mu.pAd K "Person" "table" "property"))) rfl), Mu.propB_ok (c.exf 5 (f := (fun K => Mu.propB K (ga K "KnowingDoubter") "table" (Mu.pAd K "Person" "table" "property"))) rfl), fAd K ("bits", none), fd_bits, F_bits, glo_ok X G (c.fact 33 (f := .glo "bits") rfl), fAd K ("mask_of", none), fd_mask_of, F_mask_of, glo_ok X G (c.fact 34 (f := .glo "mask_of") rfl), fAd K ("masks_of", none), fd_masks_of, F_masks_of, glo_ok X G (c.fact 35 (f := .glo "masks_of") rfl), fAd K ("check_size", none), fd_check_size, F_check_size, glo_ok X G (c.fact 36 (f := .glo "check_size") rfl), fAd K ("check_sizes", none), fd_check_sizes, F_check_sizes, glo_ok X G (c.fact 37 (f := .glo "check_sizes") rfl), fAd K ("Table", some "__init__"), fd_Table___init__, F_Table___init__, mkr_ok (c.fact 38 (f := .mkr "Table") rfl), fAd K ("all_words", none), fd_all_words, F_all_words, glo_ok X G (c.fact 39 (f := .glo "all_words") rfl), fAd K ("check_person", none), fd_check_person, F_check_person, glo_ok X G (c.fact 40 (f := .glo "check_person") rfl), fAd K ("Person", some "__init__"), fd_Person___init__, F_Person___init__, mkr_ok (c.fact 41 (f := .mkr "Person") rfl), fAd K ("check_word", none), fd_check_word, F_check_word, glo_ok X G (c.fact 42 (f := .glo "check_word") rfl), fAd K ("Person", some "heard"), fd_Person_heard, F_Person_heard, meth_ok (c.fact 43 (f := .meth "Person" "heard") rfl), ⟨(meth_ok (c.fact 43 (f := .meth "Person" "heard") rfl)).1, (meth_ok (c.fact 43 (f := .meth "Person" "heard") rfl)).2⟩, fAd K ("Person", some "said"), fd_Person_said, F_Person_said, meth_ok (c.fact 44 (f := .meth "Person" "said") rfl), ⟨(meth_ok (c.fact 44 (f := .meth "Person" "said") rfl)).1, (meth_ok (c.fact 44 (f := .meth "Person" "said") rfl)).2⟩, fAd K ("Cast", some "put"), fd_Cast_put, F_Cast_put, meth_ok (c.fact 45 (f := .meth "Cast" "put") rfl), ⟨(meth_ok (c.fact 45 (f := .meth "Cast" "put") rfl)).1, (meth_ok (c.fact 45 (f := .meth "Cast" "put") rfl)).2⟩, fAd K ("Cast", some "__init__"), fd_Cast___init__, F_Cast___init__, mkr_ok (c.fact 46 (f := .mkr "Cast") rfl), fAd K ("_law_box", none), fd__law_box, F__law_box, glo_ok X G (c.fact 47 (f := .glo "_law_box") rfl), fAd K ("_law_take", none), fd__law_take, F__law_take, glo_ok X G (c.fact 48 (f := .glo "_law_take") rfl), fAd K ("_law_words", none), fd__law_words, F__law_words, glo_ok X G (c.fact 49 (f := .glo "_law_words") rfl), fAd K ("_law_outs", none), fd__law_outs, F__law_outs, glo_ok X G (c.fact 50 (f := .glo "_law_outs") rfl), fAd K ("_law_person", none), fd__law_person, F__law_person, glo_ok X G (c.fact 51 (f := .glo "_law_person") rfl), fAd K ("_law_letters", none), fd__law_letters, F__law_letters, glo_ok X G (c.fact 52 (f := .glo "_law_letters") rfl), fAd K ("_law_folk", none), fd__law_folk, F__law_folk, glo_ok X G (c.fact 53 (f := .glo "_law_folk") rfl), fAd K ("_law_own", none), fd__law_own, F__law_own, glo_ok X G (c.fact 54 (f := .glo "_law_own") rfl), fAd K ("_law_made", none), fd__law_made, F__law_made, glo_ok X G (c.fact 55 (f := .glo "_law_made") rfl), fAd K ("_law_cast", none), fd__law_cast, F__law_cast, glo_ok X G (c.fact 56 (f := .glo "_law_cast") rfl), fAd K ("Cast", some "letters"), fd_Cast_letters, F_Cast_letters, meth_ok (c.fact 57 (f := .meth "Cast" "letters") rfl), ⟨(meth_ok (c.fact 57 (f := .meth "Cast" "letters") rfl)).1, (meth_ok (c.fact 57 (f := .meth "Cast" "letters") rfl)).2⟩, fAd K ("Cast", some "__contains__"), fd_Cast___contains__, F_Cast___contains__, meth_ok (c.fact 58 (f := .meth "Cast" "__contains__") rfl), ⟨(meth_ok (c.fact 58 (f := .meth "Cast" "__contains__") rfl)).1, (meth_ok (c.fact 58 (f := .meth "Cast" "__contains__") rfl)).2⟩, fAd K ("check_pattern", none), fd_check_pattern, F_check_pattern, glo_ok X G (c.fact 59 (f := .glo "check_pattern") rfl), fAd K ("open_places", none), fd_open_places, F_open_places, glo_ok X G (c.fact 60 (f := .glo "open_places") rfl), fAd K ("next_places", none), fd_next_places, F_next_places, glo_ok X G (c.fact 61 (f := .glo "next_places") rfl), fAd K ("_law_all_rows", none), fd__law_all_rows, F__law_all_rows, glo_ok X G (c.fact 62 (f := .glo "_law_all_rows") rfl), fAd K ("could_end", none), fd_could_end, F_could_end, glo_ok X G (c.fact 63 (f := .glo "could_end") rfl), fAd K ("rows_of", none), fd_rows_of, F_rows_of, glo_ok X G (c.fact 64 (f := .glo "rows_of") rfl), fAd K ("_law_pattern", none), fd__law_pattern, F__law_pattern, glo_ok X G (c.fact 65 (f := .glo "_law_pattern") rfl), fAd K ("_law_matches", none), fd__law_matches, F__law_matches, glo_ok X G (c.fact 66 (f := .glo "_law_matches") rfl), fAd K ("_law_first_of_forty", none), fd__law_first_of_forty, F__law_first_of_forty, glo_ok X G (c.fact 67 (f := .glo "_law_first_of_forty") rfl), fAd K ("law", none), fd_law, F_law, glo_ok X G (c.fact 68 (f := .glo "law") rfl), pf, free_ok X G (c.fact 69 (f := .free "super") rfl), ga K "UnknownPerson", glo_ok X G (c.fact 70 (f := .glo "UnknownPerson") rfl), ga K "BadPerson", glo_ok X G (c.fact 71 (f := .glo "BadPerson") rfl), ga K "UnknownWord", glo_ok X G (c.fact 72 (f := .glo "UnknownWord") rfl), ga K "BadPattern", glo_ok X G (c.fact 73 (f := .glo "BadPattern") rfl), fAd K ("UnknownPerson", some "__init__"), fd_UnknownPerson___init__, cda_UnknownPerson___init__, cc_UnknownPerson___init__, S_UnknownPerson___init__, Mu.errB_ok (c.exf 6 (f := (fun K => Mu.errB K (ga K "UnknownPerson") (fAd K ("UnknownPerson", some "__init__")))) rfl), He.eqO_ok (c.exf 7 (f := (fun K => He.eqO (PySem.W.findIn K (.ref (ga K "UnknownPerson")) "letter") (some none))) rfl), He.eqO_ok (c.exf 8 (f := (fun K => He.eqO (PySem.W.findIn K (.ref (ga K "UnknownPerson")) "place") (some none))) rfl), of_decide_eq_true (c.exf 9 (f := (fun K => decide (PySem.W.exmOne K (.ref (ga K "UnknownPerson")) (.ref (ga K "UnknownPerson")) = some true))) rfl), fAd K ("BadPerson", some "__init__"), fd_BadPerson___init__, cda_BadPerson___init__, cc_BadPerson___init__, S_BadPerson___init__, Mu.errB_ok (c.exf 10 (f := (fun K => Mu.errB K (ga K "BadPerson") (fAd K ("BadPerson", some "__init__")))) rfl), He.eqO_ok (c.exf 11 (f := (fun K => He.eqO (PySem.W.findIn K (.ref (ga K "BadPerson")) "part") (some none))) rfl), of_decide_eq_true (c.exf 12 (f := (fun K => decide (PySem.W.exmOne K (.ref (ga K "BadPerson")) (.ref (ga K "BadPerson")) = some true))) rfl), fAd K ("UnknownWord", some "__init__"), fd_UnknownWord___init__, cda_UnknownWord___init__, cc_UnknownWord___init__, S_UnknownWord___init__, Mu.errB_ok (c.exf 13 (f := (fun K => Mu.errB K (ga K "UnknownWord") (fAd K ("UnknownWord", some "__init__")))) rfl), He.eqO_ok (c.exf 14 (f := (fun K => He.eqO (PySem.W.findIn K (.ref (ga K "UnknownWord")) "word") (some none))) rfl), of_decide_eq_true (c.exf 15 (f := (fun K => decide (PySem.W.exmOne K (.ref (ga K "UnknownWord")) (.ref (ga K "UnknownWord")) = some true))) rfl), fAd K ("BadPattern", some "__init__"), fd_BadPattern___init__, cda_BadPattern___init__, cc_BadPattern___init__, S_BadPattern___init__, Mu.errB_ok (c.exf 16 (f := (fun K => Mu.errB K (ga K "BadPattern") (fAd K ("BadPattern", some "__init__")))) rfl), He.eqO_ok (c.exf 17 (f := (fun K => He.eqO (PySem.W.findIn K (.ref (ga K "BadPattern")) "place") (some none))) rfl), of_decide_eq_true (c.exf 18 (f := (fun K => decide (PySem.W.exmOne K (.ref (ga K "BadPattern")) (.ref (ga K "BadPattern")) = some true))) rfl), fAd K ("Knower", some "__init__"), fd_Knower___init__, cda_Knower___init__, cc_Knower___init__, S_Knower___init__, mkr_ok (c.fact 74 (f := .mkr "Knower") rfl), fAd K ("Doubter", some "said"), fd_Doubter_said, cda_Doubter_said, cc_Doubter_said, S_Doubter_said, meth_ok (c.fact 75 (f := .meth "Doubter" "said") rfl), fAd K ("Knower", some "said"), fd_Knower_said, cda_Knower_said, cc_Knower_said, S_Knower_said, meth_ok (c.fact 76 (f := .meth "Knower" "said") rfl), fAd K ("KnowingDoubter", some "said"), fd_KnowingDoubter_said, cda_KnowingDoubter_said, cc_KnowingDoubter_said, S_KnowingDoubter_said, meth_ok (c.fact 77 (f := .meth "KnowingDoubter" "said") rfl), Mu.mkB_ok (c.exf 19 (f := (fun K => Mu.mkB K (ga K "Doubter") (fAd K ("Person", some "__init__")))) rfl), Mu.mkB_ok (c.exf 20 (f := (fun K => Mu.mkB K (ga K "KnowingDoubter") (fAd K ("Knower", some "__init__")))) rfl), Mu.methB_ok (c.exf 21 (f := (fun K => Mu.methB K (ga K "Knower") "heard" (fAd K ("Person", some "heard")))) rfl), Mu.methB_ok (c.exf 22 (f := (fun K => Mu.methB K (ga K "Doubter") "heard" (fAd K ("Person", some "heard")))) rfl), Mu.methB_ok (c.exf 23 (f := (fun K => Mu.methB K (ga K "KnowingDoubter") "heard" (fAd K ("Person", some "heard")))) rfl), Mu.supFB_ok (c.exf 24 (f := (fun K => Mu.supFB K (ga K "Knower") (ga K "Knower") "__init__" (fAd K ("Person", some "__init__")))) rfl), Mu.supFB_ok (c.exf 25 (f := (fun K => Mu.supFB K (ga K "KnowingDoubter") (ga K "Knower") "__init__" (fAd K ("Person", some "__init__")))) rfl), Mu.supFB_ok (c.exf 26 (f := (fun K => Mu.supFB K (ga K "Doubter") (ga K "Doubter") "said" (fAd K ("Person", some "said")))) rfl), Mu.supFB_ok (c.exf 27 (f := (fun K => Mu.supFB K (ga K "KnowingDoubter") (ga K "Doubter") "said" (fAd K ("Person", some "said")))) rfl), Mu.supFB_ok (c.exf 28 (f := (fun K => Mu.supFB K (ga K "Knower") (ga K "Knower") "said" (fAd K ("Person", some "said")))) rfl), Mu.supFB_ok (c.exf 29 (f := (fun K => Mu.supFB K (ga K "KnowingDoubter") (ga K "Knower") "said" (fAd K ("Doubter", some "said")))) rfl), Mu.supFB_ok (c.exf 30 (f := (fun K => Mu.supFB K (ga K "KnowingDoubter") (ga K "KnowingDoubter") "said" (fAd K ("Knower", some "said")))) rfl), of_decide_eq_true (c.exf 31 (f := (fun K => decide (PySem.W.typeIn K (.ref (fAd K ("Doubter", some "said"))) = some (.type "function")))) rfl), of_decide_eq_true (c.exf 32 (f := (fun K => decide (PySem.W.typeIn K (.ref (fAd K ("Knower", some "said"))) = some (.type "function")))) rfl), of_decide_eq_true (c.exf 33 (f := (fun K => decide (PySem.W.typeIn K (.ref (fAd K ("Person", some "__init__"))) = some (.type "function")))) rfl), of_decide_eq_true (c.exf 34 (f := (fun K => decide (PySem.W.typeIn K (.ref (fAd K ("Person", some "said"))) = some (.type "function")))) rfl), free_ok X G (c.fact 78 (f := .free "len") rfl), free_ok X G (c.fact 79 (f := .free "range") rfl), free_ok X G (c.fact 80 (f := .free "tuple") rfl), free_ok X G (c.fact 81 (f := .free "list") rfl), free_ok X G (c.fact 82 (f := .free "int") rfl), free_ok X G (c.fact 83 (f := .free "abs") rfl), free_ok X G (c.fact 84 (f := .free "enumerate") rfl), free_ok X G (c.fact 85 (f := .free "isinstance") rfl), free_ok X G (c.fact 86 (f := .free "bool") rfl), free_ok X G (c.fact 87 (f := .free "str") rfl), free_ok X G (c.fact 88 (f := .free "sorted") rfl), free_ok X G (c.fact 89 (f := .free "iter") rfl), free_ok X G (c.fact 90 (f := .free "min") rfl), free_ok X G (c.fact 91 (f := .free "ValueError") rfl), int_ok X G (c.fact 92 (f := .int "GREATEST_SIZE" 6) rfl), int_ok X G (c.fact 93 (f := .int "MOST_PEOPLE" 8) rfl), int_ok X G (c.fact 94 (f := .int "MOST_SIGNS" 12) rfl), str_ok X G (c.fact 95 (f := .str "LETTERS" "abcdefghijklmnopqrstuvwxyz") rfl)⟩, rfl⟩
end MuL

namespace MuL
open PySem PySem.Spec PyProof.Rows L2 He Evl Mu
section
variable {P : Program} {w : World} {K : PySem.W.Frag} {mg : Str → Option Value} {base : Heap}
local macro_rules | `(tactic| wtm_at "s") => `(tactic| first | assumption | omega | exact rfl | decide | wtm_at "s2")
local macro_rules | `(tactic| wtm_at "s2") => `(tactic| (simp only [List.length_map, List.length_range, List.length_cons, List.length_nil, List.length_append, List.length_take, List.length_drop]; omega))
local macro_rules | `(tactic| wtm_at "j") => `(tactic| first | exact List.mem_cons_self | (simp; done))
local macro_rules | `(tactic| wtm_at "tr") => `(tactic| (apply t_is; (focus (wtm_at "t")); exact rfl))
local macro_rules | `(tactic| wtm_at "bs") => `(tactic| first | exact rfl | (simp; done) | (simp [*]; done))
local macro_rules | `(tactic| wtm_at "yes") => `(tactic| (apply w_yes; (focus (apply t_is; (focus (wtm_at "t")); first | exact rfl | (simp; done) | (simp [*]; done)))))
local macro_rules | `(tactic| wtm_at "no") => `(tactic| (apply w_no; (focus (apply t_is; (focus (wtm_at "t")); first | exact rfl | (simp; done) | (simp [*]; done)))))
local macro_rules | `(tactic| wtm_at "nn") => `(tactic| first | exact nn_tab | exact nn_L | exact nn_T | exact nn_I)
local macro_rules | `(tactic| wtm_at "sub") => `(tactic| repeat' first | exact Paired.nil | refine Paired.cons (Or.inr rfl) ?_ | refine Paired.cons (Or.inl rfl) ?_)
local macro_rules | `(tactic| wtm_at "o") => `(tactic| first
    | ((with_reducible show OM (L2.rI CMul _) _ _ _ _); first | refine om (x_mulN (x_v rfl) (x_v rfl) (by first | exact .inl (by wtm_at "s") | exact .inr (by wtm_at "s"))) ?_)
    | ((with_reducible show OM (L2.rI CDiv _) _ _ _ _); first | refine om (x_divN (x_v rfl) (x_v rfl) (by wtm_at "s") (by wtm_at "s")) ?_)
    | ((with_reducible show OM (rI0 _) _ _ _ _); first | refine om (x_addN (x_v rfl) (x_v rfl)) ?_ | refine om (x_subN (x_v rfl) (x_v rfl) (by wtm_at "s")) ?_ | refine om (x_bandN (x_v rfl) (x_v rfl)) ?_ | refine om (x_borN (x_v rfl) (x_v rfl)) ?_ | refine om (x_ltN (x_v rfl) (x_v rfl)) ?_ | refine om (x_leN (x_v rfl) (x_v rfl)) ?_ | refine om (x_gtN (x_v rfl) (x_v rfl)) ?_ | refine om (x_geN (x_v rfl) (x_v rfl)) ?_ | refine om (x_I0 (x_v rfl) (x_v rfl)) ?_)
    | ((with_reducible show OM (L2.rI _ _) _ _ _ _); first | refine om (x_powN (x_v rfl) (x_v rfl) (by wtm_at "s") (by wtm_at "s")) ?_ | refine om (x_shrN (x_v rfl) (x_v rfl)) ?_ | refine om (x_shlN1 (x_v rfl) (x_v rfl) (by wtm_at "s")) ?_ | refine om (x_I (x_v rfl) (x_v rfl) (by wtm_at "s")) ?_)
    | ((with_reducible show OM rEq _ _ _ _); first | refine om (x_eqN (x_v rfl) (x_v rfl)) ?_ | refine om (x_eqI (x_v rfl) (x_v rfl)) ?_ | refine om (x_eqV (x_v rfl) (x_v rfl) rfl) ?_)
    | ((with_reducible show OM rNe _ _ _ _); first | refine om (x_neN (x_v rfl) (x_v rfl)) ?_ | refine om (x_neI (x_v rfl) (x_v rfl)) ?_ | refine om (x_neV (x_v rfl) (x_v rfl) rfl) ?_)
    | ((with_reducible show OM (rIxT _) _ _ _ _); first | refine om (x_ixTn (x_v rfl) (x_v rfl) (by wtm_at "s")) ?_ | refine om (x_ixT (x_v rfl) (x_v rfl) rfl) ?_ | refine om (x_ixTm default (x_v rfl) (x_v rfl) (by wtm_at "s")) ?_)
    | ((with_reducible show OM (rIxL _) _ _ _ _); first | refine om (x_ixB (x_v rfl) (x_v rfl) (by wtm_at "s")) ?_ | refine om (x_ixLn (x_v rfl) (x_v rfl) (by wtm_at "s")) ?_ | refine om (x_ixLL (x_v rfl) (x_v rfl) (by wtm_at "s")) ?_ | refine om_ixOwn 0 rfl (by wtm_at "s") ?_ | refine om_ixOwn 1 rfl (by wtm_at "s") ?_ | refine om_ixOwn 2 rfl (by wtm_at "s") ?_ | refine om_ixOwn 3 rfl (by wtm_at "s") ?_ | refine om (x_ixL (x_v rfl) (x_v rfl) rfl) ?_ | refine om (x_ixL (x_v rfl) (x_v rfl) (by assumption)) ?_ | refine om (x_ixLm default (x_v rfl) (x_v rfl) (by wtm_at "s")) ?_)
    | ((with_reducible show OM (rIn _ _) _ _ _ _); first | refine om (x_inLn (l := [_, _]) (x_v rfl) (x_v rfl)) ?_ | refine om (x_inLn (l := [_, _, _]) (x_v rfl) (x_v rfl)) ?_ | refine om (x_inLn (x_v rfl) (x_v rfl)) ?_ | refine om (x_niLn (x_v rfl) (x_v rfl)) ?_ | refine om (x_niTn (x_v rfl) (x_v rfl)) ?_ | refine om (x_inTi true (x_v rfl) (x_v rfl)) ?_ | refine om (x_inTi false (x_v rfl) (x_v rfl)) ?_ | refine om (x_inLi true (x_v rfl) (x_v rfl)) ?_ | refine om (x_inLi false (x_v rfl) (x_v rfl)) ?_)
    | ((with_reducible show OM (rEqD _) _ _ _ _); first | refine om (x_eqLn0 (x_v rfl) (x_v rfl)) ?_ | refine om (x_eqLn (x_v rfl) (x_v rfl)) ?_ | refine om (x_eqTn (x_v rfl) (x_v rfl)) ?_ | refine om (x_eqLL (x_v rfl) (x_v rfl)) ?_)
    | ((with_reducible show OM (rNeD _) _ _ _ _); first | refine om (x_neLn0 (x_v rfl) (x_v rfl)) ?_ | refine om (x_neLn (x_v rfl) (x_v rfl)) ?_ | refine om (x_neTn (x_v rfl) (x_v rfl)) ?_ | refine om (x_neLL (x_v rfl) (x_v rfl)) ?_ | refine om (x_neP (x_v rfl) (x_v rfl)) ?_)
    | ((with_reducible show OM (rInD _) _ _ _ _); first | refine om (x_inP (x_v rfl) (x_v rfl)) ?_)
    | ((with_reducible show OM (rNotInD _) _ _ _ _); first | refine om (x_niP (x_v rfl) (x_v rfl)) ?_)
    | ((with_reducible show OM (rInTD _) _ _ _ _); first | refine om (x_inTP (x_v rfl) (x_v rfl)) ?_)
    | ((with_reducible show OM rIsB _ _ _ _); first | refine om (x_isB (x_v rfl) (x_v rfl)) ?_)
    | ((with_reducible show OM rNotB _ _ _ _); first | refine om (x_isNB (x_v rfl) (x_v rfl)) ?_)
    | ((with_reducible show OM (fun _ _ _ _ => _ ∧ _) _ _ _ _); first | refine om_isN0 ?_ | refine om_notN0 ?_ | refine om_isN1 (by wtm_at "nn") ?_ | refine om_notN1 (by wtm_at "nn") ?_)
    | ((with_reducible show OM rInS _ _ _ _); first | refine om (x_inS (x_v rfl) (x_v rfl)) ?_)
    | ((with_reducible show OM rNotInS _ _ _ _); first | refine om (x_niS (x_v rfl) (x_v rfl)) ?_)
    | ((with_reducible show OM rLtS _ _ _ _); first | refine om (x_ltS (x_v rfl) (x_v rfl)) ?_)
    | ((with_reducible show OM rAddT _ _ _ _); first | refine om_addL (by wtm_at "s") ?_ | refine om (x_addT (x_v rfl) (x_v rfl) (by wtm_at "s")) ?_)
    | ((with_reducible show OM rIxS _ _ _ _); first | refine om_ixT (by wtm_at "s") (by assumption) ?_ | refine om (x_ixS (x_v rfl) (x_v rfl) (by wtm_at "s") (by assumption)) ?_)
    | ((with_reducible show OM rDIn _ _ _ _); first | refine om_dinF ?_)
    | ((with_reducible show OM rDNotIn _ _ _ _); first | refine om_dniF ?_)
    | ((with_reducible show OM rDGet _ _ _ _); first | refine om_dgetF (by assumption) ?_)
    | ((with_reducible show OM rRep _ _ _ _); first | refine om_rep (by wtm_at "s") (by wtm_at "s") ?_)
    | ((with_reducible show OM rCat _ _ _ _); first | refine om_cat (by wtm_at "s") ?_ | refine om (x_catm (x_v rfl) (x_v rfl) (by wtm_at "s")) ?_))
local macro_rules | `(tactic| wtm_at "a") => `(tactic| first
    | ((with_reducible show AM (rLenS _) _ _ _); first | refine am1 (x_lenLn (x_v rfl)) ?_ | refine am1 (x_lenTn (x_v rfl)) ?_ | refine am1 (x_lenB (x_v rfl)) ?_ | refine am1 (x_lenLL (x_v rfl)) ?_ | refine am1 (x_lenLm (x_v rfl)) ?_ | refine am1 (x_lenTm (x_v rfl)) ?_ | refine am_own 0 rfl (x_lenLm (x_v rfl)) ?_ | refine am_own 1 rfl (x_lenLm (x_v rfl)) ?_ | refine am_own 2 rfl (x_lenLm (x_v rfl)) ?_ | refine am_own 3 rfl (x_lenLm (x_v rfl)) ?_ | refine am_own 1 rfl (x_lenLm' (x_v rfl)) ?_ | refine am_own 2 rfl (x_lenLm' (x_v rfl)) ?_ | refine am1 (x_lenL (x_v rfl)) ?_ | refine am1 (x_lenT (x_v rfl)) ?_)
    | ((with_reducible show AM Mu.rLenT _ _ _); first | refine am_lenL (by wtm_at "s") ?_ | refine am_lenT (Nat.le_of_ble_eq_true rfl) ?_ | refine am_lenT (by wtm_at "s") ?_)
    | ((with_reducible show AM rLenD _ _ _); first | refine am_lenD ?_)
    | ((with_reducible show AM (rTupO _) _ _ _); first | refine am1 (x_tupL (x_v rfl)) ?_)
    | ((with_reducible show AM rListK _ _ _); first | refine am_listK (K := by assumption) (by assumption) ?_)
    | ((with_reducible show AM (rListS _) _ _ _); first | refine am_listL ?_ | refine am_listT ?_ | refine am_listOwn 0 rfl ?_ | refine am_listOwn 1 rfl ?_ | refine am_listOwn 2 rfl ?_)
    | ((with_reducible show AM (rIsi _) _ _ _); first | refine am2c (x_isInt (x_v rfl)) ?_ | refine am2c (x_isList (x_v rfl)) ?_ | refine am2c (x_isTup (x_v rfl)) ?_ | refine am2c (x_isStrS (x_v rfl)) ?_ | refine am2c (x_isIntS (x_v rfl)) ?_ | refine am2c (x_isTab (Tx.ic_Table (by assumption)) (x_v rfl)) ?_ | refine am2c (x_isIns (by assumption) (by assumption) (x_v rfl)) ?_)
    | ((with_reducible show AM _ _ _ _); first | refine am1 (x_int (x_v rfl)) ?_ | refine mk_tab (by assumption) (by wtm_at "s") (by wtm_at "s") ?_))
local macro_rules | `(tactic| wtm_at "c") => `(tactic| fail)

local macro_rules | `(tactic| wtm_at "f") => `(tactic| first
    | refine f_own 0 rfl (by wtm_at "s") (by wtm_at "s") rfl ?_
    | refine f_own _ (by assumption) (by wtm_at "s") (by wtm_at "s") rfl ?_
    | refine f_ins (by wtm_at "s") (by wtm_at "s") rfl ?_
    | refine f_tab (x_size (x_v rfl) (Tx.c_Table (by assumption)) (Tx.na_Table_size (by assumption))) ?_
    | refine f_tab (x_masks (x_v rfl) (Tx.c_Table (by assumption)) (Tx.na_Table_masks (by assumption))) ?_
    | refine f_tab (x_cells (x_v rfl) (Tx.c_Table (by assumption)) (Tx.na_Table_cells (by assumption))) ?_)
local macro_rules | `(tactic| wtm_at "v") => `(tactic| first
    | ((with_reducible show EW _ _ _ (tMakeV _ _ _) _ _); refine e_makeV rfl ?_)
    | ((with_reducible show EW _ _ _ (tCM [_] _ (WE _) _) _ _); refine e_cmS ?_)
    | ((with_reducible show EW _ _ _ (tCM [] _ (WE _) _) _ _); refine e_smS ?_)
    | ((with_reducible show EW _ _ _ (tCM [_] _ _ _) _ _); refine e_cm ?_)
    | ((with_reducible show EW _ _ _ (tCM [] _ _ _) _ _); refine e_sm ?_)
    | ((with_reducible show EW _ _ _ (ClX.tCVal _ _ _) _ _); refine e_cval (by assumption) (by assumption) ?_)
    | ((with_reducible show EW _ _ _ (tVar _) _ _); refine e_v rfl ?_)
    | ((with_reducible show EW _ _ _ (tC (V.int _)) _ _); refine e_cn ?_)
    | ((with_reducible show EW _ _ _ (tC _) _ _); refine e_c ?_)
    | ((with_reducible show EW _ _ _ (tOp _ _ _) _ _); refine e_op ?_)
    | ((with_reducible show EW _ _ _ (tCB _ _) _ _); refine e_cb ?_)
    | ((with_reducible show EW _ _ _ (tCall _ [_] _ _) _ _); refine e_callD0 ?_)
    | ((with_reducible show EW _ _ _ (tCall _ _ _ _) _ _); refine e_call ?_)
    | ((with_reducible show EW _ _ _ (tCallS _ _ _) _ _); refine e_callS ?_)
    | ((with_reducible show EW _ _ _ (tFld _ _ _) _ _); refine e_fld _ ?_)
    | ((with_reducible show EW _ _ _ (tTup _) _ _); refine e_tup (by assumption) ?_)
    | ((with_reducible show EW _ _ _ (tLst _) _ _); refine e_lst (by assumption) ?_)
    | ((with_reducible show EW _ _ _ (tUn _ _) _ _); refine e_un ?_)
    | ((with_reducible show EW _ _ _ (tMake _ (spTab _ _) _ _ _) _ _); refine e_make ?_)
    | ((with_reducible show EW _ _ _ (tMakeS _ _ _ _) _ _); refine e_makeS ?_)
    | ((with_reducible show EW _ _ _ (tMeth _ _ _ _ _ _ _) _ _); refine e_meth ?_)
    | ((with_reducible show EW _ _ _ (tMethS _ _ _ _ _ _) _ _); refine e_methS ?_)
    | ((with_reducible show EW _ _ _ (tProp _ _ _ _ _) _ _); refine e_prop ?_)
    | ((with_reducible show EW _ _ _ (tLc (iList _ _) _ tYes _ _) _ _); apply e_lcL0; (focus (wtm_at "x")); (focus (wtm_at "s")); (focus (intro a ha; wtm_at "x")); (focus (wtm_at "j")))
    | ((with_reducible show EW _ _ _ (tLc (iTup _ _) _ tYes _ _) _ _); apply e_lcT0; (focus (wtm_at "x")); (focus (wtm_at "s")); (focus (intro a ha; wtm_at "x")); (focus (wtm_at "j")))
    | ((with_reducible show EW _ _ _ (tLc (iRng1 _) _ tYes _ _) _ _); apply e_lcR0 (by assumption); (focus (wtm_at "x")); (focus (wtm_at "s")); (focus (intro a ha; wtm_at "x")); (focus (wtm_at "j")))
    | ((with_reducible show EW _ _ _ (tLc (iList _ _) _ _ _ _) _ _); apply e_lcL; (focus (wtm_at "x")); (focus (wtm_at "s")); (focus (intro a ha; wtm_at "tr")); (focus (intro a ha hf; wtm_at "x")); (focus (wtm_at "j")))
    | ((with_reducible show EW _ _ _ (tLc (iTup _ _) _ _ _ _) _ _); apply e_lcT; (focus (wtm_at "x")); (focus (wtm_at "s")); (focus (intro a ha; wtm_at "tr")); (focus (intro a ha hf; wtm_at "x")); (focus (wtm_at "j")))
    | ((with_reducible show EW _ _ _ (tLc (iRng1 _) _ _ _ _) _ _); apply e_lcR (by assumption); (focus (wtm_at "x")); (focus (wtm_at "s")); (focus (intro a ha; wtm_at "tr")); (focus (intro a ha hf; wtm_at "x")); (focus (wtm_at "j")))
    | ((with_reducible show EW _ _ _ (tSl (rSlL _) _ tNoPart (tPart _)) _ _); apply e_slTo; (focus (wtm_at "x")))
    | ((with_reducible show EW _ _ _ (tSl (rSlL _) _ (tPart _) tNoPart) _ _); apply e_slFrom; (focus (wtm_at "x")))
    | ((with_reducible show EW _ _ _ (tSl rSlS _ tNoPart (tPart _)) _ _); apply e_sSTo; (focus (wtm_at "x")))
    | ((with_reducible show EW _ _ _ (tSl rSlS _ (tPart _) tNoPart) _ _); apply e_sSFrom; (focus (wtm_at "x")))
    | ((with_reducible show EW _ _ _ (tAndV _ _) _ _); first | (apply e_and; (focus (wtm_at "x")); (focus (intro hq; wtm_at "x"))) | (apply e_x; (focus (apply x_and0; (focus (wtm_at "x")); wtm_at "bs"))))
    | ((with_reducible show EW _ _ _ (tOrV _ _) _ _); first | (apply e_or; (focus (wtm_at "x")); (focus (intro hq; wtm_at "x"))) | (apply e_x; (focus (apply x_or1; (focus (wtm_at "x")); wtm_at "bs"))))
    | ((with_reducible show EW _ _ _ (tMake _ (spIni _ _) _ _ _) _ _); refine e_makeI ?_ spIni_E)
    | ((with_reducible show EW _ _ _ (tSup _ _ _ _ _ _ _) _ _); refine e_sup rfl (by assumption) ?_)
    | ((with_reducible show EW _ _ _ (tNotV _) _ _); apply e_not; (focus (wtm_at "x")))
    | ((with_reducible show EW _ _ _ (tBM _ _ _ _ _) _ _); first | refine e_app 0 rfl ?_ rfl | refine e_app 1 rfl ?_ rfl | refine e_app 2 rfl ?_ rfl | refine e_app 3 rfl ?_ rfl))
local macro_rules | `(tactic| wtm_at "e1") => `(tactic| first
    | ((with_reducible show EW _ _ _ _ _ _); wtm_at "v")
    | ((with_reducible show EA _ _ _ _ _ _); first | refine a_cons ?_ | refine a_nil ?_)
    | ((with_reducible show OM _ _ _ _ _); first | wtm_at "o" | wtm_at "c")
    | ((with_reducible show AM _ _ _ _); first | wtm_at "a" | wtm_at "c")
    | ((with_reducible show CM _ _ _ _); wtm_at "c")
    | ((with_reducible show XM _ _ _ _ _); wtm_at "c")
    | ((with_reducible show MkM _ _ _ _ _ _); wtm_at "c")
    | ((with_reducible show UM _ _ _ _); first | wtm_at "f" | refine um (x_neg (x_v rfl)) ?_ | wtm_at "c")
    | ((with_reducible show InsR _ _ _ ∧ _); first | refine ⟨ins_tab rfl, ?_⟩ | refine ⟨ins_ins rfl, ?_⟩ | refine ⟨ins_ins (by assumption), ?_⟩)
    | ((with_reducible show (∀ (v : V) (G : Hp), _ → ∃ a dx fs, _) ∧ _); first | refine ⟨ins_is, ?_⟩ | refine ⟨tab_is, ?_⟩)
    | ((with_reducible show And (@LE.le Nat _ _ _) _); refine ⟨Nat.le_of_ble_eq_true rfl, ?_⟩)
    | ((with_reducible show ∃ rs : List Rp, _ ∧ _ ∧ _); refine ⟨_, rfl, by wtm_at "s", ?_⟩)
    | ((with_reducible show ∃ rs : List Rp, _ = rL _ rs ∧ _); refine ⟨_, rfl, ?_⟩)
    | ((with_reducible show ∃ l : List Nat, _ = rV _ ∧ _ ∧ _ ∧ _); refine ⟨_, rfl, by wtm_at "s", by wtm_at "s", ?_⟩)
    | ((with_reducible show ∃ fs : FL, _ ∧ _ ∧ _ ∧ _); refine ⟨_, rfl, rfl, Nat.le_of_ble_eq_true rfl, ?_⟩)
    | ((with_reducible show _ = _ ∧ _ = ([] : List Re)); first | exact ⟨rfl, rfl⟩ | exact ⟨by wtm_at "q", rfl⟩))
local macro_rules | `(tactic| wtm_at "q") => `(tactic| first | rfl | exact congrArg nI (by omega) | exact congrArg Mu.rI (by omega) | exact congrArg rB (by wtm_at "b"))
local macro_rules | `(tactic| wtm_at "b") => `(tactic| first | rfl | (rw [Bool.eq_iff_iff]; simp; omega))
local macro_rules | `(tactic| wtm_at "e") => `(tactic| repeat wtm_at "e1")
local macro_rules | `(tactic| wtm_at "co") => `(tactic| fail)

local macro_rules | `(tactic| wtm_at "eo") => `(tactic| repeat first | ((with_reducible show CM _ _ _ _); wtm_at "co") | ((with_reducible show XM _ _ _ _ _); wtm_at "co") | wtm_at "e1")
local macro_rules | `(tactic| wtm_at "x") => `(tactic| first | exact x_v rfl | exact x_c | (apply EvX.by; intro W ε; (wtm_at "e"); done))
local macro_rules | `(tactic| wtm_at "t") => `(tactic| first
    | ((with_reducible show EvTX _ tYes _); exact t_yes)
    | ((with_reducible show EvTX _ (tAnd _ _) _); first | (apply t_and; (focus (wtm_at "t")); (focus (intro hq; wtm_at "t"))) | (apply t_and0; (focus (wtm_at "t")); wtm_at "bs"))
    | ((with_reducible show EvTX _ (tOr _ _) _); first | (apply t_or; (focus (wtm_at "t")); (focus (intro hq; wtm_at "t"))) | (apply t_or1; (focus (wtm_at "t")); wtm_at "bs"))
    | ((with_reducible show EvTX _ (tNot _) _); apply t_not; wtm_at "t")
    | ((with_reducible show EvTX _ (tTest (tChain _ _ _ _ _)) _); apply t_chain; (focus (wtm_at "x")); (focus (wtm_at "x")); (focus (wtm_at "x")))
    | ((with_reducible show EvTX _ (tTest _) _); apply t_T; wtm_at "x")
    | ((with_reducible show EvTX _ (tB _) _); apply t_B; wtm_at "x"))
local macro_rules | `(tactic| wtm_at "tq") => `(tactic| (apply t_is; (focus (wtm_at "t")); try wtm_at "b"))
local macro_rules | `(tactic| wtm_at "if") => `(tactic| (apply w_if; (focus (wtm_at "t"))))
local macro_rules | `(tactic| wtm_at "ifc") => `(tactic| (refine ws_if ?_; (repeat first | refine w_tNot ?_ | refine w_tB ?_ | refine w_t ?_ | wtm_at "e1" | ((with_reducible show ∃ c : Bool, _ = rB c ∧ _); refine ⟨_, rfl, ?_⟩)); refine ⟨?_, ?_⟩))
local macro_rules | `(tactic| wtm_at "w1") => `(tactic| first
    | ((with_reducible show WP _ _ _ (tSeq _ _) _); refine w_seq ?_)
    | ((with_reducible show WP _ _ _ (tAsg _ (gName _)) _); refine ws_set ?_; (wtm_at "e"); dsimp only [List.set])
    | ((with_reducible show WP _ _ _ (tRet _) _); refine ws_ret ?_; (wtm_at "e"))
    | ((with_reducible show WP _ _ _ (sFld _ (tVar _) _ _) _); refine ws_fld 0 rfl rfl (by wtm_at "s") (by wtm_at "s") ?_; (wtm_at "e"); dsimp only [List.set])
    | ((with_reducible show WP _ _ _ (tDrop _) _); refine ws_do ?_; (wtm_at "e"))
    | ((with_reducible show WP _ _ _ tNext _); (refine w_nx ?_))
    | ((with_reducible show WP _ _ _ tRetN _); refine w_ret0 ?_))
local macro_rules | `(tactic| wtm_at "w") => `(tactic| repeat ((try dsimp only); wtm_at "w1"))
theorem sc_bits : FnScope ["mask", "found", "place"] ["mask"] (defScope s_bits) := ⟨rfl, rfl, rfl, by decide +kernel, rfl, by decide +kernel, by decide +kernel⟩
theorem b_bits (T : Tx P K mg) : Binds K T.fd_bits ["mask"] [] := T.F_bits.bindsN fun _ _ _ _ _ _ us hl => match us, hl with | [_], _ => rfl
def R_bits : List V → Hp → List Rp → Prop := fun vs _ rs => ∃ n : Nat, vs = [.int (n : Int)] ∧ n < 2 ^ 64 ∧ rs = (bitsN n).map nI
theorem ok_bits (T : Tx P K mg) : FnOk P w K mg base CX0 1 T.f_bits T.fd_bits ["mask"] (spN R_bits) := by
  refine T.F_bits.ok sc_bits (fun vs H Q E h => ?_) (fun cdv A outer s H vs Q E hr h => ?_)
  · obtain ⟨G, rs, _, ⟨n, rfl, _⟩, _⟩ := h
    rfl
  · obtain ⟨G, rs, e, ⟨n, rfl, hn, rfl⟩, k⟩ := h
    refine ⟨_, PSs.nox (pss_cons (ps_set (i := 1) sc_bits.nd rfl (Or.inl rfl) (pe_lst pa_nil))
      (pss_cons (ps_set (i := 2) sc_bits.nd rfl (Or.inl rfl) pe_int)
      (pss_cons (ps_while PassesOwn.never (pt_cmpR op_gt (pv 0) pe_int (nomark _)) (pss_cons (ps_if (pt_cmpR op_eq (pe_op op_and (pv 0) pe_int) pe_int (nomark _)) (pss_one (ps_expr (pe_bm PySem.F.plainAttrs_list PySem.F.slot_list_append PySem.F.type_list_append mt_append (pv 1) (pa_cons (pv 2) pa_nil)))) pss_nil)
      (pss_cons (ps_set (i := 0) sc_bits.nd rfl (Or.inl rfl) (pe_op op_shr (pv 0) pe_int))
      (pss_one (ps_set (i := 2) sc_bits.nd rfl (Or.inl rfl) (pe_op op_add (pv 2) pe_int))))))
      (pss_one (ps_ret (pv 1)))))), ?_⟩
    refine sq (s_setN e (en_lst ead_nil (by decide)) fun p vs G1 H1 g1 hp gp h1 ra => ?_)
    cases ra
    refine sq (Mu.s_set g1.i ev_c fun H2 e2 => ?_)
    refine sq (s_while (fun m σ' H' => ∃ i : Nat, σ' = [some (.int ((n / 2 ^ i : Nat) : Int)), some (.ref p), some (.int (i : Int))] ∧ m = n / 2 ^ i ∧ i ≤ 64 ∧ Ex H H' ∧ H' p = some (.lst (((List.range i).filter n.testBit).map fun (j : Nat) => V.int (j : Int)))) n ⟨0, ?_, by simp, by omega, g1.h.trans e2, e2 _ _ h1⟩ fun m σ' H' ⟨i, hσ, hm, hi, eH, hl⟩ => ?_)
    · simp; rfl
    · subst hσ
      refine ⟨_, et_cmp (ev_var rfl) ev_c, fun hb H3 e3 => ?_, fun hb H3 e3 => ?_⟩
      · have hpos : (0 : Int) < ((n / 2 ^ i : Nat) : Int) := of_decide_eq_true hb
        have hi64 : i < 64 := by
          rcases Nat.lt_or_ge i 64 with q | q
          · exact q
          · have e64 : i = 64 := by omega
            subst e64
            rw [Nat.div_eq_of_lt hn] at hpos
            omega
        refine ⟨_, fun _ _ z => z, ?_⟩
        have tl : ∀ H4 ls, Ex H H4 → H4 p = some (.lst ls) → ls = (((List.range (i + 1)).filter n.testBit).map fun (j : Nat) => V.int (j : Int)) → ∀ D : Ends,
            (∀ σ2 H2, (∃ m', m' < m ∧ ∃ i : Nat, σ2 = [some (.int ((n / 2 ^ i : Nat) : Int)), some (.ref p), some (.int (i : Int))] ∧ m' = n / 2 ^ i ∧ i ≤ 64 ∧ Ex H H2 ∧ H2 p = some (.lst (((List.range i).filter n.testBit).map fun (j : Nat) => V.int (j : Int)))) → D.nx σ2 H2) →
            tSeq (tAsg (tOp (rI (fun _ j => 0 ≤ j) fun i j => .int (i / 2 ^ j.toNat)) (tVar 0) (tC (.int 1))) (gName 0)) (tAsg (tOp (rI0 fun i j => .int (i + j)) (tVar 2) (tC (.int 1))) (gName 2)) D [some (.int ((n / 2 ^ i : Nat) : Int)), some (.ref p), some (.int (i : Int))] H4 := by
          intro H4 ls e4 h4 hls D hD
          refine sq (Mu.s_set (Ex.refl H4) (ev_op (ev_var rfl) ev_c (rv_I (by decide))) fun H5 e5 => ?_)
          refine Mu.s_set (Ex.refl H5) (ev_op (ev_var rfl) ev_c rv_I0) fun H6 e6 => ?_
          refine hD _ _ ⟨n / 2 ^ (i + 1), ?_, i + 1, ?_, rfl, by omega, (e4.trans e5).trans e6, by rw [e6 _ _ (e5 _ _ h4), hls]⟩
          · rw [hm, Nat.pow_succ, ← Nat.div_div_eq_div_mul]
            exact Nat.div_lt_self (by omega) (by decide)
          · rw [shr1, Nat.div_div_eq_div_mul, ← Nat.pow_succ]
            rfl
        refine sq (s_ifE (Ex.refl H3) (et_eq (ev_op (ev_var rfl) ev_c rv_I0) ev_c rfl) (fun hb H4 e4 => ?_) (fun hb H4 e4 => ?_))
        · have hbit : n.testBit i = true := by
            have q := of_decide_eq_true hb
            have q2 : Builtin.bitAnd ((n / 2 ^ i : Nat) : Int) 1 = 1 := by injection q
            rw [← bit_test, shr_nat]
            exact decide_eq_true q2
          have hl4 := e4 _ _ (e3 _ _ hl)
          refine s_app hl4 (ev_var rfl) (ev_var rfl) (by have := List.length_filter_le n.testBit (List.range i); rw [List.length_map]; rw [List.length_range] at this; omega) fun H5 e5 => ?_
          refine tl _ _ (Ex.mut ((eH.trans e3).trans (e4.trans e5)) hp) upd_same ?_ _ fun _ _ z => z
          rw [List.range_succ, List.filter_append, List.map_append]
          simp [hbit]
        · have hbit : n.testBit i = false := by
            have q := of_decide_eq_false hb
            cases z : n.testBit i with
            | false => rfl
            | true =>
              refine absurd ?_ q
              rw [← bit_test, shr_nat] at z
              rw [of_decide_eq_true z]
          refine nxt ?_
          refine tl H4 _ ((eH.trans e3).trans e4) (e4 _ _ (e3 _ _ hl)) ?_ _ fun _ _ z => z
          rw [List.range_succ, List.filter_append, List.map_append]
          simp [hbit]
      · have h0 : n / 2 ^ i = 0 := by
          have q := of_decide_eq_false hb
          omega
        have hlt : n < 2 ^ i := by
          rcases Nat.lt_or_ge n (2 ^ i) with q | q
          · exact q
          · have := Nat.div_pos q (Nat.two_pow_pos i)
            omega
        rw [bits_eq hlt] at hl
        refine s_retE (Ex.refl H3) (ev_var rfl) fun H4 e4 => ?_
        exact k p _ G H4 ((Gr.refl e).more ((eH.trans e3).trans e4)) hp (fresh_back e hp) (e4 _ _ (e3 _ _ hl)) ra_nats

theorem c_bits (T : Tx P K mg) {M : List Re} {κ : KV} {n : Nat} (h : n < 2 ^ 64) (k : κ (rLn K (bitsN n)) M) : CM (spN R_bits) [nI n] M κ := cmn (fun vs G ra => by
  obtain ⟨x, rfl, hx⟩ := ra1 ra
  obtain rfl : x = V.int (n : Int) := hx
  exact SpN.of ⟨n, rfl, h, rfl⟩) k
theorem o_bits (T : Tx P K mg) {M : List Re} {κ : KV} {n : Nat} (h : n < 2 ^ 64) (k : ∀ p, κ (rV (.ref p)) (M ++ [lstR p ((bitsN n).map nI)])) : CM (spN R_bits) [nI n] M κ := cmo (fun vs G ra => by
  obtain ⟨x, rfl, hx⟩ := ra1 ra
  obtain rfl : x = V.int (n : Int) := hx
  exact SpN.of ⟨n, rfl, h, rfl⟩) k
local macro_rules | `(tactic| wtm_at "co") => `(tactic| refine o_bits (by assumption) (by wtm_at "s") ?_)
local macro_rules | `(tactic| wtm_at "c") => `(tactic| refine c_bits (by assumption) (by wtm_at "s") ?_)
theorem sc_mask_of : FnScope ["words", "mask", "word"] ["words"] (defScope s_mask_of) := ⟨rfl, rfl, rfl, by decide +kernel, rfl, by decide +kernel, by decide +kernel⟩
theorem b_mask_of (T : Tx P K mg) : Binds K T.fd_mask_of ["words"] [] := T.F_mask_of.bindsN fun _ _ _ _ _ _ us hl => match us, hl with | [_], _ => rfl
def R_mask_of (K : PySem.W.Frag) : List V → Hp → Rp → Prop := fun vs G r => ∃ (x : V) (l : List Nat), vs = [x] ∧ (rLn K l).p x G ∧ (∀ w ∈ l, w < 64) ∧ r = nI (maskN l)
theorem ok_mask_of (T : Tx P K mg) : FnOk P w K mg base CX0 1 T.f_mask_of T.fd_mask_of ["words"] (spD (R_mask_of K)) := by
  refine T.F_mask_of.ok sc_mask_of (fun vs H Q E h => ?_) (fun cdv A outer s H vs Q E hr h => ?_)
  · obtain ⟨G, r, _, ⟨x, l, rfl, _⟩, _⟩ := h
    rfl
  · obtain ⟨G, r, e, ⟨x, l, rfl, hx, hl, rfl⟩, k⟩ := h
    refine ⟨_, PSs.nox (pss_cons (ps_set (i := 1) sc_mask_of.nd rfl (Or.inl rfl) pe_int)
      (pss_cons (ps_for PassesOwn.never rfl (pi_listK K (pv 0)) (pg_name (i := 2) sc_mask_of.nd rfl (Or.inl rfl)) (pss_one (ps_set (i := 1) sc_mask_of.nd rfl (Or.inl rfl) (pe_op op_or (pv 1) (pe_op op_shl pe_int (pv 2))))))
      (pss_one (ps_ret (pv 1))))), ?_⟩
    refine sq (Mu.s_set e ev_c fun H1 e1 => ?_)
    refine sq (Mu.s_forL l nI (e.trans e1) (ed_var rfl hx) (fun G1 i σ' H' => Ex G1 H' ∧ Ex H H' ∧ ∃ u, σ' = [some x, some (.int ((maskN (l.take i) : Nat) : Int)), u]) (fun G1 H2 g => ⟨g.i, e1.trans g.h, none, rfl⟩) (fun _ _ _ _ p => p.1) ?_ ?_)
    · rintro G1 i w y σ' H' eG hi hy ⟨e2, e3, u, rfl⟩
      obtain rfl : y = V.int (w : Int) := hy
      have hw := hl w (List.mem_of_getElem? hi)
      refine Mu.s_set (Ex.refl H') (ev_op (ev_var rfl) (ev_op ev_c (ev_var rfl) (rv_I ⟨by omega, by omega, by decide⟩)) rv_I0) fun H4 e4 => ?_
      refine ⟨e2.trans e4, e3.trans e4, some (.int (w : Int)), ?_⟩
      show [some x, some (.int (Builtin.bitOr ((maskN (l.take i) : Nat) : Int) (1 * 2 ^ ((w : Int)).toNat))), some (.int (w : Int))] = _
      rw [shl_nat, bor_nat, ← maskN_take hi]
    · rintro G1 σ' H' eG ⟨e2, e3, u, rfl⟩
      rw [List.take_length]
      refine s_retE (Ex.refl H') (ev_var rfl) fun H4 e4 => k _ G H4 ((Gr.refl e).more (e3.trans e4)) rfl

theorem c_mask_of (T : Tx P K mg) {M : List Re} {κ : KV} {l : List Nat} (h : ∀ w ∈ l, w < 64) (k : κ (nI (maskN l)) M) : CM (spD (R_mask_of K)) [rLn K l] M κ := cm (fun vs G ra => by
  obtain ⟨x, rfl, hx⟩ := ra1 ra
  exact SpD.of ⟨x, l, rfl, hx, h, rfl⟩) k
local macro_rules | `(tactic| wtm_at "c") => `(tactic| refine c_mask_of (by assumption) (by wtm_at "s") ?_)
theorem sc_masks_of : FnScope ["rows", "row"] ["rows"] (defScope s_masks_of) := ⟨rfl, rfl, rfl, by decide +kernel, rfl, by decide +kernel, by decide +kernel⟩
theorem b_masks_of (T : Tx P K mg) : Binds K T.fd_masks_of ["rows"] [] := T.F_masks_of.bindsN fun _ _ _ _ _ _ us hl => match us, hl with | [_], _ => rfl
def R_masks_of (K : PySem.W.Frag) : List V → Hp → Rp → Prop := fun vs G r => ∃ (x : V) (l : List (List Nat)), vs = [x] ∧ (rLL K l).p x G ∧ l.length ≤ 1000 ∧ (∀ q ∈ l, ∀ w ∈ q, w < 64) ∧ r = rTn K (l.map maskN)
theorem ok_masks_of (T : Tx P K mg) : FnOk P w K mg base CX0 2 T.f_masks_of T.fd_masks_of ["rows"] (spD (R_masks_of K)) := by
  refine T.F_masks_of.ok sc_masks_of (fun vs H Q E h => ?_) (fun cdv A outer s H vs Q E hr h => ?_)
  · obtain ⟨G, r, _, ⟨x, l, rfl, _⟩, _⟩ := h
    rfl
  · obtain ⟨G, r, e, ⟨x, l, rfl, hx, hn, hl, rfl⟩, k⟩ := h
    refine ⟨_, PSs.nox (pss_one (ps_ret (pe_callTy (call_tupK K) (by rfl) T.m_tuple (by decide +kernel) (pa_cons (pe_lc (own := [("row", 1)]) (by rfl) sc_masks_of.nd (pi_listK K (pv 0)) (blkOk_by (N := ["rows", "row"]) (sc := defScope s_masks_of) (by decide +kernel)) (fun _ _ _ _ _ => (pg_name (i := 1) sc_masks_of.nd rfl (Or.inl rfl))) (fun _ _ _ _ _ => pts_nil) (fun _ _ _ _ _ => (pe_call (ok_mask_of T) (hr.mono (by decide)) (by rfl) T.g_mask_of T.F_mask_of.kp (b_mask_of T) .nil pass0 (pa_cons (pv 1) pa_nil)))) pa_nil)))), ?_⟩
    refine s_retD e (ed_is (ed_tupL (EvN.d (en_lcL0 l (rLn K) (fun q => nI (maskN q)) (ed_var rfl hx) (by omega) (fun _ => rfl) fun q y G1 hq e1 hy => ed_call (ead_cons (ed_var rfl hy) ead_nil) fun vs G2 e2 ra => ?_))) ?_) fun v G2 H2 g hv => k v G2 H2 g hv
    · obtain ⟨y, rfl, hy⟩ := ra1 ra
      exact SpD.of ⟨y, q, rfl, hy, hl q hq, rfl⟩
    · unfold rTn
      rw [List.map_map]; rfl
theorem sc_check_size : FnScope ["size"] ["size"] (defScope s_check_size) := ⟨rfl, rfl, rfl, by decide +kernel, rfl, by decide +kernel, by decide +kernel⟩
theorem b_check_size (T : Tx P K mg) : Binds K T.fd_check_size ["size"] [] := T.F_check_size.bindsN fun _ _ _ _ _ _ us hl => match us, hl with | [_], _ => rfl
def R_check_size : List V → Hp → Rp → Prop := fun vs _ r => ∃ n : Nat, vs = [.int (n : Int)] ∧ 1 ≤ n ∧ n ≤ 6 ∧ r = rV .non
theorem ok_check_size (T : Tx P K mg) : FnOk P w K mg base CX0 1 T.f_check_size T.fd_check_size ["size"] (spD R_check_size) := by
  refine T.F_check_size.ok sc_check_size (fun vs H Q E h => ?_) (fun cdv A outer s H vs Q E hr h => ?_)
  · obtain ⟨G, r, _, ⟨n, rfl, _⟩, _⟩ := h
    rfl
  · obtain ⟨G, r, e, ⟨n, rfl, h1, h6, rfl⟩, k⟩ := h
    refine ⟨_, PSs.nox (pss_one (ps_if (PW.pt (pw_or (pt_cmpR op_lt (pv 0) pe_int (nomark _)) (pw_or1 (pt_cmpR op_gt (pv 0) (pe_glob (v := .int 6) (by rfl) T.gi_GREATEST_SIZE.choose_spec ⟨_, rfl⟩) (nomark _))))) (pss_one ps_never) pss_nil)), ?_⟩
    refine s_ifE e (et_or (et_cmp (ev_var rfl) ev_c) fun _ => et_cmp (ev_var rfl) ev_c) (fun hb H1 e1 => ?_) (fun hb H1 e1 => ?_)
    · exfalso
      rcases Bool.or_eq_true_iff.mp hb with q | q
      · have := of_decide_eq_true q; omega
      · have := of_decide_eq_true q; omega
    · exact k _ G H1 ((Gr.refl e).more e1) rfl

theorem c_check_size (T : Tx P K mg) {M : List Re} {κ : KV} {n : Nat} (h1 : 1 ≤ n) (h6 : n ≤ 6) (k : κ (rV .non) M) : CM (spD R_check_size) [nI n] M κ := cm (fun vs G ra => by
  obtain ⟨x, rfl, hx⟩ := ra1 ra
  obtain rfl : x = V.int (n : Int) := hx
  exact SpD.of ⟨n, rfl, h1, h6, rfl⟩) k
local macro_rules | `(tactic| wtm_at "c") => `(tactic| refine c_check_size (by assumption) (by wtm_at "s") (by wtm_at "s") ?_)
theorem sc_check_sizes : FnScope ["first", "second"] ["first", "second"] (defScope s_check_sizes) := ⟨rfl, rfl, rfl, by decide +kernel, rfl, by decide +kernel, by decide +kernel⟩
theorem b_check_sizes (T : Tx P K mg) : Binds K T.fd_check_sizes ["first", "second"] [] := T.F_check_sizes.bindsN fun _ _ _ _ _ _ us hl => match us, hl with | [_, _], _ => rfl
def R_check_sizes : List V → Hp → Rp → Prop := fun vs _ r => ∃ n : Int, vs = [.int n, .int n] ∧ r = rV .non
theorem ok_check_sizes (T : Tx P K mg) : FnOk P w K mg base CX0 1 T.f_check_sizes T.fd_check_sizes ["first", "second"] (spD R_check_sizes) := by
  refine T.F_check_sizes.ok sc_check_sizes (fun vs H Q E h => ?_) (fun cdv A outer s H vs Q E hr h => ?_)
  · obtain ⟨G, r, _, ⟨n, rfl, _⟩, _⟩ := h
    rfl
  · obtain ⟨G, r, e, ⟨n, rfl, rfl⟩, k⟩ := h
    refine ⟨_, PSs.nox (pss_one (ps_if (pt_cmpR op_ne (pv 0) (pv 1) (nomark _)) (pss_one ps_never) pss_nil)), ?_⟩
    refine s_ifE e (et_ne (ev_var rfl) (ev_var rfl) rfl) (fun hb H1 e1 => ?_) (fun hb H1 e1 => ?_)
    · simp at hb
    · exact k _ G H1 ((Gr.refl e).more e1) rfl

theorem c_check_sizes (T : Tx P K mg) {M : List Re} {κ : KV} {n : Nat} (k : κ (rV .non) M) : CM (spD R_check_sizes) [nI n, nI n] M κ := cm (fun vs G ra => by
  obtain ⟨x, y, rfl, hx, hy⟩ := ra2 ra
  obtain rfl : x = V.int (n : Int) := hx
  obtain rfl : y = V.int (n : Int) := hy
  exact SpD.of ⟨n, rfl, rfl⟩) k
local macro_rules | `(tactic| wtm_at "c") => `(tactic| refine c_check_sizes (by assumption) ?_)
theorem sc_Table___init__ : FnScope ["self", "rows", "at", "row", "word", "told", "out"] ["self", "rows"] (defScope s_Table___init__) := ⟨rfl, rfl, rfl, by decide +kernel, rfl, by decide +kernel, by decide +kernel⟩
theorem b_Table___init__ (T : Tx P K mg) : Binds K T.fd_Table___init__ ["self", "rows"] [] := T.F_Table___init__.bindsN fun _ _ _ _ _ _ us hl => match us, hl with | [_, _], _ => rfl
theorem ok_Table___init__ (T : Tx P K mg) : FnOk P w K mg base CX0 3 T.f_Table___init__ T.fd_Table___init__ ["self", "rows"] (spTab K T.C_Table) := by
  refine T.F_Table___init__.ok sc_Table___init__ (fun vs H Q E h => ?_) (fun cdv A outer s H vs Q E hr h => ?_)
  · obtain ⟨p, dx, x, G, rows, rfl, _⟩ := h
    rfl
  · obtain ⟨p, dx, x, G, rows, rfl, hp, e, gp, hx, h1, h6, hrow, k⟩ := h
    have hlen : (rows.map (rLn K)).length = rows.length := List.length_map _
    refine ⟨_, PSs.nox (pss_cons (ps_expr (pe_call (ok_check_size T) (hr.mono (by decide)) (by rfl) T.g_check_size T.F_check_size.kp (b_check_size T) .nil pass0 (pa_cons (pe_callB (call_lenK K) (by rfl) T.m_len PySem.boot_len (pa_cons (pv 1) pa_nil)) pa_nil)))
      (pss_cons (ps_for PassesOwn.never rfl (pi_enum (by rfl) T.m_enumerate (pa_cons (pv 1) pa_nil)) (pg_tup rfl (pgs_cons (pg_name (i := 2) sc_Table___init__.nd rfl (Or.inl rfl)) (pgs_cons (pg_name (i := 3) sc_Table___init__.nd rfl (Or.inl rfl)) pgs_nil))) (pss_one (ps_for PassesOwn.never rfl (pi_listK K (pv 3)) (pg_name (i := 4) sc_Table___init__.nd rfl (Or.inl rfl)) (pss_one (ps_if (PW.pt (pw_or (pt_cmpR op_lt (pv 4) pe_int (nomark _)) (pw_or1 (pt_cmpR op_ge (pv 4) (pe_callB (call_lenK K) (by rfl) T.m_len PySem.boot_len (pa_cons (pv 1) pa_nil)) (nomark _))))) (pss_one ps_never) pss_nil)))))
      (pss_cons (ps_fld (pv 0) (pe_callB (call_lenK K) (by rfl) T.m_len PySem.boot_len (pa_cons (pv 1) pa_nil)) rfl)
      (pss_cons (ps_fld (pv 0) (pe_call (ok_masks_of T) (hr.mono (by decide)) (by rfl) T.g_masks_of T.F_masks_of.kp (b_masks_of T) .nil pass0 (pa_cons (pv 1) pa_nil)) rfl)
      (pss_one (ps_fld (pv 0) (pe_callTy (call_tupK K) (by rfl) T.m_tuple (by decide +kernel) (pa_cons (pe_lc2 (own := [("told", 5), ("out", 6)]) (vs1 := [6]) (by rfl) sc_Table___init__.nd (pi_range1 (by rfl) T.m_range (pa_cons (pe_callB (call_lenK K) (by rfl) T.m_len PySem.boot_len (pa_cons (pv 1) pa_nil)) pa_nil)) (blkOk_by (N := ["self", "rows", "at", "row", "word", "told", "out"]) (sc := defScope s_Table___init__) (by decide +kernel)) (by decide) (fun _ _ _ _ _ => (pg_name (i := 5) sc_Table___init__.nd rfl (Or.inl rfl))) (fun _ _ _ _ _ => pts_nil) (fun _ _ _ _ _ => (pi_listK K (pe_call (ok_bits T) (hr.mono (by decide)) (by rfl) T.g_bits T.F_bits.kp (b_bits T) .nil pass0 (pa_cons (pe_ix (ix_tupK K) (pe_fldK K (pv 0)) (pv 5) (fun _ _ => rfl)) pa_nil)))) (fun _ _ _ _ _ => (pg_name (i := 6) sc_Table___init__.nd rfl (Or.inl rfl))) (fun _ _ _ _ _ => pts_nil) (fun _ _ _ _ _ => (pe_tup (pa_cons (pv 5) (pa_cons (pv 6) pa_nil))))) pa_nil)) rfl)))))), ?_⟩
    -- check_size(len(rows))
    refine sq (s_doE e (ev_callD (v := .non) (ead_cons (Ev.d (ev_lenL (ed_var rfl hx) hlen)) ead_nil) fun vs G2 e2 ra => ?_) fun H1 e1 => ?_)
    · obtain ⟨y, rfl, hy⟩ := ra1 ra
      obtain rfl : y = V.int (rows.length : Int) := hy
      exact SpD.of ⟨rows.length, rfl, h1, h6, rfl⟩
    -- for at, row in enumerate(rows): for word in row
    refine sq (Mu.s_forE rows (rLn K) (e.trans e1) (ead_cons (ed_var rfl hx) ead_nil) (fun G1 i σ' H' => Ex G1 H' ∧ Ex H H' ∧ ∃ a b c d f, σ' = [some (.ref p), some x, a, b, c, d, f]) (fun G1 H2 g => ⟨g.i, e1.trans g.h, _, _, _, _, _, rfl⟩) (fun _ _ _ _ q => q.1) (fun G1 i σ' H' H'' q z => ⟨q.1.trans z, q.2.1.trans z, q.2.2⟩) ?_ ?_)
    · rintro G1 i row y σ' H' eG hi hy ⟨e2, e3, a, b, c, d, f, rfl⟩
      have hw := (hrow row (List.mem_of_getElem? hi)).2
      refine Mu.s_forL row nI e2 (ed_var rfl hy) (fun G2 i' σ' H' => Ex G2 H' ∧ Ex G1 H' ∧ Ex H H' ∧ ∃ a b c d f, σ' = [some (.ref p), some x, a, b, c, d, f]) (fun G2 H2 g => ⟨g.i, g.g.trans g.i, e3.trans g.h, _, _, _, _, _, rfl⟩) (fun _ _ _ _ q => q.1) ?_ ?_
      · rintro G2 i' w z σ' H2 eG2 hi' hz ⟨e4, e5, e6, a', b', c', d', f', rfl⟩
        obtain rfl : z = V.int (w : Int) := hz
        have hlt := hw w (List.mem_of_getElem? hi')
        refine s_ifE (Ex.refl H2) (et_or (et_cmp (ev_var rfl) ev_c) fun _ => et_cmp (ev_var rfl) (ev_lenL (ed_var rfl ((rLL K rows).mono (e.trans e6) hx)) hlen)) (fun hb H3 e7 => ?_) (fun hb H3 e7 => ?_)
        · exfalso
          rcases Bool.or_eq_true_iff.mp hb with q | q
          · have := of_decide_eq_true q; omega
          · have := of_decide_eq_true q; omega
        · exact nxt ⟨e4.trans e7, e5.trans e7, e6.trans e7, _, _, _, _, _, rfl⟩
      · rintro G2 σ' H2 eG2 ⟨e4, e5, e6, a', b', c', d', f', rfl⟩
        exact ⟨e5, e6, _, _, _, _, _, rfl⟩
    · rintro G1 σ' H2 eG ⟨e2, e3, a, b, c, d, f, rfl⟩
      have hp2 := e3 _ _ hp
      -- self.size = len(rows)
      refine sq (s_fld (e.trans e3) hp2 gp (Ev.d (ev_lenL (ed_var rfl hx) hlen)) (ev_var rfl) T.c_Table T.na_Table_size (by decide) fun y G2 H3 eg2 k2 i2 n2 gp2 hy hp3 => ?_)
      obtain rfl : y = V.int (rows.length : Int) := hy
      -- self.masks = masks_of(rows)
      refine sq (s_fld (r := rTn K (rows.map maskN)) i2 hp3 gp2 (ed_call (ead_cons (ed_var rfl ((rLL K rows).mono eg2 hx)) ead_nil) fun vs G3 e3 ra => ?_) (ev_var rfl) T.c_Table T.na_Table_masks (by show 1 < 1000; decide) fun y G3 H4 eg3 k3 i3 n3 gp3 hy hp4 => ?_)
      · obtain ⟨y, rfl, hy⟩ := ra1 ra
        exact SpD.of ⟨y, rows, rfl, hy, by omega, fun q hq w hw => by have := (hrow q hq).2 w hw; omega, rfl⟩
      obtain ⟨tm, hm⟩ : ∃ tm, y = V.ref tm := by
        obtain ⟨a, _, h, _⟩ := hy
        exact ⟨a, h⟩
      subst hm
      have wf : ∀ a, ((rows.map maskN).getD a 0) < 2 ^ 6 := fun a => by
        rw [List.getD_eq_getElem?_getD, List.getElem?_map]
        cases q : rows[a]? with
        | none => exact Nat.two_pow_pos 6
        | some r => exact maskN_lt fun w hw => by have := (hrow r (List.mem_of_getElem? q)).2 w hw; omega
      have eF : putF "masks" (V.ref tm) (putF "size" (V.int (rows.length : Int)) []) = [(("size" : Str), V.int (rows.length : Int)), ("masks", V.ref tm)] := by
        have c1 : ¬ (("size" : Str) = "masks") := by decide +kernel
        show (if ("size" : Str) = "masks" then _ else (("size" : Str), V.int (rows.length : Int)) :: putF "masks" (V.ref tm) []) = _
        rw [if_neg c1]; rfl
      have lk : (putF "masks" (V.ref tm) (putF "size" (V.int (rows.length : Int)) [])).lookup ("masks" : Str) = some (V.ref tm) := by
        have c1 : (("masks" : Str) == ("size" : Str)) = false := by decide +kernel
        rw [eF]
        simp [List.lookup, c1]
      -- self.cells = tuple([..])
      refine s_fldS i3 hp4 gp3 (r := rT K ((pairsN (rows.map maskN)).map (rP K))) (ed_is (ed_tupL (EvN.d (en_lc2R rows.length (fun a => bitsN ((rows.map maskN).getD a 0)) nI (fun a b => rP K (a, b)) (ea_cons (ev_lenL (ed_var rfl ((rLL K rows).mono ((eg2.trans eg3).trans (Ex.new gp3)) hx)) hlen) ea_nil) (by omega) (fun a _ => Nat.le_trans (bits_len (wf a)) (by decide)) (fun _ => rfl) (fun _ _ => rfl) ?_ ?_))) ?_) (fun y G4 hG hy => rP_off hG hy) (ev_var rfl) T.c_Table T.na_Table_cells (by rw [eF]; show 2 < 1000; decide) fun y G4 H5 eg4 k4 i4 n4 gp4 hy' hp5 => ?_
      · intro a0 G5 ha e5
        have hg5 : G5 p = some (.ins T.C_Table dx (putF "masks" (V.ref tm) (putF "size" (V.int (rows.length : Int)) []))) := e5 _ _ upd_same
        have hm5 : (rTn K (rows.map maskN)).p (.ref tm) G5 := (rTn K _).mono ((Ex.new gp3).trans e5) hy
        have hself : EvD (tFld K (tVar 0) "masks") ((wipe [some (V.ref p), some x, a, b, c, d, f] [5, 6]).set 5 (some (.int (a0 : Int)))) G5 (rTn K (rows.map maskN)) := fun H6 e6 Q q => ⟨.ref p, rfl, p, T.C_Table, dx, _, .ref tm, rfl, e6 _ _ hg5, T.c_Table, T.na_Table_masks, lk, q _ G5 H6 (Gr.refl e6) hm5⟩
        refine EvN.d (en_call (ead_cons (ed_ixT hself (ev_var rfl) (r := nI ((rows.map maskN).getD a0 0)) ?_) ead_nil) fun vs G6 e6 ra => ?_)
        · rw [List.getElem?_map, List.getD_eq_getElem?_getD, List.getElem?_eq_getElem (by rw [List.length_map]; exact ha)]; rfl
        · obtain ⟨z, rfl, hz⟩ := ra1 ra
          obtain rfl : z = V.int (((rows.map maskN).getD a0 0 : Nat) : Int) := hz
          exact SpN.of ⟨_, rfl, Nat.lt_of_lt_of_le (wf a0) (by decide), rfl⟩
      · intro a b' z G5 ha hb e5 hz
        obtain rfl : z = V.int (b' : Int) := hz
        exact ed_tup (ead_cons (Ev.d (ev_var rfl)) (ead_cons (Ev.d (ev_var rfl)) ead_nil)) (by show 2 ≤ 100000; decide)
      · unfold pairsN
        rw [List.map_flatMap, List.length_map]
        congr 2
        funext a
        rw [List.map_map]; rfl
      obtain ⟨tc, hc, -⟩ : ∃ tc, y = V.ref tc ∧ True := by
        obtain ⟨a, _, h, _⟩ := hy'
        exact ⟨a, h, trivial⟩
      subst hc
      refine k H5 G4 tm tc ((eg2.trans eg3).trans eg4) (fun a o z n => k4 a o (k3 a o (k2 a o (e3 a o z) n) n) n) i4 (fun a o z t y => ?_) ?_ ((rTn K _).mono eg4 hy) hy'
      · have y2 := n2 a o (e3 a o z) t y
        by_cases q : a = p
        · subst q; exact gp4
        · have y3 := n3 a o (k2 a o (e3 a o z) q) t y2
          exact n4 a o (k3 a o (k2 a o (e3 a o z) q) q) t y3
      · rw [hp5, eF]
        have c1 : ¬ (("size" : Str) = "cells") := by decide +kernel
        have c2 : ¬ (("masks" : Str) = "cells") := by decide +kernel
        show some (HO.ins _ _ (if ("size" : Str) = "cells" then _ else (("size" : Str), V.int (rows.length : Int)) :: (if ("masks" : Str) = "cells" then _ else (("masks" : Str), V.ref tm) :: putF "cells" (V.ref tc) []))) = _
        rw [if_neg c1, if_neg c2]; rfl
theorem sc_all_words : FnScope ["size", "words", "word"] ["size", "words"] (defScope s_all_words) := ⟨rfl, rfl, rfl, by decide +kernel, rfl, by decide +kernel, by decide +kernel⟩
theorem b_all_words (T : Tx P K mg) : Binds K T.fd_all_words ["size", "words"] [] := T.F_all_words.bindsN fun _ _ _ _ _ _ us hl => match us, hl with | [_, _], _ => rfl
theorem take_succ_all {α : Type} {q : α → Prop} {l : List α} {i : Nat} {x : α} (h : l[i]? = some x) (hb : ∀ w ∈ l.take i, q w) (hx : q x) : ∀ w ∈ l.take (i + 1), q w := fun w hw => by
  rw [List.take_add_one, h] at hw
  rcases List.mem_append.mp hw with z | z
  · exact hb w z
  · simp at z; rw [z]; exact hx

def R_all_words (T : Tx P K mg) : List V → Hp → Rp → Prop := fun vs G r => ∃ (n : Nat) (l : List Int), RA G vs [nI n, rLi K l] ∧ r = rB (!l.any (badW n))
theorem ok_all_words (T : Tx P K mg) : FnOk P w K mg base CX0 1 T.f_all_words T.fd_all_words ["size", "words"] (spD (R_all_words T)) := by
  refine T.F_all_words.ok sc_all_words (fun vs H Q E h => ?_) (fun cdv A outer s H vs Q E hr h => ?_)
  · obtain ⟨G, r, _, ⟨n, l, ra, _⟩, _⟩ := h
    exact ra.len
  · obtain ⟨G, r, e, ⟨n, l, ra, rfl⟩, k⟩ := h
    refine ⟨_, PSs.nox (pss_cons (ps_for PassesOwn.never rfl (pi_listK K (pv 1)) (pg_name (i := 2) sc_all_words.nd rfl (Or.inl rfl)) (pss_one (ps_if (PW.pt (pw_or (pt_cmpR op_lt (pv 2) pe_int (nomark _)) (pw_or1 (pt_cmpR op_ge (pv 2) (pv 0) (nomark _))))) (pss_one (ps_ret pe_bl)) pss_nil)))
      (pss_one (ps_ret pe_bl))), ?_⟩
    refine run_D (W := fun _ _ _ _ => False) (Γ := [some (nI n), some (rLi K l), none]) ?_ e (En.start (k := 1) _ (rs := [nI n, rLi K l]) ra (by rw [ra.len]; rfl)) k
    clear ra e k
    wtm_at "w"
    refine w_forL l Mu.rI (fun i (_ : Unit) => ∀ w ∈ l.take i, badW n w = false) (fun _ _ => [some (nI n), some (rLi K l), none]) (fun _ _ => []) (by wtm_at "x") () (by simp) (by wtm_at "sub") rfl (fun i _ w hi hp => ?_) (fun _ hp => ?_)
    · dsimp only [List.set]
      wtm_at "if"
      all_goals intro hb
      · wtm_at "w"
        have e : l.any (badW n) = true := List.any_eq_true.mpr ⟨w, List.mem_of_getElem? hi, hb⟩
        rw [e]; rfl
      · exact w_nx ⟨(), take_succ_all hi hp hb, by wtm_at "sub", rfl⟩
    · rw [List.take_length] at hp
      wtm_at "w"
      have e : l.any (badW n) = false := List.any_eq_false.mpr fun w hw => by rw [hp w hw]; decide
      rw [e]; rfl
theorem c_all_words (T : Tx P K mg) {M : List Re} {κ : KV} {n : Nat} {l : List Int}  (k : κ (rB (!l.any (badW n))) M) : CM (spD (R_all_words T)) [nI n, rLi K l] M κ := cm (fun vs G ra => SpD.of ⟨n, l, ra, rfl⟩) k
local macro_rules | `(tactic| wtm_at "c") => `(tactic| refine c_all_words _  ?_)
theorem sc_BadPerson___init__ : FsScope ["self", "part"] ["self", "part"] (defScope s_BadPerson___init__) := ⟨rfl, rfl, rfl, by decide +kernel, rfl, by decide +kernel, by decide +kernel, by decide +kernel, rfl, rfl⟩
theorem b_BadPerson___init__ (T : Tx P K mg) : Binds K T.fd_BadPerson___init__ ["self", "part"] [] := by
  obtain ⟨oc, od, kV, doc, pm, an, ct, osl, e, lk⟩ := T.S_BadPerson___init__.fn
  rw [e]
  exact Binds.all fun us hl => match us, hl with | [_, _], _ => rfl
theorem ok_BadPerson___init__ (T : Tx P K mg) : FnOk P w K mg base CX0 1 T.f_BadPerson___init__ T.fd_BadPerson___init__ ["self", "part"] (spErr T.C_BadPerson ["part"]) := by
  refine T.S_BadPerson___init__.ok sc_BadPerson___init__ (fun vs H Q E h => ?_) (fun A outer s H vs Q E hr h => ?_)
  · obtain ⟨a, xs, rfl, hl, _⟩ := h
    show xs.length + 1 = 2
    rw [hl]; rfl
  · obtain ⟨a, xs, rfl, hl, ha, k⟩ := h
    match xs, hl with
    | [x0], _ =>
    refine ⟨_, psa_expr (pea_supInit T.S_BadPerson___init__ sc_BadPerson___init__ T.pf T.m_super rfl rfl rfl (pa_cons pe_str pa_nil)) (pss_one (ps_ost (pv 0) (pv 1))), ?_⟩
    refine ⟨a, T.C_BadPerson, rfl, ha, T.err_BadPerson.oex, T.err_BadPerson.me, T.err_BadPerson.sup, T.err_BadPerson.ve, ?_⟩
    refine ⟨by show 1 ≤ 1000; decide, ha, ?_⟩
    exact ⟨x0, rfl, .ref a, rfl, a, T.C_BadPerson, rfl, T.err_BadPerson.oex, T.nf_BadPerson_part, .inl ⟨ha, fun dx hd hne => k dx hd hne⟩⟩
theorem sc_check_person : FnScope ["hears", "says", "size", "row"] ["hears", "says"] (defScope s_check_person) := ⟨rfl, rfl, rfl, by decide +kernel, rfl, by decide +kernel, by decide +kernel⟩
theorem b_check_person (T : Tx P K mg) : Binds K T.fd_check_person ["hears", "says"] [] := T.F_check_person.bindsN fun _ _ _ _ _ _ us hl => match us, hl with | [_, _], _ => rfl
def badH (h : List Int) : Bool := decide (h.length < 1) || (decide (6 < h.length) || h.any (badW h.length))
def badRow (n : Nat) (row : List Int) : Bool := decide (row.length = 0) || row.any (badW n)
def badS (n : Nat) (s : List (List Int)) : Bool := !decide (s.length = n) || s.any (badRow n)
def perO {α : Type} (U : Addr) (h : List Int) (s : List (List Int)) (x : α ⊕ (Value × List (Str × V))) : α ⊕ (Value × List (Str × V)) := if badH h = true then .inr (.ref U, [("part", .str "hears")]) else if badS h.length s = true then .inr (.ref U, [("part", .str "says")]) else x

def R_check_person (T : Tx P K mg) : List V → Hp → Out → Prop := fun vs G o => ∃ (h : List Int) (s : List (List Int)), RA G vs [rLi K h, rLLi K s] ∧ (h.length ≤ 1000) ∧ (s.length ≤ 1000) ∧ o = perO T.C_BadPerson h s (.inl (rV .non))
theorem ok_check_person (T : Tx P K mg) : FnOk P w K mg base (L2N.CX P w) 3 T.f_check_person T.fd_check_person ["hears", "says"] (spO (R_check_person T)) := by
  refine T.F_check_person.ok sc_check_person (fun vs H Q E h => ?_) (fun cdv A outer s H vs Q E hr h => ?_)
  · obtain ⟨G, o, _, ⟨h, s, ra, _⟩, _⟩ := h
    exact ra.len
  · obtain ⟨G, o, e, ⟨h, s, ra, q0, q1, rfl⟩, k1, k2⟩ := h
    refine ⟨_, (pss_cons (ps_set (i := 2) sc_check_person.nd rfl (Or.inl rfl) (pe_callB (call_lenK K) (by rfl) T.m_len PySem.boot_len (pa_cons (pv 0) pa_nil)))
      (pss_cons (ps_if (PW.pt (pw_or (pt_cmpR op_lt (pv 2) pe_int (nomark _)) (pw_or (pt_cmpR op_gt (pv 2) (pe_glob (v := .int 6) (by rfl) T.gi_GREATEST_SIZE.choose_spec ⟨_, rfl⟩) (nomark _)) (pw_or1 (pt_not (pt_val (pe_call (ok_all_words T) (hr.mono (by decide)) (by rfl) T.g_all_words T.F_all_words.kp (b_all_words T) .nil pass0 (pa_cons (pv 2) (pa_cons (pv 0) pa_nil))))))))) (pss_one (L2N.ps_raise rfl (L2N.takes_of rfl rfl rfl rfl) (pmk_err T.err_BadPerson (ok_BadPerson___init__ T) (hr.mono (by decide)) (b_BadPerson___init__ T) pass0 (by rfl) T.g_BadPerson (pa_cons pe_str pa_nil)))) pss_nil)
      (pss_cons (ps_if (pt_cmpR op_ne (pe_callB (call_lenK K) (by rfl) T.m_len PySem.boot_len (pa_cons (pv 1) pa_nil)) (pv 2) (nomark _)) (pss_one (L2N.ps_raise rfl (L2N.takes_of rfl rfl rfl rfl) (pmk_err T.err_BadPerson (ok_BadPerson___init__ T) (hr.mono (by decide)) (b_BadPerson___init__ T) pass0 (by rfl) T.g_BadPerson (pa_cons pe_str pa_nil)))) pss_nil)
      (pss_one (ps_for (passes_of rfl) rfl (pi_listK K (pv 1)) (pg_name (i := 3) sc_check_person.nd rfl (Or.inl rfl)) (pss_one (ps_if (PW.pt (pw_or (pt_cmpR op_eq (pe_callB (call_lenK K) (by rfl) T.m_len PySem.boot_len (pa_cons (pv 3) pa_nil)) pe_int (nomark _)) (pw_or1 (pt_not (pt_val (pe_call (ok_all_words T) (hr.mono (by decide)) (by rfl) T.g_all_words T.F_all_words.kp (b_all_words T) .nil pass0 (pa_cons (pv 2) (pa_cons (pv 3) pa_nil)))))))) (pss_one (L2N.ps_raise rfl (L2N.takes_of rfl rfl rfl rfl) (pmk_err T.err_BadPerson (ok_BadPerson___init__ T) (hr.mono (by decide)) (b_BadPerson___init__ T) pass0 (by rfl) T.g_BadPerson (pa_cons pe_str pa_nil)))) pss_nil))))))), ?_⟩
    refine run_O (Γ := [some (rLi K h), some (rLLi K s), none, none]) ?_ e (En.start (k := 2) _ (rs := [rLi K h, rLLi K s]) ra (by rw [ra.len]; rfl)) k1 k2
    clear ra e k1 k2
    wtm_at "w"
    wtm_at "if"
    all_goals intro hb
    · have hb' : badH h = true := by
        rw [← hb]
        unfold badH
        simp
      refine ws_raise1 x_c ?_
      show perO _ _ _ _ = _
      unfold perO
      rw [if_pos hb']
    have hb' : badH h = false := by
      rw [← hb]
      unfold badH
      simp
    wtm_at "w"
    wtm_at "if"
    all_goals intro hb2
    · refine ws_raise1 x_c ?_
      have e : badS h.length s = true := by
        unfold badS
        rw [show decide (s.length = h.length) = false by simpa using hb2]; rfl
      show perO _ _ _ _ = _
      unfold perO
      rw [hb', e]; rfl
    have hl : s.length = h.length := by simpa using hb2
    wtm_at "w"
    refine w_forL s (rLi K) (fun i (_ : Unit) => ∀ row ∈ s.take i, badRow h.length row = false) (fun _ _ => [some (rLi K h), some (rLLi K s), some (nI h.length), none]) (fun _ _ => []) (by wtm_at "x") () (by simp) (by wtm_at "sub") rfl (fun i _ row hi hp => ?_) (fun _ hp => ?_)
    · dsimp only [List.set]
      wtm_at "if"
      all_goals intro hb3
      · have e : badS h.length s = true := by
          unfold badS
          rw [show s.any (badRow h.length) = true from List.any_eq_true.mpr ⟨row, List.mem_of_getElem? hi, by rw [← hb3]; unfold badRow; simp⟩, Bool.or_true]
        refine ws_raise1 x_c ?_
        show perO _ _ _ _ = _
        unfold perO
        rw [hb', e]; rfl
      · exact w_nx ⟨(), take_succ_all hi hp (by rw [← hb3]; unfold badRow; simp), by wtm_at "sub", rfl⟩
    · rw [List.take_length] at hp
      have e : badS h.length s = false := by
        unfold badS
        rw [decide_eq_true hl, show s.any (badRow h.length) = false from List.any_eq_false.mpr fun row hr => by rw [hp row hr]; decide]; rfl
      show perO _ _ _ _ = _
      unfold perO
      rw [hb', e]; rfl
theorem c_check_person (T : Tx P K mg) {M : List Re} {κ : KV} {h : List Int} {s : List (List Int)} (q0 : h.length ≤ 1000) (q1 : s.length ≤ 1000) {r : Rp} (eo : perO T.C_BadPerson h s (.inl (rV .non)) = .inl r) (k : κ r M) : CM (spO (R_check_person T)) [rLi K h, rLLi K s] M κ := cmO (fun vs G ra => ⟨h, s, ra, q0, q1, eo.symm⟩) k
theorem xq_check_person (T : Tx P K mg) {M : List Re} {κ : KV} {ε : KX} {h : List Int} {s : List (List Int)} (q0 : h.length ≤ 1000) (q1 : s.length ≤ 1000) {r : Rp} (eo : perO T.C_BadPerson h s (.inl (rV .non)) = .inl r) (k : κ r M) : XM (spO (R_check_person T)) [rLi K h, rLLi K s] M κ ε := xm (fun vs G ra => ⟨h, s, ra, q0, q1, eo.symm⟩) k
theorem xe_check_person (T : Tx P K mg) {M : List Re} {κ : KV} {ε : KX} {h : List Int} {s : List (List Int)} (q0 : h.length ≤ 1000) (q1 : s.length ≤ 1000) {c : Value} {fs : List (Str × V)} (eo : perO T.C_BadPerson h s (.inl (rV .non)) = .inr (c, fs)) (k : ε c fs M) : XM (spO (R_check_person T)) [rLi K h, rLLi K s] M κ ε := xmx (fun vs G ra => ⟨h, s, ra, q0, q1, eo.symm⟩) k
local macro_rules | `(tactic| wtm_at "c") => `(tactic| refine xe_check_person _ (by wtm_at "s") (by wtm_at "s") (by assumption) ?_)
local macro_rules | `(tactic| wtm_at "c") => `(tactic| refine xq_check_person _ (by wtm_at "s") (by wtm_at "s") (by assumption) ?_)
local macro_rules | `(tactic| wtm_at "c") => `(tactic| refine c_check_person _ (by wtm_at "s") (by wtm_at "s") (by assumption) ?_)
theorem sc_Person___init__ : FnScope ["self", "hears", "says", "row"] ["self", "hears", "says"] (defScope s_Person___init__) := ⟨rfl, rfl, rfl, by decide +kernel, rfl, by decide +kernel, by decide +kernel⟩
theorem b_Person___init__ (T : Tx P K mg) : Binds K T.fd_Person___init__ ["self", "hears", "says"] [] := T.F_Person___init__.bindsN fun _ _ _ _ _ _ us hl => match us, hl with | [_, _, _], _ => rfl
def perF (K : PySem.W.Frag) (h : List Int) (s : List (List Int)) : FL := [("size", nI h.length), ("ears", rT K (h.map Mu.rI)), ("mouths", rT K (s.map fun r => rT K (r.map Mu.rI)))]

def OK_Person__init (T : Tx P K mg) (C : Addr) : Prop := Cls K C ∧ NoAttr K C "size" ∧ NoAttr K C "ears" ∧ NoAttr K C "mouths"
def R_Person__init (T : Tx P K mg) : List V → Hp → IOut → Prop := fun vs G o => ∃ (h : List Int) (s : List (List Int)), RA G vs [rLi K h, rLLi K s] ∧ (h.length ≤ 1000) ∧ (s.length ≤ 1000) ∧ (∀ r ∈ s, r.length ≤ 1000) ∧ o = perO T.C_BadPerson h s (.inl (perF K h s))
theorem ok_Person___init__ (T : Tx P K mg) : FnOk P w K mg base (L2N.CX P w) 4 T.f_Person___init__ T.fd_Person___init__ ["self", "hears", "says"] (spIni (OK_Person__init T) (R_Person__init T)) := by
  refine T.F_Person___init__.ok sc_Person___init__ (fun vs H Q E h => ?_) (fun cdv A outer s H vs Q E hr h => ?_)
  · obtain ⟨p, C, dx, ws, G, o, rfl, _, _, _, _, ⟨h, s, ra, _⟩, _⟩ := h
    show ws.length + 1 = _
    rw [ra.len]; rfl
  · obtain ⟨p, C, dx, ws, G, o, rfl, hC, hp, e, gp, ⟨h, s, ra, q0, q1, q2, rfl⟩, k1, k2⟩ := h
    refine ⟨_, (pss_cons (ps_expr (pe_callS (ok_check_person T) (hr.mono (by decide)) (by rfl) T.g_check_person T.F_check_person.kp (b_check_person T) (fun σ => L2N.passAt (L2N.takes_of rfl rfl rfl rfl) σ) (pa_cons (pv 1) (pa_cons (pv 2) pa_nil))))
      (pss_cons (ps_fld (pv 0) (pe_callB (call_lenK K) (by rfl) T.m_len PySem.boot_len (pa_cons (pv 1) pa_nil)) rfl)
      (pss_cons (ps_fld (pv 0) (pe_callTy (call_tupK K) (by rfl) T.m_tuple (by decide +kernel) (pa_cons (pv 1) pa_nil)) rfl)
      (pss_one (ps_fld (pv 0) (pe_callTy (call_tupK K) (by rfl) T.m_tuple (by decide +kernel) (pa_cons (pe_lc (own := [("row", 3)]) (by rfl) sc_Person___init__.nd (pi_listK K (pv 2)) (blkOk_by (N := ["self", "hears", "says", "row"]) (sc := defScope s_Person___init__) (by decide +kernel)) (fun _ _ _ _ _ => (pg_name (i := 3) sc_Person___init__.nd rfl (Or.inl rfl))) (fun _ _ _ _ _ => pts_nil) (fun _ _ _ _ _ => (pe_callTy (call_tupK K) (by rfl) T.m_tuple (by decide +kernel) (pa_cons (pv 3) pa_nil)))) pa_nil)) rfl))))), ?_⟩
    refine run_I (Γ := [some (rV (.ref p)), some (rLi K h), some (rLLi K s), none]) ?_ e gp hp (En.start (k := 1) _ (rs := rV (.ref p) :: [rLi K h, rLLi K s]) (.cons rfl ra) (by show _ - (ws.length + 1) = _; rw [ra.len]; rfl)) k1 k2
    clear ra e k1 k2 gp hp
    obtain ⟨c0, c1, c2, c3⟩ := hC
    refine w_seq ?_
    refine ws_do ?_
    by_cases hb : badH h = true ∨ badS h.length s = true
    · obtain ⟨part, hpt⟩ : ∃ part : V, ∀ {α : Type} (x : α ⊕ (Value × List (Str × V))), perO T.C_BadPerson h s x = .inr (.ref T.C_BadPerson, [("part", part)]) := by
        by_cases h1 : badH h = true
        · exact ⟨.str "hears", fun x => by unfold perO; rw [if_pos h1]⟩
        · exact ⟨.str "says", fun x => by unfold perO; rw [if_neg h1, if_pos (by rcases hb with z | z; exact absurd z h1; exact z)]⟩
      have e1 := hpt (α := Rp) (.inl (rV .non))
      wtm_at "e"
      exact hpt _
    · have h1 : badH h = false := by simpa using fun z => hb (.inl z)
      have h2 : badS h.length s = false := by simpa using fun z => hb (.inr z)
      have e1 : perO T.C_BadPerson h s (.inl (rV .non)) = .inl (rV .non) := by unfold perO; rw [h1, h2]; rfl
      wtm_at "e"
      wtm_at "w"
      exact ⟨_, by unfold perO; rw [h1, h2]; rfl, rfl⟩
theorem mk_Person__init (T : Tx P K mg) {M : List Re} {κ : KV} {ε : KX} {C : Addr} (hC : OK_Person__init T C) {h : List Int} {s : List (List Int)} (q0 : h.length ≤ 1000) (q1 : s.length ≤ 1000) (q2 : ∀ r ∈ s, r.length ≤ 1000) {fs : FL} (eo : perO T.C_BadPerson h s (.inl (perF K h s)) = .inl fs) (k : κ (rIns C fs) M) : MkM C (spIni (OK_Person__init T) (R_Person__init T)) [rLi K h, rLLi K s] M κ ε := mk_ini hC (fun vs G ra => ⟨h, s, ra, q0, q1, q2, eo.symm⟩) k
theorem me_Person__init (T : Tx P K mg) {M : List Re} {κ : KV} {ε : KX} {C : Addr} (hC : OK_Person__init T C) {h : List Int} {s : List (List Int)} (q0 : h.length ≤ 1000) (q1 : s.length ≤ 1000) (q2 : ∀ r ∈ s, r.length ≤ 1000) {c : Value} {xs : List (Str × V)} (eo : perO T.C_BadPerson h s (.inl (perF K h s)) = .inr (c, xs)) (k : ε c xs M) : MkM C (spIni (OK_Person__init T) (R_Person__init T)) [rLi K h, rLLi K s] M κ ε := mk_err hC (fun vs G ra => ⟨h, s, ra, q0, q1, q2, eo.symm⟩) k
local macro_rules | `(tactic| wtm_at "c") => `(tactic| refine me_Person__init _ (by assumption) (by wtm_at "s") (by wtm_at "s") (by wtm_at "s") (by assumption) ?_)
local macro_rules | `(tactic| wtm_at "c") => `(tactic| refine mk_Person__init _ (by assumption) (by wtm_at "s") (by wtm_at "s") (by wtm_at "s") (by assumption) ?_)
theorem sc_Knower___init__ : FsScope ["self", "hears", "says", "knows"] ["self", "hears", "says", "knows"] (defScope s_Knower___init__) := ⟨rfl, rfl, rfl, by decide +kernel, rfl, by decide +kernel, by decide +kernel, by decide +kernel, rfl, rfl⟩
theorem b_Knower___init__ (T : Tx P K mg) : Binds K T.fd_Knower___init__ ["self", "hears", "says", "knows"] [] := by
  obtain ⟨oc, od, kV, doc, pm, an, ct, osl, e, lk⟩ := T.S_Knower___init__.fn
  rw [e]
  exact Binds.all fun us hl => match us, hl with | [_, _, _, _], _ => rfl
def knO (K : PySem.W.Frag) (U : Addr) (h : List Int) (s : List (List Int)) (kn : List Int) : IOut := match (perO U h s (.inl (perF K h s)) : IOut) with
  | .inl fs => if kn.any (badW h.length) = true then .inr (.ref U, [("part", .str "knows")]) else .inl (fs ++ ([("sure_words", rT K (kn.map Mu.rI))] : FL))
  | .inr x => .inr x

def OK_Knower__init (T : Tx P K mg) (C : Addr) : Prop := Cls K C ∧ NoAttr K C "size" ∧ NoAttr K C "ears" ∧ NoAttr K C "mouths" ∧ NoAttr K C "sure_words" ∧ SupF K C T.C_Knower "__init__" T.f_Person___init__
def R_Knower__init (T : Tx P K mg) : List V → Hp → IOut → Prop := fun vs G o => ∃ (h : List Int) (s : List (List Int)) (kn : List Int), RA G vs [rLi K h, rLLi K s, rLi K kn] ∧ (h.length ≤ 1000) ∧ (s.length ≤ 1000) ∧ (∀ r ∈ s, r.length ≤ 1000) ∧ (kn.length ≤ 1000) ∧ o = knO K T.C_BadPerson h s kn
theorem ok_Knower___init__ (T : Tx P K mg) : FnOk P w K mg base (L2N.CX P w) 5 T.f_Knower___init__ T.fd_Knower___init__ ["self", "hears", "says", "knows"] (spIni (OK_Knower__init T) (R_Knower__init T)) := by
  refine T.S_Knower___init__.ok sc_Knower___init__ (fun vs H Q E h => ?_) (fun A outer s H vs Q E hr h => ?_)
  · obtain ⟨p, C, dx, ws, G, o, rfl, _, _, _, _, ⟨h, s, kn, ra, _⟩, _⟩ := h
    show ws.length + 1 = _
    rw [ra.len]; rfl
  · obtain ⟨p, C, dx, ws, G, o, rfl, hC, hp, e, gp, ⟨h, s, kn, ra, q0, q1, q2, q3, rfl⟩, k1, k2⟩ := h
    refine ⟨_, (psa_expr (pea_supMeth T.S_Knower___init__ sc_Knower___init__ T.pf T.m_super rfl rfl rfl (FunD.lk T.F_Person___init__) T.ty_Person___init__ (ok_Person___init__ T) (hr.mono (by decide)) (b_Person___init__ T) (fun σ => L2N.passAt (L2N.takes_of rfl rfl rfl rfl) σ) (pa_cons (pv 1) (pa_cons (pv 2) pa_nil)) (by decide +kernel))
      (pss_cons (ps_if (pt_not (pt_val (pe_call (ok_all_words T) (hr.mono (by decide)) (by rfl) T.g_all_words T.F_all_words.kp (b_all_words T) .nil pass0 (pa_cons (pe_fldK K (pv 0)) (pa_cons (pv 3) pa_nil))))) (pss_one (L2N.ps_raise rfl (L2N.takes_of rfl rfl rfl rfl) (pmk_err T.err_BadPerson (ok_BadPerson___init__ T) (hr.mono (by decide)) (b_BadPerson___init__ T) pass0 (by rfl) T.g_BadPerson (pa_cons pe_str pa_nil)))) pss_nil)
      (pss_one (ps_fld (pv 0) (pe_callTy (call_tupK K) (by rfl) T.m_tuple (by decide +kernel) (pa_cons (pv 3) pa_nil)) rfl)))), ?_⟩
    refine run_I (Γ := [some (rV (.ref p)), some (rLi K h), some (rLLi K s), some (rLi K kn)]) ?_ e gp hp (En.start (k := 0) _ (rs := rV (.ref p) :: [rLi K h, rLLi K s, rLi K kn]) (.cons rfl ra) (by show _ - (ws.length + 1) = _; rw [ra.len]; rfl)) k1 k2
    clear ra e k1 k2 gp hp
    obtain ⟨c0, c1, c2, c3, c4, c5⟩ := hC
    refine w_seq ?_
    refine ws_do ?_
    refine e_supI rfl ⟨c0, c1, c2, c3⟩ c5.mro c5.sup rfl ?_
    wtm_at "e"
    refine ⟨rfl, _, fun ws G ra => ⟨h, s, ra, q0, q1, q2, rfl⟩, fun fs e1 => ?_, fun cls xs e1 => ?_⟩
    · have e2 : perO T.C_BadPerson h s (.inl (perF K h s)) = .inl (perF K h s) := by
        unfold perO at e1 ⊢
        split at e1
        · cases e1
        · split at e1
          · cases e1
          · rename_i h1 h2
            rw [if_neg h1, if_neg h2]
      rw [e2] at e1
      cases e1
      dsimp only [List.set]
      wtm_at "w"
      wtm_at "ifc"
      all_goals intro hb
      · refine ws_raise1 x_c ?_
        show knO _ _ _ _ _ = _
        unfold knO
        rw [e2, show kn.any (badW h.length) = true by simpa using hb]; rfl
      · wtm_at "w"
        refine ⟨_, ?_, rfl⟩
        unfold knO
        rw [e2, show kn.any (badW h.length) = false by simpa using hb]; rfl
    · show knO _ _ _ _ _ = _
      unfold knO
      rw [e1]
theorem mk_Knower__init (T : Tx P K mg) {M : List Re} {κ : KV} {ε : KX} {C : Addr} (hC : OK_Knower__init T C) {h : List Int} {s : List (List Int)} {kn : List Int} (q0 : h.length ≤ 1000) (q1 : s.length ≤ 1000) (q2 : ∀ r ∈ s, r.length ≤ 1000) (q3 : kn.length ≤ 1000) {fs : FL} (eo : knO K T.C_BadPerson h s kn = .inl fs) (k : κ (rIns C fs) M) : MkM C (spIni (OK_Knower__init T) (R_Knower__init T)) [rLi K h, rLLi K s, rLi K kn] M κ ε := mk_ini hC (fun vs G ra => ⟨h, s, kn, ra, q0, q1, q2, q3, eo.symm⟩) k
theorem me_Knower__init (T : Tx P K mg) {M : List Re} {κ : KV} {ε : KX} {C : Addr} (hC : OK_Knower__init T C) {h : List Int} {s : List (List Int)} {kn : List Int} (q0 : h.length ≤ 1000) (q1 : s.length ≤ 1000) (q2 : ∀ r ∈ s, r.length ≤ 1000) (q3 : kn.length ≤ 1000) {c : Value} {xs : List (Str × V)} (eo : knO K T.C_BadPerson h s kn = .inr (c, xs)) (k : ε c xs M) : MkM C (spIni (OK_Knower__init T) (R_Knower__init T)) [rLi K h, rLLi K s, rLi K kn] M κ ε := mk_err hC (fun vs G ra => ⟨h, s, kn, ra, q0, q1, q2, q3, eo.symm⟩) k
local macro_rules | `(tactic| wtm_at "c") => `(tactic| refine me_Knower__init _ (by assumption) (by wtm_at "s") (by wtm_at "s") (by wtm_at "s") (by wtm_at "s") (by assumption) ?_)
local macro_rules | `(tactic| wtm_at "c") => `(tactic| refine mk_Knower__init _ (by assumption) (by wtm_at "s") (by wtm_at "s") (by wtm_at "s") (by wtm_at "s") (by assumption) ?_)
theorem sc_UnknownWord___init__ : FsScope ["self", "word"] ["self", "word"] (defScope s_UnknownWord___init__) := ⟨rfl, rfl, rfl, by decide +kernel, rfl, by decide +kernel, by decide +kernel, by decide +kernel, rfl, rfl⟩
theorem b_UnknownWord___init__ (T : Tx P K mg) : Binds K T.fd_UnknownWord___init__ ["self", "word"] [] := by
  obtain ⟨oc, od, kV, doc, pm, an, ct, osl, e, lk⟩ := T.S_UnknownWord___init__.fn
  rw [e]
  exact Binds.all fun us hl => match us, hl with | [_, _], _ => rfl
theorem ok_UnknownWord___init__ (T : Tx P K mg) : FnOk P w K mg base CX0 1 T.f_UnknownWord___init__ T.fd_UnknownWord___init__ ["self", "word"] (spErr T.C_UnknownWord ["word"]) := by
  refine T.S_UnknownWord___init__.ok sc_UnknownWord___init__ (fun vs H Q E h => ?_) (fun A outer s H vs Q E hr h => ?_)
  · obtain ⟨a, xs, rfl, hl, _⟩ := h
    show xs.length + 1 = 2
    rw [hl]; rfl
  · obtain ⟨a, xs, rfl, hl, ha, k⟩ := h
    match xs, hl with
    | [x0], _ =>
    refine ⟨_, psa_expr (pea_supInit T.S_UnknownWord___init__ sc_UnknownWord___init__ T.pf T.m_super rfl rfl rfl (pa_cons pe_str pa_nil)) (pss_one (ps_ost (pv 0) (pv 1))), ?_⟩
    refine ⟨a, T.C_UnknownWord, rfl, ha, T.err_UnknownWord.oex, T.err_UnknownWord.me, T.err_UnknownWord.sup, T.err_UnknownWord.ve, ?_⟩
    refine ⟨by show 1 ≤ 1000; decide, ha, ?_⟩
    exact ⟨x0, rfl, .ref a, rfl, a, T.C_UnknownWord, rfl, T.err_UnknownWord.oex, T.nf_UnknownWord_word, .inl ⟨ha, fun dx hd hne => k dx hd hne⟩⟩
theorem sc_check_word : FnScope ["size", "word"] ["size", "word"] (defScope s_check_word) := ⟨rfl, rfl, rfl, by decide +kernel, rfl, by decide +kernel, by decide +kernel⟩
theorem b_check_word (T : Tx P K mg) : Binds K T.fd_check_word ["size", "word"] [] := T.F_check_word.bindsN fun _ _ _ _ _ _ us hl => match us, hl with | [_, _], _ => rfl
def wordO {α : Type} (U : Addr) (n : Nat) (w : Int) (x : α ⊕ (Value × List (Str × V))) : α ⊕ (Value × List (Str × V)) := if badW n w = true then .inr (.ref U, [("word", .int w)]) else x
theorem word_bad {α : Type} {U : Addr} {n : Nat} {w : Int} {x : α ⊕ (Value × List (Str × V))} (h : badW n w = true) : wordO U n w x = .inr (.ref U, [("word", .int w)]) := if_pos h
theorem word_good {α : Type} {U : Addr} {n : Nat} {w : Int} {x : α ⊕ (Value × List (Str × V))} (h : ¬ badW n w = true) : wordO U n w x = x := if_neg h
theorem word_nat {n : Nat} {w : Int} (h : ¬ badW n w = true) : ∃ k : Nat, w = (k : Int) ∧ k < n := by
  unfold badW at h
  simp at h
  exact ⟨w.toNat, by omega, by omega⟩

def R_check_word (T : Tx P K mg) : List V → Hp → Out → Prop := fun vs G o => ∃ (n : Nat) (w : Int), RA G vs [nI n, Mu.rI w] ∧ o = wordO T.C_UnknownWord n w (.inl (rV .non))
theorem ok_check_word (T : Tx P K mg) : FnOk P w K mg base (L2N.CX P w) 3 T.f_check_word T.fd_check_word ["size", "word"] (spO (R_check_word T)) := by
  refine T.F_check_word.ok sc_check_word (fun vs H Q E h => ?_) (fun cdv A outer s H vs Q E hr h => ?_)
  · obtain ⟨G, o, _, ⟨n, w, ra, _⟩, _⟩ := h
    exact ra.len
  · obtain ⟨G, o, e, ⟨n, w, ra, rfl⟩, k1, k2⟩ := h
    refine ⟨_, (pss_one (ps_if (PW.pt (pw_or (pt_cmpR op_lt (pv 1) pe_int (nomark _)) (pw_or1 (pt_cmpR op_ge (pv 1) (pv 0) (nomark _))))) (pss_one (L2N.ps_raise rfl (L2N.takes_of rfl rfl rfl rfl) (pmk_err T.err_UnknownWord (ok_UnknownWord___init__ T) (hr.mono (by decide)) (b_UnknownWord___init__ T) pass0 (by rfl) T.g_UnknownWord (pa_cons (pv 1) pa_nil)))) pss_nil)), ?_⟩
    refine run_O (Γ := [some (nI n), some (Mu.rI w)]) ?_ e (En.start (k := 0) _ (rs := [nI n, Mu.rI w]) ra (by rw [ra.len]; rfl)) k1 k2
    clear ra e k1 k2
    wtm_at "if"
    all_goals intro hb
    · refine ws_raise1 (x_v rfl) ?_
      show wordO _ _ _ _ = _
      exact if_pos hb
    · refine w_nx ?_
      show wordO _ _ _ _ = _
      exact if_neg (by rw [show badW n w = false from hb]; decide)
theorem c_check_word (T : Tx P K mg) {M : List Re} {κ : KV} {n : Nat} {w : Int}  {r : Rp} (eo : wordO T.C_UnknownWord n w (.inl (rV .non)) = .inl r) (k : κ r M) : CM (spO (R_check_word T)) [nI n, Mu.rI w] M κ := cmO (fun vs G ra => ⟨n, w, ra, eo.symm⟩) k
theorem xq_check_word (T : Tx P K mg) {M : List Re} {κ : KV} {ε : KX} {n : Nat} {w : Int}  {r : Rp} (eo : wordO T.C_UnknownWord n w (.inl (rV .non)) = .inl r) (k : κ r M) : XM (spO (R_check_word T)) [nI n, Mu.rI w] M κ ε := xm (fun vs G ra => ⟨n, w, ra, eo.symm⟩) k
theorem xe_check_word (T : Tx P K mg) {M : List Re} {κ : KV} {ε : KX} {n : Nat} {w : Int}  {c : Value} {fs : List (Str × V)} (eo : wordO T.C_UnknownWord n w (.inl (rV .non)) = .inr (c, fs)) (k : ε c fs M) : XM (spO (R_check_word T)) [nI n, Mu.rI w] M κ ε := xmx (fun vs G ra => ⟨n, w, ra, eo.symm⟩) k
local macro_rules | `(tactic| wtm_at "c") => `(tactic| refine xe_check_word _  (by assumption) ?_)
local macro_rules | `(tactic| wtm_at "c") => `(tactic| refine xq_check_word _  (by assumption) ?_)
local macro_rules | `(tactic| wtm_at "c") => `(tactic| refine c_check_word _  (by assumption) ?_)
theorem sc_Person_heard : FnScope ["self", "word"] ["self", "word"] (defScope s_Person_heard) := ⟨rfl, rfl, rfl, by decide +kernel, rfl, by decide +kernel, by decide +kernel⟩
theorem b_Person_heard (T : Tx P K mg) : Binds K T.fd_Person_heard ["self", "word"] [] := T.F_Person_heard.bindsN fun _ _ _ _ _ _ us hl => match us, hl with | [_, _], _ => rfl
structure PerC (K : PySem.W.Frag) (fh C : Addr) : Prop where
  cls : Cls K C
  size : NoAttr K C "size"
  ears : NoAttr K C "ears"
  mouths : NoAttr K C "mouths"
  heard : Meth K C "heard" fh

def R_Person_heard (T : Tx P K mg) : List V → Hp → Out → Prop := fun vs G o => ∃ (C : Addr) (h : List Int) (s : List (List Int)) (xs : FL) (w : Int), RA G vs [rIns C (perF K h s ++ xs), Mu.rI w] ∧ (PerC K T.f_Person_heard C) ∧ o = wordO T.C_UnknownWord h.length w (.inl (Mu.rI (h.getD w.toNat 0)))
theorem ok_Person_heard (T : Tx P K mg) : FnOk P w K mg base (L2N.CX P w) 4 T.f_Person_heard T.fd_Person_heard ["self", "word"] (spO (R_Person_heard T)) := by
  refine T.F_Person_heard.ok sc_Person_heard (fun vs H Q E h => ?_) (fun cdv A outer s H vs Q E hr h => ?_)
  · obtain ⟨G, o, _, ⟨C, h, s, xs, w, ra, _⟩, _⟩ := h
    exact ra.len
  · obtain ⟨G, o, e, ⟨C, h, s, xs, w, ra, q0, rfl⟩, k1, k2⟩ := h
    refine ⟨_, (pss_cons (ps_expr (pe_callS (ok_check_word T) (hr.mono (by decide)) (by rfl) T.g_check_word T.F_check_word.kp (b_check_word T) (fun σ => L2N.passAt (L2N.takes_of rfl rfl rfl rfl) σ) (pa_cons (pe_fldK K (pv 0)) (pa_cons (pv 1) pa_nil))))
      (pss_one (ps_ret (pe_ix (ix_tupK K) (pe_fldK K (pv 0)) (pv 1) (fun _ _ => rfl))))), ?_⟩
    refine run_O (Γ := [some (rIns C (perF K h s ++ xs)), some (Mu.rI w)]) ?_ e (En.start (k := 0) _ (rs := [rIns C (perF K h s ++ xs), Mu.rI w]) ra (by rw [ra.len]; rfl)) k1 k2
    clear ra e k1 k2
    have c0 := q0.cls
    have c1 := q0.size
    have c2 := q0.ears
    refine w_seq (ws_do ?_)
    by_cases hb : badW h.length w = true
    · have e1 := word_bad (α := Rp) (U := T.C_UnknownWord) (x := .inl (rV .non)) hb
      wtm_at "e"
      exact word_bad hb
    · have e1 := word_good (α := Rp) (U := T.C_UnknownWord) (x := .inl (rV .non)) hb
      wtm_at "e"
      obtain ⟨k, rfl, hk⟩ := word_nat hb
      wtm_at "w"
      exact word_good hb
theorem c_Person_heard (T : Tx P K mg) {M : List Re} {κ : KV} {C : Addr} {h : List Int} {s : List (List Int)} {xs : FL} {w : Int} (q0 : PerC K T.f_Person_heard C) {r : Rp} (eo : wordO T.C_UnknownWord h.length w (.inl (Mu.rI (h.getD w.toNat 0))) = .inl r) (k : κ r M) : CM (spO (R_Person_heard T)) [rIns C (perF K h s ++ xs), Mu.rI w] M κ := cmO (fun vs G ra => ⟨C, h, s, xs, w, ra, q0, eo.symm⟩) k
theorem xq_Person_heard (T : Tx P K mg) {M : List Re} {κ : KV} {ε : KX} {C : Addr} {h : List Int} {s : List (List Int)} {xs : FL} {w : Int} (q0 : PerC K T.f_Person_heard C) {r : Rp} (eo : wordO T.C_UnknownWord h.length w (.inl (Mu.rI (h.getD w.toNat 0))) = .inl r) (k : κ r M) : XM (spO (R_Person_heard T)) [rIns C (perF K h s ++ xs), Mu.rI w] M κ ε := xm (fun vs G ra => ⟨C, h, s, xs, w, ra, q0, eo.symm⟩) k
theorem xe_Person_heard (T : Tx P K mg) {M : List Re} {κ : KV} {ε : KX} {C : Addr} {h : List Int} {s : List (List Int)} {xs : FL} {w : Int} (q0 : PerC K T.f_Person_heard C) {c : Value} {fs : List (Str × V)} (eo : wordO T.C_UnknownWord h.length w (.inl (Mu.rI (h.getD w.toNat 0))) = .inr (c, fs)) (k : ε c fs M) : XM (spO (R_Person_heard T)) [rIns C (perF K h s ++ xs), Mu.rI w] M κ ε := xmx (fun vs G ra => ⟨C, h, s, xs, w, ra, q0, eo.symm⟩) k
local macro_rules | `(tactic| wtm_at "c") => `(tactic| refine xe_Person_heard _ (by wtm_at "s") (by assumption) ?_)
local macro_rules | `(tactic| wtm_at "c") => `(tactic| refine xq_Person_heard _ (by wtm_at "s") (by assumption) ?_)
local macro_rules | `(tactic| wtm_at "c") => `(tactic| refine c_Person_heard _ (by wtm_at "s") (by assumption) ?_)
theorem sc_Person_said : FnScope ["self", "word", "heard", "out"] ["self", "word"] (defScope s_Person_said) := ⟨rfl, rfl, rfl, by decide +kernel, rfl, by decide +kernel, by decide +kernel⟩
theorem b_Person_said (T : Tx P K mg) : Binds K T.fd_Person_said ["self", "word"] [] := T.F_Person_said.bindsN fun _ _ _ _ _ _ us hl => match us, hl with | [_, _], _ => rfl
def saidL (h : List Int) (s : List (List Int)) (w : Nat) : List Nat := (List.range h.length).filter fun o => decide ((o : Int) ∈ s.getD (h.getD w 0).toNat [])

def R_Person_said (T : Tx P K mg) : List V → Hp → NOut → Prop := fun vs G o => ∃ (C : Addr) (h : List Int) (s : List (List Int)) (xs : FL) (w : Int), RA G vs [rIns C (perF K h s ++ xs), Mu.rI w] ∧ (PerC K T.f_Person_heard C) ∧ (h.length ≤ 6) ∧ (s.length = h.length) ∧ (∀ x ∈ h, badW h.length x = false) ∧ (xs.lookup ("heard" : Str) = none) ∧ o = wordO T.C_UnknownWord h.length w (.inl ((saidL h s w.toNat).map nI))
theorem ok_Person_said (T : Tx P K mg) : FnOk P w K mg base (L2N.CX P w) 5 T.f_Person_said T.fd_Person_said ["self", "word"] (spON (R_Person_said T)) := by
  refine T.F_Person_said.ok sc_Person_said (fun vs H Q E h => ?_) (fun cdv A outer s H vs Q E hr h => ?_)
  · obtain ⟨G, o, _, ⟨C, h, s, xs, w, ra, _⟩, _⟩ := h
    exact ra.len
  · obtain ⟨G, o, e, ⟨C, h, s, xs, w, ra, q0, q1, q2, q3, q4, rfl⟩, k1, k2⟩ := h
    have hC := q0
    refine ⟨_, (pss_cons (ps_set (i := 2) sc_Person_said.nd rfl (Or.inr rfl) (pe_ix (ix_tupK K) (pe_fldK K (pv 0)) (pe_methS (pv 0) hC.cls hC.heard (ok_Person_heard T) (hr.mono (by decide)) (b_Person_heard T) (fun σ => L2N.passAt (L2N.takes_of rfl rfl rfl rfl) σ) (pa_cons (pv 1) pa_nil)) (fun _ _ => rfl)))
      (pss_one (ps_ret (pe_lc (own := [("out", 3)]) (by rfl) sc_Person_said.nd (pi_range1 (by rfl) T.m_range (pa_cons (pe_fldK K (pv 0)) pa_nil)) (blkOk_by (N := ["self", "word", "heard", "out"]) (sc := defScope s_Person_said) (by decide +kernel)) (fun _ _ _ _ _ => (pg_name (i := 3) sc_Person_said.nd rfl (Or.inl rfl))) (fun _ _ _ _ _ => (pts_one (pt_cmpR (op_inK K) (pv 3) (pv 2) rfl))) (fun _ _ _ _ _ => (pv 3)))))), ?_⟩
    refine run_ON (Γ := [some (rIns C (perF K h s ++ xs)), some (Mu.rI w), none, none]) ?_ e (En.start (k := 2) _ (rs := [rIns C (perF K h s ++ xs), Mu.rI w]) ra (by rw [ra.len]; rfl)) k1 k2
    clear ra e k1 k2
    have c0 := q0.cls
    have c1 := q0.size
    have c2 := q0.ears
    have c3 := q0.mouths
    refine w_seq (ws_set ?_)
    by_cases hb : badW h.length w = true
    · have e1 := word_bad (α := Rp) (U := T.C_UnknownWord) (x := .inl (Mu.rI (h.getD w.toNat 0))) hb
      wtm_at "e"
      exact word_bad hb
    · obtain ⟨k, rfl, hk⟩ := word_nat hb
      have hm : h.getD k 0 ∈ h := by
        rw [List.getD_eq_getElem?_getD, List.getElem?_eq_getElem hk]
        exact List.getElem_mem _
      obtain ⟨j, hj, hjl⟩ := word_nat (n := h.length) (w := h.getD k 0) (by rw [q3 _ hm]; decide)
      have e1 : wordO T.C_UnknownWord h.length (k : Int) (.inl (Mu.rI (h.getD ((k : Nat) : Int).toNat 0))) = .inl (nI j) := by
        rw [word_good hb, Int.toNat_natCast, hj]
      have hjs : j < s.length := by omega
      wtm_at "e"
      try dsimp only [List.set]
      refine ws_ret (e_n (xn_lcR h.length (fun o => decide ((o : Int) ∈ s.getD j [])) nI (by wtm_at "x") (by omega) (fun o ho => by wtm_at "tq") (fun o ho _ => by wtm_at "x")) fun p => ?_)
      refine ⟨_, p, ?_, rfl, rfl⟩
      rw [word_good hb]
      unfold saidL
      rw [Int.toNat_natCast, hj, Int.toNat_natCast]
theorem xo_Person_said (T : Tx P K mg) {M : List Re} {κ : KV} {ε : KX} {C : Addr} {h : List Int} {s : List (List Int)} {xs : FL} {w : Int} (q0 : PerC K T.f_Person_heard C) (q1 : h.length ≤ 6) (q2 : s.length = h.length) (q3 : ∀ x ∈ h, badW h.length x = false) (q4 : xs.lookup ("heard" : Str) = none) {ss : List Rp} (eo : wordO T.C_UnknownWord h.length w (.inl ((saidL h s w.toNat).map nI)) = .inl ss) (k : ∀ p, κ (rV (.ref p)) (M ++ [lstR p ss])) : XM (spON (R_Person_said T)) [rIns C (perF K h s ++ xs), Mu.rI w] M κ ε := xmo (fun vs G ra => ⟨C, h, s, xs, w, ra, q0, q1, q2, q3, q4, eo.symm⟩) k
theorem xf_Person_said (T : Tx P K mg) {M : List Re} {κ : KV} {ε : KX} {C : Addr} {h : List Int} {s : List (List Int)} {xs : FL} {w : Int} (q0 : PerC K T.f_Person_heard C) (q1 : h.length ≤ 6) (q2 : s.length = h.length) (q3 : ∀ x ∈ h, badW h.length x = false) (q4 : xs.lookup ("heard" : Str) = none) {ss : List Rp} (eo : wordO T.C_UnknownWord h.length w (.inl ((saidL h s w.toNat).map nI)) = .inl ss) (k : κ (rL K ss) M) : XM (spON (R_Person_said T)) [rIns C (perF K h s ++ xs), Mu.rI w] M κ ε := xmf K (fun vs G ra => ⟨C, h, s, xs, w, ra, q0, q1, q2, q3, q4, eo.symm⟩) k
theorem xe_Person_said (T : Tx P K mg) {M : List Re} {κ : KV} {ε : KX} {C : Addr} {h : List Int} {s : List (List Int)} {xs : FL} {w : Int} (q0 : PerC K T.f_Person_heard C) (q1 : h.length ≤ 6) (q2 : s.length = h.length) (q3 : ∀ x ∈ h, badW h.length x = false) (q4 : xs.lookup ("heard" : Str) = none) {c : Value} {fs : List (Str × V)} (eo : wordO T.C_UnknownWord h.length w (.inl ((saidL h s w.toNat).map nI)) = .inr (c, fs)) (k : ε c fs M) : XM (spON (R_Person_said T)) [rIns C (perF K h s ++ xs), Mu.rI w] M κ ε := xme (fun vs G ra => ⟨C, h, s, xs, w, ra, q0, q1, q2, q3, q4, eo.symm⟩) k
theorem o_Person_said (T : Tx P K mg) {M : List Re} {κ : KV} {C : Addr} {h : List Int} {s : List (List Int)} {xs : FL} {w : Int} (q0 : PerC K T.f_Person_heard C) (q1 : h.length ≤ 6) (q2 : s.length = h.length) (q3 : ∀ x ∈ h, badW h.length x = false) (q4 : xs.lookup ("heard" : Str) = none) {ss : List Rp} (eo : wordO T.C_UnknownWord h.length w (.inl ((saidL h s w.toNat).map nI)) = .inl ss) (k : ∀ p, κ (rV (.ref p)) (M ++ [lstR p ss])) : CM (spON (R_Person_said T)) [rIns C (perF K h s ++ xs), Mu.rI w] M κ := cmo_ (xo_Person_said T q0 q1 q2 q3 q4 eo k) spON_E
theorem c_Person_said (T : Tx P K mg) {M : List Re} {κ : KV} {C : Addr} {h : List Int} {s : List (List Int)} {xs : FL} {w : Int} (q0 : PerC K T.f_Person_heard C) (q1 : h.length ≤ 6) (q2 : s.length = h.length) (q3 : ∀ x ∈ h, badW h.length x = false) (q4 : xs.lookup ("heard" : Str) = none) {ss : List Rp} (eo : wordO T.C_UnknownWord h.length w (.inl ((saidL h s w.toNat).map nI)) = .inl ss) (k : κ (rL K ss) M) : CM (spON (R_Person_said T)) [rIns C (perF K h s ++ xs), Mu.rI w] M κ := cmo_ (xf_Person_said T q0 q1 q2 q3 q4 eo k) spON_E
local macro_rules | `(tactic| wtm_at "co") => `(tactic| refine xo_Person_said _ (by wtm_at "s") (by wtm_at "s") (by wtm_at "s") (by wtm_at "s") (by wtm_at "s") (by assumption) ?_)
local macro_rules | `(tactic| wtm_at "co") => `(tactic| refine o_Person_said _ (by wtm_at "s") (by wtm_at "s") (by wtm_at "s") (by wtm_at "s") (by wtm_at "s") (by assumption) ?_)
local macro_rules | `(tactic| wtm_at "c") => `(tactic| refine xe_Person_said _ (by wtm_at "s") (by wtm_at "s") (by wtm_at "s") (by wtm_at "s") (by wtm_at "s") (by assumption) ?_)
local macro_rules | `(tactic| wtm_at "c") => `(tactic| refine xf_Person_said _ (by wtm_at "s") (by wtm_at "s") (by wtm_at "s") (by wtm_at "s") (by wtm_at "s") (by assumption) ?_)
local macro_rules | `(tactic| wtm_at "c") => `(tactic| refine c_Person_said _ (by wtm_at "s") (by wtm_at "s") (by wtm_at "s") (by wtm_at "s") (by wtm_at "s") (by assumption) ?_)
theorem sc_Doubter_said : FsScopeC ["self", "word", "outs", "out"] ["self", "word"] (defScope s_Doubter_said) := ⟨rfl, rfl, rfl, by decide +kernel, rfl, by decide +kernel, by decide +kernel, by decide +kernel, rfl, rfl⟩
theorem b_Doubter_said (T : Tx P K mg) : Binds K T.fd_Doubter_said ["self", "word"] [] := by
  obtain ⟨oc, od, kV, doc, pm, an, ct, osl, e, lk⟩ := T.S_Doubter_said.fn
  rw [e]
  exact Binds.all fun us hl => match us, hl with | [_, _], _ => rfl
def doubtL (h : List Int) (s : List (List Int)) (w : Nat) : List Nat := (List.range h.length).filter fun o => decide (o ∈ saidL h s w) || decide (o = w)

def R_Doubter_said (T : Tx P K mg) : List V → Hp → NOut → Prop := fun vs G o => ∃ (C : Addr) (h : List Int) (s : List (List Int)) (xs : FL) (w : Int), RA G vs [rIns C (perF K h s ++ xs), Mu.rI w] ∧ (Cls K C) ∧ (NoAttr K C "size") ∧ (SupF K C T.C_Doubter "said" T.f_Person_said) ∧ (PerC K T.f_Person_heard C) ∧ (h.length ≤ 6) ∧ (s.length = h.length) ∧ (∀ x ∈ h, badW h.length x = false) ∧ (xs.lookup ("heard" : Str) = none) ∧ o = wordO T.C_UnknownWord h.length w (.inl ((doubtL h s w.toNat).map nI))
theorem ok_Doubter_said (T : Tx P K mg) : FnOk P w K mg base (L2N.CX P w) 6 T.f_Doubter_said T.fd_Doubter_said ["self", "word"] (spON (R_Doubter_said T)) := by
  refine T.S_Doubter_said.okC sc_Doubter_said (fun vs H Q E h => ?_) (fun A outer s H vs Q E hr h => ?_)
  · obtain ⟨G, o, _, ⟨C, h, s, xs, w, ra, _⟩, _⟩ := h
    exact ra.len
  · obtain ⟨G, o, e, ⟨C, h, s, xs, w, ra, q0, q1, q2, q3, q4, q5, q6, q7, rfl⟩, k1, k2⟩ := h
    refine ⟨_, (psa_setC (i := 2) sc_Doubter_said.nd rfl (.inr rfl) (.inl rfl) (pea_supMethC T.S_Doubter_said sc_Doubter_said T.pf T.m_super rfl rfl rfl (FunD.lk T.F_Person_said) T.ty_Person_said (ok_Person_said T) (hr.mono (by decide)) (b_Person_said T) (fun σ => L2N.passAt (L2N.takes_of rfl rfl rfl rfl) σ) (pa_cons (pv 1) pa_nil) (by decide +kernel))
      (pss_one (ps_ret (pe_lc (own := [("out", 3)]) (by rfl) sc_Doubter_said.nd (pi_range1 (by rfl) T.m_range (pa_cons (pe_fldK K (pv 0)) pa_nil)) (blkOk_by (N := ["self", "word", "outs", "out"]) (sc := defScope s_Doubter_said) (by decide +kernel)) (fun _ _ _ _ _ => (pg_name (i := 3) sc_Doubter_said.nd rfl (Or.inl rfl))) (fun _ _ _ _ _ => (pts_one (PW.pt (pw_or (pt_cmpR (op_inK K) (pv 3) (pv 2) rfl) (pw_or1 (pt_cmpR op_eq (pv 3) (pv 1) (nomark _))))))) (fun _ _ _ _ _ => (pv 3)))))), ?_⟩
    refine run_ON (Γ := [some (rIns C (perF K h s ++ xs)), some (Mu.rI w), none, none]) ?_ e (En.start (k := 2) _ (rs := [rIns C (perF K h s ++ xs), Mu.rI w]) ra (by rw [ra.len]; rfl)) k1 k2
    clear ra e k1 k2
    refine w_seq (ws_set ?_)
    by_cases hb : badW h.length w = true
    · have e1 := word_bad (α := List Rp) (U := T.C_UnknownWord) (x := .inl ((saidL h s w.toNat).map nI)) hb
      wtm_at "e"
      exact word_bad hb
    · have e1 := word_good (α := List Rp) (U := T.C_UnknownWord) (x := .inl ((saidL h s w.toNat).map nI)) hb
      obtain ⟨k, rfl, hk⟩ := word_nat hb
      rw [Int.toNat_natCast] at e1
      wtm_at "e"
      try dsimp only [List.set]
      rw [show rL K ((saidL h s k).map nI) = rLn K (saidL h s k) from rfl]
      refine ws_ret (e_n (xn_lcR h.length (fun o => decide (o ∈ saidL h s k) || decide (o = k)) nI (by wtm_at "x") (by omega) (fun o ho => by wtm_at "tq") (fun o ho _ => by wtm_at "x")) fun p => ?_)
      refine ⟨_, p, ?_, rfl, rfl⟩
      rw [word_good hb]
      unfold doubtL
      rw [Int.toNat_natCast]
theorem xo_Doubter_said (T : Tx P K mg) {M : List Re} {κ : KV} {ε : KX} {C : Addr} {h : List Int} {s : List (List Int)} {xs : FL} {w : Int} (q0 : Cls K C) (q1 : NoAttr K C "size") (q2 : SupF K C T.C_Doubter "said" T.f_Person_said) (q3 : PerC K T.f_Person_heard C) (q4 : h.length ≤ 6) (q5 : s.length = h.length) (q6 : ∀ x ∈ h, badW h.length x = false) (q7 : xs.lookup ("heard" : Str) = none) {ss : List Rp} (eo : wordO T.C_UnknownWord h.length w (.inl ((doubtL h s w.toNat).map nI)) = .inl ss) (k : ∀ p, κ (rV (.ref p)) (M ++ [lstR p ss])) : XM (spON (R_Doubter_said T)) [rIns C (perF K h s ++ xs), Mu.rI w] M κ ε := xmo (fun vs G ra => ⟨C, h, s, xs, w, ra, q0, q1, q2, q3, q4, q5, q6, q7, eo.symm⟩) k
theorem xf_Doubter_said (T : Tx P K mg) {M : List Re} {κ : KV} {ε : KX} {C : Addr} {h : List Int} {s : List (List Int)} {xs : FL} {w : Int} (q0 : Cls K C) (q1 : NoAttr K C "size") (q2 : SupF K C T.C_Doubter "said" T.f_Person_said) (q3 : PerC K T.f_Person_heard C) (q4 : h.length ≤ 6) (q5 : s.length = h.length) (q6 : ∀ x ∈ h, badW h.length x = false) (q7 : xs.lookup ("heard" : Str) = none) {ss : List Rp} (eo : wordO T.C_UnknownWord h.length w (.inl ((doubtL h s w.toNat).map nI)) = .inl ss) (k : κ (rL K ss) M) : XM (spON (R_Doubter_said T)) [rIns C (perF K h s ++ xs), Mu.rI w] M κ ε := xmf K (fun vs G ra => ⟨C, h, s, xs, w, ra, q0, q1, q2, q3, q4, q5, q6, q7, eo.symm⟩) k
theorem xe_Doubter_said (T : Tx P K mg) {M : List Re} {κ : KV} {ε : KX} {C : Addr} {h : List Int} {s : List (List Int)} {xs : FL} {w : Int} (q0 : Cls K C) (q1 : NoAttr K C "size") (q2 : SupF K C T.C_Doubter "said" T.f_Person_said) (q3 : PerC K T.f_Person_heard C) (q4 : h.length ≤ 6) (q5 : s.length = h.length) (q6 : ∀ x ∈ h, badW h.length x = false) (q7 : xs.lookup ("heard" : Str) = none) {c : Value} {fs : List (Str × V)} (eo : wordO T.C_UnknownWord h.length w (.inl ((doubtL h s w.toNat).map nI)) = .inr (c, fs)) (k : ε c fs M) : XM (spON (R_Doubter_said T)) [rIns C (perF K h s ++ xs), Mu.rI w] M κ ε := xme (fun vs G ra => ⟨C, h, s, xs, w, ra, q0, q1, q2, q3, q4, q5, q6, q7, eo.symm⟩) k
theorem o_Doubter_said (T : Tx P K mg) {M : List Re} {κ : KV} {C : Addr} {h : List Int} {s : List (List Int)} {xs : FL} {w : Int} (q0 : Cls K C) (q1 : NoAttr K C "size") (q2 : SupF K C T.C_Doubter "said" T.f_Person_said) (q3 : PerC K T.f_Person_heard C) (q4 : h.length ≤ 6) (q5 : s.length = h.length) (q6 : ∀ x ∈ h, badW h.length x = false) (q7 : xs.lookup ("heard" : Str) = none) {ss : List Rp} (eo : wordO T.C_UnknownWord h.length w (.inl ((doubtL h s w.toNat).map nI)) = .inl ss) (k : ∀ p, κ (rV (.ref p)) (M ++ [lstR p ss])) : CM (spON (R_Doubter_said T)) [rIns C (perF K h s ++ xs), Mu.rI w] M κ := cmo_ (xo_Doubter_said T q0 q1 q2 q3 q4 q5 q6 q7 eo k) spON_E
theorem c_Doubter_said (T : Tx P K mg) {M : List Re} {κ : KV} {C : Addr} {h : List Int} {s : List (List Int)} {xs : FL} {w : Int} (q0 : Cls K C) (q1 : NoAttr K C "size") (q2 : SupF K C T.C_Doubter "said" T.f_Person_said) (q3 : PerC K T.f_Person_heard C) (q4 : h.length ≤ 6) (q5 : s.length = h.length) (q6 : ∀ x ∈ h, badW h.length x = false) (q7 : xs.lookup ("heard" : Str) = none) {ss : List Rp} (eo : wordO T.C_UnknownWord h.length w (.inl ((doubtL h s w.toNat).map nI)) = .inl ss) (k : κ (rL K ss) M) : CM (spON (R_Doubter_said T)) [rIns C (perF K h s ++ xs), Mu.rI w] M κ := cmo_ (xf_Doubter_said T q0 q1 q2 q3 q4 q5 q6 q7 eo k) spON_E
local macro_rules | `(tactic| wtm_at "co") => `(tactic| refine xo_Doubter_said _ (by wtm_at "s") (by wtm_at "s") (by wtm_at "s") (by wtm_at "s") (by wtm_at "s") (by wtm_at "s") (by wtm_at "s") (by wtm_at "s") (by assumption) ?_)
local macro_rules | `(tactic| wtm_at "co") => `(tactic| refine o_Doubter_said _ (by wtm_at "s") (by wtm_at "s") (by wtm_at "s") (by wtm_at "s") (by wtm_at "s") (by wtm_at "s") (by wtm_at "s") (by wtm_at "s") (by assumption) ?_)
local macro_rules | `(tactic| wtm_at "c") => `(tactic| refine xe_Doubter_said _ (by wtm_at "s") (by wtm_at "s") (by wtm_at "s") (by wtm_at "s") (by wtm_at "s") (by wtm_at "s") (by wtm_at "s") (by wtm_at "s") (by assumption) ?_)
local macro_rules | `(tactic| wtm_at "c") => `(tactic| refine xf_Doubter_said _ (by wtm_at "s") (by wtm_at "s") (by wtm_at "s") (by wtm_at "s") (by wtm_at "s") (by wtm_at "s") (by wtm_at "s") (by wtm_at "s") (by assumption) ?_)
local macro_rules | `(tactic| wtm_at "c") => `(tactic| refine c_Doubter_said _ (by wtm_at "s") (by wtm_at "s") (by wtm_at "s") (by wtm_at "s") (by wtm_at "s") (by wtm_at "s") (by wtm_at "s") (by wtm_at "s") (by assumption) ?_)
theorem sc_Knower_said : FsScope ["self", "word", "outs"] ["self", "word"] (defScope s_Knower_said) := ⟨rfl, rfl, rfl, by decide +kernel, rfl, by decide +kernel, by decide +kernel, by decide +kernel, rfl, rfl⟩
theorem b_Knower_said (T : Tx P K mg) : Binds K T.fd_Knower_said ["self", "word"] [] := by
  obtain ⟨oc, od, kV, doc, pm, an, ct, osl, e, lk⟩ := T.S_Knower_said.fn
  rw [e]
  exact Binds.all fun us hl => match us, hl with | [_, _], _ => rfl
def baseL (db : Bool) (h : List Int) (s : List (List Int)) (w : Nat) : List Nat := match db with
  | false => saidL h s w
  | true => doubtL h s w
def knowL (kn : List Int) (base : List Nat) (w : Nat) : List Nat := if (w : Int) ∈ kn then [w] else base

def R_Knower_said (T : Tx P K mg) : List V → Hp → NOut → Prop := fun vs G o => ∃ (C : Addr) (h : List Int) (s : List (List Int)) (kn : List Int) (db : Bool) (w : Int), RA G vs [rIns C (perF K h s ++ ([("sure_words", rT K (kn.map Mu.rI))] : FL)), Mu.rI w] ∧ (Cls K C) ∧ (NoAttr K C "sure_words") ∧ ((db = false → SupF K C T.C_Knower "said" T.f_Person_said)) ∧ ((db = true → SupF K C T.C_Knower "said" T.f_Doubter_said ∧ SupF K C T.C_Doubter "said" T.f_Person_said)) ∧ (NoAttr K C "size") ∧ (PerC K T.f_Person_heard C) ∧ (h.length ≤ 6) ∧ (s.length = h.length) ∧ (∀ x ∈ h, badW h.length x = false) ∧ o = wordO T.C_UnknownWord h.length w (.inl ((knowL kn (baseL db h s w.toNat) w.toNat).map nI))
theorem ok_Knower_said (T : Tx P K mg) : FnOk P w K mg base (L2N.CX P w) 7 T.f_Knower_said T.fd_Knower_said ["self", "word"] (spON (R_Knower_said T)) := by
  refine T.S_Knower_said.ok sc_Knower_said (fun vs H Q E h => ?_) (fun A outer s H vs Q E hr h => ?_)
  · obtain ⟨G, o, _, ⟨C, h, s, kn, db, w, ra, _⟩, _⟩ := h
    exact ra.len
  · obtain ⟨G, o, e, ⟨C, h, s, kn, db, w, ra, q0, q1, q2, q3, q4, q5, q6, q7, q8, rfl⟩, k1, k2⟩ := h
    cases db with
    | false =>
      have hs := q2 rfl
      refine ⟨_, (psa_set (i := 2) sc_Knower_said.nd rfl rfl (pea_supMeth T.S_Knower_said sc_Knower_said T.pf T.m_super rfl rfl rfl (FunD.lk T.F_Person_said) T.ty_Person_said (ok_Person_said T) (hr.mono (by decide)) (b_Person_said T) (fun σ => L2N.passAt (L2N.takes_of rfl rfl rfl rfl) σ) (pa_cons (pv 1) pa_nil) (by decide +kernel))
      (pss_cons (ps_if (pt_cmpR (op_inK K) (pv 1) (pe_fldK K (pv 0)) rfl) (pss_one (ps_ret (pe_lst (pa_cons (pv 1) pa_nil)))) pss_nil)
      (pss_one (ps_ret (pv 2))))), ?_⟩
      refine run_ON (Γ := [some (rIns C (perF K h s ++ ([("sure_words", rT K (kn.map Mu.rI))] : FL))), some (Mu.rI w), none]) ?_ e (En.start (k := 1) _ (rs := [rIns C (perF K h s ++ ([("sure_words", rT K (kn.map Mu.rI))] : FL)), Mu.rI w]) ra (by rw [ra.len]; rfl)) k1 k2
      clear ra e k1 k2
      refine w_seq (ws_set ?_)
      by_cases hb : badW h.length w = true
      · have e1 := word_bad (α := List Rp) (U := T.C_UnknownWord) (x := .inl ((saidL h s w.toNat).map nI)) hb
        wtm_at "e"
        exact word_bad hb
      · have e1 := word_good (α := List Rp) (U := T.C_UnknownWord) (x := .inl ((saidL h s w.toNat).map nI)) hb
        obtain ⟨k, rfl, hk⟩ := word_nat hb
        rw [Int.toNat_natCast] at e1
        wtm_at "eo"
        intro q
        try dsimp only [List.set, List.nil_append]
        refine w_seq ?_
        wtm_at "if"
        all_goals intro hb2
        · refine w_frz K 0 2 rfl rfl ?_
          dsimp only [List.set, List.eraseIdx]
          refine ws_ret (e_lstN ?_)
          wtm_at "e"
          intro p
          refine ⟨_, p, ?_, rfl, rfl⟩
          rw [word_good hb, Int.toNat_natCast]
          unfold knowL
          rw [if_pos (of_decide_eq_true hb2)]
          rfl
        · refine w_nx ?_
          try dsimp only
          refine ws_ret (e_v rfl ?_)
          refine ⟨_, q, ?_, rfl, rfl⟩
          rw [word_good hb, Int.toNat_natCast]
          unfold knowL
          rw [if_neg (of_decide_eq_false hb2)]
          rfl
    | true =>
      obtain ⟨hs, hs2⟩ := q3 rfl
      refine ⟨_, (psa_set (i := 2) sc_Knower_said.nd rfl rfl (pea_supMeth T.S_Knower_said sc_Knower_said T.pf T.m_super rfl rfl rfl (FunS.lk T.S_Doubter_said) T.ty_Doubter_said (ok_Doubter_said T) (hr.mono (by decide)) (b_Doubter_said T) (fun σ => L2N.passAt (L2N.takes_of rfl rfl rfl rfl) σ) (pa_cons (pv 1) pa_nil) (by decide +kernel))
      (pss_cons (ps_if (pt_cmpR (op_inK K) (pv 1) (pe_fldK K (pv 0)) rfl) (pss_one (ps_ret (pe_lst (pa_cons (pv 1) pa_nil)))) pss_nil)
      (pss_one (ps_ret (pv 2))))), ?_⟩
      refine run_ON (Γ := [some (rIns C (perF K h s ++ ([("sure_words", rT K (kn.map Mu.rI))] : FL))), some (Mu.rI w), none]) ?_ e (En.start (k := 1) _ (rs := [rIns C (perF K h s ++ ([("sure_words", rT K (kn.map Mu.rI))] : FL)), Mu.rI w]) ra (by rw [ra.len]; rfl)) k1 k2
      clear ra e k1 k2
      refine w_seq (ws_set ?_)
      by_cases hb : badW h.length w = true
      · have e1 := word_bad (α := List Rp) (U := T.C_UnknownWord) (x := .inl ((doubtL h s w.toNat).map nI)) hb
        wtm_at "e"
        exact word_bad hb
      · have e1 := word_good (α := List Rp) (U := T.C_UnknownWord) (x := .inl ((doubtL h s w.toNat).map nI)) hb
        obtain ⟨k, rfl, hk⟩ := word_nat hb
        rw [Int.toNat_natCast] at e1
        wtm_at "eo"
        intro q
        try dsimp only [List.set, List.nil_append]
        refine w_seq ?_
        wtm_at "if"
        all_goals intro hb2
        · refine w_frz K 0 2 rfl rfl ?_
          dsimp only [List.set, List.eraseIdx]
          refine ws_ret (e_lstN ?_)
          wtm_at "e"
          intro p
          refine ⟨_, p, ?_, rfl, rfl⟩
          rw [word_good hb, Int.toNat_natCast]
          unfold knowL
          rw [if_pos (of_decide_eq_true hb2)]
          rfl
        · refine w_nx ?_
          try dsimp only
          refine ws_ret (e_v rfl ?_)
          refine ⟨_, q, ?_, rfl, rfl⟩
          rw [word_good hb, Int.toNat_natCast]
          unfold knowL
          rw [if_neg (of_decide_eq_false hb2)]
          rfl
theorem xo_Knower_said (T : Tx P K mg) {M : List Re} {κ : KV} {ε : KX} {C : Addr} {h : List Int} {s : List (List Int)} {kn : List Int} {db : Bool} {w : Int} (q0 : Cls K C) (q1 : NoAttr K C "sure_words") (q2 : (db = false → SupF K C T.C_Knower "said" T.f_Person_said)) (q3 : (db = true → SupF K C T.C_Knower "said" T.f_Doubter_said ∧ SupF K C T.C_Doubter "said" T.f_Person_said)) (q4 : NoAttr K C "size") (q5 : PerC K T.f_Person_heard C) (q6 : h.length ≤ 6) (q7 : s.length = h.length) (q8 : ∀ x ∈ h, badW h.length x = false) {ss : List Rp} (eo : wordO T.C_UnknownWord h.length w (.inl ((knowL kn (baseL db h s w.toNat) w.toNat).map nI)) = .inl ss) (k : ∀ p, κ (rV (.ref p)) (M ++ [lstR p ss])) : XM (spON (R_Knower_said T)) [rIns C (perF K h s ++ ([("sure_words", rT K (kn.map Mu.rI))] : FL)), Mu.rI w] M κ ε := xmo (fun vs G ra => ⟨C, h, s, kn, db, w, ra, q0, q1, q2, q3, q4, q5, q6, q7, q8, eo.symm⟩) k
theorem xf_Knower_said (T : Tx P K mg) {M : List Re} {κ : KV} {ε : KX} {C : Addr} {h : List Int} {s : List (List Int)} {kn : List Int} {db : Bool} {w : Int} (q0 : Cls K C) (q1 : NoAttr K C "sure_words") (q2 : (db = false → SupF K C T.C_Knower "said" T.f_Person_said)) (q3 : (db = true → SupF K C T.C_Knower "said" T.f_Doubter_said ∧ SupF K C T.C_Doubter "said" T.f_Person_said)) (q4 : NoAttr K C "size") (q5 : PerC K T.f_Person_heard C) (q6 : h.length ≤ 6) (q7 : s.length = h.length) (q8 : ∀ x ∈ h, badW h.length x = false) {ss : List Rp} (eo : wordO T.C_UnknownWord h.length w (.inl ((knowL kn (baseL db h s w.toNat) w.toNat).map nI)) = .inl ss) (k : κ (rL K ss) M) : XM (spON (R_Knower_said T)) [rIns C (perF K h s ++ ([("sure_words", rT K (kn.map Mu.rI))] : FL)), Mu.rI w] M κ ε := xmf K (fun vs G ra => ⟨C, h, s, kn, db, w, ra, q0, q1, q2, q3, q4, q5, q6, q7, q8, eo.symm⟩) k
theorem xe_Knower_said (T : Tx P K mg) {M : List Re} {κ : KV} {ε : KX} {C : Addr} {h : List Int} {s : List (List Int)} {kn : List Int} {db : Bool} {w : Int} (q0 : Cls K C) (q1 : NoAttr K C "sure_words") (q2 : (db = false → SupF K C T.C_Knower "said" T.f_Person_said)) (q3 : (db = true → SupF K C T.C_Knower "said" T.f_Doubter_said ∧ SupF K C T.C_Doubter "said" T.f_Person_said)) (q4 : NoAttr K C "size") (q5 : PerC K T.f_Person_heard C) (q6 : h.length ≤ 6) (q7 : s.length = h.length) (q8 : ∀ x ∈ h, badW h.length x = false) {c : Value} {fs : List (Str × V)} (eo : wordO T.C_UnknownWord h.length w (.inl ((knowL kn (baseL db h s w.toNat) w.toNat).map nI)) = .inr (c, fs)) (k : ε c fs M) : XM (spON (R_Knower_said T)) [rIns C (perF K h s ++ ([("sure_words", rT K (kn.map Mu.rI))] : FL)), Mu.rI w] M κ ε := xme (fun vs G ra => ⟨C, h, s, kn, db, w, ra, q0, q1, q2, q3, q4, q5, q6, q7, q8, eo.symm⟩) k
theorem o_Knower_said (T : Tx P K mg) {M : List Re} {κ : KV} {C : Addr} {h : List Int} {s : List (List Int)} {kn : List Int} {db : Bool} {w : Int} (q0 : Cls K C) (q1 : NoAttr K C "sure_words") (q2 : (db = false → SupF K C T.C_Knower "said" T.f_Person_said)) (q3 : (db = true → SupF K C T.C_Knower "said" T.f_Doubter_said ∧ SupF K C T.C_Doubter "said" T.f_Person_said)) (q4 : NoAttr K C "size") (q5 : PerC K T.f_Person_heard C) (q6 : h.length ≤ 6) (q7 : s.length = h.length) (q8 : ∀ x ∈ h, badW h.length x = false) {ss : List Rp} (eo : wordO T.C_UnknownWord h.length w (.inl ((knowL kn (baseL db h s w.toNat) w.toNat).map nI)) = .inl ss) (k : ∀ p, κ (rV (.ref p)) (M ++ [lstR p ss])) : CM (spON (R_Knower_said T)) [rIns C (perF K h s ++ ([("sure_words", rT K (kn.map Mu.rI))] : FL)), Mu.rI w] M κ := cmo_ (xo_Knower_said T q0 q1 q2 q3 q4 q5 q6 q7 q8 eo k) spON_E
theorem c_Knower_said (T : Tx P K mg) {M : List Re} {κ : KV} {C : Addr} {h : List Int} {s : List (List Int)} {kn : List Int} {db : Bool} {w : Int} (q0 : Cls K C) (q1 : NoAttr K C "sure_words") (q2 : (db = false → SupF K C T.C_Knower "said" T.f_Person_said)) (q3 : (db = true → SupF K C T.C_Knower "said" T.f_Doubter_said ∧ SupF K C T.C_Doubter "said" T.f_Person_said)) (q4 : NoAttr K C "size") (q5 : PerC K T.f_Person_heard C) (q6 : h.length ≤ 6) (q7 : s.length = h.length) (q8 : ∀ x ∈ h, badW h.length x = false) {ss : List Rp} (eo : wordO T.C_UnknownWord h.length w (.inl ((knowL kn (baseL db h s w.toNat) w.toNat).map nI)) = .inl ss) (k : κ (rL K ss) M) : CM (spON (R_Knower_said T)) [rIns C (perF K h s ++ ([("sure_words", rT K (kn.map Mu.rI))] : FL)), Mu.rI w] M κ := cmo_ (xf_Knower_said T q0 q1 q2 q3 q4 q5 q6 q7 q8 eo k) spON_E
local macro_rules | `(tactic| wtm_at "co") => `(tactic| refine xo_Knower_said _ (by wtm_at "s") (by wtm_at "s") (by wtm_at "s") (by wtm_at "s") (by wtm_at "s") (by wtm_at "s") (by wtm_at "s") (by wtm_at "s") (by wtm_at "s") (by assumption) ?_)
local macro_rules | `(tactic| wtm_at "co") => `(tactic| refine o_Knower_said _ (by wtm_at "s") (by wtm_at "s") (by wtm_at "s") (by wtm_at "s") (by wtm_at "s") (by wtm_at "s") (by wtm_at "s") (by wtm_at "s") (by wtm_at "s") (by assumption) ?_)
local macro_rules | `(tactic| wtm_at "c") => `(tactic| refine xe_Knower_said _ (by wtm_at "s") (by wtm_at "s") (by wtm_at "s") (by wtm_at "s") (by wtm_at "s") (by wtm_at "s") (by wtm_at "s") (by wtm_at "s") (by wtm_at "s") (by assumption) ?_)
local macro_rules | `(tactic| wtm_at "c") => `(tactic| refine xf_Knower_said _ (by wtm_at "s") (by wtm_at "s") (by wtm_at "s") (by wtm_at "s") (by wtm_at "s") (by wtm_at "s") (by wtm_at "s") (by wtm_at "s") (by wtm_at "s") (by assumption) ?_)
local macro_rules | `(tactic| wtm_at "c") => `(tactic| refine c_Knower_said _ (by wtm_at "s") (by wtm_at "s") (by wtm_at "s") (by wtm_at "s") (by wtm_at "s") (by wtm_at "s") (by wtm_at "s") (by wtm_at "s") (by wtm_at "s") (by assumption) ?_)
theorem sc_KnowingDoubter_said : FsScope ["self", "word"] ["self", "word"] (defScope s_KnowingDoubter_said) := ⟨rfl, rfl, rfl, by decide +kernel, rfl, by decide +kernel, by decide +kernel, by decide +kernel, rfl, rfl⟩
theorem b_KnowingDoubter_said (T : Tx P K mg) : Binds K T.fd_KnowingDoubter_said ["self", "word"] [] := by
  obtain ⟨oc, od, kV, doc, pm, an, ct, osl, e, lk⟩ := T.S_KnowingDoubter_said.fn
  rw [e]
  exact Binds.all fun us hl => match us, hl with | [_, _], _ => rfl
def R_KnowingDoubter_said (T : Tx P K mg) : List V → Hp → NOut → Prop := fun vs G o => ∃ (C : Addr) (h : List Int) (s : List (List Int)) (kn : List Int) (db : Bool) (w : Int), RA G vs [rIns C (perF K h s ++ ([("sure_words", rT K (kn.map Mu.rI))] : FL)), Mu.rI w] ∧ (SupF K C T.C_KnowingDoubter "said" T.f_Knower_said) ∧ (Cls K C) ∧ (NoAttr K C "sure_words") ∧ ((db = false → SupF K C T.C_Knower "said" T.f_Person_said)) ∧ ((db = true → SupF K C T.C_Knower "said" T.f_Doubter_said ∧ SupF K C T.C_Doubter "said" T.f_Person_said)) ∧ (NoAttr K C "size") ∧ (PerC K T.f_Person_heard C) ∧ (h.length ≤ 6) ∧ (s.length = h.length) ∧ (∀ x ∈ h, badW h.length x = false) ∧ o = wordO T.C_UnknownWord h.length w (.inl ((knowL kn (baseL db h s w.toNat) w.toNat).map nI))
theorem ok_KnowingDoubter_said (T : Tx P K mg) : FnOk P w K mg base (L2N.CX P w) 8 T.f_KnowingDoubter_said T.fd_KnowingDoubter_said ["self", "word"] (spON (R_KnowingDoubter_said T)) := by
  refine T.S_KnowingDoubter_said.ok sc_KnowingDoubter_said (fun vs H Q E h => ?_) (fun A outer s H vs Q E hr h => ?_)
  · obtain ⟨G, o, _, ⟨C, h, s, kn, db, w, ra, _⟩, _⟩ := h
    exact ra.len
  · obtain ⟨G, o, e, ⟨C, h, s, kn, db, w, ra, q0, q1, q2, q3, q4, q5, q6, q7, q8, q9, rfl⟩, k1, k2⟩ := h
    refine ⟨_, (psa_ret (pea_supMeth T.S_KnowingDoubter_said sc_KnowingDoubter_said T.pf T.m_super rfl rfl rfl (FunS.lk T.S_Knower_said) T.ty_Knower_said (ok_Knower_said T) (hr.mono (by decide)) (b_Knower_said T) (fun σ => L2N.passAt (L2N.takes_of rfl rfl rfl rfl) σ) (pa_cons (pv 1) pa_nil) (by decide +kernel))), ?_⟩
    refine run_ON (Γ := [some (rIns C (perF K h s ++ ([("sure_words", rT K (kn.map Mu.rI))] : FL))), some (Mu.rI w)]) ?_ e (En.start (k := 0) _ (rs := [rIns C (perF K h s ++ ([("sure_words", rT K (kn.map Mu.rI))] : FL)), Mu.rI w]) ra (by rw [ra.len]; rfl)) k1 k2
    clear ra e k1 k2
    refine ws_ret ?_
    by_cases hb : badW h.length w = true
    · have e1 := word_bad (α := List Rp) (U := T.C_UnknownWord) (x := .inl ((knowL kn (baseL db h s w.toNat) w.toNat).map nI)) hb
      wtm_at "e"
      exact word_bad hb
    · have e1 := word_good (α := List Rp) (U := T.C_UnknownWord) (x := .inl ((knowL kn (baseL db h s w.toNat) w.toNat).map nI)) hb
      wtm_at "eo"
      intro p
      exact ⟨_, p, word_good hb, rfl, rfl⟩
theorem xo_KnowingDoubter_said (T : Tx P K mg) {M : List Re} {κ : KV} {ε : KX} {C : Addr} {h : List Int} {s : List (List Int)} {kn : List Int} {db : Bool} {w : Int} (q0 : SupF K C T.C_KnowingDoubter "said" T.f_Knower_said) (q1 : Cls K C) (q2 : NoAttr K C "sure_words") (q3 : (db = false → SupF K C T.C_Knower "said" T.f_Person_said)) (q4 : (db = true → SupF K C T.C_Knower "said" T.f_Doubter_said ∧ SupF K C T.C_Doubter "said" T.f_Person_said)) (q5 : NoAttr K C "size") (q6 : PerC K T.f_Person_heard C) (q7 : h.length ≤ 6) (q8 : s.length = h.length) (q9 : ∀ x ∈ h, badW h.length x = false) {ss : List Rp} (eo : wordO T.C_UnknownWord h.length w (.inl ((knowL kn (baseL db h s w.toNat) w.toNat).map nI)) = .inl ss) (k : ∀ p, κ (rV (.ref p)) (M ++ [lstR p ss])) : XM (spON (R_KnowingDoubter_said T)) [rIns C (perF K h s ++ ([("sure_words", rT K (kn.map Mu.rI))] : FL)), Mu.rI w] M κ ε := xmo (fun vs G ra => ⟨C, h, s, kn, db, w, ra, q0, q1, q2, q3, q4, q5, q6, q7, q8, q9, eo.symm⟩) k
theorem xf_KnowingDoubter_said (T : Tx P K mg) {M : List Re} {κ : KV} {ε : KX} {C : Addr} {h : List Int} {s : List (List Int)} {kn : List Int} {db : Bool} {w : Int} (q0 : SupF K C T.C_KnowingDoubter "said" T.f_Knower_said) (q1 : Cls K C) (q2 : NoAttr K C "sure_words") (q3 : (db = false → SupF K C T.C_Knower "said" T.f_Person_said)) (q4 : (db = true → SupF K C T.C_Knower "said" T.f_Doubter_said ∧ SupF K C T.C_Doubter "said" T.f_Person_said)) (q5 : NoAttr K C "size") (q6 : PerC K T.f_Person_heard C) (q7 : h.length ≤ 6) (q8 : s.length = h.length) (q9 : ∀ x ∈ h, badW h.length x = false) {ss : List Rp} (eo : wordO T.C_UnknownWord h.length w (.inl ((knowL kn (baseL db h s w.toNat) w.toNat).map nI)) = .inl ss) (k : κ (rL K ss) M) : XM (spON (R_KnowingDoubter_said T)) [rIns C (perF K h s ++ ([("sure_words", rT K (kn.map Mu.rI))] : FL)), Mu.rI w] M κ ε := xmf K (fun vs G ra => ⟨C, h, s, kn, db, w, ra, q0, q1, q2, q3, q4, q5, q6, q7, q8, q9, eo.symm⟩) k
theorem xe_KnowingDoubter_said (T : Tx P K mg) {M : List Re} {κ : KV} {ε : KX} {C : Addr} {h : List Int} {s : List (List Int)} {kn : List Int} {db : Bool} {w : Int} (q0 : SupF K C T.C_KnowingDoubter "said" T.f_Knower_said) (q1 : Cls K C) (q2 : NoAttr K C "sure_words") (q3 : (db = false → SupF K C T.C_Knower "said" T.f_Person_said)) (q4 : (db = true → SupF K C T.C_Knower "said" T.f_Doubter_said ∧ SupF K C T.C_Doubter "said" T.f_Person_said)) (q5 : NoAttr K C "size") (q6 : PerC K T.f_Person_heard C) (q7 : h.length ≤ 6) (q8 : s.length = h.length) (q9 : ∀ x ∈ h, badW h.length x = false) {c : Value} {fs : List (Str × V)} (eo : wordO T.C_UnknownWord h.length w (.inl ((knowL kn (baseL db h s w.toNat) w.toNat).map nI)) = .inr (c, fs)) (k : ε c fs M) : XM (spON (R_KnowingDoubter_said T)) [rIns C (perF K h s ++ ([("sure_words", rT K (kn.map Mu.rI))] : FL)), Mu.rI w] M κ ε := xme (fun vs G ra => ⟨C, h, s, kn, db, w, ra, q0, q1, q2, q3, q4, q5, q6, q7, q8, q9, eo.symm⟩) k
theorem o_KnowingDoubter_said (T : Tx P K mg) {M : List Re} {κ : KV} {C : Addr} {h : List Int} {s : List (List Int)} {kn : List Int} {db : Bool} {w : Int} (q0 : SupF K C T.C_KnowingDoubter "said" T.f_Knower_said) (q1 : Cls K C) (q2 : NoAttr K C "sure_words") (q3 : (db = false → SupF K C T.C_Knower "said" T.f_Person_said)) (q4 : (db = true → SupF K C T.C_Knower "said" T.f_Doubter_said ∧ SupF K C T.C_Doubter "said" T.f_Person_said)) (q5 : NoAttr K C "size") (q6 : PerC K T.f_Person_heard C) (q7 : h.length ≤ 6) (q8 : s.length = h.length) (q9 : ∀ x ∈ h, badW h.length x = false) {ss : List Rp} (eo : wordO T.C_UnknownWord h.length w (.inl ((knowL kn (baseL db h s w.toNat) w.toNat).map nI)) = .inl ss) (k : ∀ p, κ (rV (.ref p)) (M ++ [lstR p ss])) : CM (spON (R_KnowingDoubter_said T)) [rIns C (perF K h s ++ ([("sure_words", rT K (kn.map Mu.rI))] : FL)), Mu.rI w] M κ := cmo_ (xo_KnowingDoubter_said T q0 q1 q2 q3 q4 q5 q6 q7 q8 q9 eo k) spON_E
theorem c_KnowingDoubter_said (T : Tx P K mg) {M : List Re} {κ : KV} {C : Addr} {h : List Int} {s : List (List Int)} {kn : List Int} {db : Bool} {w : Int} (q0 : SupF K C T.C_KnowingDoubter "said" T.f_Knower_said) (q1 : Cls K C) (q2 : NoAttr K C "sure_words") (q3 : (db = false → SupF K C T.C_Knower "said" T.f_Person_said)) (q4 : (db = true → SupF K C T.C_Knower "said" T.f_Doubter_said ∧ SupF K C T.C_Doubter "said" T.f_Person_said)) (q5 : NoAttr K C "size") (q6 : PerC K T.f_Person_heard C) (q7 : h.length ≤ 6) (q8 : s.length = h.length) (q9 : ∀ x ∈ h, badW h.length x = false) {ss : List Rp} (eo : wordO T.C_UnknownWord h.length w (.inl ((knowL kn (baseL db h s w.toNat) w.toNat).map nI)) = .inl ss) (k : κ (rL K ss) M) : CM (spON (R_KnowingDoubter_said T)) [rIns C (perF K h s ++ ([("sure_words", rT K (kn.map Mu.rI))] : FL)), Mu.rI w] M κ := cmo_ (xf_KnowingDoubter_said T q0 q1 q2 q3 q4 q5 q6 q7 q8 q9 eo k) spON_E
local macro_rules | `(tactic| wtm_at "co") => `(tactic| refine xo_KnowingDoubter_said _ (by wtm_at "s") (by wtm_at "s") (by wtm_at "s") (by wtm_at "s") (by wtm_at "s") (by wtm_at "s") (by wtm_at "s") (by wtm_at "s") (by wtm_at "s") (by wtm_at "s") (by assumption) ?_)
local macro_rules | `(tactic| wtm_at "co") => `(tactic| refine o_KnowingDoubter_said _ (by wtm_at "s") (by wtm_at "s") (by wtm_at "s") (by wtm_at "s") (by wtm_at "s") (by wtm_at "s") (by wtm_at "s") (by wtm_at "s") (by wtm_at "s") (by wtm_at "s") (by assumption) ?_)
local macro_rules | `(tactic| wtm_at "c") => `(tactic| refine xe_KnowingDoubter_said _ (by wtm_at "s") (by wtm_at "s") (by wtm_at "s") (by wtm_at "s") (by wtm_at "s") (by wtm_at "s") (by wtm_at "s") (by wtm_at "s") (by wtm_at "s") (by wtm_at "s") (by assumption) ?_)
local macro_rules | `(tactic| wtm_at "c") => `(tactic| refine xf_KnowingDoubter_said _ (by wtm_at "s") (by wtm_at "s") (by wtm_at "s") (by wtm_at "s") (by wtm_at "s") (by wtm_at "s") (by wtm_at "s") (by wtm_at "s") (by wtm_at "s") (by wtm_at "s") (by assumption) ?_)
local macro_rules | `(tactic| wtm_at "c") => `(tactic| refine c_KnowingDoubter_said _ (by wtm_at "s") (by wtm_at "s") (by wtm_at "s") (by wtm_at "s") (by wtm_at "s") (by wtm_at "s") (by wtm_at "s") (by wtm_at "s") (by wtm_at "s") (by wtm_at "s") (by assumption) ?_)
theorem sc_Person_table : FnScope ["self", "word"] ["self"] (defScope s_Person_table) := ⟨rfl, rfl, rfl, by decide +kernel, rfl, by decide +kernel, by decide +kernel⟩
theorem b_Person_table (T : Tx P K mg) : Binds K T.fd_Person_table ["self"] [] := T.F_Person_table.bindsN fun _ _ _ _ _ _ us hl => match us, hl with | [_], _ => rfl
structure PD where
  kd : Nat
  h : List Int
  s : List (List Int)
  kn : List Int
def saidP (pd : PD) (w : Nat) : List Nat := match pd.kd with
  | 0 => saidL pd.h pd.s w
  | 1 => knowL pd.kn (saidL pd.h pd.s w) w
  | 2 => doubtL pd.h pd.s w
  | _ => knowL pd.kn (doubtL pd.h pd.s w) w
structure PDok (pd : PD) : Prop where
  kk : pd.kd < 4
  lo : 1 ≤ pd.h.length
  hi : pd.h.length ≤ 6
  sl : pd.s.length = pd.h.length
  hw : ∀ x ∈ pd.h, badW pd.h.length x = false
def rPer (K : PySem.W.Frag) (c0 c1 c2 c3 : Addr) (pd : PD) : Rp := match pd.kd with
  | 0 => rIns c0 (perF K pd.h pd.s ++ ([] : FL))
  | 1 => rIns c1 (perF K pd.h pd.s ++ ([("sure_words", rT K (pd.kn.map Mu.rI))] : FL))
  | 2 => rIns c2 (perF K pd.h pd.s ++ ([] : FL))
  | _ => rIns c3 (perF K pd.h pd.s ++ ([("sure_words", rT K (pd.kn.map Mu.rI))] : FL))
section
variable {K : PySem.W.Frag} {c0 c1 c2 c3 : Addr} {pd : PD} {w : Nat}
theorem rPer0 (h : pd.kd = 0) : rPer K c0 c1 c2 c3 pd = rIns c0 (perF K pd.h pd.s ++ ([] : FL)) := by unfold rPer; rw [h]; rfl
theorem rPer1 (h : pd.kd = 1) : rPer K c0 c1 c2 c3 pd = rIns c1 (perF K pd.h pd.s ++ ([("sure_words", rT K (pd.kn.map Mu.rI))] : FL)) := by unfold rPer; rw [h]; rfl
theorem rPer2 (h : pd.kd = 2) : rPer K c0 c1 c2 c3 pd = rIns c2 (perF K pd.h pd.s ++ ([] : FL)) := by unfold rPer; rw [h]; rfl
theorem rPer3 (h : pd.kd = 3) : rPer K c0 c1 c2 c3 pd = rIns c3 (perF K pd.h pd.s ++ ([("sure_words", rT K (pd.kn.map Mu.rI))] : FL)) := by unfold rPer; rw [h]; rfl
theorem saidP0 (h : pd.kd = 0) : saidP pd w = saidL pd.h pd.s w := by unfold saidP; rw [h]; rfl
theorem saidP1 (h : pd.kd = 1) : saidP pd w = knowL pd.kn (saidL pd.h pd.s w) w := by unfold saidP; rw [h]; rfl
theorem saidP2 (h : pd.kd = 2) : saidP pd w = doubtL pd.h pd.s w := by unfold saidP; rw [h]; rfl
theorem saidP3 (h : pd.kd = 3) : saidP pd w = knowL pd.kn (doubtL pd.h pd.s w) w := by unfold saidP; rw [h]; rfl
end
theorem bad_nat {n w : Nat} (h : w < n) : badW n (w : Int) = false := by
  unfold badW
  simp
  omega
theorem bits_filter (n : Nat) (f : Nat → Bool) : bitsN (maskN ((List.range n).filter f)) = (List.range n).filter f := by
  have lt : maskN ((List.range n).filter f) < 2 ^ n := maskN_lt fun o ho => List.mem_range.mp (List.mem_filter.mp ho).1
  rw [← bits_eq lt]
  refine List.filter_congr fun o ho => ?_
  rw [maskN_bit, Bool.eq_iff_iff, decide_eq_true_iff, List.mem_filter]
  exact ⟨fun z => z.2, fun z => ⟨ho, z⟩⟩
theorem saidP_filter (pd : PD) {w : Nat} (hw : w < pd.h.length) : ∃ f : Nat → Bool, saidP pd w = (List.range pd.h.length).filter f := by
  have one : [w] = (List.range pd.h.length).filter fun o => decide (o = w) := by
    refine (List.Perm.eq_of_pairwise (le := fun a b : Nat => a < b) (fun a b _ _ h1 h2 => absurd h1 (by omega)) (by simp) (List.Pairwise.filter _ List.pairwise_lt_range) ?_)
    refine (List.perm_ext_iff_of_nodup (by simp) ((List.nodup_range).filter _)).mpr fun a => ?_
    rw [List.mem_filter, List.mem_range, decide_eq_true_iff, List.mem_singleton]
    exact ⟨fun e => ⟨by rw [e]; exact hw, e⟩, fun e => e.2⟩
  have kn : ∀ (b : List Nat), (∃ f, b = (List.range pd.h.length).filter f) → ∃ f : Nat → Bool, knowL pd.kn b w = (List.range pd.h.length).filter f := fun b hb => by
    unfold knowL
    split
    · exact ⟨_, one⟩
    · exact hb
  unfold saidP
  split
  · exact ⟨_, rfl⟩
  · exact kn _ ⟨_, rfl⟩
  · exact ⟨_, rfl⟩
  · exact kn _ ⟨_, rfl⟩
def saidPM (pd : PD) : List Nat := (List.range pd.h.length).map fun w => maskN (saidP pd w)
theorem saidPM_wf (pd : PD) (ok : PDok pd) : Wf pd.h.length (saidPM pd) := ⟨by unfold saidPM; rw [List.length_map, List.length_range], fun x hx => by
  obtain ⟨w, hw, rfl⟩ := List.mem_map.mp hx
  obtain ⟨f, e⟩ := saidP_filter pd (List.mem_range.mp hw)
  rw [e]
  exact maskN_lt fun o ho => List.mem_range.mp (List.mem_filter.mp ho).1⟩
theorem saidP_map (pd : PD) : (saidPM pd).map bitsN = (List.range pd.h.length).map (saidP pd) := by
  unfold saidPM
  rw [List.map_map]
  refine List.map_congr_left fun w hw => ?_
  obtain ⟨f, e⟩ := saidP_filter pd (List.mem_range.mp hw)
  show bitsN (maskN (saidP pd w)) = _
  rw [e]
  exact bits_filter _ _
theorem saidP_rows {K : PySem.W.Frag} (pd : PD) (ok : PDok pd) : rL K ((List.range pd.h.length).map fun w => rLn K (saidP pd w)) = rLL K ((saidPM pd).map bitsN) := by
  rw [saidP_map]
  unfold rLL
  rw [List.map_map]
  rfl

def R_Person_table (T : Tx P K mg) : List V → Hp → Rp → Prop := fun vs G r => ∃ (pd : PD), RA G vs [rPer K T.C_Person T.C_Knower T.C_Doubter T.C_KnowingDoubter pd] ∧ (PDok pd) ∧ r = rTab K T.C_Table (saidPM pd)
theorem ok_Person_table (T : Tx P K mg) : FnOk P w K mg base CX0 9 T.f_Person_table T.fd_Person_table ["self"] (spD (R_Person_table T)) := by
  refine T.F_Person_table.ok sc_Person_table (fun vs H Q E h => ?_) (fun cdv A outer s H vs Q E hr h => ?_)
  · obtain ⟨G, r, _, ⟨pd, ra, _⟩, _⟩ := h
    exact ra.len
  · obtain ⟨G, r, e, ⟨pd, ra, q0, rfl⟩, k⟩ := h
    have hh : ∀ C, Cls K C → NoAttr K C "size" → NoAttr K C "ears" → NoAttr K C "mouths" → Meth K C "heard" T.f_Person_heard → PerC K T.f_Person_heard C := fun C a b c d e => ⟨a, b, c, d, e⟩
    have ok1 := q0.lo
    have ok2 := q0.hi
    have ok3 := q0.sl
    have ok4 := q0.hw
    have ok5 := q0.kk
    rcases (by omega : pd.kd = 0 ∨ pd.kd = 1 ∨ pd.kd = 2 ∨ pd.kd = 3) with hk | hk | hk | hk
    · have cc := (hh T.C_Person T.c_Person T.na_Person_size T.na_Person_ears T.na_Person_mouths T.M_Person_heard)
      have c0 := cc.cls
      have c1 := cc.size
      refine ⟨_, PSs.nox (pss_one (ps_ret (pe_make T.mk_Table (ok_Table___init__ T) (hr.mono (by decide)) (by rfl) T.g_Table (b_Table___init__ T) .nil pass0 (pa_cons (pe_lc (own := [("word", 1)]) (by rfl) sc_Person_table.nd (pi_range1 (by rfl) T.m_range (pa_cons (pe_fldK K (pv 0)) pa_nil)) (blkOk_by (N := ["self", "word"]) (sc := defScope s_Person_table) (by decide +kernel)) (fun _ _ _ _ _ => (pg_name (i := 1) sc_Person_table.nd rfl (Or.inl rfl))) (fun _ _ _ _ _ => pts_nil) (fun _ _ _ _ _ => (pe_meth (pv 0) T.c_Person T.M_Person_said (ok_Person_said T) (hr.mono (by decide)) (b_Person_said T) .nil passF (pa_cons (pv 1) pa_nil)))) pa_nil)))), ?_⟩
      refine run_D (W := fun _ _ _ _ => False) (Γ := [some (rPer K T.C_Person T.C_Knower T.C_Doubter T.C_KnowingDoubter pd), none]) ?_ e (En.start (k := 1) _ (rs := [rPer K T.C_Person T.C_Knower T.C_Doubter T.C_KnowingDoubter pd]) ra (by rw [ra.len]; rfl)) k
      clear ra e k
      rw [rPer0 hk]
      refine ws_ret (e_make (a_cons ?_))
      refine e_lcR0 K (rr := fun w => rLn K (saidP pd w)) (by wtm_at "x") (by omega) (fun w hw => ?_) (by wtm_at "j") ?_
      · apply EvX.by
        intro W ε
        have e1 : wordO T.C_UnknownWord pd.h.length ((w : Nat) : Int) (.inl ((saidL pd.h pd.s ((w : Nat) : Int).toNat).map nI)) = .inl ((saidP pd w).map nI) := by
          rw [word_good (by rw [bad_nat hw]; decide), Int.toNat_natCast, saidP0 hk]
          first | done | rfl
        wtm_at "e"
      refine a_nil ?_
      rw [saidP_rows pd q0]
      exact mk_tab (saidPM_wf pd q0) ok1 ok2 rfl
    · have cc := (hh T.C_Knower T.c_Knower T.na_Knower_size T.na_Knower_ears T.na_Knower_mouths T.M_Knower_heard)
      have c0 := cc.cls
      have c1 := cc.size
      have n1 := T.na_Knower_sure_words
      have n2 : false = false → SupF K T.C_Knower T.C_Knower "said" T.f_Person_said := fun _ => T.sup_Knower_Knower_said
      have n3 : false = true → SupF K T.C_Knower T.C_Knower "said" T.f_Doubter_said ∧ SupF K T.C_Knower T.C_Doubter "said" T.f_Person_said := fun z => nomatch z
      refine ⟨_, PSs.nox (pss_one (ps_ret (pe_make T.mk_Table (ok_Table___init__ T) (hr.mono (by decide)) (by rfl) T.g_Table (b_Table___init__ T) .nil pass0 (pa_cons (pe_lc (own := [("word", 1)]) (by rfl) sc_Person_table.nd (pi_range1 (by rfl) T.m_range (pa_cons (pe_fldK K (pv 0)) pa_nil)) (blkOk_by (N := ["self", "word"]) (sc := defScope s_Person_table) (by decide +kernel)) (fun _ _ _ _ _ => (pg_name (i := 1) sc_Person_table.nd rfl (Or.inl rfl))) (fun _ _ _ _ _ => pts_nil) (fun _ _ _ _ _ => (pe_meth (pv 0) T.c_Knower T.M_Knower_said (ok_Knower_said T) (hr.mono (by decide)) (b_Knower_said T) .nil passF (pa_cons (pv 1) pa_nil)))) pa_nil)))), ?_⟩
      refine run_D (W := fun _ _ _ _ => False) (Γ := [some (rPer K T.C_Person T.C_Knower T.C_Doubter T.C_KnowingDoubter pd), none]) ?_ e (En.start (k := 1) _ (rs := [rPer K T.C_Person T.C_Knower T.C_Doubter T.C_KnowingDoubter pd]) ra (by rw [ra.len]; rfl)) k
      clear ra e k
      rw [rPer1 hk]
      refine ws_ret (e_make (a_cons ?_))
      refine e_lcR0 K (rr := fun w => rLn K (saidP pd w)) (by wtm_at "x") (by omega) (fun w hw => ?_) (by wtm_at "j") ?_
      · apply EvX.by
        intro W ε
        have e1 : wordO T.C_UnknownWord pd.h.length ((w : Nat) : Int) (.inl ((knowL pd.kn (baseL false pd.h pd.s ((w : Nat) : Int).toNat) ((w : Nat) : Int).toNat).map nI)) = .inl ((saidP pd w).map nI) := by
          rw [word_good (by rw [bad_nat hw]; decide), Int.toNat_natCast, saidP1 hk]
          first | done | rfl
        wtm_at "e"
      refine a_nil ?_
      rw [saidP_rows pd q0]
      exact mk_tab (saidPM_wf pd q0) ok1 ok2 rfl
    · have cc := (hh T.C_Doubter T.c_Doubter T.na_Doubter_size T.na_Doubter_ears T.na_Doubter_mouths T.M_Doubter_heard)
      have c0 := cc.cls
      have c1 := cc.size
      have n1 := T.sup_Doubter_Doubter_said
      refine ⟨_, PSs.nox (pss_one (ps_ret (pe_make T.mk_Table (ok_Table___init__ T) (hr.mono (by decide)) (by rfl) T.g_Table (b_Table___init__ T) .nil pass0 (pa_cons (pe_lc (own := [("word", 1)]) (by rfl) sc_Person_table.nd (pi_range1 (by rfl) T.m_range (pa_cons (pe_fldK K (pv 0)) pa_nil)) (blkOk_by (N := ["self", "word"]) (sc := defScope s_Person_table) (by decide +kernel)) (fun _ _ _ _ _ => (pg_name (i := 1) sc_Person_table.nd rfl (Or.inl rfl))) (fun _ _ _ _ _ => pts_nil) (fun _ _ _ _ _ => (pe_meth (pv 0) T.c_Doubter T.M_Doubter_said (ok_Doubter_said T) (hr.mono (by decide)) (b_Doubter_said T) .nil passF (pa_cons (pv 1) pa_nil)))) pa_nil)))), ?_⟩
      refine run_D (W := fun _ _ _ _ => False) (Γ := [some (rPer K T.C_Person T.C_Knower T.C_Doubter T.C_KnowingDoubter pd), none]) ?_ e (En.start (k := 1) _ (rs := [rPer K T.C_Person T.C_Knower T.C_Doubter T.C_KnowingDoubter pd]) ra (by rw [ra.len]; rfl)) k
      clear ra e k
      rw [rPer2 hk]
      refine ws_ret (e_make (a_cons ?_))
      refine e_lcR0 K (rr := fun w => rLn K (saidP pd w)) (by wtm_at "x") (by omega) (fun w hw => ?_) (by wtm_at "j") ?_
      · apply EvX.by
        intro W ε
        have e1 : wordO T.C_UnknownWord pd.h.length ((w : Nat) : Int) (.inl ((doubtL pd.h pd.s ((w : Nat) : Int).toNat).map nI)) = .inl ((saidP pd w).map nI) := by
          rw [word_good (by rw [bad_nat hw]; decide), Int.toNat_natCast, saidP2 hk]
          first | done | rfl
        wtm_at "e"
      refine a_nil ?_
      rw [saidP_rows pd q0]
      exact mk_tab (saidPM_wf pd q0) ok1 ok2 rfl
    · have cc := (hh T.C_KnowingDoubter T.c_KnowingDoubter T.na_KnowingDoubter_size T.na_KnowingDoubter_ears T.na_KnowingDoubter_mouths T.M_KnowingDoubter_heard)
      have c0 := cc.cls
      have c1 := cc.size
      have n1 := T.na_KnowingDoubter_sure_words
      have n2 : true = false → SupF K T.C_KnowingDoubter T.C_Knower "said" T.f_Person_said := fun z => nomatch z
      have n3 : true = true → SupF K T.C_KnowingDoubter T.C_Knower "said" T.f_Doubter_said ∧ SupF K T.C_KnowingDoubter T.C_Doubter "said" T.f_Person_said := fun _ => ⟨T.sup_KnowingDoubter_Knower_said, T.sup_KnowingDoubter_Doubter_said⟩
      have n4 := T.sup_KnowingDoubter_KnowingDoubter_said
      refine ⟨_, PSs.nox (pss_one (ps_ret (pe_make T.mk_Table (ok_Table___init__ T) (hr.mono (by decide)) (by rfl) T.g_Table (b_Table___init__ T) .nil pass0 (pa_cons (pe_lc (own := [("word", 1)]) (by rfl) sc_Person_table.nd (pi_range1 (by rfl) T.m_range (pa_cons (pe_fldK K (pv 0)) pa_nil)) (blkOk_by (N := ["self", "word"]) (sc := defScope s_Person_table) (by decide +kernel)) (fun _ _ _ _ _ => (pg_name (i := 1) sc_Person_table.nd rfl (Or.inl rfl))) (fun _ _ _ _ _ => pts_nil) (fun _ _ _ _ _ => (pe_meth (pv 0) T.c_KnowingDoubter T.M_KnowingDoubter_said (ok_KnowingDoubter_said T) (hr.mono (by decide)) (b_KnowingDoubter_said T) .nil passF (pa_cons (pv 1) pa_nil)))) pa_nil)))), ?_⟩
      refine run_D (W := fun _ _ _ _ => False) (Γ := [some (rPer K T.C_Person T.C_Knower T.C_Doubter T.C_KnowingDoubter pd), none]) ?_ e (En.start (k := 1) _ (rs := [rPer K T.C_Person T.C_Knower T.C_Doubter T.C_KnowingDoubter pd]) ra (by rw [ra.len]; rfl)) k
      clear ra e k
      rw [rPer3 hk]
      refine ws_ret (e_make (a_cons ?_))
      refine e_lcR0 K (rr := fun w => rLn K (saidP pd w)) (by wtm_at "x") (by omega) (fun w hw => ?_) (by wtm_at "j") ?_
      · apply EvX.by
        intro W ε
        have e1 : wordO T.C_UnknownWord pd.h.length ((w : Nat) : Int) (.inl ((knowL pd.kn (baseL true pd.h pd.s ((w : Nat) : Int).toNat) ((w : Nat) : Int).toNat).map nI)) = .inl ((saidP pd w).map nI) := by
          rw [word_good (by rw [bad_nat hw]; decide), Int.toNat_natCast, saidP3 hk]
          first | done | rfl
        wtm_at "e"
      refine a_nil ?_
      rw [saidP_rows pd q0]
      exact mk_tab (saidPM_wf pd q0) ok1 ok2 rfl
theorem c_Person_table (T : Tx P K mg) {M : List Re} {κ : KV} {pd : PD} (q0 : PDok pd) (k : κ (rTab K T.C_Table (saidPM pd)) M) : CM (spD (R_Person_table T)) [rPer K T.C_Person T.C_Knower T.C_Doubter T.C_KnowingDoubter pd] M κ := cm (fun vs G ra => SpD.of ⟨pd, ra, q0, rfl⟩) k

theorem cq_Person_table (T : Tx P K mg) {M : List Re} {κ : KV} {pd : PD} {r : Rp} (er : r = rPer K T.C_Person T.C_Knower T.C_Doubter T.C_KnowingDoubter pd) (ok : PDok pd) (k : κ (rTab K T.C_Table (saidPM pd)) M) : CM (spD (R_Person_table T)) [r] M κ := by
  subst er
  exact c_Person_table T ok k
local macro_rules | `(tactic| wtm_at "c") => `(tactic| refine c_Person_table _ (by wtm_at "s") ?_)
local macro_rules | `(tactic| wtm_at "c") => `(tactic| refine cq_Person_table _ (by assumption) (by assumption) ?_)
theorem sc_Cast_put : FnScope ["self", "letter", "person", "sign"] ["self", "letter", "person"] (defScope s_Cast_put) := ⟨rfl, rfl, rfl, by decide +kernel, rfl, by decide +kernel, by decide +kernel⟩
theorem b_Cast_put (T : Tx P K mg) : Binds K T.fd_Cast_put ["self", "letter", "person"] [] := T.F_Cast_put.bindsN fun _ _ _ _ _ _ us hl => match us, hl with | [_, _, _], _ => rfl
abbrev ALPHA : Str := "abcdefghijklmnopqrstuvwxyz"
def alphaL : List Nat := (List.range 26).map fun i => i + 97
theorem alpha_cps : ALPHA.cps.toList = alphaL := by decide +kernel
theorem alpha_in : ∀ c ∈ alphaL, inS (ltr c) ALPHA = true := by decide +kernel
theorem ltr_inj {a b : Nat} : ltr a = ltr b ↔ a = b := by
  unfold ltr
  constructor
  · intro h
    injection h with h
    simpa using h
  · intro h; rw [h]
theorem key_inj {a b : Nat} : (Sum.inr (ltr a) : Key) = Sum.inr (ltr b) ↔ a = b := by
  constructor
  · intro h; injection h with h; exact ltr_inj.mp h
  · intro h; rw [h]
abbrev CSt := List (Nat × List Nat)
def kvC (K : PySem.W.Frag) (CT : Addr) (cs : CSt) : List (Key × Rp) := cs.map fun e => (Sum.inr (ltr e.1), rTab K CT e.2)
def valC (cs : CSt) (c : Nat) : Option (List Nat) := (cs.find? fun e => decide (e.1 = c)).map (·.2)
def hasC (cs : CSt) (c : Nat) : Bool := cs.any fun e => decide (e.1 = c)
def putC (cs : CSt) (c : Nat) (m : List Nat) : CSt := if hasC cs c = true then cs.map (fun e => if e.1 = c then (e.1, m) else e) else cs ++ [(c, m)]
def rosN (cs : CSt) : List Nat := alphaL.filter (hasC cs)
section
variable {K : PySem.W.Frag} {CT : Addr} {cs : CSt} {c : Nat} {m : List Nat}
theorem val_kvC : valA (kvC K CT cs) (.inr (ltr c)) = (valC cs c).map (rTab K CT) := by
  unfold valA valC kvC
  induction cs with
  | nil => rfl
  | cons e cs ih =>
    rw [List.map_cons, List.find?_cons, List.find?_cons]
    have h : decide ((Sum.inr (ltr e.1) : Key) = Sum.inr (ltr c)) = decide (e.1 = c) := dec_iff key_inj
    dsimp only
    rw [h]
    cases decide (e.1 = c)
    · exact ih
    · rfl
theorem has_val : (valC cs c).isSome = hasC cs c := by
  unfold valC hasC
  induction cs with
  | nil => rfl
  | cons e cs ih =>
    rw [List.find?_cons, List.any_cons]
    cases decide (e.1 = c)
    · exact ih
    · rfl
theorem has_kvC : (valA (kvC K CT cs) (.inr (ltr c))).isSome = hasC cs c := by rw [val_kvC, ← has_val]; cases valC cs c <;> rfl
theorem any_kvC : ((kvC K CT cs).any fun kv => decide (kv.1 = Sum.inr (ltr c))) = hasC cs c := by
  unfold kvC hasC
  rw [List.any_map]
  congr 1
  funext e
  exact dec_iff key_inj
theorem put_kvC : putA (kvC K CT cs) (.inr (ltr c)) (rTab K CT m) = kvC K CT (putC cs c m) := by
  unfold putA putC
  rw [any_kvC]
  split
  · unfold kvC
    rw [List.map_map, List.map_map]
    refine List.map_congr_left fun e _ => ?_
    show (if (Sum.inr (ltr e.1) : Key) = Sum.inr (ltr c) then _ else _) = _
    by_cases h : e.1 = c
    · rw [if_pos (key_inj.mpr h)]
      show _ = (Sum.inr (ltr (if e.1 = c then (e.1, m) else e).1), rTab K CT (if e.1 = c then (e.1, m) else e).2)
      rw [if_pos h]
    · rw [if_neg (fun z => h (key_inj.mp z))]
      show _ = (Sum.inr (ltr (if e.1 = c then (e.1, m) else e).1), rTab K CT (if e.1 = c then (e.1, m) else e).2)
      rw [if_neg h]
  · unfold kvC
    rw [List.map_append]; rfl
theorem len_kvC : (kvC K CT cs).length = cs.length := List.length_map _
end
def castF (K : PySem.W.Frag) (n : Nat) (d : Addr) (cs : CSt) : FL := [("size", nI n), ("folk", rV (.ref d)), ("roster", rL K ((rosN cs).map rC))]
def castZ (K : PySem.W.Frag) (CT : Addr) (n : Nat) (cs : CSt) : FL := [("size", nI n), ("folk", rD false (kvC K CT cs)), ("roster", rL K ((rosN cs).map rC))]
theorem set_roster {K : PySem.W.Frag} {n : Nat} {d : Addr} {cs cs' : CSt} : setR "roster" (rL K ((rosN cs').map rC)) (castF K n d cs) = castF K n d cs' := rfl
section
variable {M : List Re} {R R' : Re} {k k2 : Nat}
theorem setS (h : M[k]? = some R) : (M.set k R')[k]? = some R' := by
  rw [List.getElem?_set_self']
  rw [h]; rfl
theorem setN (hn : k2 ≠ k) (h : M[k]? = some R) : (M.set k2 R')[k]? = some R := by rw [List.getElem?_set_ne hn]; exact h
end
theorem f_per (T : Tx P K mg) {M : List Re} {κ : KV} {pd : PD} (k : κ (nI pd.h.length) M) : UM (fun x H1 Q => ∃ a C dx fs v, x = .ref a ∧ H1 a = some (.ins C dx fs) ∧ Cls K C ∧ NoAttr K C "size" ∧ fs.lookup ("size" : Str) = some v ∧ Q v H1) (rPer K T.C_Person T.C_Knower T.C_Doubter T.C_KnowingDoubter pd) M κ := by
  unfold rPer
  split
  · exact f_ins (f := "size") (fs := perF K pd.h pd.s ++ ([] : FL)) (r := nI pd.h.length) T.c_Person T.na_Person_size rfl k
  · exact f_ins (f := "size") (fs := perF K pd.h pd.s ++ ([("sure_words", rT K (pd.kn.map Mu.rI))] : FL)) (r := nI pd.h.length) T.c_Knower T.na_Knower_size rfl k
  · exact f_ins (f := "size") (fs := perF K pd.h pd.s ++ ([] : FL)) (r := nI pd.h.length) T.c_Doubter T.na_Doubter_size rfl k
  · exact f_ins (f := "size") (fs := perF K pd.h pd.s ++ ([("sure_words", rT K (pd.kn.map Mu.rI))] : FL)) (r := nI pd.h.length) T.c_KnowingDoubter T.na_KnowingDoubter_size rfl k
theorem per_prop (T : Tx P K mg) (pd : PD) : ∃ C, Cls K C ∧ PropG K C "table" T.f_Person_table ∧ ∀ v G, (rPer K T.C_Person T.C_Knower T.C_Doubter T.C_KnowingDoubter pd).p v G → ∃ a dx fs, v = .ref a ∧ G a = some (.ins C dx fs) := by
  unfold rPer
  split
  · exact ⟨_, T.c_Person, T.pr_Person_table, ins_is⟩
  · exact ⟨_, T.c_Knower, T.pr_Knower_table, ins_is⟩
  · exact ⟨_, T.c_Doubter, T.pr_Doubter_table, ins_is⟩
  · exact ⟨_, T.c_KnowingDoubter, T.pr_KnowingDoubter_table, ins_is⟩

def R_Cast_put (T : Tx P K mg) : List V → Hp → List Re → KV → KX → Prop := fun vs G M κ ε => ∃ (ka kb : Nat) (p d : Addr) (n c : Nat) (cs : CSt) (pd : PD), RA G vs [rV (.ref p), rC c, rPer K T.C_Person T.C_Knower T.C_Doubter T.C_KnowingDoubter pd] ∧ (M[ka]? = some (insR true p T.C_Cast (castF K n d cs))) ∧ (M[kb]? = some (dicR d (kvC K T.C_Table cs))) ∧ (kb ≠ ka) ∧ (c ∈ alphaL) ∧ (PDok pd) ∧ (pd.h.length = n) ∧ (cs.length < 8) ∧ (κ (rV .non) ((M.set kb (dicR d (kvC K T.C_Table (putC cs c (saidPM pd))))).set ka (insR true p T.C_Cast (castF K n d (putC cs c (saidPM pd))))))
theorem ok_Cast_put (T : Tx P K mg) : FnOk P w K mg base CX0 11 T.f_Cast_put T.fd_Cast_put ["self", "letter", "person"] (spC (R_Cast_put T)) := by
  refine T.F_Cast_put.ok sc_Cast_put (fun vs H Q E h => ?_) (fun cdv A outer s H vs Q E hr h => ?_)
  · obtain ⟨B, G, M, κ, ε, _, ⟨ka, kb, p, d, n, c, cs, pd, ra, _⟩, _⟩ := h
    exact ra.len
  · obtain ⟨B, G, M, κ, ε, ok, ⟨ka, kb, p, d, n, c, cs, pd, ra, q0, q1, q2, q3, q4, q5, q6, z0⟩, k1, k2⟩ := h
    refine ⟨_, PSs.nox (pss_cons (ps_if (PW.pt (pw_or (pt_cmpR op_ne (pe_callB call_lenT (by rfl) T.m_len PySem.boot_len (pa_cons (pv 1) pa_nil)) pe_int (nomark _)) (pw_or1 (pt_cmpR op_notInS (pv 1) (pe_glob (v := .str "abcdefghijklmnopqrstuvwxyz") (by rfl) T.gs_LETTERS.choose_spec ⟨_, rfl⟩) rfl)))) (pss_one ps_never) pss_nil)
      (pss_cons (ps_expr (pe_call (ok_check_sizes T) (hr.mono (by decide)) (by rfl) T.g_check_sizes T.F_check_sizes.kp (b_check_sizes T) .nil pass0 (pa_cons (pe_fldK K (pv 0)) (pa_cons (pe_fldK K (pv 2)) pa_nil))))
      (pss_cons (ps_if (PW.pt (pw_and (pt_dniT hr.u1 (pv 1) (pe_fldK K (pv 0))) (pw_and1 (pt_cmpR op_ge (pe_callB call_lenDr (by rfl) T.m_len PySem.boot_len (pa_cons (pe_fldK K (pv 0)) pa_nil)) (pe_glob (v := .int 8) (by rfl) T.gi_MOST_PEOPLE.choose_spec ⟨_, rfl⟩) (nomark _))))) (pss_one ps_never) pss_nil)
      (pss_cons (ps_dput hr.u1 (pe_fldK K (pv 0)) (pv 1) (pe_propD (pv 2) K (ok_Person_table T) (hr.mono (by decide)) (b_Person_table T) pass0) rfl)
      (pss_one (ps_fld (pv 0) (pe_lc (own := [("sign", 3)]) (by rfl) sc_Cast_put.nd (pi_str (pe_glob (v := .str "abcdefghijklmnopqrstuvwxyz") (by rfl) T.gs_LETTERS.choose_spec ⟨_, rfl⟩)) (blkOk_by (N := ["self", "letter", "person", "sign"]) (sc := defScope s_Cast_put) (by decide +kernel)) (fun _ _ _ _ _ => (pg_name (i := 3) sc_Cast_put.nd rfl (Or.inl rfl))) (fun _ _ _ _ _ => (pts_one (pt_dinT hr.u1 (pv 3) (pe_fldK K (pv 0))))) (fun _ _ _ _ _ => (pv 3))) rfl)))))), ?_⟩
    refine run_C (Γ := [some (rV (.ref p)), some (rC c), some (rPer K T.C_Person T.C_Knower T.C_Doubter T.C_KnowingDoubter pd), none]) ?_ ok (En.start (k := 1) _ (rs := [rV (.ref p), rC c, rPer K T.C_Person T.C_Knower T.C_Doubter T.C_KnowingDoubter pd]) ra (by rw [ra.len]; rfl)) k1 k2
    clear ra ok k1 k2
    subst q5
    have cc := T.c_Cast
    have n1 := T.na_Cast_size
    have n2 := T.na_Cast_folk
    have n3 := T.na_Cast_roster
    have hin := alpha_in c q3
    have hl1 : (ltr c).length = 1 := rfl
    refine w_seq ?_
    wtm_at "no"
    refine w_nx ?_
    try dsimp only
    refine w_seq (ws_do ?_)
    wtm_at "e"
    refine f_per T ?_
    wtm_at "e"
    try dsimp only
    refine w_seq (ws_if (w_tAnd (w_tB ?_)))
    wtm_at "e"
    refine om_dniS _ (by assumption) ?_
    refine ⟨_, rfl, fun hb => ?_, fun hb => ⟨(fun z => nomatch z), fun _ => ?_⟩⟩
    · refine w_t ?_
      wtm_at "e"
      refine am_lenDO _ (by assumption) ?_
      wtm_at "e"
      refine ⟨_, rfl, fun hb2 => ?_, fun _ => ?_⟩
      · exfalso
        rw [len_kvC] at hb2
        have := of_decide_eq_true hb2
        omega
      · refine w_nx ?_
        try dsimp only
        refine w_seq (ws_dputS kb ?_)
        refine e_propD (e_v rfl ⟨per_prop T pd, ?_⟩)
        wtm_at "e"
        refine ⟨_, rfl, ?_⟩
        wtm_at "e"
        refine ⟨_, _, rfl, q1, by rw [len_kvC]; omega, ?_⟩
        rw [put_kvC]
        have h2 := setS (R' := dicR d (kvC K T.C_Table (putC cs c (saidPM pd)))) q1
        have h1 := setN (R' := dicR d (kvC K T.C_Table (putC cs c (saidPM pd)))) q2 q0
        refine ws_fldS ka rfl h1 cc n3 ?_
        refine e_bxN (K := K) (fun C => decide (C = T.C_Cast)) (rs := (rosN (putC cs c (saidPM pd))).map rC) (bx_set (i := 0) (r := rIns T.C_Cast [("size", nI pd.h.length), ("folk", rD false (kvC K T.C_Table (putC cs c (saidPM pd)))), ("roster", rL K ((rosN cs).map rC))]) bx_refl rfl (bx_ins h1 (decide_eq_true rfl) (.cons ⟨rfl, bx_same⟩ (.cons ⟨rfl, bx_dic h2⟩ (.cons ⟨rfl, bx_same⟩ .nil))))) ?_ (fun r hr => by obtain ⟨a, _, rfl⟩ := List.mem_map.mp hr; exact lfx_v) ?_
        · dsimp only [List.set]
          have z := xn_lcI (Γ := [some (rIns T.C_Cast [("size", nI pd.h.length), ("folk", rD false (kvC K T.C_Table (putC cs c (saidPM pd)))), ("roster", rL K ((rosN cs).map rC))]), some (rC c), some (rPer K T.C_Person T.C_Knower T.C_Doubter T.C_KnowingDoubter pd), none]) (f := hasC (putC cs c (saidPM pd))) (rr := rC) (j := 3) (vs := [3]) (t := tB (tOp rDIn (tVar 3) (tFld K (tVar 0) "folk"))) (te := tVar 3) (ix_S (s := ALPHA) (te := tC (.str ALPHA)) x_c) (by rw [alpha_cps]; decide) (fun a ha => ?_) (fun a ha _ => by wtm_at "x") (by simp)
          · rw [alpha_cps] at z
            exact z
          · apply t_B
            apply EvX.by
            intro W ε
            wtm_at "e"
            rw [has_kvC]
            exact ⟨rfl, rfl⟩
        · exact ⟨_, _, h1, rfl, by show 3 < 900; decide, by rw [set_roster]; exact z0⟩
    · refine w_nx ?_
      try dsimp only
      refine w_seq (ws_dputS kb ?_)
      refine e_propD (e_v rfl ⟨per_prop T pd, ?_⟩)
      wtm_at "e"
      refine ⟨_, rfl, ?_⟩
      wtm_at "e"
      refine ⟨_, _, rfl, q1, by rw [len_kvC]; omega, ?_⟩
      rw [put_kvC]
      have h2 := setS (R' := dicR d (kvC K T.C_Table (putC cs c (saidPM pd)))) q1
      have h1 := setN (R' := dicR d (kvC K T.C_Table (putC cs c (saidPM pd)))) q2 q0
      refine ws_fldS ka rfl h1 cc n3 ?_
      refine e_bxN (K := K) (fun C => decide (C = T.C_Cast)) (rs := (rosN (putC cs c (saidPM pd))).map rC) (bx_set (i := 0) (r := rIns T.C_Cast [("size", nI pd.h.length), ("folk", rD false (kvC K T.C_Table (putC cs c (saidPM pd)))), ("roster", rL K ((rosN cs).map rC))]) bx_refl rfl (bx_ins h1 (decide_eq_true rfl) (.cons ⟨rfl, bx_same⟩ (.cons ⟨rfl, bx_dic h2⟩ (.cons ⟨rfl, bx_same⟩ .nil))))) ?_ (fun r hr => by obtain ⟨a, _, rfl⟩ := List.mem_map.mp hr; exact lfx_v) ?_
      · dsimp only [List.set]
        have z := xn_lcI (Γ := [some (rIns T.C_Cast [("size", nI pd.h.length), ("folk", rD false (kvC K T.C_Table (putC cs c (saidPM pd)))), ("roster", rL K ((rosN cs).map rC))]), some (rC c), some (rPer K T.C_Person T.C_Knower T.C_Doubter T.C_KnowingDoubter pd), none]) (f := hasC (putC cs c (saidPM pd))) (rr := rC) (j := 3) (vs := [3]) (t := tB (tOp rDIn (tVar 3) (tFld K (tVar 0) "folk"))) (te := tVar 3) (ix_S (s := ALPHA) (te := tC (.str ALPHA)) x_c) (by rw [alpha_cps]; decide) (fun a ha => ?_) (fun a ha _ => by wtm_at "x") (by simp)
        · rw [alpha_cps] at z
          exact z
        · apply t_B
          apply EvX.by
          intro W ε
          wtm_at "e"
          rw [has_kvC]
          exact ⟨rfl, rfl⟩
      · exact ⟨_, _, h1, rfl, by show 3 < 900; decide, by rw [set_roster]; exact z0⟩
theorem c_Cast_put (T : Tx P K mg) {M : List Re} {κ : KV} {ka kb : Nat} {p d : Addr} {n c : Nat} {cs : CSt} {pd : PD} (q0 : M[ka]? = some (insR true p T.C_Cast (castF K n d cs))) (q1 : M[kb]? = some (dicR d (kvC K T.C_Table cs))) (q2 : kb ≠ ka) (q3 : c ∈ alphaL) (q4 : PDok pd) (q5 : pd.h.length = n) (q6 : cs.length < 8) (z0 : κ (rV .non) ((M.set kb (dicR d (kvC K T.C_Table (putC cs c (saidPM pd))))).set ka (insR true p T.C_Cast (castF K n d (putC cs c (saidPM pd)))))) : CM (spC (R_Cast_put T)) [rV (.ref p), rC c, rPer K T.C_Person T.C_Knower T.C_Doubter T.C_KnowingDoubter pd] M κ := cmC fun vs G ra => ⟨ka, kb, p, d, n, c, cs, pd, ra, q0, q1, q2, q3, q4, q5, q6, z0⟩
theorem sc_Cast___init__ : FnScope ["self", "size", "people", "letter", "name"] ["self", "size", "people"] (defScope s_Cast___init__) := ⟨rfl, rfl, rfl, by decide +kernel, rfl, by decide +kernel, by decide +kernel⟩
def R_Cast_init (T : Tx P K mg) : List V → Hp → List Re → KV → KX → Prop := fun vs G M κ ε => ∃ (p d : Addr) (n : Nat) (M0 : List Re), RA G vs [rV (.ref p), nI n, rV (.ref d)] ∧ M = insR true p T.C_Cast [] :: dicR d [] :: M0 ∧ 1 ≤ n ∧ n ≤ 6 ∧ (∀ e, κ (rV .non) (insR true p T.C_Cast (castF K n e []) :: (M0 ++ [dicR e []])))
theorem ok_Cast___init__ (T : Tx P K mg) : FnR P w K mg base CX0 12 T.f_Cast___init__ (spK 2 (spC (R_Cast_init T))) := by
  refine fn_kw (ps := ["self", "size"]) (pd := "people") T.F_Cast___init__ sc_Cast___init__ StX.cxUp_none (FunD.bindsK T.F_Cast___init__ fun _ _ _ _ _ _ us hl => match us, hl with | [_, _], _ => rfl) (fun cdv A outer s H vs Q E hr h => ?_)
  obtain ⟨B, G, M, κ, ε, ok, ⟨p, d, n, M0, ra, rfl, h1, h6, z0⟩, k1, k2⟩ := h
  refine ⟨_, PSs.nox (pss_cons (ps_expr (pe_call (ok_check_size T) (hr.mono (by decide)) (by rfl) T.g_check_size T.F_check_size.kp (b_check_size T) .nil pass0 (pa_cons (pv 1) pa_nil)))
      (pss_cons (ps_fld (pv 0) (pv 1) rfl)
      (pss_cons (ps_fld (pv 0) pe_dnewK rfl)
      (pss_cons (ps_fld (pv 0) (pe_lst pa_nil) rfl)
      (pss_one (ps_pre (ps_for PassesOwn.never rfl (pi_listK K (pe_callB (cr_sortedSK K) (by rfl) T.m_sorted (by decide +kernel) (pa_cons (pe_lc (own := [("name", 4)]) (by rfl) sc_Cast___init__.nd (pi_keys (pv 2)) (blkOk_by (N := ["self", "size", "people", "letter", "name"]) (sc := defScope s_Cast___init__) (by decide +kernel)) (fun _ _ _ _ _ => (pg_name (i := 4) sc_Cast___init__.nd rfl (Or.inl rfl))) (fun _ _ _ _ _ => pts_nil) (fun _ _ _ _ _ => (pe_callTy SkE.call_str_str (by rfl) T.m_str (by decide +kernel) (pa_cons (pv 4) pa_nil)))) pa_nil))) (pg_name (i := 3) sc_Cast___init__.nd rfl (Or.inl rfl)) (pss_one (ps_expr (pe_meth (pv 0) T.c_Cast T.M_Cast_put (ok_Cast_put T) (hr.mono (by decide)) (b_Cast_put T) .nil pass0 (pa_cons (pv 3) (pa_cons (pe_dgetT hr.u1 (pv 2) (pv 3) (fun _ _ => rfl)) pa_nil)))))))))))), ?_⟩
  refine run_C (Γ := [some (rV (.ref p)), some (nI n), some (rV (.ref d)), none, none]) ?_ ok (En.start (k := 2) _ (rs := [rV (.ref p), nI n, rV (.ref d)]) ra (by rw [ra.len]; rfl)) k1 k2
  clear ra ok k1 k2
  have cc := T.c_Cast
  have n1 := T.na_Cast_size
  have n2 := T.na_Cast_folk
  have n3 := T.na_Cast_roster
  have er : rosN [] = [] := by decide
  refine w_seq (ws_do ?_)
  wtm_at "e"
  try dsimp only
  refine w_seq (ws_fld 0 rfl rfl cc n1 ?_)
  wtm_at "e"
  dsimp only [List.set]
  refine w_seq (ws_fld 0 rfl rfl cc n2 (e_dnew fun e => ⟨_, rfl, rfl, by show 1 < 900; decide, ?_⟩))
  dsimp only [List.set, List.cons_append, List.nil_append]
  refine w_seq (ws_fld 0 rfl rfl cc n3 ?_)
  wtm_at "e"
  dsimp only [List.set, List.cons_append, List.nil_append]
  refine w_frzD (p := d) 1 2 rfl rfl ?_
  dsimp only [List.set, List.eraseIdx]
  refine w_forI (l := ([] : List Nat)) (ρ := rC) (fun _ (_ : Unit) => True) (fun _ _ => [some (rV (.ref p)), some (nI n), some (rD true []), none, none]) (fun _ _ => insR true p T.C_Cast [("size", nI n), ("folk", rV (.ref e)), ("roster", rL K [])] :: (M0 ++ [dicR e []])) (ix_L (K := K) (x_sorted0 (EvNX.d (K := K) (xn_lcI0 (rr := fun _ => rC 0) (ix_KC (l := []) (x_v rfl) rfl) (Nat.zero_le _) (fun a ha => nomatch ha) (by simp))))) () trivial (by wtm_at "sub") rfl (fun i _ x hi _ => ?_) (fun _ _ => ?_)
  · simp at hi
  · have := z0 e
    unfold castF at this
    rw [er] at this
    exact this
theorem sc__law_box : FnScope ["_law_script", "_law_cell"] ["_law_script"] (defScope s__law_box) := ⟨rfl, rfl, rfl, by decide +kernel, rfl, by decide +kernel, by decide +kernel⟩
theorem b__law_box (T : Tx P K mg) : Binds K T.fd__law_box ["_law_script"] [] := T.F__law_box.bindsN fun _ _ _ _ _ _ us hl => match us, hl with | [_], _ => rfl
theorem ok__law_box (T : Tx P K mg) : FnOk P w K mg base CX0 1 T.f__law_box T.fd__law_box ["_law_script"] (spBoxMk K) := by
  refine T.F__law_box.ok sc__law_box (fun vs H Q E h => ?_) (fun cdv A outer s H vs Q E hr h => ?_)
  · obtain ⟨a, ns, rfl, _⟩ := h
    rfl
  · obtain ⟨a, ns, rfl, hS, hl, k⟩ := h
    refine ⟨_, PSs.nox (pss_one (ps_ret (pe_lst (pa_cons (pe_lc (own := [("_law_cell", 1)]) (by rfl) sc__law_box.nd (pi_listK K (pe_slice (sl_listK K) (pv 0) po_none (po_some pe_int))) (blkOk_by (N := ["_law_script", "_law_cell"]) (sc := defScope s__law_box) (by decide +kernel)) (fun _ _ _ _ _ => (pg_name (i := 1) sc__law_box.nd rfl (Or.inl rfl))) (fun _ _ _ _ _ => pts_nil) (fun _ _ _ _ _ => (pe_callB call_abs (by rfl) T.m_abs (by decide +kernel) (pa_cons (pe_callTy call_int1 (by rfl) T.m_int (by decide +kernel) (pa_cons (pv 1) pa_nil)) pa_nil)))) (pa_cons pe_int (pa_cons pe_int (pa_cons pe_int pa_nil))))))), ?_⟩
    have hcut : cutR (ns.map Mu.rI) none (some 63) = (cutR ns none (some 63)).map Mu.rI := cutR_map _ _ _ _
    have hcl : (cutR ns none (some 63)).length ≤ 63 := by
      unfold cutR
      rw [List.length_take, List.length_drop]; omega
    have src : EvD (tSl (rSlL K) (tVar 0) tNoPart (tPart (tC (.int 63)))) [some (V.ref a), none] H (rL K ((cutR ns none (some 63)).map Mu.rI)) := hcut ▸ EvN.d (en_slL (ed_var (r := rLs K (ns.map Mu.rI)) rfl ⟨a, _, rfl, hS, ra_ints⟩) (fun _ _ => eo_none) (fun _ _ => eo_some ev_c))
    have lc := en_lcL0 (cutR ns none (some 63)) Mu.rI (fun i => Mu.rI (if i < 0 then -i else i)) src (by omega) (vs := [1]) (j := 1) (fun _ => rfl) (te := tCB (fun xs H Q => ∃ i, xs = [.int i] ∧ Q (.int (if i < 0 then -i else i)) H) (tCons (tCB (fun xs H Q => (∃ i, xs = [.int i] ∧ Q (.int i) H) ∨ ∃ k, xs = [.bl k] ∧ Q (.int (if k then 1 else 0)) H) (tCons (tVar 1) tNil)) tNil)) fun i y G1 hi e1 hy => by
      obtain rfl : y = V.int i := hy
      exact Ev.d (ev_abs (ev_int (ev_var rfl)))
    refine s_retN (Ex.refl H) (en_lst (ead_cons (EvN.d (K := K) lc) (ead_cons (Ev.d ev_c) (ead_cons (Ev.d ev_c) (ead_cons (Ev.d ev_c) ead_nil)))) (by show 4 ≤ 100000; decide)) fun p vs G2 H2 g hp gp h2 ra => ?_
    cases ra with
    | cons h1 t1 =>
      obtain ⟨x, y, z, rfl, hx, hy, hz⟩ := ra3 t1
      obtain rfl : x = V.int 0 := hx
      obtain rfl : y = V.int 0 := hy
      obtain rfl : z = V.int 0 := hz
      obtain ⟨c, ws, rfl, hc, rc⟩ := h1
      rw [show (cutR ns none (some 63)).map (fun i => Mu.rI (if i < 0 then -i else i)) = ((cutR ns none (some 63)).map (fun i => if i < 0 then -i else i)).map Mu.rI by rw [List.map_map]; rfl] at rc
      have ew := ra_ints_eq rc
      subst ew
      refine k p G2 H2 g.g g.i hp gp ⟨c, _, 0, 0, 0, h2, hc, fun z hz => ?_, by omega, by omega, by omega, by omega⟩
      obtain ⟨i, _, rfl⟩ := List.mem_map.mp hz
      split <;> omega
theorem sc__law_take : FnScope ["_law_box_here", "_law_many", "_law_digit", "_law_cell"] ["_law_box_here", "_law_many"] (defScope s__law_take) := ⟨rfl, rfl, rfl, by decide +kernel, rfl, by decide +kernel, by decide +kernel⟩
theorem b__law_take (T : Tx P K mg) : Binds K T.fd__law_take ["_law_box_here", "_law_many"] [] := T.F__law_take.bindsN fun _ _ _ _ _ _ us hl => match us, hl with | [_, _], _ => rfl
theorem ok__law_take (T : Tx P K mg) : FnOk P w K mg base CX0 1 T.f__law_take T.fd__law_take ["_law_box_here", "_law_many"] (spT K) := by
  refine T.F__law_take.ok sc__law_take (fun vs H Q E h => ?_) (fun cdv A outer s H vs Q E hr h => ?_)
  · obtain ⟨G, b, m, rfl, _⟩ := h
    rfl
  · obtain ⟨G, b, m, rfl, e, gb, hbox, h0, h1, k⟩ := h
    obtain ⟨c, cells, i, x, y, hb, hc, hcp, hi, hx, hy, hy2⟩ := hbox.ex
    refine ⟨_, PSs.nox (pss_cons (ps_if (pt_cmpR op_gt (pe_ix (ix_listK K) (pv 0) pe_int (fun _ _ => rfl)) pe_int (nomark _)) (pss_cons (ps_set (i := 2) sc__law_take.nd rfl (Or.inl rfl) (pe_op op_mod (pe_callTy call_int1 (by rfl) T.m_int (by decide +kernel) (pa_cons (pe_ix (ix_listK K) (pv 0) pe_int (fun _ _ => rfl)) pa_nil)) (pv 1)))
      (pss_cons (ps_asg (pe_op op_fdiv (pe_ix (ix_listK K) (pv 0) pe_int (fun _ _ => rfl)) (pv 1)) (pg_sub (pv 0) pe_int set_list))
      (pss_one (ps_ret (pv 2))))) pss_nil)
      (pss_cons (ps_set (i := 3) sc__law_take.nd rfl (Or.inl rfl) pe_int)
      (pss_cut (ps_if (pt_cmpR op_lt (pe_ix (ix_listK K) (pv 0) pe_int (fun _ _ => rfl)) (pe_callB (call_lenK K) (by rfl) T.m_len PySem.boot_len (pa_cons (pe_ix (ix_listK K) (pv 0) pe_int (fun _ _ => rfl)) pa_nil)) (nomark _)) (pss_cons (ps_set (i := 3) sc__law_take.nd rfl (Or.inl rfl) (pe_ix (ix_listK K) (pe_ix (ix_listK K) (pv 0) pe_int (fun _ _ => rfl)) (pe_ix (ix_listK K) (pv 0) pe_int (fun _ _ => rfl)) (fun _ _ => rfl)))
      (pss_one (ps_asg (pe_op op_add (pe_ix (ix_listK K) (pv 0) pe_int (fun _ _ => rfl)) pe_int) (pg_sub (pv 0) pe_int set_list)))) pss_nil)
      (pss_cons (ps_if (pt_cmpR op_ge (pv 3) (pe_op op_pow pe_int pe_int) (nomark _)) (pss_cons (ps_asg (pe_op op_fdiv (pv 3) (pv 1)) (pg_sub (pv 0) pe_int set_list))
      (pss_one (ps_ret (pe_op op_mod (pe_callTy call_int1 (by rfl) T.m_int (by decide +kernel) (pa_cons (pv 3) pa_nil)) (pv 1))))) pss_nil)
      (pss_cons (ps_asg (pe_op op_mod (pe_callTy call_int1 (by rfl) T.m_int (by decide +kernel) (pa_cons (pe_op op_add (pe_op op_mul (pe_ix (ix_listK K) (pv 0) pe_int (fun _ _ => rfl)) pe_int) (pv 3)) pa_nil)) pe_int) (pg_sub (pv 0) pe_int set_list))
      (pss_one (ps_ret (pe_op op_mod (pe_callTy call_int1 (by rfl) T.m_int (by decide +kernel) (pa_cons (pe_op op_fdiv (pe_op op_mod (pe_callTy call_int1 (by rfl) T.m_int (by decide +kernel) (pa_cons (pe_op op_mul (pe_ix (ix_listK K) (pv 0) pe_int (fun _ _ => rfl)) pe_int) pa_nil)) pe_int) pe_int) pa_nil)) (pv 1))))))))), ?_⟩
    have fin : ∀ (i' x' y' : Int) (H' : Hp) (d : Int), H' b = some (.lst [.ref c, .int i', .int x', .int y']) → 0 ≤ i' → 0 ≤ x' → 0 ≤ y' → y' < 2147483647 → (∀ a o, H a = some o → a ≠ b → H' a = some o) → 0 ≤ d → d < (m : Int) → Q (.int d) H' := by
      intro i' x' y' H' d h1 h2 h3 h4 h5 h6 h7 h8
      have z := k d.toNat H' (by omega) h6 fun G' hb' => by
        obtain ⟨c2, cells2, i2, x2, y2, b1, b2, b3, _⟩ := hb'.ex
        rw [hb] at b1
        injection b1 with b1
        injection b1 with b1
        injection b1 with b1 _
        injection b1 with b1
        subst b1
        exact ⟨c, cells2, i', x', y', h1, b2, b3, h2, h3, h4, h5⟩
      rwa [Int.toNat_of_nonneg h7] at z
    have mp : (0 : Int) < (m : Int) := by omega
    have md : CDiv x (m : Int) := ⟨mp, by omega⟩
    -- if box[2] > 0
    refine sq (s_ifE (Ex.refl H) (et_cmp (ev_op (ev_var rfl) ev_c (rv_ixL (sq_of hb) rfl)) ev_c) (fun hb1 H1 e1 => ?_) (fun hb1 H1 e1 => ?_))
    · refine sq (Mu.s_set e1 (ev_op (ev_int (ev_op (ev_var rfl) ev_c (rv_ixL (sq_of hb) rfl))) (ev_var rfl) (rv_I mp)) fun H2 e2 => ?_)
      have hb2 := e2 _ _ (e1 _ _ hb)
      refine sq (s_setL (j := 2) hb2 (ev_op (ev_op (ev_var rfl) ev_c (rv_ixL (sq_of hb2) rfl)) (ev_var rfl) (rv_I md)) (ev_var rfl) ev_c (by show 2 < 4; decide) fun H3 e3 => ?_)
      refine s_retE (Ex.refl _) (ev_var rfl) fun H4 e4 => ?_
      refine fin i (x / (m : Int)) y H4 _ (e4 _ _ upd_same) hi (Int.ediv_nonneg hx (by omega)) hy hy2 (fun a o z n => e4 _ _ (by rw [upd_ne n]; exact e3 _ _ (e2 _ _ (e1 _ _ z)))) (Int.emod_nonneg _ (by omega)) (Int.emod_lt_of_pos _ mp)
    -- cell = 0
    refine nxt ?_
    dsimp only
    refine sq (Mu.s_set e1 ev_c fun H2 e2 => ?_)
    have hb2 := e2 _ _ (e1 _ _ hb)
    have eG2 : Ex G H2 := e.trans (e1.trans e2)
    have hx0 : x ≤ 0 := by
      have q := of_decide_eq_false hb1
      omega
    have hcl : EvD (tOp (rIxL K) (tVar 0) (tC (.int 0))) [some (V.ref b), some (V.int (m : Int)), none, some (V.int 0)] (upd G b (.lst [.ref c, .int i, .int x, .int y])) (rL K (cells.map Mu.rI)) := fun H' e' Q' q' => by
      refine ⟨.ref b, rfl, b, _, 0, .ref c, rfl, rfl, sq_of (e' _ _ upd_same), rfl, q' (.ref c) _ H' (Gr.refl e') ⟨c, _, rfl, (Ex.new gb) _ _ hc, ra_ints⟩⟩
    have eB : Ex (upd G b (.lst [.ref c, .int i, .int x, .int y])) H2 := ex_add eG2 hb2
    -- if box[1] < len(box[0])
    refine ⟨fun σ' H' => ∃ i' cell : Int, σ' = [some (V.ref b), some (V.int (m : Int)), none, some (V.int cell)] ∧ H' b = some (.lst [.ref c, .int i', .int x, .int y]) ∧ 0 ≤ i' ∧ 0 ≤ cell ∧ (∀ a o, H a = some o → a ≠ b → H' a = some o), s_ifE eB (et_cmp (ev_op (ev_var rfl) ev_c (rv_ixL (sq_of upd_same) rfl)) (ev_lenL hcl (List.length_map _))) (fun hb3 H3 e3 => ?_) (fun hb3 H3 e3 => ?_), ?_⟩
    · have hlt : i < (cells.length : Int) := of_decide_eq_true hb3
      have hil : i.toNat < cells.length := by omega
      have ei : ((i.toNat : Nat) : Int) = i := Int.toNat_of_nonneg hi
      have hget : (cells.map Mu.rI)[i.toNat]? = some (Mu.rI cells[i.toNat]) := by rw [List.getElem?_map, List.getElem?_eq_getElem hil]; rfl
      refine sq (Mu.s_set (eB.trans e3) (EvD.ev (ed_ixL hcl (by rw [ei]; exact ev_op (ev_var rfl) ev_c (rv_ixL (sq_of upd_same) rfl)) hget)) fun H4 e4 => ?_)
      have hb4 := e4 _ _ (e3 _ _ hb2)
      refine s_setL (j := 1) hb4 (ev_op (ev_op (ev_var rfl) ev_c (rv_ixL (sq_of hb4) rfl)) ev_c rv_I0) (ev_var rfl) ev_c (by show 1 < 4; decide) fun H5 e5 => ?_
      exact ⟨i + 1, cells[i.toNat], rfl, upd_same, by omega, hcp _ (List.getElem_mem hil), fun a o z n => by rw [upd_ne n]; exact e5 _ _ (e4 _ _ (e3 _ _ (e2 _ _ (e1 _ _ z))))⟩
    · exact nxt ⟨i, 0, rfl, e3 _ _ hb2, hi, by omega, fun a o z n => e3 _ _ (e2 _ _ (e1 _ _ z))⟩
    · rintro σ' H3 ⟨i', cell, rfl, hb3, hi3, hcell, keep⟩
      refine sq (s_ifE (Ex.refl H3) (et_cmp (ev_var rfl) (ev_op ev_c ev_c (rv_I ⟨by decide, by decide, by decide⟩))) (fun hb4 H4 e4 => ?_) (fun hb4 H4 e4 => ?_))
      · have hb4' := e4 _ _ hb3
        refine sq (s_setL (j := 2) hb4' (ev_op (ev_var rfl) (ev_var rfl) (rv_I ⟨mp, by omega⟩)) (ev_var rfl) ev_c (by show 2 < 4; decide) fun H5 e5 => ?_)
        dsimp only
        refine s_retE (Ex.refl _) (ev_op (ev_int (ev_var rfl)) (ev_var rfl) (rv_I mp)) fun H6 e6 => ?_
        exact fin i' (cell / (m : Int)) y H6 _ (e6 _ _ upd_same) hi3 (Int.ediv_nonneg hcell (by omega)) hy hy2 (fun a o z n => e6 _ _ (by rw [upd_ne n]; exact e5 _ _ (e4 _ _ (keep a o z n)))) (Int.emod_nonneg _ (by omega)) (Int.emod_lt_of_pos _ mp)
      · have hb4' := e4 _ _ hb3
        have hc18 : cell < 10 ^ 18 := by
          have q := of_decide_eq_false hb4
          have q2 : ¬ ((10 : Int) ^ (18 : Int).toNat ≤ cell) := q
          have q3 : (10 : Int) ^ (18 : Int).toNat = 10 ^ 18 := rfl
          rw [q3] at q2
          omega
        refine nxt ?_
        dsimp only
        refine sq (s_setL (j := 3) hb4' (ev_op (ev_int (ev_op (ev_op (ev_op (ev_var rfl) ev_c (rv_ixL (sq_of hb4') rfl)) ev_c (rv_I (Or.inl ⟨by omega, by omega⟩))) (ev_var rfl) rv_I0)) ev_c (rv_I (by decide))) (ev_var rfl) ev_c (by show 3 < 4; decide) fun H5 e5 => ?_)
        have ny0 : (0 : Int) ≤ (y * 48271 + cell) % 2147483647 := Int.emod_nonneg _ (by decide)
        have ny1 : (y * 48271 + cell) % 2147483647 < 2147483647 := Int.emod_lt_of_pos _ (by decide)
        have hb6 : (upd H5 b (.lst ([V.ref c, .int i', .int x, .int y].set 3 (.int ((y * 48271 + cell) % 2147483647))))) b = some (.lst [.ref c, .int i', .int x, .int ((y * 48271 + cell) % 2147483647)]) := upd_same
        dsimp only
        refine s_retE (Ex.refl _) (ev_op (ev_int (ev_op (ev_op (ev_int (ev_op (ev_op (ev_var rfl) ev_c (rv_ixL (sq_of hb6) rfl)) ev_c (rv_I (Or.inl ⟨by omega, by omega⟩)))) ev_c (rv_I (by decide))) ev_c (rv_I ⟨by decide, by decide⟩))) (ev_var rfl) (rv_I mp)) fun H6 e6 => ?_
        exact fin i' x _ H6 _ (e6 _ _ hb6) hi3 hx ny0 ny1 (fun a o z n => e6 _ _ (by rw [upd_ne n]; exact e5 _ _ (e4 _ _ (keep a o z n)))) (Int.emod_nonneg _ (by omega)) (Int.emod_lt_of_pos _ mp)
local macro_rules | `(tactic| wtm_at "c") => `(tactic| refine c_take 0 (by assumption) (by wtm_at "s") (by wtm_at "s") ?_)
local macro_rules | `(tactic| wtm_at "c") => `(tactic| refine c_take 0 rfl (by wtm_at "s") (by wtm_at "s") ?_)
local macro_rules | `(tactic| wtm_at "c") => `(tactic| refine c_take 1 rfl (by wtm_at "s") (by wtm_at "s") ?_)
theorem sc__law_words : FnScope ["_law_box_here", "_law_n", "_law_least", "_law_mask", "_law_word"] ["_law_box_here", "_law_n", "_law_least"] (defScope s__law_words) := ⟨rfl, rfl, rfl, by decide +kernel, rfl, by decide +kernel, by decide +kernel⟩
theorem b__law_words (T : Tx P K mg) : Binds K T.fd__law_words ["_law_box_here", "_law_n", "_law_least"] [] := T.F__law_words.bindsN fun _ _ _ _ _ _ us hl => match us, hl with | [_, _, _], _ => rfl
def R_words : List V → Hp → (List Rp → Prop) → Prop := fun ws _ PP => ∃ n least : Nat, ws = [.int (n : Int), .int (least : Int)] ∧ n ≤ 6 ∧ least < 2 ^ n ∧ PP = fun rs => ∃ mask, least ≤ mask ∧ mask < 2 ^ n ∧ rs = (bitsN mask).map nI
theorem ok__law_words (T : Tx P K mg) : FnOk P w K mg base CX0 2 T.f__law_words T.fd__law_words ["_law_box_here", "_law_n", "_law_least"] (spBN K R_words) := by
  refine T.F__law_words.ok sc__law_words (fun vs H Q E h => ?_) (fun cdv A outer s H vs Q E hr h => ?_)
  · obtain ⟨G, b, ws, PP, rfl, _, _, _, ⟨n, least, rfl, _⟩, _⟩ := h
    rfl
  · obtain ⟨G, b, ws, PP, rfl, e, gb, hbox, ⟨n, least, rfl, hn, hl, rfl⟩, k⟩ := h
    refine ⟨_, PSs.nox (pss_cons (ps_set (i := 3) sc__law_words.nd rfl (Or.inr rfl) (pe_op op_add (pv 2) (pe_call (ok__law_take T) (hr.mono (by decide)) (by rfl) T.g__law_take T.F__law_take.kp (b__law_take T) .nil pass0 (pa_cons (pv 0) (pa_cons (pe_op op_sub (pe_ix (ix_listK K) (pe_lst (pa_cons pe_int (pa_cons pe_int (pa_cons pe_int (pa_cons pe_int (pa_cons pe_int (pa_cons pe_int (pa_cons pe_int pa_nil)))))))) (pv 1) (fun _ _ => rfl)) (pv 2)) pa_nil)))))
      (pss_one (ps_ret (pe_lc (own := [("_law_word", 4)]) (by rfl) sc__law_words.nd (pi_range1 (by rfl) T.m_range (pa_cons (pv 1) pa_nil)) (blkOk_by (N := ["_law_box_here", "_law_n", "_law_least", "_law_mask", "_law_word"]) (sc := defScope s__law_words) (by decide +kernel)) (fun _ _ _ _ _ => (pg_name (i := 4) sc__law_words.nd rfl (Or.inl rfl))) (fun _ _ _ _ _ => (pts_one (pt_cmpR op_eq (pe_op op_mod (pe_callTy call_int1 (by rfl) T.m_int (by decide +kernel) (pa_cons (pe_op op_fdiv (pv 3) (pe_ix (ix_listK K) (pe_lst (pa_cons pe_int (pa_cons pe_int (pa_cons pe_int (pa_cons pe_int (pa_cons pe_int (pa_cons pe_int pa_nil))))))) (pv 4) (fun _ _ => rfl))) pa_nil)) pe_int) pe_int (nomark _)))) (fun _ _ _ _ _ => (pv 4)))))), ?_⟩
    have p6 : (2 : Nat) ^ n ≤ 2 ^ 6 := Nat.pow_le_pow_right (by decide) hn
    have e0 : ((2 ^ n : Nat) : Int) - (least : Int) = ((2 ^ n - least : Nat) : Int) := by omega
    refine sq (s_setB e gb hbox (eb_opN (ev_var rfl) (eb_take (m := 2 ^ n - least) rfl (by rw [← e0]; exact ev_op (EvD.ev (ed_ixL (K := K) (EvN.d (en_lst (ead_cons (Ev.d ev_c) (ead_cons (Ev.d ev_c) (ead_cons (Ev.d ev_c) (ead_cons (Ev.d ev_c) (ead_cons (Ev.d ev_c) (ead_cons (Ev.d ev_c) (ead_cons (Ev.d ev_c) ead_nil))))))) (by show 7 ≤ 100000; decide))) (ev_var rfl) (pow_list hn))) (ev_var rfl) rv_I0) (by omega) (by omega)) (fun d => .int ((least : Int) + (d : Int))) fun d _ H Q q => ⟨_, _, rfl, rfl, q⟩) fun r v G2 H2 hP g hb2 hv => ?_)
    obtain ⟨d, hd, rfl⟩ := hP
    obtain rfl : v = V.int ((least : Int) + (d : Int)) := hv
    have em : (least : Int) + (d : Int) = ((least + d : Nat) : Int) := by omega
    rw [em]
    refine s_retN (rs := (bitsN (least + d)).map nI) g.i (en_is (en_lcR n (fun w => (least + d).testBit w) nI (ea_cons (ev_var rfl) ea_nil) (by omega) (fun _ => rfl) (fun w G1 hw e1 => ?_) (fun w G1 hw _ e1 => Ev.d (ev_var rfl))) ?_) fun p vs G3 H3 g3 hp gp h3 ra => ?_
    · refine et_is (et_eq (ev_op (ev_int (ev_op (ev_var rfl) (EvD.ev (ed_ixL (K := K) (EvN.d (en_lst (ead_cons (Ev.d ev_c) (ead_cons (Ev.d ev_c) (ead_cons (Ev.d ev_c) (ead_cons (Ev.d ev_c) (ead_cons (Ev.d ev_c) (ead_cons (Ev.d ev_c) ead_nil)))))) (by show 6 ≤ 100000; decide))) (ev_var rfl) (pow_list6 (by omega)))) (rv_I ⟨?_, ?_⟩))) ev_c (rv_I (by decide))) ev_c rfl) ?_
      · have := Nat.two_pow_pos w; omega
      · have : (2 : Nat) ^ w ≤ 2 ^ 5 := Nat.pow_le_pow_right (by decide) (by omega)
        omega
      · rw [← test_div]
        simp
    · rw [bits_eq (show least + d < 2 ^ n by omega)]
    · have hpH := (g.fresh hb2.at_ hp).1
      exact k _ p vs G3 H3 ⟨least + d, by omega, by omega, rfl⟩ (g.trans gb hbox.at_ g3.b hb2.at_) (hb2.mono g3.g g3.h) hpH gp h3 ra

theorem c_words (T : Tx P K mg) {M : List Re} {κ : KV} {b : Addr} {n least : Nat} (hk : M[0]? = some (boxR K b)) (h6 : n ≤ 6) (hl : least < 2 ^ n) (k : ∀ mask, least ≤ mask → mask < 2 ^ n → κ (rLn K (bitsN mask)) M) : CM (spBN K R_words) [rV (.ref b), nI n, nI least] M κ := c_BNf K 0 hk (fun ws G ra => by
  obtain ⟨x, y, rfl, hx, hy⟩ := ra2 ra
  obtain rfl : x = V.int (n : Int) := hx
  obtain rfl : y = V.int (least : Int) := hy
  exact ⟨n, least, rfl, h6, hl, rfl⟩) fun ss h => by
  obtain ⟨m, w, hm, rfl⟩ := h
  exact k m w hm
theorem o_words (T : Tx P K mg) {M : List Re} {κ : KV} {b : Addr} {n least : Nat} (hk : M[0]? = some (boxR K b)) (h6 : n ≤ 6) (hl : least < 2 ^ n) (k : ∀ mask, least ≤ mask → mask < 2 ^ n → ∀ p, κ (rV (.ref p)) (M ++ [lstR p ((bitsN mask).map nI)])) : CM (spBN K R_words) [rV (.ref b), nI n, nI least] M κ := c_BN 0 hk (fun ws G ra => by
  obtain ⟨x, y, rfl, hx, hy⟩ := ra2 ra
  obtain rfl : x = V.int (n : Int) := hx
  obtain rfl : y = V.int (least : Int) := hy
  exact ⟨n, least, rfl, h6, hl, rfl⟩) fun ss h p => by
  obtain ⟨m, w, hm, rfl⟩ := h
  exact k m w hm p
local macro_rules | `(tactic| wtm_at "co") => `(tactic| refine o_words (by assumption) rfl (by wtm_at "s") (by wtm_at "s") ?_)
local macro_rules | `(tactic| wtm_at "c") => `(tactic| refine c_words (by assumption) rfl (by wtm_at "s") (by wtm_at "s") ?_)
theorem sc__law_outs : FnScope ["_law_box_here", "_law_n", "_law_kind", "_law_outs_here"] ["_law_box_here", "_law_n"] (defScope s__law_outs) := ⟨rfl, rfl, rfl, by decide +kernel, rfl, by decide +kernel, by decide +kernel⟩
theorem b__law_outs (T : Tx P K mg) : Binds K T.fd__law_outs ["_law_box_here", "_law_n"] [] := T.F__law_outs.bindsN fun _ _ _ _ _ _ us hl => match us, hl with | [_, _], _ => rfl
def R_law_outs (K : PySem.W.Frag) : List V → Hp → (List Rp → Prop) → Prop := fun vs G PP => ∃ (n : Nat), RA G vs [nI n] ∧ (1 ≤ n) ∧ (n ≤ 6) ∧ PP = fun rs => ∃ (l : List Nat), (l ≠ [] ∧ l.length ≤ 6 ∧ ∀ w ∈ l, w < n) ∧ rs = l.map nI
theorem ok__law_outs (T : Tx P K mg) : FnOk P w K mg base CX0 3 T.f__law_outs T.fd__law_outs ["_law_box_here", "_law_n"] (spBN K (R_law_outs K)) := by
  refine T.F__law_outs.ok sc__law_outs (fun vs H Q E h => ?_) (fun cdv A outer s H vs Q E hr h => ?_)
  · obtain ⟨G, b, ws, PP, rfl, _, _, _, ⟨n, ra, _⟩, _⟩ := h
    show ws.length + 1 = _
    rw [ra.len]; rfl
  · obtain ⟨G, b, ws, PP, rfl, e, gb, hbox, ⟨n, ra, q0, q1, rfl⟩, k⟩ := h
    refine ⟨_, PSs.nox (pss_cons (ps_set (i := 2) sc__law_outs.nd rfl (Or.inl rfl) (pe_call (ok__law_take T) (hr.mono (by decide)) (by rfl) T.g__law_take T.F__law_take.kp (b__law_take T) .nil pass0 (pa_cons (pv 0) (pa_cons pe_int pa_nil))))
      (pss_cons (ps_if (pt_cmpR op_eq (pv 2) pe_int (nomark _)) (pss_one (ps_ret (pe_call (ok__law_words T) (hr.mono (by decide)) (by rfl) T.g__law_words T.F__law_words.kp (b__law_words T) .nil pass0 (pa_cons (pv 0) (pa_cons (pv 1) (pa_cons pe_int pa_nil)))))) pss_nil)
      (pss_cons (ps_set (i := 3) sc__law_outs.nd rfl (Or.inl rfl) (pe_lst (pa_cons (pe_call (ok__law_take T) (hr.mono (by decide)) (by rfl) T.g__law_take T.F__law_take.kp (b__law_take T) .nil pass0 (pa_cons (pv 0) (pa_cons (pv 1) pa_nil))) pa_nil)))
      (pss_cons (ps_if (pt_cmpR op_eq (pv 2) pe_int (nomark _)) (pss_one (ps_expr (pe_bm PySem.F.plainAttrs_list PySem.F.slot_list_append PySem.F.type_list_append mt_append (pv 3) (pa_cons (pe_call (ok__law_take T) (hr.mono (by decide)) (by rfl) T.g__law_take T.F__law_take.kp (b__law_take T) .nil pass0 (pa_cons (pv 0) (pa_cons (pv 1) pa_nil))) pa_nil)))) pss_nil)
      (pss_one (ps_ret (pv 3))))))), ?_⟩
    refine run_BN (W := fun _ _ _ _ => False) (K := K) (b := b) (P := fun rs => ∃ (l : List Nat), (l ≠ [] ∧ l.length ≤ 6 ∧ ∀ w ∈ l, w < n) ∧ rs = l.map nI) (Γ := [some (rV (.ref b)), some (nI n), none, none]) ?_ e gb hbox (En.start (k := 2) _ (rs := rV (.ref b) :: [nI n]) (.cons rfl ra) (by show _ - (ws.length + 1) = _; rw [ra.len]; rfl)) k
    clear ra e k gb hbox
    have hp2 : 1 < 2 ^ n := Nat.one_lt_two_pow (by omega)
    refine w_seq (ws_set ?_)
    wtm_at "e"
    intro kd hkd
    try dsimp only [List.set]
    refine w_seq ?_
    wtm_at "if"
    all_goals intro hb
    · refine ws_ret ?_
      wtm_at "eo"
      intro mask hm1 hm2 p
      refine ⟨_, p, ⟨bitsN mask, ⟨fun z => ?_, Nat.le_trans (bits_len hm2) q1, fun w hw => bit_lt hm2 (mem_bits.mp hw)⟩, rfl⟩, rfl, rfl⟩
      have : maskN (bitsN mask) = mask := maskN_bits mask
      rw [z] at this
      simp [maskN] at this
      omega
    refine w_nx ?_
    refine w_seq (ws_set (e_lstN ?_))
    wtm_at "e"
    intro d hd
    wtm_at "e"
    intro p
    try dsimp only [List.set, List.cons_append, List.nil_append]
    refine w_seq ?_
    wtm_at "if"
    all_goals intro hb2
    · wtm_at "w"
      intro d2 hd2
      wtm_at "e"
      wtm_at "w"
      exact ⟨_, p, ⟨[d, d2], ⟨by simp, by simp, fun w hw => by simp at hw; omega⟩, rfl⟩, rfl, rfl⟩
    · wtm_at "w"
      exact ⟨_, p, ⟨[d], ⟨by simp, by simp, fun w hw => by simp at hw; omega⟩, rfl⟩, rfl, rfl⟩
theorem c_law_outs (T : Tx P K mg) {M : List Re} {κ : KV} {b : Addr} {n : Nat} (hk : M[0]? = some (boxR K b)) (q0 : 1 ≤ n) (q1 : n ≤ 6) (k : ∀ (l : List Nat), (l ≠ [] ∧ l.length ≤ 6 ∧ ∀ w ∈ l, w < n) → κ (rL K (l.map nI)) M) : CM (spBN K (R_law_outs K)) (rV (.ref b) :: [nI n]) M κ := c_BNf K 0 hk (fun vs G ra => ⟨n, ra, q0, q1, rfl⟩) fun ss h => by
  obtain ⟨l, hc, rfl⟩ := h
  exact k l hc
theorem o_law_outs (T : Tx P K mg) {M : List Re} {κ : KV} {b : Addr} {n : Nat} (hk : M[0]? = some (boxR K b)) (q0 : 1 ≤ n) (q1 : n ≤ 6) (k : ∀ (l : List Nat), (l ≠ [] ∧ l.length ≤ 6 ∧ ∀ w ∈ l, w < n) → ∀ p, κ (rV (.ref p)) (M ++ [lstR p (l.map nI)])) : CM (spBN K (R_law_outs K)) (rV (.ref b) :: [nI n]) M κ := c_BN 0 hk (fun vs G ra => ⟨n, ra, q0, q1, rfl⟩) fun ss h p => by
  obtain ⟨l, hc, rfl⟩ := h
  exact k l hc p
local macro_rules | `(tactic| wtm_at "co") => `(tactic| refine o_law_outs (by assumption) rfl (by wtm_at "s") (by wtm_at "s") ?_)
local macro_rules | `(tactic| wtm_at "c") => `(tactic| refine c_law_outs (by assumption) rfl (by wtm_at "s") (by wtm_at "s") ?_)
theorem sc__law_person : FnScope ["_law_box_here", "_law_n", "_law_hears", "_law_k", "_law_says", "_law_rows", "_law_word", "_law_out"] ["_law_box_here", "_law_n"] (defScope s__law_person) := ⟨rfl, rfl, rfl, by decide +kernel, rfl, by decide +kernel, by decide +kernel⟩
theorem b__law_person (T : Tx P K mg) : Binds K T.fd__law_person ["_law_box_here", "_law_n"] [] := T.F__law_person.bindsN fun _ _ _ _ _ _ us hl => match us, hl with | [_, _], _ => rfl
structure PerOk (n : Nat) (h : List Nat) (s : List (List Nat)) : Prop where
  hl : h.length = n
  hw : ∀ w ∈ h, w < n
  sl : s.length = n
  sw : ∀ l ∈ s, l ≠ [] ∧ l.length ≤ 6 ∧ ∀ w ∈ l, w < n
def perRow (n : Nat) (h : List Nat) (s : List (List Nat)) (w : Nat) : List Nat := (List.range n).filter fun o => decide (o ∈ s.getD (h.getD w 0) [])
def perRs (K : PySem.W.Frag) (n : Nat) (h : List Nat) (s : List (List Nat)) : List Rp := [rLn K h, rLL K s, rLL K ((List.range n).map (perRow n h s))]

def R_law_person (K : PySem.W.Frag) : List V → Hp → (List Rp → Prop) → Prop := fun vs G PP => ∃ (n : Nat), RA G vs [nI n] ∧ (1 ≤ n) ∧ (n ≤ 6) ∧ PP = fun rs => ∃ (h : List Nat) (s : List (List Nat)), (PerOk n h s) ∧ rs = perRs K n h s
theorem ok__law_person (T : Tx P K mg) : FnOk P w K mg base CX0 4 T.f__law_person T.fd__law_person ["_law_box_here", "_law_n"] (spBN K (R_law_person K)) := by
  refine T.F__law_person.ok sc__law_person (fun vs H Q E h => ?_) (fun cdv A outer s H vs Q E hr h => ?_)
  · obtain ⟨G, b, ws, PP, rfl, _, _, _, ⟨n, ra, _⟩, _⟩ := h
    show ws.length + 1 = _
    rw [ra.len]; rfl
  · obtain ⟨G, b, ws, PP, rfl, e, gb, hbox, ⟨n, ra, q0, q1, rfl⟩, k⟩ := h
    refine ⟨_, PSs.nox (pss_cons (ps_set (i := 2) sc__law_person.nd rfl (Or.inr rfl) (pe_listRg (by rfl) (by rfl) T.m_list (prg_1 (by rfl) T.m_range (pv 1))))
      (pss_cons (ps_if (pt_cmpR op_eq (pe_call (ok__law_take T) (hr.mono (by decide)) (by rfl) T.g__law_take T.F__law_take.kp (b__law_take T) .nil pass0 (pa_cons (pv 0) (pa_cons pe_int pa_nil))) pe_int (nomark _)) (pss_one (ps_set (i := 2) sc__law_person.nd rfl (Or.inr rfl) (pe_lc (own := [("_law_k", 3)]) (by rfl) sc__law_person.nd (pi_range1 (by rfl) T.m_range (pa_cons (pv 1) pa_nil)) (blkOk_by (N := ["_law_box_here", "_law_n", "_law_hears", "_law_k", "_law_says", "_law_rows", "_law_word", "_law_out"]) (sc := defScope s__law_person) (by decide +kernel)) (fun _ _ _ _ _ => (pg_name (i := 3) sc__law_person.nd rfl (Or.inl rfl))) (fun _ _ _ _ _ => pts_nil) (fun _ _ _ _ _ => (pe_call (ok__law_take T) (hr.mono (by decide)) (by rfl) T.g__law_take T.F__law_take.kp (b__law_take T) .nil pass0 (pa_cons (pv 0) (pa_cons (pv 1) pa_nil))))))) pss_nil)
      (pss_cons (ps_set (i := 4) sc__law_person.nd rfl (Or.inr rfl) (pe_lc (own := [("_law_k", 3)]) (by rfl) sc__law_person.nd (pi_range1 (by rfl) T.m_range (pa_cons (pv 1) pa_nil)) (blkOk_by (N := ["_law_box_here", "_law_n", "_law_hears", "_law_k", "_law_says", "_law_rows", "_law_word", "_law_out"]) (sc := defScope s__law_person) (by decide +kernel)) (fun _ _ _ _ _ => (pg_name (i := 3) sc__law_person.nd rfl (Or.inl rfl))) (fun _ _ _ _ _ => pts_nil) (fun _ _ _ _ _ => (pe_call (ok__law_outs T) (hr.mono (by decide)) (by rfl) T.g__law_outs T.F__law_outs.kp (b__law_outs T) .nil pass0 (pa_cons (pv 0) (pa_cons (pv 1) pa_nil))))))
      (pss_cons (ps_set (i := 5) sc__law_person.nd rfl (Or.inl rfl) (pe_lst pa_nil))
      (pss_cons (ps_for PassesOwn.never rfl (pi_range1 (by rfl) T.m_range (pa_cons (pv 1) pa_nil)) (pg_name (i := 6) sc__law_person.nd rfl (Or.inr rfl)) (pss_one (ps_expr (pe_bm PySem.F.plainAttrs_list PySem.F.slot_list_append PySem.F.type_list_append mt_append (pv 5) (pa_cons (pe_lc (own := [("_law_out", 7)]) (by rfl) sc__law_person.nd (pi_range1 (by rfl) T.m_range (pa_cons (pv 1) pa_nil)) (blkOk_by (N := ["_law_box_here", "_law_n", "_law_hears", "_law_k", "_law_says", "_law_rows", "_law_word", "_law_out"]) (sc := defScope s__law_person) (by decide +kernel)) (fun _ _ _ _ _ => (pg_name (i := 7) sc__law_person.nd rfl (Or.inl rfl))) (fun _ _ _ _ _ => (pts_one (pt_cmpR (op_inK K) (pv 7) (pe_ix (ix_listK K) (pv 4) (pe_ix (ix_listK K) (pv 2) (pv 6) (fun _ _ => rfl)) (fun _ _ => rfl)) rfl))) (fun _ _ _ _ _ => (pv 7))) pa_nil)))))
      (pss_one (ps_ret (pe_lst (pa_cons (pv 2) (pa_cons (pv 4) (pa_cons (pv 5) pa_nil))))))))))), ?_⟩
    refine run_BN (W := fun _ _ _ _ => False) (K := K) (b := b) (P := fun rs => ∃ (h : List Nat) (s : List (List Nat)), (PerOk n h s) ∧ rs = perRs K n h s) (Γ := [some (rV (.ref b)), some (nI n), none, none, none, none, none, none]) ?_ e gb hbox (En.start (k := 6) _ (rs := rV (.ref b) :: [nI n]) (.cons rfl ra) (by show _ - (ws.length + 1) = _; rw [ra.len]; rfl)) k
    clear ra e k gb hbox
    refine w_seq (ws_set (e_xn K (xn_listRg (x_v rfl) (by omega)) ?_))
    try dsimp only [List.set]
    refine w_cut (fun h : List Nat => h.length = n ∧ ∀ w ∈ h, w < n) (fun h => [some (rV (.ref b)), some (nI n), some (rLn K h), none, none, none, none, none]) ?_ fun h hh => ?_
    · refine ws_if ?_
      refine w_t ?_
      wtm_at "e"
      intro d hd
      wtm_at "e"
      refine ⟨_, rfl, fun hb => ?_, fun hb => ?_⟩
      · refine ws_set (e_lcDf (fun d : Nat => d < n) nI K (by wtm_at "x") (by omega) (fun i R W hi => ?_) (by wtm_at "j") fun l hl1 hl2 => ?_)
        · wtm_at "e"
          intro d hd
          exact ⟨⟨d, hd, rfl⟩, rfl⟩
        · exact ⟨l, ⟨hl1, hl2⟩, by wtm_at "sub", rfl⟩
      · exact w_nx ⟨List.range n, ⟨List.length_range, fun w hw => List.mem_range.mp hw⟩, by wtm_at "sub", rfl⟩
    obtain ⟨hh1, hh2⟩ := hh
    refine w_seq (ws_set (e_lcDf (fun l : List Nat => l ≠ [] ∧ l.length ≤ 6 ∧ ∀ w ∈ l, w < n) (rLn K) K (by wtm_at "x") (by omega) (fun i R W hi => ?_) (by wtm_at "j") fun s hs1 hs2 => ?_))
    · wtm_at "e"
      intro l hl
      exact ⟨⟨l, hl, rfl⟩, rfl⟩
    try dsimp only [List.set]
    rw [show rL K (s.map (rLn K)) = rLL K s from rfl]
    refine w_seq (ws_set (e_lstN (a_nil ⟨by decide, fun p => ?_⟩)))
    try dsimp only [List.set, List.cons_append, List.nil_append]
    refine w_seq (w_forR n (fun i (_ : Unit) => True) (fun _ _ => [some (rV (.ref b)), some (nI n), some (rLn K h), none, some (rLL K s), some (rV (.ref p)), none, none]) (fun i _ => [boxR K b, lstR p ((List.range i).map fun w => rLn K (perRow n h s w))]) (by wtm_at "x") (by omega) () trivial (by wtm_at "sub") rfl (fun i _ hi _ => ?_) (fun _ _ => ?_))
    · dsimp only [List.set]
      have hg : h.getD i 0 < s.length := by
        rw [hs1]
        have : i < h.length := by omega
        rw [List.getD_eq_getElem?_getD, List.getElem?_eq_getElem this]
        exact hh2 _ (List.getElem_mem _)
      refine ws_do ?_
      wtm_at "e"
      refine ⟨(), trivial, by wtm_at "sub", ?_⟩
      dsimp only [List.set]
      rw [List.range_succ, List.map_append]
      rfl
    · refine w_frz K 1 5 rfl rfl ?_
      dsimp only [List.set, List.eraseIdx]
      refine ws_ret (e_lstN ?_)
      wtm_at "e"
      intro q
      refine ⟨_, q, ⟨h, s, ⟨hh1, hh2, hs1, hs2⟩, ?_⟩, rfl, rfl⟩
      unfold perRs
      rw [show ((List.range n).map fun w => rLn K (perRow n h s w)) = ((List.range n).map (perRow n h s)).map (rLn K) by rw [List.map_map]; rfl]
      rfl
theorem c_law_person (T : Tx P K mg) {M : List Re} {κ : KV} {b : Addr} {n : Nat} (hk : M[0]? = some (boxR K b)) (q0 : 1 ≤ n) (q1 : n ≤ 6) (k : ∀ (h : List Nat) (s : List (List Nat)), (PerOk n h s) → κ (rL K (perRs K n h s)) M) : CM (spBN K (R_law_person K)) (rV (.ref b) :: [nI n]) M κ := c_BNf K 0 hk (fun vs G ra => ⟨n, ra, q0, q1, rfl⟩) fun ss h => by
  obtain ⟨h, s, hc, rfl⟩ := h
  exact k h s hc
theorem o_law_person (T : Tx P K mg) {M : List Re} {κ : KV} {b : Addr} {n : Nat} (hk : M[0]? = some (boxR K b)) (q0 : 1 ≤ n) (q1 : n ≤ 6) (k : ∀ (h : List Nat) (s : List (List Nat)), (PerOk n h s) → ∀ p, κ (rV (.ref p)) (M ++ [lstR p (perRs K n h s)])) : CM (spBN K (R_law_person K)) (rV (.ref b) :: [nI n]) M κ := c_BN 0 hk (fun vs G ra => ⟨n, ra, q0, q1, rfl⟩) fun ss h p => by
  obtain ⟨h, s, hc, rfl⟩ := h
  exact k h s hc p
local macro_rules | `(tactic| wtm_at "co") => `(tactic| refine o_law_person (by assumption) rfl (by wtm_at "s") (by wtm_at "s") ?_)
local macro_rules | `(tactic| wtm_at "c") => `(tactic| refine c_law_person (by assumption) rfl (by wtm_at "s") (by wtm_at "s") ?_)
theorem sc__law_letters : FnScope ["_law_box_here", "_law_many", "_law_pool", "_law_found", "_law_k", "_law_at"] ["_law_box_here", "_law_many"] (defScope s__law_letters) := ⟨rfl, rfl, rfl, by decide +kernel, rfl, by decide +kernel, by decide +kernel⟩
theorem b__law_letters (T : Tx P K mg) : Binds K T.fd__law_letters ["_law_box_here", "_law_many"] [] := T.F__law_letters.bindsN fun _ _ _ _ _ _ us hl => match us, hl with | [_, _], _ => rfl
theorem perm_pick {f l : List Nat} {i c : Nat} (h : l[i]? = some c) : ((f ++ [c]) ++ (l.take i ++ l.drop (i + 1))).Perm (f ++ l) := by
  rw [List.append_assoc]
  refine List.Perm.append_left f ?_
  have hi : i < l.length := (List.getElem?_eq_some_iff.mp h).1
  have hc : l[i] = c := (List.getElem?_eq_some_iff.mp h).2
  have e : l = l.take i ++ c :: l.drop (i + 1) := by
    rw [← hc, List.getElem_cons_drop hi, List.take_append_drop]
  conv => rhs; rw [e]
  exact (List.perm_middle (a := c) (l₁ := l.take i) (l₂ := l.drop (i + 1))).symm

def R_law_letters (K : PySem.W.Frag) : List V → Hp → (List Rp → Prop) → Prop := fun vs G PP => ∃ (m : Nat), RA G vs [nI m] ∧ (m ≤ 20) ∧ PP = fun rs => ∃ (l : List Nat), (l.length = m ∧ (∀ c ∈ l, c ∈ alphaL) ∧ l.Nodup) ∧ rs = l.map rC
theorem ok__law_letters (T : Tx P K mg) : FnOk P w K mg base CX0 2 T.f__law_letters T.fd__law_letters ["_law_box_here", "_law_many"] (spBN K (R_law_letters K)) := by
  refine T.F__law_letters.ok sc__law_letters (fun vs H Q E h => ?_) (fun cdv A outer s H vs Q E hr h => ?_)
  · obtain ⟨G, b, ws, PP, rfl, _, _, _, ⟨m, ra, _⟩, _⟩ := h
    show ws.length + 1 = _
    rw [ra.len]; rfl
  · obtain ⟨G, b, ws, PP, rfl, e, gb, hbox, ⟨m, ra, q0, rfl⟩, k⟩ := h
    refine ⟨_, PSs.nox (pss_cons (ps_set (i := 2) sc__law_letters.nd rfl (Or.inl rfl) pe_str)
      (pss_cons (ps_set (i := 3) sc__law_letters.nd rfl (Or.inl rfl) (pe_lst pa_nil))
      (pss_cons (ps_for PassesOwn.never rfl (pi_range1 (by rfl) T.m_range (pa_cons (pv 1) pa_nil)) (pg_name (i := 4) sc__law_letters.nd rfl (Or.inl rfl)) (pss_cons (ps_set (i := 5) sc__law_letters.nd rfl (Or.inl rfl) (pe_call (ok__law_take T) (hr.mono (by decide)) (by rfl) T.g__law_take T.F__law_take.kp (b__law_take T) .nil pass0 (pa_cons (pv 0) (pa_cons (pe_callB call_lenT (by rfl) T.m_len PySem.boot_len (pa_cons (pv 2) pa_nil)) pa_nil))))
      (pss_cons (ps_expr (pe_bm PySem.F.plainAttrs_list PySem.F.slot_list_append PySem.F.type_list_append mt_append (pv 3) (pa_cons (pe_ix ix_str (pv 2) (pv 5) (fun _ _ => rfl)) pa_nil)))
      (pss_one (ps_set (i := 2) sc__law_letters.nd rfl (Or.inl rfl) (pe_op op_addT (pe_slice sl_str (pv 2) po_none (po_some (pv 5))) (pe_slice sl_str (pv 2) (po_some (pe_op op_add (pv 5) pe_int)) po_none)))))))
      (pss_one (ps_ret (pv 3)))))), ?_⟩
    refine run_BN (W := fun _ _ _ _ => False) (K := K) (b := b) (P := fun rs => ∃ (l : List Nat), (l.length = m ∧ (∀ c ∈ l, c ∈ alphaL) ∧ l.Nodup) ∧ rs = l.map rC) (Γ := [some (rV (.ref b)), some (nI m), none, none, none, none]) ?_ e gb hbox (En.start (k := 4) _ (rs := rV (.ref b) :: [nI m]) (.cons rfl ra) (by show _ - (ws.length + 1) = _; rw [ra.len]; rfl)) k
    clear ra e k gb hbox
    refine w_seq (ws_set (e_c ?_))
    try dsimp only [List.set]
    rw [show rV (.str ALPHA) = rSt alphaL from congrArg (fun s => rV (.str s)) ((sL_of ALPHA).symm.trans (congrArg sL alpha_cps))]
    refine w_seq (ws_set (e_lstN (a_nil ⟨by decide, fun p => ?_⟩)))
    try dsimp only [List.set, List.cons_append, List.nil_append]
    refine w_seq (w_forR m (fun i (z : List Nat × List Nat) => z.1.length = 26 - i ∧ z.2.length = i ∧ (z.2 ++ z.1).Nodup ∧ ∀ c ∈ z.2 ++ z.1, c ∈ alphaL) (fun _ z => [some (rV (.ref b)), some (nI m), some (rSt z.1), some (rV (.ref p)), none, none]) (fun _ z => [boxR K b, lstR p (z.2.map rC)]) (by wtm_at "x") (by omega) (alphaL, []) ⟨by decide, rfl, by decide, fun c hc => hc⟩ (by wtm_at "sub") rfl (fun i z hi hz => ?_) (fun z hz => ?_))
    · obtain ⟨z1, z2, z3, z4⟩ := hz
      dsimp only [List.set]
      have hl0 : 0 < z.1.length := by omega
      refine w_seq (ws_set ?_)
      wtm_at "e"
      intro at_ hat
      try dsimp only [List.set]
      obtain ⟨c, hc⟩ : ∃ c, z.1[at_]? = some c := ⟨_, List.getElem?_eq_getElem hat⟩
      refine w_seq (ws_do ?_)
      wtm_at "e"
      try dsimp only [List.set]
      refine ws_set ?_
      wtm_at "e"
      refine ⟨(z.1.take at_ ++ z.1.drop (at_ + 1), z.2 ++ [c]), ⟨?_, ?_, ?_, ?_⟩, by wtm_at "sub", ?_⟩
      · show (z.1.take at_ ++ z.1.drop (at_ + 1)).length = _
        rw [List.length_append, List.length_take, List.length_drop]; omega
      · show (z.2 ++ [c]).length = _
        rw [List.length_append, z2]; rfl
      · exact (perm_pick hc).nodup_iff.mpr z3
      · intro x hx
        exact z4 x ((perm_pick hc).mem_iff.mp hx)
      · show _ = [boxR K b, lstR p ((z.2 ++ [c]).map rC)]
        rw [List.map_append]; rfl
    · obtain ⟨z1, z2, z3, z4⟩ := hz
      refine ws_ret (e_v rfl ?_)
      exact ⟨_, p, ⟨z.2, ⟨z2, fun c hc => z4 c (List.mem_append_left _ hc), (List.nodup_append.mp z3).1⟩, rfl⟩, rfl, rfl⟩
theorem c_law_letters (T : Tx P K mg) {M : List Re} {κ : KV} {b : Addr} {m : Nat} (hk : M[0]? = some (boxR K b)) (q0 : m ≤ 20) (k : ∀ (l : List Nat), (l.length = m ∧ (∀ c ∈ l, c ∈ alphaL) ∧ l.Nodup) → κ (rL K (l.map rC)) M) : CM (spBN K (R_law_letters K)) (rV (.ref b) :: [nI m]) M κ := c_BNf K 0 hk (fun vs G ra => ⟨m, ra, q0, rfl⟩) fun ss h => by
  obtain ⟨l, hc, rfl⟩ := h
  exact k l hc
theorem o_law_letters (T : Tx P K mg) {M : List Re} {κ : KV} {b : Addr} {m : Nat} (hk : M[0]? = some (boxR K b)) (q0 : m ≤ 20) (k : ∀ (l : List Nat), (l.length = m ∧ (∀ c ∈ l, c ∈ alphaL) ∧ l.Nodup) → ∀ p, κ (rV (.ref p)) (M ++ [lstR p (l.map rC)])) : CM (spBN K (R_law_letters K)) (rV (.ref b) :: [nI m]) M κ := c_BN 0 hk (fun vs G ra => ⟨m, ra, q0, rfl⟩) fun ss h p => by
  obtain ⟨l, hc, rfl⟩ := h
  exact k l hc p
local macro_rules | `(tactic| wtm_at "co") => `(tactic| refine o_law_letters (by assumption) rfl (by wtm_at "s") ?_)
local macro_rules | `(tactic| wtm_at "c") => `(tactic| refine c_law_letters (by assumption) rfl (by wtm_at "s") ?_)
theorem sc__law_folk : FnScope ["_law_box_here", "_law_n", "_law_many", "_law_folk_here", "_law_letter", "_law_one"] ["_law_box_here", "_law_n", "_law_many"] (defScope s__law_folk) := ⟨rfl, rfl, rfl, by decide +kernel, rfl, by decide +kernel, by decide +kernel⟩
theorem b__law_folk (T : Tx P K mg) : Binds K T.fd__law_folk ["_law_box_here", "_law_n", "_law_many"] [] := T.F__law_folk.bindsN fun _ _ _ _ _ _ us hl => match us, hl with | [_, _, _], _ => rfl
structure FK where
  c : Nat
  h : List Nat
  s : List (List Nat)
def rowsF (n : Nat) (f : FK) : List (List Nat) := (List.range n).map (perRow n f.h f.s)
def rOne (K : PySem.W.Frag) (n : Nat) (f : FK) : Rp := rL K [rC f.c, rLn K f.h, rLL K f.s, rLL K (rowsF n f)]
structure FOk (n : Nat) (fk : List FK) : Prop where
  per : ∀ f ∈ fk, PerOk n f.h f.s
  let_ : ∀ f ∈ fk, f.c ∈ alphaL
  nd : (fk.map FK.c).Nodup
theorem FOk.nil {n : Nat} : FOk n [] := ⟨fun _ h => (nomatch h), fun _ h => (nomatch h), List.nodup_nil⟩
theorem FOk.snoc {n : Nat} {fk : List FK} {f : FK} (o : FOk n fk) (h1 : PerOk n f.h f.s) (h2 : f.c ∈ alphaL) (h3 : f.c ∉ fk.map FK.c) : FOk n (fk ++ [f]) := ⟨fun g hg => by
  rcases List.mem_append.mp hg with z | z
  · exact o.per g z
  · rw [List.mem_singleton.mp z]; exact h1, fun g hg => by
  rcases List.mem_append.mp hg with z | z
  · exact o.let_ g z
  · rw [List.mem_singleton.mp z]; exact h2, by
  rw [List.map_append]
  refine List.nodup_append.mpr ⟨o.nd, by simp, fun a ha b hb e => ?_⟩
  rw [List.mem_singleton.mp hb] at e
  exact h3 (e ▸ ha)⟩

theorem not_before {l : List Nat} (hd : l.Nodup) : ∀ {j x : Nat}, l[j]? = some x → x ∉ l.take j := by
  induction l with
  | nil => intro j x h; simp at h
  | cons a l ih =>
    intro j x h
    cases j with
    | zero => simp
    | succ j =>
      have hd' := List.nodup_cons.mp hd
      have hx : l[j]? = some x := by simpa using h
      rw [List.take_succ_cons, List.mem_cons]
      rintro (z | z)
      · exact hd'.1 (z ▸ List.mem_of_getElem? hx)
      · exact ih hd'.2 hx z
theorem getD_range {n w : Nat} (hw : w < n) : (List.range n).getD w 0 = w := by
  rw [List.getD_eq_getElem?_getD, List.getElem?_range hw]; rfl
theorem getD_mapR {α : Type} {d : α} {n w : Nat} {f : Nat → α} (hw : w < n) : ((List.range n).map f).getD w d = f w := by
  rw [List.getD_eq_getElem?_getD, List.getElem?_map, List.getElem?_range hw]; rfl
def R_law_folk (K : PySem.W.Frag) : List V → Hp → (List Rp → Prop) → Prop := fun vs G PP => ∃ (n m : Nat), RA G vs [nI n, nI m] ∧ (1 ≤ n) ∧ (n ≤ 6) ∧ (m ≤ 20) ∧ PP = fun rs => ∃ (fk : List FK), (FOk n fk ∧ fk.length = m) ∧ rs = fk.map (rOne K n)
theorem ok__law_folk (T : Tx P K mg) : FnOk P w K mg base CX0 5 T.f__law_folk T.fd__law_folk ["_law_box_here", "_law_n", "_law_many"] (spBN K (R_law_folk K)) := by
  refine T.F__law_folk.ok sc__law_folk (fun vs H Q E h => ?_) (fun cdv A outer s H vs Q E hr h => ?_)
  · obtain ⟨G, b, ws, PP, rfl, _, _, _, ⟨n, m, ra, _⟩, _⟩ := h
    show ws.length + 1 = _
    rw [ra.len]; rfl
  · obtain ⟨G, b, ws, PP, rfl, e, gb, hbox, ⟨n, m, ra, q0, q1, q2, rfl⟩, k⟩ := h
    refine ⟨_, PSs.nox (pss_cons (ps_set (i := 3) sc__law_folk.nd rfl (Or.inl rfl) (pe_lst pa_nil))
      (pss_cons (ps_for PassesOwn.never rfl (pi_listK K (pe_call (ok__law_letters T) (hr.mono (by decide)) (by rfl) T.g__law_letters T.F__law_letters.kp (b__law_letters T) .nil pass0 (pa_cons (pv 0) (pa_cons (pv 2) pa_nil)))) (pg_name (i := 4) sc__law_folk.nd rfl (Or.inl rfl)) (pss_cons (ps_set (i := 5) sc__law_folk.nd rfl (Or.inl rfl) (pe_call (ok__law_person T) (hr.mono (by decide)) (by rfl) T.g__law_person T.F__law_person.kp (b__law_person T) .nil pass0 (pa_cons (pv 0) (pa_cons (pv 1) pa_nil))))
      (pss_one (ps_expr (pe_bm PySem.F.plainAttrs_list PySem.F.slot_list_append PySem.F.type_list_append mt_append (pv 3) (pa_cons (pe_lst (pa_cons (pv 4) (pa_cons (pe_ix (ix_listK K) (pv 5) pe_int (fun _ _ => rfl)) (pa_cons (pe_ix (ix_listK K) (pv 5) pe_int (fun _ _ => rfl)) (pa_cons (pe_ix (ix_listK K) (pv 5) pe_int (fun _ _ => rfl)) pa_nil))))) pa_nil))))))
      (pss_one (ps_ret (pv 3))))), ?_⟩
    refine run_BN (W := fun _ _ _ _ => False) (K := K) (b := b) (P := fun rs => ∃ (fk : List FK), (FOk n fk ∧ fk.length = m) ∧ rs = fk.map (rOne K n)) (Γ := [some (rV (.ref b)), some (nI n), some (nI m), none, none, none]) ?_ e gb hbox (En.start (k := 3) _ (rs := rV (.ref b) :: [nI n, nI m]) (.cons rfl ra) (by show _ - (ws.length + 1) = _; rw [ra.len]; rfl)) k
    clear ra e k gb hbox
    refine w_seq (ws_set (e_lstN (a_nil ⟨by decide, fun p => ?_⟩)))
    try dsimp only [List.set, List.cons_append, List.nil_append]
    refine w_seq (w_forEv (β := Nat) (α := List FK) ?_)
    wtm_at "e"
    intro l hl
    obtain ⟨hl1, hl2, hl3⟩ := hl
    refine ⟨l, rC, fun i fk => fk.map FK.c = l.take i ∧ FOk n fk, fun _ _ => [some (rV (.ref b)), some (nI n), some (nI m), some (rV (.ref p)), none, none], fun _ fk => [boxR K b, lstR p (fk.map (rOne K n))], [], rfl, ⟨rfl, FOk.nil⟩, by wtm_at "sub", rfl, fun i fk c hc hz => ?_, fun fk hz => ?_⟩
    · obtain ⟨hz1, hz2⟩ := hz
      dsimp only [List.set]
      have hfl : fk.length ≤ 20 := by
        have := congrArg List.length hz1
        rw [List.length_map, List.length_take] at this
        omega
      refine w_seq (ws_set ?_)
      wtm_at "e"
      intro h s hp
      try dsimp only [List.set]
      refine ws_do ?_
      wtm_at "e"
      have hci : c ∈ l := List.mem_of_getElem? hc
      have hnew : c ∉ fk.map FK.c := by
        rw [hz1]
        exact not_before hl3 hc
      refine ⟨fk ++ [⟨c, h, s⟩], ⟨?_, hz2.snoc hp (hl2 c hci) hnew⟩, by wtm_at "sub", ?_⟩
      · rw [List.map_append, hz1, List.take_add_one, hc]; rfl
      · show _ = [boxR K b, lstR p ((fk ++ [(⟨c, h, s⟩ : FK)]).map (rOne K n))]
        rw [List.map_append]; rfl
    · obtain ⟨hz1, hz2⟩ := hz
      refine ws_ret (e_v rfl ?_)
      refine ⟨_, p, ⟨fk, ⟨hz2, ?_⟩, rfl⟩, rfl, rfl⟩
      have := congrArg List.length hz1
      rw [List.length_map, List.take_length] at this
      omega
theorem c_law_folk (T : Tx P K mg) {M : List Re} {κ : KV} {b : Addr} {n m : Nat} (hk : M[0]? = some (boxR K b)) (q0 : 1 ≤ n) (q1 : n ≤ 6) (q2 : m ≤ 20) (k : ∀ (fk : List FK), (FOk n fk ∧ fk.length = m) → κ (rL K (fk.map (rOne K n))) M) : CM (spBN K (R_law_folk K)) (rV (.ref b) :: [nI n, nI m]) M κ := c_BNf K 0 hk (fun vs G ra => ⟨n, m, ra, q0, q1, q2, rfl⟩) fun ss h => by
  obtain ⟨fk, hc, rfl⟩ := h
  exact k fk hc
theorem o_law_folk (T : Tx P K mg) {M : List Re} {κ : KV} {b : Addr} {n m : Nat} (hk : M[0]? = some (boxR K b)) (q0 : 1 ≤ n) (q1 : n ≤ 6) (q2 : m ≤ 20) (k : ∀ (fk : List FK), (FOk n fk ∧ fk.length = m) → ∀ p, κ (rV (.ref p)) (M ++ [lstR p (fk.map (rOne K n))])) : CM (spBN K (R_law_folk K)) (rV (.ref b) :: [nI n, nI m]) M κ := c_BN 0 hk (fun vs G ra => ⟨n, m, ra, q0, q1, q2, rfl⟩) fun ss h p => by
  obtain ⟨fk, hc, rfl⟩ := h
  exact k fk hc p
local macro_rules | `(tactic| wtm_at "co") => `(tactic| refine o_law_folk (by assumption) rfl (by wtm_at "s") (by wtm_at "s") (by wtm_at "s") ?_)
local macro_rules | `(tactic| wtm_at "c") => `(tactic| refine c_law_folk (by assumption) rfl (by wtm_at "s") (by wtm_at "s") (by wtm_at "s") ?_)
theorem sc__law_own : FnScope ["_law_folk_here", "_law_own_here", "_law_letter", "_law_one"] ["_law_folk_here"] (defScope s__law_own) := ⟨rfl, rfl, rfl, by decide +kernel, rfl, by decide +kernel, by decide +kernel⟩
theorem b__law_own (T : Tx P K mg) : Binds K T.fd__law_own ["_law_folk_here"] [] := T.F__law_own.bindsN fun _ _ _ _ _ _ us hl => match us, hl with | [_], _ => rfl
def ownL (fk : List FK) (l : List Nat) : List (Nat × FK) := l.flatMap fun c => (fk.filter fun f => decide (f.c = c)).map fun f => (c, f)
def kvO (K : PySem.W.Frag) (n : Nat) (o : List (Nat × FK)) : List (Key × Rp) := o.map fun e => (Sum.inr (ltr e.1), rLL K (rowsF n e.2))
abbrev ownK (K : PySem.W.Frag) (n : Nat) (fk : List FK) : List (Key × Rp) := kvO K n (ownL fk alphaL)
theorem own_step {fk : List FK} {l : List Nat} {i c : Nat} (h : l[i]? = some c) : ownL fk (l.take (i + 1)) = ownL fk (l.take i) ++ (fk.filter fun f => decide (f.c = c)).map fun f => (c, f) := by
  unfold ownL
  rw [List.take_add_one, h, List.flatMap_append]
  simp
theorem own_keys {fk : List FK} {l : List Nat} {e : Nat × FK} (h : e ∈ ownL fk l) : e.1 ∈ l ∧ e.2 ∈ fk ∧ e.2.c = e.1 := by
  obtain ⟨c, hc, he⟩ := List.mem_flatMap.mp h
  obtain ⟨f, hf, rfl⟩ := List.mem_map.mp he
  obtain ⟨h1, h2⟩ := List.mem_filter.mp hf
  exact ⟨hc, h1, of_decide_eq_true h2⟩
theorem put_new {K : PySem.W.Frag} {n c : Nat} {o : List (Nat × FK)} {f : FK} (h : ∀ e ∈ o, e.1 ≠ c) : putA (kvO K n o) (.inr (ltr c)) (rLL K (rowsF n f)) = kvO K n (o ++ [(c, f)]) := by
  unfold putA
  rw [if_neg]
  · unfold kvO; rw [List.map_append]; rfl
  · intro z
    obtain ⟨e, he, h2⟩ := List.any_eq_true.mp z
    obtain ⟨e', he', rfl⟩ := List.mem_map.mp he
    exact h e' he' (key_inj.mp (of_decide_eq_true h2))
theorem filter_snoc {fk : List FK} {j c : Nat} {f : FK} (h : fk[j]? = some f) : (fk.take (j + 1)).filter (fun f => decide (f.c = c)) = (fk.take j).filter (fun f => decide (f.c = c)) ++ (if f.c = c then [f] else []) := by
  rw [List.take_add_one, h, List.filter_append]
  by_cases e : f.c = c
  · simp [e]
  · simp [e]

theorem own_len (fk : List FK) : ∀ l : List Nat, l.length ≤ 26 → fk.length ≤ 20 → (ownL fk l).length ≤ 26 * 20 := fun l hl hf => by
  have key : ∀ l : List Nat, (ownL fk l).length ≤ l.length * fk.length := fun l => by
    induction l with
    | nil => simp [ownL]
    | cons a l ih =>
      have e : ownL fk (a :: l) = ((fk.filter fun f => decide (f.c = a)).map fun f => (a, f)) ++ ownL fk l := by simp [ownL]
      rw [e, List.length_append, List.length_map, List.length_cons, Nat.succ_mul]
      have := List.length_filter_le (fun f : FK => decide (f.c = a)) fk
      omega
  exact Nat.le_trans (key l) (Nat.mul_le_mul hl hf)

def R_law_own (T : Tx P K mg) : List V → Hp → Rp → Prop := fun vs G r => ∃ (n : Nat) (fk : List FK), RA G vs [rL K (fk.map (rOne K n))] ∧ (FOk n fk) ∧ (fk.length ≤ 20) ∧ r = rD true (ownK K n fk)
theorem ok__law_own (T : Tx P K mg) : FnOk P w K mg base CX0 1 T.f__law_own T.fd__law_own ["_law_folk_here"] (spD (R_law_own T)) := by
  refine T.F__law_own.ok sc__law_own (fun vs H Q E h => ?_) (fun cdv A outer s H vs Q E hr h => ?_)
  · obtain ⟨G, r, _, ⟨n, fk, ra, _⟩, _⟩ := h
    exact ra.len
  · obtain ⟨G, r, e, ⟨n, fk, ra, q0, q1, rfl⟩, k⟩ := h
    refine ⟨_, PSs.nox (pss_cons (ps_set (i := 1) sc__law_own.nd rfl (Or.inl rfl) pe_dnewK)
      (pss_cons (ps_for PassesOwn.never rfl (pi_str pe_str) (pg_name (i := 2) sc__law_own.nd rfl (Or.inl rfl)) (pss_one (ps_for PassesOwn.never rfl (pi_listK K (pv 0)) (pg_name (i := 3) sc__law_own.nd rfl (Or.inl rfl)) (pss_one (ps_if (pt_cmpR op_eq (pe_ix (ix_listK K) (pv 3) pe_int (fun _ _ => rfl)) (pv 2) (nomark _)) (pss_one (ps_dput hr.u1 (pv 1) (pv 2) (pe_ix (ix_listK K) (pv 3) pe_int (fun _ _ => rfl)) rfl)) pss_nil)))))
      (pss_one (ps_pre (ps_ret (pv 1)))))), ?_⟩
    refine run_D (W := fun _ _ _ _ => False) (Γ := [some (rL K (fk.map (rOne K n))), none, none, none]) ?_ e (En.start (k := 3) _ (rs := [rL K (fk.map (rOne K n))]) ra (by rw [ra.len]; rfl)) k
    clear ra e k
    refine w_seq (ws_set (e_dnew fun p => ?_))
    try dsimp only [List.set, List.cons_append, List.nil_append]
    have ixA : IX [some (rL K (fk.map (rOne K n))), some (rV (.ref p)), none, none] (iStr (tC (.str ALPHA))) alphaL rC := by
      have z := ix_S (Γ := [some (rL K (fk.map (rOne K n))), some (rV (.ref p)), none, none]) (te := tC (.str ALPHA)) (s := ALPHA) x_c
      rw [alpha_cps] at z
      exact z
    have hnd : alphaL.Nodup := by decide
    refine w_seq (w_forI (fun _ (_ : Unit) => True) (fun _ _ => [some (rL K (fk.map (rOne K n))), some (rV (.ref p)), none, none]) (fun i _ => [dicR p (kvO K n (ownL fk (alphaL.take i)))]) ixA () trivial (by wtm_at "sub") rfl (fun i _ c hc _ => ?_) (fun _ _ => ?_))
    · dsimp only [List.set]
      refine w_forL (K := K) fk (rOne K n) (fun _ (_ : Unit) => True) (fun _ _ => [some (rL K (fk.map (rOne K n))), some (rV (.ref p)), some (rC c), none]) (fun j _ => [dicR p (kvO K n (ownL fk (alphaL.take i) ++ ((fk.take j).filter fun f => decide (f.c = c)).map fun f => (c, f)))]) (by wtm_at "x") () trivial (by wtm_at "sub") (by rw [List.take_zero]; simp) (fun j _ f hf _ => ?_) (fun _ _ => ?_)
      · dsimp only [List.set]
        apply w_if (b := decide (f.c = c))
        · apply t_is
          · wtm_at "t"
          · exact dec_iff ⟨fun z => by injection z with z; exact ltr_inj.mp z, fun z => by rw [z]⟩
        · intro hb
          have hb := of_decide_eq_true hb
          refine ws_dputS 0 ?_
          wtm_at "e"
          refine ⟨_, rfl, ?_⟩
          wtm_at "e"
          have hno : (fk.take j).filter (fun f => decide (f.c = c)) = [] := by
            refine List.filter_eq_nil_iff.mpr fun g hg z => ?_
            have z := of_decide_eq_true z
            have h1 : (fk.map FK.c)[j]? = some c := by rw [List.getElem?_map, hf]; exact congrArg some hb
            refine not_before q0.nd h1 ?_
            rw [← List.map_take]
            exact List.mem_map.mpr ⟨g, hg, z⟩
          refine ⟨_, _, rfl, rfl, ?_, (), trivial, by wtm_at "sub", ?_⟩
          · unfold kvO
            rw [List.length_map, hno, List.map_nil, List.append_nil]
            exact Nat.lt_of_le_of_lt (own_len fk _ (by rw [List.length_take]; exact Nat.le_trans (Nat.min_le_right _ _) (by decide)) q1) (by decide)
          · dsimp only [List.set]
            rw [filter_snoc hf, if_pos hb, hno, List.map_nil, List.append_nil, List.nil_append]
            refine congrArg (fun z => [dicR p z]) (put_new fun e he z => ?_)
            have := (own_keys he).1
            rw [z] at this
            exact not_before hnd hc this
        · intro hb
          refine w_nx ⟨(), trivial, by wtm_at "sub", ?_⟩
          dsimp only
          rw [filter_snoc hf, if_neg (of_decide_eq_false hb), List.append_nil]
      · refine ⟨(), trivial, by wtm_at "sub", ?_⟩
        dsimp only
        rw [List.take_length, own_step hc]
    · refine w_frzD (p := p) 0 1 rfl rfl ?_
      dsimp only [List.set, List.eraseIdx]
      refine ws_ret (e_v rfl ?_)
      rw [List.take_length]
theorem c_law_own (T : Tx P K mg) {M : List Re} {κ : KV} {n : Nat} {fk : List FK} (q0 : FOk n fk) (q1 : fk.length ≤ 20) (k : κ (rD true (ownK K n fk)) M) : CM (spD (R_law_own T)) [rL K (fk.map (rOne K n))] M κ := cm (fun vs G ra => SpD.of ⟨n, fk, ra, q0, q1, rfl⟩) k
local macro_rules | `(tactic| wtm_at "c") => `(tactic| refine c_law_own _ (by wtm_at "s") (by wtm_at "s") ?_)
theorem sc__law_made : FnScope ["_law_one", "_law_kind", "_law_words_here", "_law_says", "_law_row", "_law_sure", "_law_word", "_law_loose", "_law_doubts", "_law_out"] ["_law_one", "_law_kind"] (defScope s__law_made) := ⟨rfl, rfl, rfl, by decide +kernel, rfl, by decide +kernel, by decide +kernel⟩
theorem b__law_made (T : Tx P K mg) : Binds K T.fd__law_made ["_law_one", "_law_kind"] [] := bindsD1 T.F__law_made (by simp) fun _ _ _ _ _ _ _ us its hl hi => match us, its, hl, hi with | [_, _], [_], _, _ => ⟨_, rfl, rfl⟩
abbrev toI (l : List Nat) : List Int := l.map fun (w : Nat) => (w : Int)
abbrev toII (l : List (List Nat)) : List (List Int) := l.map toI
theorem any_nat {n : Nat} {l : List Nat} (h : ∀ w ∈ l, w < n) : (toI l).any (badW n) = false := by
  rw [List.any_eq_false]
  intro x hx
  obtain ⟨w, hw, rfl⟩ := List.mem_map.mp hx
  rw [bad_nat (h w hw)]; decide
theorem goodH {n : Nat} {h : List Nat} (h1 : 1 ≤ n) (h6 : n ≤ 6) (hl : h.length = n) (hw : ∀ w ∈ h, w < n) : badH (toI h) = false := by
  unfold badH
  rw [show (toI h).length = n by rw [List.length_map, hl], any_nat hw, decide_eq_false (by omega), decide_eq_false (by omega)]
  rfl
theorem goodS {n : Nat} {s : List (List Nat)} (hl : s.length = n) (hw : ∀ l ∈ s, l ≠ [] ∧ l.length ≤ 6 ∧ ∀ w ∈ l, w < n) : badS n (toII s) = false := by
  unfold badS
  rw [decide_eq_true (show (toII s).length = n by rw [List.length_map, hl])]
  have : (toII s).any (badRow n) = false := by
    rw [List.any_eq_false]
    intro r hr
    obtain ⟨l, hl, rfl⟩ := List.mem_map.mp hr
    unfold badRow
    have := List.length_pos_iff.mpr (hw l hl).1
    rw [any_nat (hw l hl).2.2, decide_eq_false (by rw [List.length_map]; omega)]
    decide
  rw [this]; rfl
theorem per_good {α : Type} {U : Addr} {n : Nat} {h : List Nat} {s : List (List Nat)} (h1 : 1 ≤ n) (h6 : n ≤ 6) (hp : PerOk n h s) (x : α ⊕ (Value × List (Str × V))) : perO U (toI h) (toII s) x = x := by
  unfold perO
  rw [goodH h1 h6 hp.hl hp.hw, show (toI h).length = n by rw [List.length_map, hp.hl], goodS hp.sl hp.sw]
  rfl
theorem mem_toI {o : Nat} {l : List Nat} : (o : Int) ∈ toI l ↔ o ∈ l := by
  rw [List.mem_map]
  exact ⟨fun ⟨a, h1, h2⟩ => by rw [← Int.ofNat.inj h2]; exact h1, fun h => ⟨o, h, rfl⟩⟩
theorem getD_toI (l : List Nat) (i : Nat) : (toI l).getD i 0 = ((l.getD i 0 : Nat) : Int) := by
  rw [List.getD_eq_getElem?_getD, List.getD_eq_getElem?_getD, List.getElem?_map]
  cases l[i]? <;> rfl
theorem getD_toII (l : List (List Nat)) (i : Nat) : (toII l).getD i [] = toI (l.getD i []) := by
  rw [List.getD_eq_getElem?_getD, List.getD_eq_getElem?_getD, List.getElem?_map]
  cases l[i]? <;> rfl
theorem said_per {n : Nat} {h : List Nat} {s : List (List Nat)} (hl : h.length = n) (w : Nat) : saidL (toI h) (toII s) w = perRow n h s w := by
  unfold saidL perRow
  rw [show (toI h).length = n by rw [List.length_map, hl]]
  refine List.filter_congr fun o _ => ?_
  rw [getD_toI, Int.toNat_natCast, getD_toII, Bool.eq_iff_iff, decide_eq_true_iff, decide_eq_true_iff]
  exact mem_toI

theorem kn_good {K : PySem.W.Frag} {U : Addr} {n : Nat} {h kn : List Nat} {s : List (List Nat)} (h1 : 1 ≤ n) (h6 : n ≤ 6) (hp : PerOk n h s) (hk : ∀ w ∈ kn, w < n) : knO K U (toI h) (toII s) (toI kn) = .inl (perF K (toI h) (toII s) ++ ([("sure_words", rT K ((toI kn).map Mu.rI))] : FL)) := by
  unfold knO
  rw [per_good h1 h6 hp]
  dsimp only
  rw [show (toI h).length = n by rw [List.length_map, hp.hl], any_nat hk]
  rfl
theorem doubt_per {n : Nat} {h : List Nat} {s : List (List Nat)} (hl : h.length = n) (w : Nat) : doubtL (toI h) (toII s) w = (List.range n).filter fun o => decide (o ∈ perRow n h s w) || decide (o = w) := by
  unfold doubtL
  rw [show (toI h).length = n by rw [List.length_map, hl], said_per hl]
def rN (n : Nat) (s : List (List Nat)) (w : Nat) : List Nat := perRow n (List.range n) s w
def sureL (n : Nat) (s : List (List Nat)) : List Nat := (List.range n).filter fun w => decide (rN n s w = [w])
def looseL (n : Nat) (s : List (List Nat)) : List Nat := (List.range n).filter fun w => decide (w ∈ rN n s w) && !decide (w ∈ sureL n s)
def dbt (n : Nat) (s : List (List Nat)) : Bool := decide ((sureL n s).length + (looseL n s).length = n)
def newS (n : Nat) (s : List (List Nat)) (kd w : Nat) : List Nat := if w ∈ looseL n s ∧ dbt n s = true ∧ 1 < kd then (rN n s w).filter (fun o => !decide (o = w)) else if w ∈ sureL n s ∧ kd ≠ 2 then List.range n else s.getD w []
def madeS (n : Nat) (s : List (List Nat)) (kd : Nat) : List (List Nat) := (List.range n).map (newS n s kd)
def madeP (n : Nat) (h : List Nat) (s : List (List Nat)) (kd : Nat) : PD := if h ≠ List.range n ∨ kd = 0 then ⟨0, toI h, toII s, []⟩ else if kd = 2 ∧ dbt n s = false then ⟨0, toI (List.range n), toII (madeS n s kd), []⟩ else if kd = 2 then ⟨2, toI (List.range n), toII (madeS n s kd), []⟩ else if kd = 3 ∧ dbt n s = true then ⟨3, toI (List.range n), toII (madeS n s kd), toI (sureL n s)⟩ else ⟨1, toI (List.range n), toII (madeS n s kd), toI (sureL n s)⟩
section
variable {n kd w : Nat} {h : List Nat} {s : List (List Nat)}
theorem rN_eq (hw : w < n) : rN n s w = (List.range n).filter fun o => decide (o ∈ s.getD w []) := by
  unfold rN perRow
  rw [getD_range hw]
theorem rN_lt {o : Nat} (hw : w < n) (ho : o ∈ rN n s w) : o < n := by
  rw [rN_eq hw] at ho
  exact List.mem_range.mp (List.mem_filter.mp ho).1
theorem sure_mem : w ∈ sureL n s ↔ w < n ∧ rN n s w = [w] := by
  unfold sureL
  rw [List.mem_filter, List.mem_range, decide_eq_true_iff]
theorem loose_mem : w ∈ looseL n s ↔ w < n ∧ w ∈ rN n s w ∧ w ∉ sureL n s := by
  unfold looseL
  rw [List.mem_filter, List.mem_range, Bool.and_eq_true_iff, decide_eq_true_iff]
  simp
theorem dbt_all (hd : dbt n s = true) (hw : w < n) : w ∈ sureL n s ∨ w ∈ looseL n s := by
  have hd := of_decide_eq_true hd
  have e1 : n = (sureL n s).length + ((List.range n).filter fun w => !decide (w ∈ sureL n s)).length := by
    have z := List.length_eq_countP_add_countP (l := List.range n) (fun w => decide (w ∈ sureL n s))
    rw [List.length_range, List.countP_eq_length_filter, List.countP_eq_length_filter] at z
    have e2 : (List.range n).filter (fun w => decide (w ∈ sureL n s)) = sureL n s := by
      unfold sureL
      refine List.filter_congr fun o ho => dec_iff ?_
      rw [List.mem_filter, decide_eq_true_iff]
      exact ⟨fun z => z.2, fun z => ⟨ho, z⟩⟩
    rw [e2] at z
    have e3 : (List.range n).filter (fun a => decide ¬(decide (a ∈ sureL n s) = true)) = (List.range n).filter fun w => !decide (w ∈ sureL n s) := List.filter_congr fun o _ => by simp
    rw [e3] at z
    exact z
  have e4 : looseL n s = ((List.range n).filter fun w => !decide (w ∈ sureL n s)).filter fun w => decide (w ∈ rN n s w) := by
    unfold looseL
    rw [List.filter_filter]
  have e5 : (((List.range n).filter fun w => !decide (w ∈ sureL n s)).filter fun w => decide (w ∈ rN n s w)).length = ((List.range n).filter fun w => !decide (w ∈ sureL n s)).length := by
    rw [← e4]; omega
  by_cases c : w ∈ sureL n s
  · exact .inl c
  · right
    have hm : w ∈ (List.range n).filter fun w => !decide (w ∈ sureL n s) := List.mem_filter.mpr ⟨List.mem_range.mpr hw, by simp [c]⟩
    have := List.length_filter_eq_length_iff.mp e5 w hm
    exact loose_mem.mpr ⟨hw, of_decide_eq_true this, c⟩
theorem rN_nodup : (rN n s w).Nodup := List.nodup_range.filter _
theorem new_ok (h6 : n ≤ 6) (hp : PerOk n h s) (hw : w < n) : newS n s kd w ≠ [] ∧ (newS n s kd w).length ≤ 6 ∧ ∀ x ∈ newS n s kd w, x < n := by
  unfold newS
  split
  · rename_i c
    obtain ⟨c1, _, _⟩ := c
    obtain ⟨_, c2, c3⟩ := loose_mem.mp c1
    have hne : rN n s w ≠ [w] := fun z => c3 (sure_mem.mpr ⟨hw, z⟩)
    refine ⟨fun z => hne ?_, Nat.le_trans (List.length_filter_le _ _) (Nat.le_trans (List.length_filter_le _ _) (by rw [List.length_range]; exact h6)), fun x hx => rN_lt hw (List.mem_filter.mp hx).1⟩
    have all : ∀ x ∈ rN n s w, x = w := fun x hx => by
      have := List.filter_eq_nil_iff.mp z x hx
      simpa using this
    have nd := rN_nodup (n := n) (s := s) (w := w)
    generalize rN n s w = l at all nd c2
    cases l with
    | nil => cases c2
    | cons a l =>
      have ha := all a List.mem_cons_self
      subst ha
      cases l with
      | nil => rfl
      | cons b l =>
        have hb := all b (List.mem_cons_of_mem _ List.mem_cons_self)
        subst hb
        simp at nd
  · split
    · exact ⟨fun z => by have := congrArg List.length z; rw [List.length_range] at this; have : n = 0 := this; omega, by rw [List.length_range]; exact h6, fun x hx => List.mem_range.mp hx⟩
    · have : w < s.length := by rw [hp.sl]; exact hw
      rw [List.getD_eq_getElem?_getD, List.getElem?_eq_getElem this]
      exact hp.sw _ (List.getElem_mem _)
theorem per_made (h6 : n ≤ 6) (hp : PerOk n h s) : PerOk n (List.range n) (madeS n s kd) := ⟨List.length_range, fun w hw => List.mem_range.mp hw, by unfold madeS; rw [List.length_map, List.length_range], fun l hl => by
  obtain ⟨w, hw, rfl⟩ := List.mem_map.mp hl
  exact new_ok h6 hp (List.mem_range.mp hw)⟩
theorem row_made (hw : w < n) : perRow n (List.range n) (madeS n s kd) w = (List.range n).filter fun o => decide (o ∈ newS n s kd w) := by
  unfold perRow madeS
  rw [getD_range hw, getD_mapR hw]
theorem sub_rN (hw : w < n) : ((List.range n).filter fun o => decide (o ∈ rN n s w)) = rN n s w := by
  rw [rN_eq hw]
  refine List.filter_congr fun o ho => dec_iff ?_
  rw [List.mem_filter, decide_eq_true_iff]
  exact ⟨fun z => z.2, fun z => ⟨ho, z⟩⟩
theorem row_same (hw : w < n) (c1 : ¬ (w ∈ looseL n s ∧ dbt n s = true ∧ 1 < kd)) (c2 : ¬ (w ∈ sureL n s ∧ kd ≠ 2)) : perRow n (List.range n) (madeS n s kd) w = rN n s w := by
  rw [row_made hw, rN_eq hw]
  unfold newS
  rw [if_neg c1, if_neg c2]
theorem row_doubt (hw : w < n) (hk : 1 < kd) (hd : dbt n s = true) (hs : w ∈ sureL n s → kd = 2) : ((List.range n).filter fun o => decide (o ∈ perRow n (List.range n) (madeS n s kd) w) || decide (o = w)) = rN n s w := by
  rw [row_made hw, ← sub_rN hw]
  refine List.filter_congr fun o ho => ?_
  rw [Bool.eq_iff_iff, Bool.or_eq_true_iff, decide_eq_true_iff, decide_eq_true_iff, decide_eq_true_iff, List.mem_filter, decide_eq_true_iff]
  rcases dbt_all hd hw with c | c
  · have e := (sure_mem.mp c).2
    have nl : ¬ (w ∈ looseL n s ∧ dbt n s = true ∧ 1 < kd) := fun z => (loose_mem.mp z.1).2.2 c
    unfold newS
    rw [if_neg nl, if_neg (fun z => z.2 (hs c))]
    have e2 : o ∈ s.getD w [] ↔ o = w := by
      have : o ∈ rN n s w ↔ o = w := by rw [e, List.mem_singleton]
      rw [← this, rN_eq hw, List.mem_filter, decide_eq_true_iff]
      exact ⟨fun z => ⟨ho, z⟩, fun z => z.2⟩
    rw [e2, e, List.mem_singleton]
    exact ⟨fun z => by rcases z with z | z; exact z.2; exact z, fun z => .inr z⟩
  · have cm := (loose_mem.mp c).2.1
    unfold newS
    rw [if_pos ⟨c, hd, hk⟩, List.mem_filter]
    constructor
    · rintro (z | z)
      · exact z.2.1
      · rw [z]; exact cm
    · intro z
      by_cases e : o = w
      · exact .inr e
      · exact .inl ⟨ho, z, by simp [e]⟩
theorem know_sure (b : List Nat) (hw : w < n) (h : ¬ w ∈ sureL n s → b = rN n s w) : knowL (toI (sureL n s)) b w = rN n s w := by
  unfold knowL
  by_cases c : w ∈ sureL n s
  · rw [if_pos (mem_toI.mpr c), (sure_mem.mp c).2]
  · rw [if_neg (fun z => c (mem_toI.mp z)), h c]
theorem made_said (hp : PerOk n h s) (hk : kd < 4) (hw : w < n) : saidP (madeP n h s kd) w = perRow n h s w := by
  unfold madeP
  have hl : (List.range n).length = n := List.length_range
  split
  · rw [saidP0 rfl]; exact said_per hp.hl w
  · rename_i c
    have c1 : h = List.range n := Classical.byContradiction fun z => c (.inl z)
    have c0 : kd ≠ 0 := fun z => c (.inr z)
    rw [c1]
    show _ = rN n s w
    split
    · rename_i c2
      rw [saidP0 rfl]
      show saidL (toI (List.range n)) (toII (madeS n s kd)) w = _
      rw [said_per hl]
      exact row_same hw (fun z => by rw [c2.2] at z; exact nomatch z.2.1) (fun z => z.2 c2.1)
    · rename_i c2
      split
      · rename_i c3
        have hd : dbt n s = true := by
          cases q : dbt n s with
          | true => rfl
          | false => exact absurd ⟨c3, q⟩ c2
        rw [saidP2 rfl]
        show doubtL (toI (List.range n)) (toII (madeS n s kd)) w = _
        rw [doubt_per hl]
        exact row_doubt hw (by omega) hd (fun _ => c3)
      · rename_i c3
        split
        · rename_i c4
          rw [saidP3 rfl]
          show knowL (toI (sureL n s)) (doubtL (toI (List.range n)) (toII (madeS n s kd)) w) w = _
          refine know_sure _ hw fun hn => ?_
          rw [doubt_per hl]
          exact row_doubt hw (by omega) c4.2 (fun z => absurd z hn)
        · rename_i c4
          rw [saidP1 rfl]
          show knowL (toI (sureL n s)) (saidL (toI (List.range n)) (toII (madeS n s kd)) w) w = _
          refine know_sure _ hw fun hn => ?_
          rw [said_per hl]
          exact row_same hw (fun z => by
            rcases (by omega : kd = 1 ∨ kd = 3) with e | e
            · omega
            · exact c4 ⟨e, z.2.1⟩) (fun z => hn z.1)
theorem made_h (hp : PerOk n h s) : (madeP n h s kd).h.length = n := by
  have a : (toI h).length = n := by rw [List.length_map, hp.hl]
  have b : (toI (List.range n)).length = n := by rw [List.length_map, List.length_range]
  unfold madeP
  split
  · exact a
  · split
    · exact b
    · split
      · exact b
      · split
        · exact b
        · exact b
theorem made_ok (h1 : 1 ≤ n) (h6 : n ≤ 6) (hp : PerOk n h s) : PDok (madeP n h s kd) := by
  have key : ∀ (k : Nat) (h : List Nat) (s : List (List Nat)) (kn : List Int), k < 4 → PerOk n h s → PDok ⟨k, toI h, toII s, kn⟩ := fun k h s kn hk hp => by
    have a : (toI h).length = n := by rw [List.length_map, hp.hl]
    have b : (toII s).length = n := by rw [List.length_map, hp.sl]
    refine ⟨hk, by show 1 ≤ (toI h).length; omega, by show (toI h).length ≤ 6; omega, by show (toII s).length = (toI h).length; omega, fun x hx => ?_⟩
    show badW (toI h).length x = false
    obtain ⟨w, hw, rfl⟩ := List.mem_map.mp hx
    rw [a]
    exact bad_nat (hp.hw w hw)
  have hm := per_made (kd := kd) h6 hp
  unfold madeP
  split
  · exact key 0 _ _ _ (by decide) hp
  · split
    · exact key 0 _ _ _ (by decide) hm
    · split
      · exact key 2 _ _ _ (by decide) hm
      · split
        · exact key 3 _ _ _ (by decide) hm
        · exact key 1 _ _ _ (by decide) hm
theorem made_rows (hp : PerOk n h s) (hk : kd < 4) : (saidPM (madeP n h s kd)).map bitsN = (List.range n).map (perRow n h s) := by
  rw [saidP_map, made_h hp]
  exact List.map_congr_left fun w hw => made_said hp hk (List.mem_range.mp hw)
end

theorem mkN_Person (T : Tx P K mg) {M : List Re} {κ : KV} {ε : KX} {C : Addr} {n : Nat} {h : List Nat} {s : List (List Nat)} (hC : OK_Person__init T C) (h1 : 1 ≤ n) (h6 : n ≤ 6) (hp : PerOk n h s) (k : κ (rIns C (perF K (toI h) (toII s) ++ ([] : FL))) M) : MkM C (spIni (OK_Person__init T) (R_Person__init T)) [rLn K h, rLL K s] M κ ε := by
  have a : (toI h).length = n := by rw [List.length_map, hp.hl]
  have b : (toII s).length = n := by rw [List.length_map, hp.sl]
  rw [show rLn K h = rLi K (toI h) from ln_li K h, show rLL K s = rLLi K (toII s) by unfold rLL rLLi; rw [lls_lli]]
  refine mk_Person__init T hC (by omega) (by omega) (fun r hr => ?_) (per_good h1 h6 hp _) ?_
  · obtain ⟨l, hl, rfl⟩ := List.mem_map.mp hr
    rw [List.length_map]
    have := (hp.sw l hl).2.1
    omega
  · exact k
theorem mkN_Knower (T : Tx P K mg) {M : List Re} {κ : KV} {ε : KX} {C : Addr} {n : Nat} {h kn : List Nat} {s : List (List Nat)} (hC : OK_Knower__init T C) (h1 : 1 ≤ n) (h6 : n ≤ 6) (hp : PerOk n h s) (hk : ∀ w ∈ kn, w < n) (hl : kn.length ≤ 1000) (k : κ (rIns C (perF K (toI h) (toII s) ++ ([("sure_words", rT K ((toI kn).map Mu.rI))] : FL))) M) : MkM C (spIni (OK_Knower__init T) (R_Knower__init T)) [rLn K h, rLL K s, rLn K kn] M κ ε := by
  have a : (toI h).length = n := by rw [List.length_map, hp.hl]
  have b : (toII s).length = n := by rw [List.length_map, hp.sl]
  rw [show rLn K h = rLi K (toI h) from ln_li K h, show rLn K kn = rLi K (toI kn) from ln_li K kn, show rLL K s = rLLi K (toII s) by unfold rLL rLLi; rw [lls_lli]]
  refine mk_Knower__init T hC (by omega) (by omega) (fun r hr => ?_) (by rw [List.length_map]; exact hl) (kn_good h1 h6 hp hk) k
  obtain ⟨l, hl, rfl⟩ := List.mem_map.mp hr
  rw [List.length_map]
  have := (hp.sw l hl).2.1
  omega
def sN (n : Nat) (s : List (List Nat)) (kd i : Nat) : List (List Nat) := (List.range n).map fun w => if w < i then newS n s kd w else s.getD w []
theorem sN_zero {n kd : Nat} {s : List (List Nat)} (hs : s.length = n) : sN n s kd 0 = s := by
  unfold sN
  apply List.ext_getElem?
  intro i
  rw [List.getElem?_map]
  by_cases c : i < n
  · rw [List.getElem?_range c, List.getElem?_eq_getElem (by omega)]
    show some (if i < 0 then _ else s.getD i []) = _
    rw [if_neg (by omega), List.getD_eq_getElem?_getD, List.getElem?_eq_getElem (by omega)]; rfl
  · rw [List.getElem?_eq_none (by rw [List.length_range]; omega), List.getElem?_eq_none (by omega)]; rfl
theorem sN_all {n kd : Nat} {s : List (List Nat)} : sN n s kd n = madeS n s kd := by
  unfold sN madeS
  exact List.map_congr_left fun w hw => if_pos (List.mem_range.mp hw)
theorem sN_len {n kd i : Nat} {s : List (List Nat)} : (sN n s kd i).length = n := by unfold sN; rw [List.length_map, List.length_range]
theorem sN_get {n kd i j : Nat} {s : List (List Nat)} (hj : j < n) : (sN n s kd i)[j]? = some (if j < i then newS n s kd j else s.getD j []) := by
  unfold sN
  rw [List.getElem?_map, List.getElem?_range hj]; rfl
theorem sN_set {n kd i : Nat} {s : List (List Nat)} (hi : i < n) {a : List Nat} (ha : a = newS n s kd i) : (sN n s kd i).set i a = sN n s kd (i + 1) := by
  apply List.ext_getElem?
  intro j
  rw [List.getElem?_set]
  by_cases c : i = j
  · subst c
    rw [if_pos rfl, if_pos (by rw [sN_len]; exact hi), sN_get hi, if_pos (by omega), ha]
  · rw [if_neg c]
    by_cases cj : j < n
    · rw [sN_get cj, sN_get cj]
      congr 1
      by_cases d : j < i
      · rw [if_pos d, if_pos (by omega)]
      · rw [if_neg d, if_neg (by omega)]
    · rw [List.getElem?_eq_none (by rw [sN_len]; omega), List.getElem?_eq_none (by rw [sN_len]; omega)]
theorem sN_keep {n kd i : Nat} {s : List (List Nat)} (hi : i < n) (ha : s.getD i [] = newS n s kd i) : sN n s kd i = sN n s kd (i + 1) := by
  rw [← sN_set hi ha]
  apply List.ext_getElem?
  intro j
  rw [List.getElem?_set]
  by_cases c : i = j
  · subst c
    rw [if_pos rfl, if_pos (by rw [sN_len]; exact hi), sN_get hi, if_neg (by omega)]
  · rw [if_neg c]

def R_law_made (T : Tx P K mg) : List V → Hp → Rp → Prop := fun vs G r => ∃ (n kd : Nat) (h : List Nat) (s : List (List Nat)), RA G vs [rL K (perRs K n h s), nI kd] ∧ (1 ≤ n) ∧ (n ≤ 6) ∧ (PerOk n h s) ∧ (kd < 4) ∧ r = rPer K T.C_Person T.C_Knower T.C_Doubter T.C_KnowingDoubter (madeP n h s kd)
theorem ok__law_made (T : Tx P K mg) : FnOk P w K mg base CX0 7 T.f__law_made T.fd__law_made ["_law_one", "_law_kind"] (spD (R_law_made T)) := by
  refine T.F__law_made.ok sc__law_made (fun vs H Q E h => ?_) (fun cdv A outer s H vs Q E hr h => ?_)
  · obtain ⟨G, r, _, ⟨n, kd, h, s, ra, _⟩, _⟩ := h
    exact ra.len
  · obtain ⟨G, r, e, ⟨n, kd, h, s, ra, q0, q1, q2, q3, rfl⟩, k⟩ := h
    refine ⟨_, PSs.nox (pss_cons (ps_set (i := 2) sc__law_made.nd rfl (Or.inl rfl) (pe_listRg (by rfl) (by rfl) T.m_list (prg_1 (by rfl) T.m_range (pe_callB (call_lenK K) (by rfl) T.m_len PySem.boot_len (pa_cons (pe_ix (ix_listK K) (pv 0) pe_int (fun _ _ => rfl)) pa_nil)))))
      (pss_cons (ps_setLc (i := 3) (own := [("_law_row", 4)]) (by rfl) sc__law_made.nd rfl rfl (sw_true rfl rfl rfl (by decide +kernel)) (pi_listK K (pe_ix (ix_listK K) (pv 0) pe_int (fun _ _ => rfl))) (blkOk_by (N := ["_law_one", "_law_kind", "_law_words_here", "_law_says", "_law_row", "_law_sure", "_law_word", "_law_loose", "_law_doubts", "_law_out"]) (sc := defScope s__law_made) (by decide +kernel)) (fun _ _ _ _ _ => (pg_name (i := 4) sc__law_made.nd rfl (Or.inl rfl))) (fun _ _ _ _ _ => pts_nil) (fun _ _ _ _ _ => (pe_callTy (call_listK K) (by rfl) T.m_list (by decide +kernel) (pa_cons (pv 4) pa_nil))))
      (pss_cons (ps_if (PW.pt (pw_or (pt_cmpR (op_neK K hr.units) (pe_ix (ix_listK K) (pv 0) pe_int (fun _ _ => rfl)) (pv 2) (nomark _)) (pw_or1 (pt_cmpR op_eq (pv 1) pe_int (nomark _))))) (pss_one (ps_ret (pe_make T.mk_Person (ok_Person___init__ T) (hr.mono (by decide)) (by rfl) T.g_Person (b_Person___init__ T) .nil passF (pa_cons (pe_callTy (call_listK K) (by rfl) T.m_list (by decide +kernel) (pa_cons (pe_ix (ix_listK K) (pv 0) pe_int (fun _ _ => rfl)) pa_nil)) (pa_cons (pv 3) pa_nil))))) pss_nil)
      (pss_cons (ps_set (i := 5) sc__law_made.nd rfl (Or.inr rfl) (pe_lc (own := [("_law_word", 6)]) (by rfl) sc__law_made.nd (pi_listK K (pv 2)) (blkOk_by (N := ["_law_one", "_law_kind", "_law_words_here", "_law_says", "_law_row", "_law_sure", "_law_word", "_law_loose", "_law_doubts", "_law_out"]) (sc := defScope s__law_made) (by decide +kernel)) (fun _ _ _ _ _ => (pg_name (i := 6) sc__law_made.nd rfl (Or.inl rfl))) (fun _ _ _ _ _ => (pts_one (pt_cmpR (op_eqK K hr.units) (pe_ix (ix_listK K) (pe_ix (ix_listK K) (pv 0) pe_int (fun _ _ => rfl)) (pv 6) (fun _ _ => rfl)) (pe_lst (pa_cons (pv 6) pa_nil)) (nomark _)))) (fun _ _ _ _ _ => (pv 6))))
      (pss_cons (ps_setLc (i := 7) (own := [("_law_word", 6)]) (by rfl) sc__law_made.nd rfl rfl (sw_true rfl rfl rfl (by decide +kernel)) (pi_listK K (pv 2)) (blkOk_by (N := ["_law_one", "_law_kind", "_law_words_here", "_law_says", "_law_row", "_law_sure", "_law_word", "_law_loose", "_law_doubts", "_law_out"]) (sc := defScope s__law_made) (by decide +kernel)) (fun _ _ _ _ _ => (pg_name (i := 6) sc__law_made.nd rfl (Or.inl rfl))) (fun _ _ _ _ _ => (pts_one (PW.pt (pw_and (pt_cmpR (op_inK K) (pv 6) (pe_ix (ix_listK K) (pe_ix (ix_listK K) (pv 0) pe_int (fun _ _ => rfl)) (pv 6) (fun _ _ => rfl)) rfl) (pw_and1 (pt_cmpR (op_notInK K) (pv 6) (pv 5) rfl)))))) (fun _ _ _ _ _ => (pv 6)))
      (pss_cons (ps_set (i := 8) sc__law_made.nd rfl (Or.inl rfl) (pe_cmpR op_eq (pe_op op_add (pe_callB (call_lenK K) (by rfl) T.m_len PySem.boot_len (pa_cons (pv 5) pa_nil)) (pe_callB (call_lenK K) (by rfl) T.m_len PySem.boot_len (pa_cons (pv 7) pa_nil))) (pe_callB (call_lenK K) (by rfl) T.m_len PySem.boot_len (pa_cons (pv 2) pa_nil)) (nomark _)))
      (pss_cons (ps_for PassesOwn.never rfl (pi_listK K (pv 2)) (pg_name (i := 6) sc__law_made.nd rfl (Or.inr rfl)) (pss_cons (ps_if (PW.pt (pw_and (pt_cmpR (op_inK K) (pv 6) (pv 5) rfl) (pw_and1 (pt_cmpR op_ne (pv 1) pe_int (nomark _))))) (pss_one (ps_asg (pe_callTy (call_listK K) (by rfl) T.m_list (by decide +kernel) (pa_cons (pv 2) pa_nil)) (pg_sub (pv 3) (pv 6) set_list))) pss_nil)
      (pss_one (ps_if (PW.pt (pw_and (pt_cmpR (op_inK K) (pv 6) (pv 7) rfl) (pw_and (pt_val (pv 8)) (pw_and1 (pt_cmpR op_gt (pv 1) pe_int (nomark _)))))) (pss_one (ps_asg (pe_lc (own := [("_law_out", 9)]) (by rfl) sc__law_made.nd (pi_listK K (pe_ix (ix_listK K) (pe_ix (ix_listK K) (pv 0) pe_int (fun _ _ => rfl)) (pv 6) (fun _ _ => rfl))) (blkOk_by (N := ["_law_one", "_law_kind", "_law_words_here", "_law_says", "_law_row", "_law_sure", "_law_word", "_law_loose", "_law_doubts", "_law_out"]) (sc := defScope s__law_made) (by decide +kernel)) (fun _ _ _ _ _ => (pg_name (i := 9) sc__law_made.nd rfl (Or.inl rfl))) (fun _ _ _ _ _ => (pts_one (pt_cmpR op_ne (pv 9) (pv 6) (nomark _)))) (fun _ _ _ _ _ => (pv 9))) (pg_sub (pv 3) (pv 6) set_list))) pss_nil))))
      (pss_cons (ps_if (PW.pt (pw_and (pt_cmpR op_eq (pv 1) pe_int (nomark _)) (pw_and1 (pt_not (pt_val (pv 8)))))) (pss_one (ps_ret (pe_make T.mk_Person (ok_Person___init__ T) (hr.mono (by decide)) (by rfl) T.g_Person (b_Person___init__ T) .nil passF (pa_cons (pv 2) (pa_cons (pv 3) pa_nil))))) pss_nil)
      (pss_cons (ps_if (pt_cmpR op_eq (pv 1) pe_int (nomark _)) (pss_one (ps_ret (pe_make T.mk_Doubter (ok_Person___init__ T) (hr.mono (by decide)) (by rfl) T.g_Doubter (b_Person___init__ T) .nil passF (pa_cons (pv 2) (pa_cons (pv 3) pa_nil))))) pss_nil)
      (pss_cons (ps_if (PW.pt (pw_and (pt_cmpR op_eq (pv 1) pe_int (nomark _)) (pw_and1 (pt_val (pv 8))))) (pss_one (ps_ret (pe_make T.mk_KnowingDoubter (ok_Knower___init__ T) (hr.mono (by decide)) (by rfl) T.g_KnowingDoubter (b_Knower___init__ T) .nil passF (pa_cons (pv 2) (pa_cons (pv 3) (pa_cons (pv 5) pa_nil)))))) pss_nil)
      (pss_one (ps_ret (pe_make T.mk_Knower (ok_Knower___init__ T) (hr.mono (by decide)) (by rfl) T.g_Knower (b_Knower___init__ T) .nil passF (pa_cons (pv 2) (pa_cons (pv 3) (pa_cons (pv 5) pa_nil)))))))))))))))), ?_⟩
    refine run_D (W := fun _ _ _ _ => False) (Γ := [some (rL K (perRs K n h s)), some (nI kd), none, none, none, none, none, none, none, none]) ?_ e (En.start (k := 8) _ (rs := [rL K (perRs K n h s), nI kd]) ra (by rw [ra.len]; rfl)) k
    clear ra e k
    have l_h := q2.hl
    have l_s := q2.sl
    have lr : (List.range n).length ≤ 40000 := by rw [List.length_range]; omega
    have hP : OK_Person__init T T.C_Person := ⟨T.c_Person, T.na_Person_size, T.na_Person_ears, T.na_Person_mouths⟩
    have hD : OK_Person__init T T.C_Doubter := ⟨T.c_Doubter, T.na_Doubter_size, T.na_Doubter_ears, T.na_Doubter_mouths⟩
    have hKn : OK_Knower__init T T.C_Knower := ⟨T.c_Knower, T.na_Knower_size, T.na_Knower_ears, T.na_Knower_mouths, T.na_Knower_sure_words, T.sup_Knower_Knower___init__⟩
    have hKd : OK_Knower__init T T.C_KnowingDoubter := ⟨T.c_KnowingDoubter, T.na_KnowingDoubter_size, T.na_KnowingDoubter_ears, T.na_KnowingDoubter_mouths, T.na_KnowingDoubter_sure_words, T.sup_KnowingDoubter_Knower___init__⟩
    refine w_seq (ws_set (e_xn K (xn_listRg (n := n) (by
      apply x_is
      · wtm_at "x"
      · rw [l_h]) (by omega)) ?_))
    try dsimp only [List.set]
    refine w_seq (ws_set (e_n (xn_lcL0 (K := K) s (rLn K) (rLn K) (by wtm_at "x") (by omega) (fun a _ => EvNX.d (K := K) (xn_list (K := K) (x_v rfl))) (by simp)) fun p => ?_))
    try dsimp only [List.set, List.cons_append, List.nil_append]
    refine w_seq ?_
    apply w_if (b := !decide (h = List.range n) || decide (kd = 0))
    · wtm_at "t"
    · intro hb
      have hc : h ≠ List.range n ∨ kd = 0 := by
        rcases Bool.or_eq_true_iff.mp hb with z | z
        · exact .inl (by simpa using z)
        · exact .inr (of_decide_eq_true z)
      refine w_frz K 0 3 rfl rfl ?_
      dsimp only [List.set, List.eraseIdx]
      refine ws_ret ?_
      wtm_at "e"
      refine mkN_Person T hP q0 q1 q2 ?_
      rw [show madeP n h s kd = ⟨0, toI h, toII s, []⟩ from if_pos hc]
      rfl
    intro hb
    refine w_nx ?_
    try dsimp only
    have hh : h = List.range n ∧ kd ≠ 0 := by
      obtain ⟨z1, z2⟩ := Bool.or_eq_false_iff.mp hb
      exact ⟨by simpa using z1, of_decide_eq_false z2⟩
    obtain ⟨rfl, hk0⟩ := hh
    clear hb
    have hlr : ((List.range n).map (perRow n (List.range n) s)).length = n := by rw [List.length_map, List.length_range]
    have rowG : ∀ w, w < n → ((List.range n).map (perRow n (List.range n) s)).getD w [] = rN n s w := fun w hw => getD_mapR hw
    refine w_seq (ws_set (e_xn K (xn_lcL (K := K) (List.range n) nI (fun w => decide (rN n s w = [w])) nI (x_v rfl) lr (fun w hw => ?_) (fun w hw _ => x_v rfl) (by simp)) ?_))
    · have hw := List.mem_range.mp hw
      have hwl : w < ((List.range n).map (perRow n (List.range n) s)).length := by rw [hlr]; exact hw
      exact t_is (t_T (x_eqLn (K := K) (l := ((List.range n).map (perRow n (List.range n) s)).getD w []) (m := [w]) (by wtm_at "x") (by wtm_at "x"))) (by rw [rowG w hw])
    try dsimp only [List.set]
    rw [show rL K (((List.range n).filter fun w => decide (rN n s w = [w])).map nI) = rLn K (sureL n s) from rfl]
    refine w_seq (ws_set (e_xn K (xn_lcL (K := K) (List.range n) nI (fun w => decide (w ∈ rN n s w) && !decide (w ∈ sureL n s)) nI (x_v rfl) lr (fun w hw => ?_) (fun w hw _ => x_v rfl) (by simp)) ?_))
    · have hw := List.mem_range.mp hw
      have hwl : w < ((List.range n).map (perRow n (List.range n) s)).length := by rw [hlr]; exact hw
      exact t_is (t_and (t_T (x_inLn (K := K) (l := ((List.range n).map (perRow n (List.range n) s)).getD w []) (x_v rfl) (by wtm_at "x"))) (fun _ => t_T (x_niLn (K := K) (l := sureL n s) (x_v rfl) (x_v rfl)))) (by rw [rowG w hw])
    try dsimp only [List.set]
    rw [show rL K (((List.range n).filter fun w => decide (w ∈ rN n s w) && !decide (w ∈ sureL n s)).map nI) = rLn K (looseL n s) from rfl]
    refine w_seq (ws_set (e_x (r := rB (dbt n s)) (by
      apply x_is
      · wtm_at "x"
      · rw [List.length_range]; rfl) ?_))
    try dsimp only [List.set]
    have hs0 : s.map (rLn K) = (sN n s kd 0).map (rLn K) := by rw [sN_zero l_s]
    rw [hs0]
    refine w_seq (w_forL (K := K) (List.range n) nI (fun _ (_ : Unit) => True) (fun _ _ => [some (rL K (perRs K n (List.range n) s)), some (nI kd), some (rLn K (List.range n)), some (rV (.ref p)), none, some (rLn K (sureL n s)), none, some (rLn K (looseL n s)), some (rB (dbt n s)), none]) (fun i _ => [lstR p ((sN n s kd i).map (rLn K))]) (by wtm_at "x") () trivial (by wtm_at "sub") rfl (fun i _ w hi _ => ?_) (fun _ _ => ?_))
    · dsimp only [List.set]
      have hin : i < n := by
        have := (List.getElem?_eq_some_iff.mp hi).1
        rw [List.length_range] at this
        exact this
      obtain rfl : w = i := by
        rw [List.getElem?_range hin] at hi
        exact (Option.some.inj hi).symm
      have hwl : w < ((List.range n).map (perRow n (List.range n) s)).length := by rw [hlr]; exact hin
      have hsl : w < ((sN n s kd w).map (rLn K)).length := by rw [List.length_map, sN_len]; exact hin
      have set_map : ∀ a : List Nat, ((sN n s kd w).map (rLn K)).set w (rLn K a) = ((sN n s kd w).set w a).map (rLn K) := fun a => by rw [List.map_set]
      refine w_seq ?_
      apply w_if (b := decide (w ∈ sureL n s) && !decide (kd = 2))
      · exact t_and (t_T (x_inLn (K := K) (l := sureL n s) (x_v rfl) (x_v rfl))) (fun _ => by wtm_at "t")
      · intro hb
        obtain ⟨b1, b2⟩ := Bool.and_eq_true_iff.mp hb
        have b1 := of_decide_eq_true b1
        have b2 : kd ≠ 2 := by simpa using b2
        have nl : w ∉ looseL n s := fun z => (loose_mem.mp z).2.2 b1
        refine ws_setI 0 rfl (x_v rfl) ?_
        refine e_x (r := rLn K (List.range n)) (EvNX.d (K := K) (xn_list (K := K) (x_v rfl))) ?_
        refine ⟨_, rfl, hsl, ?_⟩
        dsimp only [List.set]
        rw [set_map, sN_set hin (show List.range n = newS n s kd w by unfold newS; rw [if_neg (fun z => nl z.1), if_pos ⟨b1, b2⟩])]
        apply w_if (b := decide (w ∈ looseL n s) && (dbt n s && decide (1 < kd)))
        · exact t_and (t_T (x_inLn (K := K) (l := looseL n s) (x_v rfl) (x_v rfl))) (fun _ => t_and (t_B (x_v rfl)) (fun _ => by wtm_at "t"))
        · intro hb2
          exact absurd (of_decide_eq_true (Bool.and_eq_true_iff.mp hb2).1) nl
        · intro _
          exact w_nx ⟨(), trivial, by wtm_at "sub", rfl⟩
      · intro hb
        have hb : ¬ (w ∈ sureL n s ∧ kd ≠ 2) := fun z => by
          rw [decide_eq_true z.1, decide_eq_false z.2] at hb
          exact nomatch hb
        refine w_nx ?_
        try dsimp only
        apply w_if (b := decide (w ∈ looseL n s) && (dbt n s && decide (1 < kd)))
        · exact t_and (t_T (x_inLn (K := K) (l := looseL n s) (x_v rfl) (x_v rfl))) (fun _ => t_and (t_B (x_v rfl)) (fun _ => by wtm_at "t"))
        · intro hb2
          obtain ⟨b1, b2⟩ := Bool.and_eq_true_iff.mp hb2
          obtain ⟨b2, b3⟩ := Bool.and_eq_true_iff.mp b2
          refine ws_setI 0 rfl (x_v rfl) ?_
          refine e_xn K (xn_lcL (K := K) (rN n s w) nI (fun o => !decide (o = w)) nI (x_is (r := rLn K (((List.range n).map (perRow n (List.range n) s)).getD w [])) (by wtm_at "x") (by rw [rowG w hin]; rfl)) (by rw [rN_eq hin]; exact Nat.le_trans (List.length_filter_le _ _) lr) (fun o ho => by wtm_at "tq") (fun o ho _ => x_v rfl) (by simp)) ?_
          refine ⟨_, rfl, hsl, (), trivial, by wtm_at "sub", ?_⟩
          dsimp only [List.set]
          rw [show rL K (((rN n s w).filter fun o => !decide (o = w)).map nI) = rLn K ((rN n s w).filter fun o => !decide (o = w)) from rfl, set_map, sN_set hin (show _ = newS n s kd w by unfold newS; rw [if_pos ⟨of_decide_eq_true b1, b2, of_decide_eq_true b3⟩])]
        · intro hb2
          have hb2 : ¬ (w ∈ looseL n s ∧ dbt n s = true ∧ 1 < kd) := fun z => by
            rw [decide_eq_true z.1, z.2.1, decide_eq_true z.2.2] at hb2
            exact nomatch hb2
          refine w_nx ⟨(), trivial, by wtm_at "sub", ?_⟩
          dsimp only
          rw [← sN_keep hin (show s.getD w [] = newS n s kd w by unfold newS; rw [if_neg hb2, if_neg hb])]
    rw [List.length_range, sN_all]
    have pm := per_made (kd := kd) q1 q2
    have hsw : ∀ w ∈ sureL n s, w < n := fun w hw => (sure_mem.mp hw).1
    have hsl : (sureL n s).length ≤ 1000 := Nat.le_trans (List.length_filter_le _ _) (by rw [List.length_range]; omega)
    have c0 : ¬ (List.range n ≠ List.range n ∨ kd = 0) := fun z => z.elim (fun q => q rfl) hk0
    refine w_seq ?_
    apply w_if (b := decide (kd = 2) && !dbt n s)
    · exact t_and (by wtm_at "t") (fun _ => t_not (t_B (x_v rfl)))
    · intro hb
      have hb : kd = 2 ∧ dbt n s = false := by
        obtain ⟨z1, z2⟩ := Bool.and_eq_true_iff.mp hb
        exact ⟨of_decide_eq_true z1, by simpa using z2⟩
      refine w_frz K 0 3 rfl rfl ?_
      dsimp only [List.set, List.eraseIdx]
      refine ws_ret ?_
      wtm_at "e"
      refine mkN_Person T hP q0 q1 pm ?_
      rw [show madeP n (List.range n) s kd = ⟨0, toI (List.range n), toII (madeS n s kd), []⟩ from by unfold madeP; rw [if_neg c0, if_pos hb]]
      rfl
    intro hb
    have c1 : ¬ (kd = 2 ∧ dbt n s = false) := fun z => by
      rw [decide_eq_true z.1, z.2] at hb
      exact nomatch hb
    refine w_nx ?_
    try dsimp only
    refine w_seq ?_
    apply w_if (b := decide (kd = 2))
    · wtm_at "t"
    · intro hb
      have hb := of_decide_eq_true hb
      refine w_frz K 0 3 rfl rfl ?_
      dsimp only [List.set, List.eraseIdx]
      refine ws_ret ?_
      wtm_at "e"
      refine mkN_Person T hD q0 q1 pm ?_
      rw [show madeP n (List.range n) s kd = ⟨2, toI (List.range n), toII (madeS n s kd), []⟩ from by unfold madeP; rw [if_neg c0, if_neg c1, if_pos hb]]
      rfl
    intro hb
    have c2 := of_decide_eq_false hb
    refine w_nx ?_
    try dsimp only
    refine w_seq ?_
    apply w_if (b := decide (kd = 3) && dbt n s)
    · exact t_and (by wtm_at "t") (fun _ => t_B (x_v rfl))
    · intro hb
      have hb : kd = 3 ∧ dbt n s = true := by
        obtain ⟨z1, z2⟩ := Bool.and_eq_true_iff.mp hb
        exact ⟨of_decide_eq_true z1, z2⟩
      refine w_frz K 0 3 rfl rfl ?_
      dsimp only [List.set, List.eraseIdx]
      refine ws_ret ?_
      wtm_at "e"
      refine mkN_Knower T hKd q0 q1 pm hsw hsl ?_
      rw [show madeP n (List.range n) s kd = ⟨3, toI (List.range n), toII (madeS n s kd), toI (sureL n s)⟩ from by unfold madeP; rw [if_neg c0, if_neg c1, if_neg c2, if_pos hb]]
      rfl
    intro hb
    have c3 : ¬ (kd = 3 ∧ dbt n s = true) := fun z => by
      rw [decide_eq_true z.1, z.2] at hb
      exact nomatch hb
    refine w_nx ?_
    try dsimp only
    refine w_frz K 0 3 rfl rfl ?_
    dsimp only [List.set, List.eraseIdx]
    refine ws_ret ?_
    wtm_at "e"
    refine mkN_Knower T hKn q0 q1 pm hsw hsl ?_
    rw [show madeP n (List.range n) s kd = ⟨1, toI (List.range n), toII (madeS n s kd), toI (sureL n s)⟩ from by unfold madeP; rw [if_neg c0, if_neg c1, if_neg c2, if_neg c3]]
    rfl
theorem c_law_made (T : Tx P K mg) {M : List Re} {κ : KV} {n kd : Nat} {h : List Nat} {s : List (List Nat)} (q0 : 1 ≤ n) (q1 : n ≤ 6) (q2 : PerOk n h s) (q3 : kd < 4) (k : κ (rPer K T.C_Person T.C_Knower T.C_Doubter T.C_KnowingDoubter (madeP n h s kd)) M) : CM (spD (R_law_made T)) [rL K (perRs K n h s), nI kd] M κ := cm (fun vs G ra => SpD.of ⟨n, kd, h, s, ra, q0, q1, q2, q3, rfl⟩) k
local macro_rules | `(tactic| wtm_at "c") => `(tactic| refine c_law_made _ (by wtm_at "s") (by wtm_at "s") (by wtm_at "s") (by wtm_at "s") ?_)
theorem sc__law_cast : FnScope ["_law_n", "_law_folk_here", "_law_cast_here", "_law_one", "_law_kind"] ["_law_n", "_law_folk_here"] (defScope s__law_cast) := ⟨rfl, rfl, rfl, by decide +kernel, rfl, by decide +kernel, by decide +kernel⟩
theorem b__law_cast (T : Tx P K mg) : Binds K T.fd__law_cast ["_law_n", "_law_folk_here"] [] := T.F__law_cast.bindsN fun _ _ _ _ _ _ us hl => match us, hl with | [_, _], _ => rfl
theorem e_methO {W : WX} {Γ : Mu.Ctx} {M : List Re} {κ : KV} {ε : KX} {ta : TA} {f : Str} {C p : Addr} {fs : FL} {own : Bool} {sp : Sp} {E : XK} {i : Nat} (idx : Nat) (hi : Γ[i]? = some (some (rV (.ref p)))) (hk : M[idx]? = some (insR own p C fs)) (hl : fs.lookup f = none) (h : EA W Γ M ta (fun rs M1 => CM sp (rV (.ref p) :: rs) M1 κ) ε) : EW W Γ M (tMeth C f sp [] E (tVar i) ta) κ ε := fun B G H σ o en Q q x => by
  obtain ⟨v, h1, h2⟩ := en.get hi
  obtain rfl : v = V.ref p := h2
  obtain ⟨dx, ws, h3, h4⟩ := o.m _ (List.mem_of_getElem? hk)
  refine ⟨.ref p, h1, p, dx, ws, rfl, h3, h4.noget hl, h B G H σ o en _ (fun vs G1 H1 rs M1 k1 o1 e1 ra => ?_) x⟩
  rw [List.append_nil]
  exact k1 E B G1 H1 _ o1 (.cons rfl ra) Q (q.up e1)
def masksF (n : Nat) (f : FK) : List Nat := (rowsF n f).map maskN
def castE (n : Nat) (fk : List FK) : CSt := fk.map fun f => (f.c, masksF n f)
theorem made_masks {n kd : Nat} {f : FK} (hp : PerOk n f.h f.s) (hk : kd < 4) : saidPM (madeP n f.h f.s kd) = masksF n f := by
  unfold masksF rowsF
  rw [← made_rows hp hk, masks_bits]
theorem cast_step {n i : Nat} {fk : List FK} {f : FK} (nd : (fk.map FK.c).Nodup) (hf : fk[i]? = some f) : putC (castE n (fk.take i)) f.c (masksF n f) = castE n (fk.take (i + 1)) := by
  unfold putC
  rw [if_neg]
  · rw [List.take_add_one, hf]
    unfold castE
    rw [List.map_append]; rfl
  · intro z
    obtain ⟨e, he, h2⟩ := List.any_eq_true.mp z
    obtain ⟨g, hg, rfl⟩ := List.mem_map.mp he
    have h1 : (fk.map FK.c)[i]? = some f.c := by rw [List.getElem?_map, hf]; rfl
    refine not_before nd h1 ?_
    rw [← List.map_take]
    exact List.mem_map.mpr ⟨g, hg, of_decide_eq_true h2⟩

def R_law_cast (T : Tx P K mg) : List V → Hp → Rp → Prop := fun vs G r => ∃ (n : Nat) (fk : List FK), RA G vs [nI n, rL K (fk.map (rOne K n))] ∧ (1 ≤ n) ∧ (n ≤ 6) ∧ (FOk n fk) ∧ (fk.length ≤ 8) ∧ r = rIns T.C_Cast (castZ K T.C_Table n (castE n fk))
theorem ok__law_cast (T : Tx P K mg) : FnOk P w K mg base CX0 14 T.f__law_cast T.fd__law_cast ["_law_n", "_law_folk_here"] (spD (R_law_cast T)) := by
  refine T.F__law_cast.ok sc__law_cast (fun vs H Q E h => ?_) (fun cdv A outer s H vs Q E hr h => ?_)
  · obtain ⟨G, r, _, ⟨n, fk, ra, _⟩, _⟩ := h
    exact ra.len
  · obtain ⟨G, r, e, ⟨n, fk, ra, q0, q1, q2, q3, rfl⟩, k⟩ := h
    refine ⟨_, PSs.nox (pss_cons (ps_set (i := 2) sc__law_cast.nd rfl (Or.inl rfl) (StX.pe_makeR T.mk_Cast (ok_Cast___init__ T) (hr.mono (by decide)) (by rfl) T.g_Cast pass0 (pa_cons (pv 0) pa_nil)))
      (pss_cons (ps_for PassesOwn.never rfl (pi_listK K (pv 1)) (pg_name (i := 3) sc__law_cast.nd rfl (Or.inl rfl)) (pss_cons (ps_set (i := 4) sc__law_cast.nd rfl (Or.inl rfl) (pe_op op_mod (pe_callTy call_int1 (by rfl) T.m_int (by decide +kernel) (pa_cons (pe_bm PySem.F.plainAttrs_str PySem.F.slot_str_find PySem.F.type_str_find mt_findT pe_str (pa_cons (pe_ix (ix_listK K) (pv 3) pe_int (fun _ _ => rfl)) pa_nil)) pa_nil)) pe_int))
      (pss_one (ps_expr (pe_meth (pv 2) T.c_Cast T.M_Cast_put (ok_Cast_put T) (hr.mono (by decide)) (b_Cast_put T) .nil pass0 (pa_cons (pe_ix (ix_listK K) (pv 3) pe_int (fun _ _ => rfl)) (pa_cons (pe_call (ok__law_made T) (hr.mono (by decide)) (by rfl) T.g__law_made T.F__law_made.kp (b__law_made T) .nil pass0 (pa_cons (pe_slice (sl_listK K) (pv 3) (po_some pe_int) po_none) (pa_cons (pv 4) pa_nil))) pa_nil)))))))
      (pss_one (ps_ret (pv 2))))), ?_⟩
    refine run_D (W := fun _ _ _ _ => False) (Γ := [some (nI n), some (rL K (fk.map (rOne K n))), none, none, none]) ?_ e (En.start (k := 3) _ (rs := [nI n, rL K (fk.map (rOne K n))]) ra (by rw [ra.len]; rfl)) k
    clear ra e k
    refine w_seq (ws_set (e_makeC (a_cons (e_v rfl (a_nil ⟨rfl, fun p d vs G ra => ⟨p, d, n, [], ra, rfl, q0, q1, fun e => ⟨rfl, _, List.Perm.refl _, ?_⟩⟩⟩)))))
    try dsimp only [List.set, List.cons_append, List.nil_append]
    refine w_seq (w_forL (K := K) fk (rOne K n) (fun _ (_ : Unit) => True) (fun _ _ => [some (nI n), some (rL K (fk.map (rOne K n))), some (rV (.ref p)), none, none]) (fun i _ => [insR true p T.C_Cast (castF K n e (castE n (fk.take i))), dicR e (kvC K T.C_Table (castE n (fk.take i)))]) (by wtm_at "x") () trivial (by wtm_at "sub") rfl (fun i _ f hf _ => ?_) (fun _ _ => ?_))
    · dsimp only [List.set]
      have hm := List.mem_of_getElem? hf
      have hpf := q2.per f hm
      have hi : i < fk.length := (List.getElem?_eq_some_iff.mp hf).1
      refine w_seq (ws_set ?_)
      wtm_at "e"
      refine e_find (e_c ⟨_, rfl, ?_⟩)
      wtm_at "e"
      refine ⟨_, rfl, ?_⟩
      wtm_at "e"
      try dsimp only [List.set]
      obtain ⟨kd, hkd, hk4⟩ : ∃ kd : Nat, Txt.find (Str.ofString "abcdefghijklmnopqrstuvwxyz") (ltr f.c) % ((4 : Nat) : Int) = (kd : Int) ∧ kd < 4 := ⟨(Txt.find (Str.ofString "abcdefghijklmnopqrstuvwxyz") (ltr f.c) % ((4 : Nat) : Int)).toNat, by omega, by omega⟩
      rw [show rV (V.int (Txt.find (Str.ofString "abcdefghijklmnopqrstuvwxyz") (ltr f.c) % ((4 : Nat) : Int))) = nI kd from congrArg (fun z => rV (.int z)) hkd]
      refine ws_do (e_methO 0 rfl rfl rfl ?_)
      wtm_at "e"
      refine c_Cast_put T (ka := 0) (kb := 1) rfl rfl (by decide) (q2.let_ f hm) (made_ok q0 q1 hpf) (made_h hpf) (by unfold castE; rw [List.length_map, List.length_take]; omega) ?_
      refine ⟨(), trivial, by wtm_at "sub", ?_⟩
      dsimp only [List.set]
      rw [made_masks hpf hk4, cast_step q2.nd hf]
    · rw [List.take_length]
      refine w_frzID (f := "folk") (k2 := 0) 0 2 rfl rfl rfl rfl ?_
      dsimp only [List.set, List.eraseIdx]
      refine ws_ret (e_v rfl ?_)
      rfl
theorem c_law_cast (T : Tx P K mg) {M : List Re} {κ : KV} {n : Nat} {fk : List FK} (q0 : 1 ≤ n) (q1 : n ≤ 6) (q2 : FOk n fk) (q3 : fk.length ≤ 8) (k : κ (rIns T.C_Cast (castZ K T.C_Table n (castE n fk))) M) : CM (spD (R_law_cast T)) [nI n, rL K (fk.map (rOne K n))] M κ := cm (fun vs G ra => SpD.of ⟨n, fk, ra, q0, q1, q2, q3, rfl⟩) k
local macro_rules | `(tactic| wtm_at "c") => `(tactic| refine c_law_cast _ (by wtm_at "s") (by wtm_at "s") (by wtm_at "s") (by wtm_at "s") ?_)
theorem sc_Cast_letters : FnScope ["self"] ["self"] (defScope s_Cast_letters) := ⟨rfl, rfl, rfl, by decide +kernel, rfl, by decide +kernel, by decide +kernel⟩
theorem b_Cast_letters (T : Tx P K mg) : Binds K T.fd_Cast_letters ["self"] [] := T.F_Cast_letters.bindsN fun _ _ _ _ _ _ us hl => match us, hl with | [_], _ => rfl
def R_Cast_letters (T : Tx P K mg) : List V → Hp → List Rp → Prop := fun vs G r => ∃ (n : Nat) (cs : CSt), RA G vs [rIns T.C_Cast (castZ K T.C_Table n cs)] ∧ r = (rosN cs).map rC
theorem ok_Cast_letters (T : Tx P K mg) : FnOk P w K mg base CX0 1 T.f_Cast_letters T.fd_Cast_letters ["self"] (spN (R_Cast_letters T)) := by
  refine T.F_Cast_letters.ok sc_Cast_letters (fun vs H Q E h => ?_) (fun cdv A outer s H vs Q E hr h => ?_)
  · obtain ⟨G, r, _, ⟨n, cs, ra, _⟩, _⟩ := h
    exact ra.len
  · obtain ⟨G, r, e, ⟨n, cs, ra, rfl⟩, k⟩ := h
    refine ⟨_, PSs.nox (pss_one (ps_ret (pe_callTy (call_listK K) (by rfl) T.m_list (by decide +kernel) (pa_cons (pe_fldK K (pv 0)) pa_nil)))), ?_⟩
    refine run_N (W := fun _ _ _ _ => False) (Γ := [some (rIns T.C_Cast (castZ K T.C_Table n cs))]) ?_ e (En.start (k := 0) _ (rs := [rIns T.C_Cast (castZ K T.C_Table n cs)]) ra (by rw [ra.len]; rfl)) k
    clear ra e k
    have cc := T.c_Cast
    have n3 := T.na_Cast_roster
    refine ws_ret (e_n (xn_list (K := K) (by wtm_at "x")) fun p => ?_)
    exact ⟨p, rfl, rfl⟩
theorem c_Cast_letters (T : Tx P K mg) {M : List Re} {κ : KV} {n : Nat} {cs : CSt}  (k : κ (rL K ((rosN cs).map rC)) M) : CM (spN (R_Cast_letters T)) [rIns T.C_Cast (castZ K T.C_Table n cs)] M κ := cmn (fun vs G ra => SpN.of ⟨n, cs, ra, rfl⟩) k
theorem o_Cast_letters (T : Tx P K mg) {M : List Re} {κ : KV} {n : Nat} {cs : CSt}  (k : ∀ p, κ (rV (.ref p)) (M ++ [lstR p ((rosN cs).map rC)])) : CM (spN (R_Cast_letters T)) [rIns T.C_Cast (castZ K T.C_Table n cs)] M κ := cmo (fun vs G ra => SpN.of ⟨n, cs, ra, rfl⟩) k
local macro_rules | `(tactic| wtm_at "co") => `(tactic| refine o_Cast_letters _  ?_)
local macro_rules | `(tactic| wtm_at "c") => `(tactic| refine c_Cast_letters _  ?_)
theorem sc_Cast___contains__ : FnScope ["self", "letter"] ["self", "letter"] (defScope s_Cast___contains__) := ⟨rfl, rfl, rfl, by decide +kernel, rfl, by decide +kernel, by decide +kernel⟩
theorem b_Cast___contains__ (T : Tx P K mg) : Binds K T.fd_Cast___contains__ ["self", "letter"] [] := T.F_Cast___contains__.bindsN fun _ _ _ _ _ _ us hl => match us, hl with | [_, _], _ => rfl
def R_Cast__contains (T : Tx P K mg) : List V → Hp → Rp → Prop := fun vs G r => ∃ (n : Nat) (cs : CSt) (s : Str), RA G vs [rIns T.C_Cast (castZ K T.C_Table n cs), rV (.str s)] ∧ r = rB (valA (kvC K T.C_Table cs) (.inr s)).isSome
theorem ok_Cast___contains__ (T : Tx P K mg) : FnOk P w K mg base CX0 1 T.f_Cast___contains__ T.fd_Cast___contains__ ["self", "letter"] (spD (R_Cast__contains T)) := by
  refine T.F_Cast___contains__.ok sc_Cast___contains__ (fun vs H Q E h => ?_) (fun cdv A outer s H vs Q E hr h => ?_)
  · obtain ⟨G, r, _, ⟨n, cs, s, ra, _⟩, _⟩ := h
    exact ra.len
  · obtain ⟨G, r, e, ⟨n, cs, s, ra, rfl⟩, k⟩ := h
    refine ⟨_, PSs.nox (pss_one (ps_ret (pe_dinT hr.u1 (pv 1) (pe_fldK K (pv 0))))), ?_⟩
    refine run_D (W := fun _ _ _ _ => False) (Γ := [some (rIns T.C_Cast (castZ K T.C_Table n cs)), some (rV (.str s))]) ?_ e (En.start (k := 0) _ (rs := [rIns T.C_Cast (castZ K T.C_Table n cs), rV (.str s)]) ra (by rw [ra.len]; rfl)) k
    clear ra e k
    have cc := T.c_Cast
    have n2 := T.na_Cast_folk
    refine ws_ret (e_op (e_v rfl ?_))
    wtm_at "e"
    rfl
theorem c_Cast__contains (T : Tx P K mg) {M : List Re} {κ : KV} {n : Nat} {cs : CSt} {s : Str}  (k : κ (rB (valA (kvC K T.C_Table cs) (.inr s)).isSome) M) : CM (spD (R_Cast__contains T)) [rIns T.C_Cast (castZ K T.C_Table n cs), rV (.str s)] M κ := cm (fun vs G ra => SpD.of ⟨n, cs, s, ra, rfl⟩) k

theorem om_cin (T : Tx P K mg) {M : List Re} {κ : KV} {E : XK} {n : Nat} {cs : CSt} {s : Str} (k : κ (rB (valA (kvC K T.C_Table cs) (.inr s)).isSome) M) : OM (rOwnIn T.C_Cast false (spD (R_Cast__contains T)) E) (rV (.str s)) (rIns T.C_Cast (castZ K T.C_Table n cs)) M κ := om_inI (b := (valA (kvC K T.C_Table cs) (.inr s)).isSome) (neg := false) insC_ins (c_Cast__contains T ⟨rfl, k⟩)
theorem om_cni (T : Tx P K mg) {M : List Re} {κ : KV} {E : XK} {n : Nat} {cs : CSt} {s : Str} (k : κ (rB (!(valA (kvC K T.C_Table cs) (.inr s)).isSome)) M) : OM (rOwnIn T.C_Cast true (spD (R_Cast__contains T)) E) (rV (.str s)) (rIns T.C_Cast (castZ K T.C_Table n cs)) M κ := om_inI (b := (valA (kvC K T.C_Table cs) (.inr s)).isSome) (neg := true) insC_ins (c_Cast__contains T ⟨rfl, k⟩)
theorem om_cinL (T : Tx P K mg) {M : List Re} {κ : KV} {E : XK} {n c : Nat} {cs : CSt} (k : κ (rB (hasC cs c)) M) : OM (rOwnIn T.C_Cast false (spD (R_Cast__contains T)) E) (rC c) (rIns T.C_Cast (castZ K T.C_Table n cs)) M κ := om_cin T (by rw [has_kvC]; exact k)
theorem om_cniL (T : Tx P K mg) {M : List Re} {κ : KV} {E : XK} {n c : Nat} {cs : CSt} (k : κ (rB (!hasC cs c)) M) : OM (rOwnIn T.C_Cast true (spD (R_Cast__contains T)) E) (rC c) (rIns T.C_Cast (castZ K T.C_Table n cs)) M κ := om_cni T (by rw [has_kvC]; exact k)
local macro_rules | `(tactic| wtm_at "c") => `(tactic| refine om_cin _ ?_)
local macro_rules | `(tactic| wtm_at "c") => `(tactic| refine om_cni _ ?_)
local macro_rules | `(tactic| wtm_at "c") => `(tactic| refine om_cinL _ ?_)
local macro_rules | `(tactic| wtm_at "c") => `(tactic| refine om_cniL _ ?_)
theorem sc_BadPattern___init__ : FsScope ["self", "place"] ["self", "place"] (defScope s_BadPattern___init__) := ⟨rfl, rfl, rfl, by decide +kernel, rfl, by decide +kernel, by decide +kernel, by decide +kernel, rfl, rfl⟩
theorem b_BadPattern___init__ (T : Tx P K mg) : Binds K T.fd_BadPattern___init__ ["self", "place"] [] := by
  obtain ⟨oc, od, kV, doc, pm, an, ct, osl, e, lk⟩ := T.S_BadPattern___init__.fn
  rw [e]
  exact Binds.all fun us hl => match us, hl with | [_, _], _ => rfl
theorem ok_BadPattern___init__ (T : Tx P K mg) : FnOk P w K mg base CX0 1 T.f_BadPattern___init__ T.fd_BadPattern___init__ ["self", "place"] (spErr T.C_BadPattern ["place"]) := by
  refine T.S_BadPattern___init__.ok sc_BadPattern___init__ (fun vs H Q E h => ?_) (fun A outer s H vs Q E hr h => ?_)
  · obtain ⟨a, xs, rfl, hl, _⟩ := h
    show xs.length + 1 = 2
    rw [hl]; rfl
  · obtain ⟨a, xs, rfl, hl, ha, k⟩ := h
    match xs, hl with
    | [x0], _ =>
    refine ⟨_, psa_expr (pea_supInit T.S_BadPattern___init__ sc_BadPattern___init__ T.pf T.m_super rfl rfl rfl (pa_cons pe_str pa_nil)) (pss_one (ps_ost (pv 0) (pv 1))), ?_⟩
    refine ⟨a, T.C_BadPattern, rfl, ha, T.err_BadPattern.oex, T.err_BadPattern.me, T.err_BadPattern.sup, T.err_BadPattern.ve, ?_⟩
    refine ⟨by show 1 ≤ 1000; decide, ha, ?_⟩
    exact ⟨x0, rfl, .ref a, rfl, a, T.C_BadPattern, rfl, T.err_BadPattern.oex, T.nf_BadPattern_place, .inl ⟨ha, fun dx hd hne => k dx hd hne⟩⟩
theorem sc_check_pattern : FnScope ["cast", "pattern", "place", "sign"] ["cast", "pattern"] (defScope s_check_pattern) := ⟨rfl, rfl, rfl, by decide +kernel, rfl, by decide +kernel, by decide +kernel⟩
theorem b_check_pattern (T : Tx P K mg) : Binds K T.fd_check_pattern ["cast", "pattern"] [] := T.F_check_pattern.bindsN fun _ _ _ _ _ _ us hl => match us, hl with | [_, _], _ => rfl
theorem vs_eq {a b : Nat} : (V.str (ltr a) = V.str (ltr b)) ↔ a = b := ⟨fun h => ltr_inj.mp (V.str.inj h), fun h => by rw [h]⟩
theorem v63 {c : Nat} : (V.str (ltr c) = V.str "?") ↔ c = 63 := vs_eq (b := 63)
theorem s42 {c : Nat} : (ltr c = Str.ofString "*") ↔ c = 42 := ltr_inj (b := 42)
theorem v42 {c : Nat} : (V.str (ltr c) = V.str "*") ↔ c = 42 := vs_eq (b := 42)

theorem x_eqS0 {Γ : Mu.Ctx} {ta tb : TE} {K : PySem.W.Frag} {l : List Str} (hl : ∀ s ∈ l, PyData.strOk s = true) (ha : EvX Γ ta (rL K (l.map rS))) (hb : EvX Γ tb (rL K [])) : EvX Γ (tOp (rEqD K) ta tb) (rB (decide (l = []))) := by
  have key : (l.map PyData.str).length ≤ l.length := by rw [List.length_map]; exact Nat.le_refl _
  have sh : ∀ l : List Str, (∀ s ∈ l, PyData.strOk s = true) → PyData.canLayAll0 (l.map .str) = true ∧ PyData.depthAll (l.map .str) ≤ 1 := fun l => by
    induction l with
    | nil => intro _; exact ⟨rfl, Nat.zero_le _⟩
    | cons a l ih =>
      intro h
      obtain ⟨i1, i2⟩ := ih fun s hs => h s (List.mem_cons_of_mem _ hs)
      refine ⟨?_, ?_⟩
      · rw [List.map_cons, PyData.canLayAll0, i1]
        unfold PyData.canLay0
        rw [h a List.mem_cons_self]; rfl
      · rw [List.map_cons, PyData.depthAll]
        unfold PyData.depth
        exact Nat.max_le.mpr ⟨by omega, i2⟩
  have s1 : Sh 2 (.list (l.map .str)) := ⟨by unfold PyData.canLay0; exact (sh l hl).1, by have := (sh l hl).2; unfold PyData.depth; omega⟩
  have s2 : Sh 2 (.list []) := ⟨by unfold PyData.canLay0; rfl, by unfold PyData.depth PyData.depthAll; omega⟩
  refine x_is (x_eqD ha hb (asd_list asd_str l) (asd_list (ρ := rS) asd_str []) (s1.ok (by decide)) (s2.ok (by decide))) ?_
  cases l with
  | nil => simp [PyData.eqv, PyData.eqvAll]
  | cons a l => simp [PyData.eqv, PyData.eqvAll]
def okS (cs : CSt) (i c : Nat) : Bool := decide (i < 12) && (decide (c = 63) || (decide (c = 42) || hasC cs c))
def badP (cs : CSt) : List Nat → Nat → Option Nat
  | [], _ => none
  | c :: r, i => if okS cs i c = true then badP cs r (i + 1) else some i
def patO {α : Type} (U : Addr) (cs : CSt) (pat : List Nat) (x : α ⊕ (Value × List (Str × V))) : α ⊕ (Value × List (Str × V)) := match badP cs pat 0 with
  | some i => .inr (.ref U, [("place", .int (i : Int))])
  | none => x
theorem badP_none {cs : CSt} : ∀ {pat : List Nat} {i : Nat}, i + pat.length ≤ 12 → (∀ c ∈ pat, c = 63 ∨ c = 42 ∨ hasC cs c = true) → badP cs pat i = none
  | [], _, _, _ => rfl
  | c :: r, i, h, hc => by
    rw [List.length_cons] at h
    have h1 : okS cs i c = true := by
      unfold okS
      rw [decide_eq_true (show i < 12 by omega), Bool.true_and]
      rcases hc c List.mem_cons_self with z | z | z <;> simp [z]
    rw [badP, if_pos h1]
    exact badP_none (by omega) fun x hx => hc x (List.mem_cons_of_mem _ hx)
theorem pat_good {α : Type} {U : Addr} {cs : CSt} {pat : List Nat} {x : α ⊕ (Value × List (Str × V))} (h : badP cs pat 0 = none) : patO U cs pat x = x := by
  unfold patO; rw [h]
theorem pat_bad {α : Type} {U : Addr} {cs : CSt} {pat : List Nat} {i : Nat} {x : α ⊕ (Value × List (Str × V))} (h : badP cs pat 0 = some i) : patO U cs pat x = .inr (.ref U, [("place", .int (i : Int))]) := by
  unfold patO; rw [h]
def opB (pat ps : List Nat) : Nat → Bool
  | 0 => decide (0 ∈ ps)
  | p + 1 => decide (p + 1 ∈ ps) || (decide (pat[p]? = some 42) && opB pat ps p)
def opL (pat ps : List Nat) : List Nat := (List.range (pat.length + 1)).filter (opB pat ps)
def stepP (pat : List Nat) (c p : Nat) : List Nat := match pat[p]? with
  | none => []
  | some s => if s = 42 then [p] else if s = 63 ∨ s = c then [p + 1] else []
def nextP (pat ps : List Nat) (c : Nat) : List Nat := opL pat (ps.flatMap (stepP pat c))
def matN (pat row : List Nat) : Bool := decide (pat.length ∈ row.foldl (nextP pat) (opL pat [0]))
def endsL (row ends : List Nat) (s : Nat) : List Nat := if s = 42 then (List.range (row.length + 1)).filter (fun j => !decide (ends = []) && decide (ends.headD 0 ≤ j)) else (ends.filter fun j => decide (j < row.length) && (decide (s = 63) || decide (row[j]? = some s))).map (· + 1)
def matL (pat row : List Nat) : Bool := decide (row.length ∈ pat.foldl (endsL row) [0])
def EP (pat row : List Nat) : Nat → Nat → Bool
  | 0, j => decide (j = 0)
  | i + 1, j => match pat[i]? with
    | none => false
    | some s => if s = 42 then (List.range (j + 1)).any (EP pat row i) else match j with
      | 0 => false
      | j' + 1 => EP pat row i j' && (decide (s = 63) || decide (row[j']? = some s))
section
variable {pat row : List Nat} {i j s : Nat}
theorem ep_star (h : pat[i]? = some 42) : EP pat row (i + 1) j = true ↔ ∃ k, k ≤ j ∧ EP pat row i k = true := by
  rw [EP, h]
  dsimp only
  rw [if_pos rfl, List.any_eq_true]
  exact ⟨fun ⟨k, hk, e⟩ => ⟨k, Nat.lt_succ_iff.mp (List.mem_range.mp hk), e⟩, fun ⟨k, hk, e⟩ => ⟨k, List.mem_range.mpr (Nat.lt_succ_iff.mpr hk), e⟩⟩
theorem ep_starS (h : pat[i]? = some 42) : EP pat row (i + 1) (j + 1) = true ↔ EP pat row (i + 1) j = true ∨ EP pat row i (j + 1) = true := by
  rw [ep_star h, ep_star h]
  constructor
  · rintro ⟨k, hk, e⟩
    rcases Nat.lt_or_ge j k with z | z
    · right
      rw [show j + 1 = k by omega]; exact e
    · exact .inl ⟨k, z, e⟩
  · rintro (⟨k, hk, e⟩ | e)
    · exact ⟨k, by omega, e⟩
    · exact ⟨j + 1, Nat.le_refl _, e⟩
theorem ep_star0 (h : pat[i]? = some 42) : EP pat row (i + 1) 0 = true ↔ EP pat row i 0 = true := by
  rw [ep_star h]
  exact ⟨fun ⟨k, hk, e⟩ => by rw [show k = 0 by omega] at e; exact e, fun e => ⟨0, Nat.le_refl _, e⟩⟩
theorem ep_sign (h : pat[i]? = some s) (n : s ≠ 42) : EP pat row (i + 1) (j + 1) = true ↔ EP pat row i j = true ∧ (s = 63 ∨ row[j]? = some s) := by
  rw [EP, h]
  dsimp only
  rw [if_neg n]
  simp
theorem ep_sign0 (h : pat[i]? = some s) (n : s ≠ 42) : EP pat row (i + 1) 0 = false := by
  rw [EP, h]
  dsimp only
  rw [if_neg n]
theorem mem_next {ps : List Nat} {c p : Nat} : p ∈ ps.flatMap (stepP pat c) ↔ (p ∈ ps ∧ pat[p]? = some 42) ∨ ∃ q, p = q + 1 ∧ q ∈ ps ∧ ∃ s, pat[q]? = some s ∧ s ≠ 42 ∧ (s = 63 ∨ s = c) := by
  rw [List.mem_flatMap]
  constructor
  · rintro ⟨q, hq, h⟩
    unfold stepP at h
    cases e : pat[q]? with
    | none => rw [e] at h; exact nomatch h
    | some s =>
      rw [e] at h
      dsimp only at h
      by_cases z : s = 42
      · rw [if_pos z] at h
        obtain rfl := List.mem_singleton.mp h
        exact .inl ⟨hq, by rw [e, z]⟩
      · rw [if_neg z] at h
        by_cases y : s = 63 ∨ s = c
        · rw [if_pos y] at h
          exact .inr ⟨q, List.mem_singleton.mp h, hq, s, e, z, y⟩
        · rw [if_neg y] at h; exact nomatch h
  · rintro (⟨hq, e⟩ | ⟨q, rfl, hq, s, e, z, y⟩)
    · refine ⟨p, hq, ?_⟩
      unfold stepP
      rw [e]; simp
    · refine ⟨q, hq, ?_⟩
      unfold stepP
      rw [e]
      dsimp only
      rw [if_neg z, if_pos y]
      exact List.mem_singleton.mpr rfl
theorem mem_opL {ps : List Nat} {p : Nat} : p ∈ opL pat ps ↔ p ≤ pat.length ∧ opB pat ps p = true := by
  unfold opL
  rw [List.mem_filter, List.mem_range, Nat.lt_succ_iff]
def AtP (pat row : List Nat) (j p : Nat) : Prop := EP pat row p j = true ∨ (pat[p]? = some 42 ∧ EP pat row (p + 1) j = true)
theorem at_start : ∀ p, p ≤ pat.length → (opB pat [0] p = true ↔ AtP pat row 0 p)
  | 0, _ => by
    unfold AtP opB EP
    simp
  | p + 1, h => by
    have ih := at_start p (by omega)
    unfold opB
    rw [Bool.or_eq_true_iff, Bool.and_eq_true_iff, decide_eq_true_iff, decide_eq_true_iff, ih]
    unfold AtP
    obtain ⟨s, hs⟩ : ∃ s, pat[p]? = some s := ⟨_, List.getElem?_eq_getElem (by omega)⟩
    constructor
    · rintro (z | ⟨z, y⟩)
      · simp at z
      · left
        rcases y with y | y
        · exact (ep_star0 z).mpr y
        · exact y.2
    · intro z
      have z : EP pat row (p + 1) 0 = true := by
        rcases z with z | z
        · exact z
        · exact (ep_star0 z.1).mp z.2
      right
      by_cases n : s = 42
      · rw [n] at hs
        exact ⟨hs, .inl ((ep_star0 hs).mp z)⟩
      · rw [ep_sign0 hs n] at z; exact nomatch z
theorem at_next {ps : List Nat} {c : Nat} (hc : row[j]? = some c) (hp : ∀ p, p ≤ pat.length → (p ∈ ps ↔ AtP pat row j p)) : ∀ p, p ≤ pat.length → (opB pat (ps.flatMap (stepP pat c)) p = true ↔ AtP pat row (j + 1) p)
  | 0, h => by
    unfold opB AtP
    rw [decide_eq_true_iff, mem_next]
    constructor
    · rintro (⟨_, e⟩ | ⟨q, z, _⟩)
      · exact .inr ⟨e, (ep_star e).mpr ⟨0, by omega, by simp [EP]⟩⟩
      · omega
    · rintro (z | ⟨e, _⟩)
      · simp [EP] at z
      · exact .inl ⟨(hp 0 h).mpr (.inr ⟨e, (ep_star e).mpr ⟨0, by omega, by simp [EP]⟩⟩), e⟩
  | p + 1, h => by
    have ih := at_next hc hp p (by omega)
    obtain ⟨s, hs⟩ : ∃ s, pat[p]? = some s := ⟨_, List.getElem?_eq_getElem (by omega)⟩
    unfold opB
    rw [Bool.or_eq_true_iff, Bool.and_eq_true_iff, decide_eq_true_iff, decide_eq_true_iff, ih, mem_next]
    constructor
    · rintro ((⟨z, e⟩ | ⟨q, e, hq, s', hs', n, y⟩) | ⟨e, z⟩)
      · refine .inr ⟨e, (ep_starS e).mpr (.inl ?_)⟩
        rcases (hp (p + 1) h).mp z with y | y
        · exact (ep_star e).mpr ⟨j, Nat.le_refl _, y⟩
        · exact y.2
      · obtain rfl : p = q := by omega
        refine .inl ((ep_sign hs' n).mpr ⟨?_, ?_⟩)
        · rcases (hp p (by omega)).mp hq with z | z
          · exact z
          · rw [hs'] at z
            exact absurd (Option.some.inj z.1) n
        · rcases y with y | y
          · exact .inl y
          · right; rw [y]; exact hc
      · refine .inl ?_
        rcases z with z | z
        · exact (ep_star e).mpr ⟨j + 1, Nat.le_refl _, z⟩
        · exact z.2
    · have key : EP pat row (p + 1) (j + 1) = true → ((p + 1 ∈ ps ∧ pat[p + 1]? = some 42) ∨ ∃ q, p + 1 = q + 1 ∧ q ∈ ps ∧ ∃ s, pat[q]? = some s ∧ s ≠ 42 ∧ (s = 63 ∨ s = c)) ∨ (pat[p]? = some 42 ∧ AtP pat row (j + 1) p) := fun z => by
        by_cases n : s = 42
        · rw [n] at hs
          exact .inr ⟨hs, .inr ⟨hs, z⟩⟩
        · obtain ⟨z1, z2⟩ := (ep_sign hs n).mp z
          refine .inl (.inr ⟨p, rfl, (hp p (by omega)).mpr (.inl z1), s, hs, n, ?_⟩)
          rcases z2 with z2 | z2
          · exact .inl z2
          · rw [hc] at z2
            exact .inr (Option.some.inj z2).symm
      rintro (z | ⟨e, z⟩)
      · exact key z
      · rcases (ep_starS e).mp z with y | y
        · exact .inl (.inl ⟨(hp (p + 1) h).mpr (.inr ⟨e, y⟩), e⟩)
        · exact key y
theorem st_ok : ∀ j, j ≤ row.length → ∀ p, p ≤ pat.length → (p ∈ (row.take j).foldl (nextP pat) (opL pat [0]) ↔ AtP pat row j p)
  | 0, _, p, hp => by
    rw [List.take_zero, List.foldl_nil, mem_opL]
    exact ⟨fun z => (at_start p hp).mp z.2, fun z => ⟨hp, (at_start p hp).mpr z⟩⟩
  | j + 1, h, p, hp => by
    obtain ⟨c, hc⟩ : ∃ c, row[j]? = some c := ⟨_, List.getElem?_eq_getElem (by omega)⟩
    rw [List.take_add_one, hc, Option.toList, List.foldl_append, List.foldl_cons, List.foldl_nil]
    show p ∈ opL pat _ ↔ _
    rw [mem_opL]
    have z := at_next hc (st_ok j (by omega)) p hp
    exact ⟨fun y => z.mp y.2, fun y => ⟨hp, z.mpr y⟩⟩
theorem ends_ok : ∀ i, i ≤ pat.length → ((pat.take i).foldl (endsL row) [0]).Pairwise (· < ·) ∧ ∀ j, j ∈ (pat.take i).foldl (endsL row) [0] ↔ j ≤ row.length ∧ EP pat row i j = true
  | 0, _ => by
    rw [List.take_zero, List.foldl_nil]
    refine ⟨List.pairwise_singleton _ _, fun j => ?_⟩
    rw [List.mem_singleton, EP, decide_eq_true_iff]
    exact ⟨fun e => ⟨by omega, e⟩, fun e => e.2⟩
  | i + 1, h => by
    obtain ⟨ih1, ih2⟩ := ends_ok i (by omega)
    obtain ⟨s, hs⟩ : ∃ s, pat[i]? = some s := ⟨_, List.getElem?_eq_getElem (by omega)⟩
    rw [List.take_add_one, hs, Option.toList, List.foldl_append, List.foldl_cons, List.foldl_nil]
    generalize (pat.take i).foldl (endsL row) [0] = en at ih1 ih2 ⊢
    unfold endsL
    by_cases n : s = 42
    · rw [if_pos n]
      rw [n] at hs
      refine ⟨List.pairwise_lt_range.filter _, fun j => ?_⟩
      rw [List.mem_filter, List.mem_range, Nat.lt_succ_iff, ep_star hs]
      refine and_congr_right fun hj => ?_
      cases en with
      | nil =>
        constructor
        · intro z; simp at z
        · rintro ⟨k, hk, e⟩
          exact nomatch (ih2 k).mpr ⟨by omega, e⟩
      | cons a t =>
        rw [show (!decide (a :: t = []) && decide ((a :: t).headD 0 ≤ j)) = decide (a ≤ j) by simp, decide_eq_true_iff]
        constructor
        · intro z
          exact ⟨a, z, ((ih2 a).mp List.mem_cons_self).2⟩
        · rintro ⟨k, hk, e⟩
          rcases List.mem_cons.mp ((ih2 k).mpr ⟨by omega, e⟩) with z | z
          · omega
          · have := (List.pairwise_cons.mp ih1).1 k z
            omega
    · rw [if_neg n]
      refine ⟨(ih1.filter _).map _ (fun a b z => Nat.succ_lt_succ z), fun j => ?_⟩
      rw [List.mem_map]
      cases j with
      | zero =>
        rw [ep_sign0 hs n]
        exact ⟨(fun ⟨a, _, z⟩ => nomatch z), fun z => nomatch z.2⟩
      | succ j =>
        rw [ep_sign hs n]
        constructor
        · rintro ⟨a, ha, z⟩
          obtain rfl : a = j := by omega
          obtain ⟨h1, h2⟩ := List.mem_filter.mp ha
          obtain ⟨h3, h4⟩ := Bool.and_eq_true_iff.mp h2
          refine ⟨of_decide_eq_true h3, ((ih2 a).mp h1).2, ?_⟩
          simpa using h4
        · rintro ⟨hj, e, y⟩
          refine ⟨j, List.mem_filter.mpr ⟨(ih2 j).mpr ⟨by omega, e⟩, ?_⟩, rfl⟩
          rw [decide_eq_true (show j < row.length by omega), Bool.true_and]
          simpa using y
theorem matN_L : matN pat row = matL pat row := by
  have h1 := st_ok (pat := pat) (row := row) row.length (Nat.le_refl _) pat.length (Nat.le_refl _)
  have h2 := (ends_ok (pat := pat) (row := row) pat.length (Nat.le_refl _)).2 row.length
  rw [List.take_length] at h1 h2
  unfold matN matL
  refine decide_eq_decide.mpr (h1.trans (Iff.trans ?_ h2.symm))
  unfold AtP
  rw [List.getElem?_eq_none (Nat.le_refl _)]
  exact ⟨fun z => z.elim (fun z => ⟨Nat.le_refl _, z⟩) (fun z => nomatch z.1), fun z => Or.inl z.2⟩
theorem matL_nil : matL [] row = decide (row = []) := by
  unfold matL
  rw [List.foldl_nil]
  cases row <;> simp
end

def R_check_pattern (T : Tx P K mg) : List V → Hp → Out → Prop := fun vs G o => ∃ (n : Nat) (cs : CSt) (pat : List Nat), RA G vs [rIns T.C_Cast (castZ K T.C_Table n cs), rSt pat] ∧ o = patO T.C_BadPattern cs pat (.inl (rV .non))
theorem ok_check_pattern (T : Tx P K mg) : FnOk P w K mg base (L2N.CX P w) 3 T.f_check_pattern T.fd_check_pattern ["cast", "pattern"] (spO (R_check_pattern T)) := by
  refine T.F_check_pattern.ok sc_check_pattern (fun vs H Q E h => ?_) (fun cdv A outer s H vs Q E hr h => ?_)
  · obtain ⟨G, o, _, ⟨n, cs, pat, ra, _⟩, _⟩ := h
    exact ra.len
  · obtain ⟨G, o, e, ⟨n, cs, pat, ra, rfl⟩, k1, k2⟩ := h
    refine ⟨_, (pss_one (ps_for (passes_of rfl) rfl (pi_enumS (by rfl) T.m_enumerate (pa_cons (pv 1) pa_nil)) (pg_tup rfl (pgs_cons (pg_name (i := 2) sc_check_pattern.nd rfl (Or.inl rfl)) (pgs_cons (pg_name (i := 3) sc_check_pattern.nd rfl (Or.inl rfl)) pgs_nil))) (pss_one (ps_if (PW.pt (pw_or (pt_cmpR op_ge (pv 2) (pe_glob (v := .int 12) (by rfl) T.gi_MOST_SIGNS.choose_spec ⟨_, rfl⟩) (nomark _)) (pw_or1 (PW.pt (pw_and (pt_cmpR op_ne (pv 3) pe_str (nomark _)) (pw_and (pt_cmpR op_ne (pv 3) pe_str (nomark _)) (pw_and1 (pt_cmpR (notIn_own T.d_Cast___contains__ (ok_Cast___contains__ T) (hr.mono (by decide)) (b_Cast___contains__ T) pass0) (pv 3) (pv 0) rfl)))))))) (pss_one (L2N.ps_raise rfl (L2N.takes_of rfl rfl rfl rfl) (pmk_err T.err_BadPattern (ok_BadPattern___init__ T) (hr.mono (by decide)) (b_BadPattern___init__ T) pass0 (by rfl) T.g_BadPattern (pa_cons (pv 2) pa_nil)))) pss_nil)))), ?_⟩
    refine run_O (Γ := [some (rIns T.C_Cast (castZ K T.C_Table n cs)), some (rSt pat), none, none]) ?_ e (En.start (k := 2) _ (rs := [rIns T.C_Cast (castZ K T.C_Table n cs), rSt pat]) ra (by rw [ra.len]; rfl)) k1 k2
    clear ra e k1 k2
    have cc := T.c_Cast
    have n2 := T.na_Cast_folk
    refine w_forES (K := K) (s := sL pat) (fun i (_ : Unit) => badP cs pat 0 = badP cs (pat.drop i) i) (fun _ _ => [some (rIns T.C_Cast (castZ K T.C_Table n cs)), some (rSt pat), none, none]) (fun _ _ => []) (x_v rfl) () rfl (by wtm_at "sub") rfl (fun i _ c hi hP => ?_) (fun _ hP => ?_)
    · have hi : pat[i]? = some c := hi
      have hd : pat.drop i = c :: pat.drop (i + 1) := by
        rw [List.drop_eq_getElem_cons (List.getElem?_eq_some_iff.mp hi).1, (List.getElem?_eq_some_iff.mp hi).2]
      dsimp only [List.set]
      apply w_if (b := !okS cs i c)
      · apply t_is
        · wtm_at "t"
        · unfold okS
          simp only [v63, v42, has_kvC]
          by_cases h1 : i < 12 <;> by_cases h2 : c = 63 <;> by_cases h3 : c = 42 <;> cases hasC cs c <;> simp [h1, h2, h3] <;> omega
      · intro hb
        refine ws_raise1 (x := .int (i : Int)) (x_v rfl) ?_
        show patO _ _ _ _ = _
        refine pat_bad ?_
        rw [hP, hd]
        unfold badP
        rw [if_neg (by simpa using hb)]
      · intro hb
        refine w_nx ⟨(), ?_, by wtm_at "sub", rfl⟩
        rw [hP, hd, badP, if_pos (by simpa using hb)]
    · show patO _ _ _ _ = _
      refine pat_good ?_
      rw [hP, List.drop_of_length_le (by rw [sL_cps]; exact Nat.le_refl _)]
      rfl
theorem c_check_pattern (T : Tx P K mg) {M : List Re} {κ : KV} {n : Nat} {cs : CSt} {pat : List Nat}  {r : Rp} (eo : patO T.C_BadPattern cs pat (.inl (rV .non)) = .inl r) (k : κ r M) : CM (spO (R_check_pattern T)) [rIns T.C_Cast (castZ K T.C_Table n cs), rSt pat] M κ := cmO (fun vs G ra => ⟨n, cs, pat, ra, eo.symm⟩) k
theorem xq_check_pattern (T : Tx P K mg) {M : List Re} {κ : KV} {ε : KX} {n : Nat} {cs : CSt} {pat : List Nat}  {r : Rp} (eo : patO T.C_BadPattern cs pat (.inl (rV .non)) = .inl r) (k : κ r M) : XM (spO (R_check_pattern T)) [rIns T.C_Cast (castZ K T.C_Table n cs), rSt pat] M κ ε := xm (fun vs G ra => ⟨n, cs, pat, ra, eo.symm⟩) k
theorem xe_check_pattern (T : Tx P K mg) {M : List Re} {κ : KV} {ε : KX} {n : Nat} {cs : CSt} {pat : List Nat}  {c : Value} {fs : List (Str × V)} (eo : patO T.C_BadPattern cs pat (.inl (rV .non)) = .inr (c, fs)) (k : ε c fs M) : XM (spO (R_check_pattern T)) [rIns T.C_Cast (castZ K T.C_Table n cs), rSt pat] M κ ε := xmx (fun vs G ra => ⟨n, cs, pat, ra, eo.symm⟩) k
local macro_rules | `(tactic| wtm_at "c") => `(tactic| refine xe_check_pattern _  (by assumption) ?_)
local macro_rules | `(tactic| wtm_at "c") => `(tactic| refine xq_check_pattern _  (by assumption) ?_)
local macro_rules | `(tactic| wtm_at "c") => `(tactic| refine c_check_pattern _  (by assumption) ?_)
theorem sc_open_places : FnScope ["pattern", "places", "found", "place", "skipped"] ["pattern", "places"] (defScope s_open_places) := ⟨rfl, rfl, rfl, by decide +kernel, rfl, by decide +kernel, by decide +kernel⟩
theorem b_open_places (T : Tx P K mg) : Binds K T.fd_open_places ["pattern", "places"] [] := T.F_open_places.bindsN fun _ _ _ _ _ _ us hl => match us, hl with | [_, _], _ => rfl
def R_open_places (T : Tx P K mg) : List V → Hp → List Rp → Prop := fun vs G r => ∃ (pat ps : List Nat), RA G vs [rSt pat, rLn K ps] ∧ (pat.length ≤ 12) ∧ r = (opL pat ps).map nI
theorem ok_open_places (T : Tx P K mg) : FnOk P w K mg base CX0 1 T.f_open_places T.fd_open_places ["pattern", "places"] (spN (R_open_places T)) := by
  refine T.F_open_places.ok sc_open_places (fun vs H Q E h => ?_) (fun cdv A outer s H vs Q E hr h => ?_)
  · obtain ⟨G, r, _, ⟨pat, ps, ra, _⟩, _⟩ := h
    exact ra.len
  · obtain ⟨G, r, e, ⟨pat, ps, ra, q0, rfl⟩, k⟩ := h
    refine ⟨_, PSs.nox (pss_cons (ps_set (i := 2) sc_open_places.nd rfl (Or.inl rfl) (pe_lst pa_nil))
      (pss_cons (ps_for PassesOwn.never rfl (pi_range1 (by rfl) T.m_range (pa_cons (pe_op op_add (pe_callB call_lenT (by rfl) T.m_len PySem.boot_len (pa_cons (pv 0) pa_nil)) pe_int) pa_nil)) (pg_name (i := 3) sc_open_places.nd rfl (Or.inl rfl)) (pss_cons (ps_set (i := 4) sc_open_places.nd rfl (Or.inl rfl) (pe_and (pe_cmpR op_gt (pv 3) pe_int (nomark _)) (pe_and (pe_cmpR op_eq (pe_ix ix_str (pv 0) (pe_op op_sub (pv 3) pe_int) (fun _ _ => rfl)) pe_str (nomark _)) (pe_one (pe_cmpR (op_inK K) (pe_op op_sub (pv 3) pe_int) (pv 2) rfl)))))
      (pss_one (ps_if (PW.pt (pw_or (pt_cmpR (op_inK K) (pv 3) (pv 1) rfl) (pw_or1 (pt_val (pv 4))))) (pss_one (ps_expr (pe_bm PySem.F.plainAttrs_list PySem.F.slot_list_append PySem.F.type_list_append mt_append (pv 2) (pa_cons (pv 3) pa_nil)))) pss_nil))))
      (pss_one (ps_ret (pv 2))))), ?_⟩
    refine run_N (W := fun _ _ _ _ => False) (Γ := [some (rSt pat), some (rLn K ps), none, none, none]) ?_ e (En.start (k := 3) _ (rs := [rSt pat, rLn K ps]) ra (by rw [ra.len]; rfl)) k
    clear ra e k
    refine w_seq (ws_set (e_lstN (a_nil ⟨by decide, fun p => ?_⟩)))
    try dsimp only [List.set, List.cons_append, List.nil_append]
    refine w_seq (w_forR (pat.length + 1) (fun _ (_ : Unit) => True) (fun _ _ => [some (rSt pat), some (rLn K ps), some (rV (.ref p)), none, none]) (fun i _ => [lstR p (((List.range i).filter (opB pat ps)).map nI)]) (by wtm_at "x") (by omega) () trivial (by wtm_at "sub") rfl (fun i _ hi _ => ?_) (fun _ _ => ?_))
    · dsimp only [List.set]
      refine w_cut (fun b : Bool => (decide (i ∈ ps) || b) = opB pat ps i) (fun b => [some (rSt pat), some (rLn K ps), some (rV (.ref p)), some (nI i), some (rB b)]) ?_ fun b hb => ?_
      · cases i with
        | zero =>
          refine ws_set (e_bor (r := rB false) (bc_set (i := 2) bc_refl rfl (br_lst1 (K := K) (k := 0) rfl)) ?_ lf_v ⟨false, (by rw [opB, Bool.or_false]), by wtm_at "sub", rfl⟩)
          dsimp only [List.set]
          apply x_is
          · wtm_at "x"
          · simp
        | succ q =>
          obtain ⟨s, hs⟩ : ∃ s, pat[q]? = some s := ⟨_, List.getElem?_eq_getElem (by omega)⟩
          refine ws_set (e_bor (r := rB (decide (pat[q]? = some 42) && opB pat ps q)) (bc_set (i := 2) bc_refl rfl (br_lst1 (K := K) (k := 0) rfl)) ?_ lf_v ⟨_, (by rw [opB]), by wtm_at "sub", rfl⟩)
          dsimp only [List.set]
          apply x_is
          · wtm_at "x"
          · rw [hs]
            simp [s42]
      · apply w_if (b := opB pat ps i)
        · apply t_is
          · wtm_at "t"
          · rw [← hb]
        · intro hb
          refine ws_do (e_app 0 rfl ?_ rfl)
          have hol : (((List.range i).filter (opB pat ps)).map nI).length < 50000 := by
            rw [List.length_map]
            have := List.length_filter_le (opB pat ps) (List.range i)
            rw [List.length_range] at this
            omega
          wtm_at "e"
          refine ⟨(), trivial, by wtm_at "sub", ?_⟩
          show _ = [lstR p (((List.range (i + 1)).filter (opB pat ps)).map nI)]
          rw [List.range_succ, List.filter_append, List.map_append, List.filter_cons, if_pos hb]
          rfl
        · intro hb
          refine w_nx ⟨(), trivial, by wtm_at "sub", ?_⟩
          show _ = [lstR p (((List.range (i + 1)).filter (opB pat ps)).map nI)]
          rw [List.range_succ, List.filter_append, List.filter_cons, if_neg (by rw [hb]; decide), List.filter_nil, List.append_nil]
    · exact ws_ret (e_v rfl ⟨p, rfl, rfl⟩)
theorem c_open_places (T : Tx P K mg) {M : List Re} {κ : KV} {pat ps : List Nat} (q0 : pat.length ≤ 12) (k : κ (rL K ((opL pat ps).map nI)) M) : CM (spN (R_open_places T)) [rSt pat, rLn K ps] M κ := cmn (fun vs G ra => SpN.of ⟨pat, ps, ra, q0, rfl⟩) k
theorem o_open_places (T : Tx P K mg) {M : List Re} {κ : KV} {pat ps : List Nat} (q0 : pat.length ≤ 12) (k : ∀ p, κ (rV (.ref p)) (M ++ [lstR p ((opL pat ps).map nI)])) : CM (spN (R_open_places T)) [rSt pat, rLn K ps] M κ := cmo (fun vs G ra => SpN.of ⟨pat, ps, ra, q0, rfl⟩) k

theorem x_open (T : Tx P K mg) {Γ : Mu.Ctx} {tp ts : TE} {E : XK} {pat ps : List Nat} (hp : EvX Γ tp (rSt pat)) (hs : EvX Γ ts (rLn K ps)) (hl : pat.length ≤ 12) : EvX Γ (tCall (spN (R_open_places T)) [] E (tCons tp (tCons ts tNil))) (rLn K (opL pat ps)) :=
  EvNX.d (K := K) (xn_call (xa_cons hp (xa_cons hs xa_nil)) fun vs G ra => SpN.of ⟨pat, ps, ra, hl, rfl⟩)
local macro_rules | `(tactic| wtm_at "co") => `(tactic| refine o_open_places _ (by wtm_at "s") ?_)
local macro_rules | `(tactic| wtm_at "c") => `(tactic| refine c_open_places _ (by wtm_at "s") ?_)
theorem sc_next_places : FnScope ["pattern", "places", "letter", "found", "place", "sign"] ["pattern", "places", "letter"] (defScope s_next_places) := ⟨rfl, rfl, rfl, by decide +kernel, rfl, by decide +kernel, by decide +kernel⟩
theorem b_next_places (T : Tx P K mg) : Binds K T.fd_next_places ["pattern", "places", "letter"] [] := T.F_next_places.bindsN fun _ _ _ _ _ _ us hl => match us, hl with | [_, _, _], _ => rfl
def R_next_places (T : Tx P K mg) : List V → Hp → List Rp → Prop := fun vs G r => ∃ (pat ps : List Nat) (c : Nat), RA G vs [rSt pat, rLn K ps, rC c] ∧ (pat.length ≤ 12) ∧ (ps.length ≤ 13) ∧ r = (nextP pat ps c).map nI
theorem ok_next_places (T : Tx P K mg) : FnOk P w K mg base CX0 2 T.f_next_places T.fd_next_places ["pattern", "places", "letter"] (spN (R_next_places T)) := by
  refine T.F_next_places.ok sc_next_places (fun vs H Q E h => ?_) (fun cdv A outer s H vs Q E hr h => ?_)
  · obtain ⟨G, r, _, ⟨pat, ps, c, ra, _⟩, _⟩ := h
    exact ra.len
  · obtain ⟨G, r, e, ⟨pat, ps, c, ra, q0, q1, rfl⟩, k⟩ := h
    refine ⟨_, PSs.nox (pss_cons (ps_set (i := 3) sc_next_places.nd rfl (Or.inl rfl) (pe_lst pa_nil))
      (pss_cons (ps_for PassesOwn.never rfl (pi_listK K (pv 1)) (pg_name (i := 4) sc_next_places.nd rfl (Or.inl rfl)) (pss_one (ps_if (pt_cmpR op_lt (pv 4) (pe_callB call_lenT (by rfl) T.m_len PySem.boot_len (pa_cons (pv 0) pa_nil)) (nomark _)) (pss_cons (ps_set (i := 5) sc_next_places.nd rfl (Or.inl rfl) (pe_ix ix_str (pv 0) (pv 4) (fun _ _ => rfl)))
      (pss_one (ps_if (pt_cmpR op_eq (pv 5) pe_str (nomark _)) (pss_one (ps_expr (pe_bm PySem.F.plainAttrs_list PySem.F.slot_list_append PySem.F.type_list_append mt_append (pv 3) (pa_cons (pv 4) pa_nil)))) (pss_one (ps_if (PW.pt (pw_or (pt_cmpR op_eq (pv 5) pe_str (nomark _)) (pw_or1 (pt_cmpR op_eq (pv 5) (pv 2) (nomark _))))) (pss_one (ps_expr (pe_bm PySem.F.plainAttrs_list PySem.F.slot_list_append PySem.F.type_list_append mt_append (pv 3) (pa_cons (pe_op op_add (pv 4) pe_int) pa_nil)))) pss_nil))))) pss_nil)))
      (pss_one (ps_ret (pe_call (ok_open_places T) (hr.mono (by decide)) (by rfl) T.g_open_places T.F_open_places.kp (b_open_places T) .nil pass0 (pa_cons (pv 0) (pa_cons (pv 3) pa_nil))))))), ?_⟩
    refine run_N (W := fun _ _ _ _ => False) (Γ := [some (rSt pat), some (rLn K ps), some (rC c), none, none, none]) ?_ e (En.start (k := 3) _ (rs := [rSt pat, rLn K ps, rC c]) ra (by rw [ra.len]; rfl)) k
    clear ra e k
    refine w_seq (ws_set (e_lstN (a_nil ⟨by decide, fun p => ?_⟩)))
    try dsimp only [List.set, List.cons_append, List.nil_append]
    have key : ∀ i q, ps[i]? = some q → (ps.take (i + 1)).flatMap (stepP pat c) = (ps.take i).flatMap (stepP pat c) ++ stepP pat c q := fun i q h => by
      rw [List.take_add_one, h, Option.toList, List.flatMap_append]
      simp
    have hsz : ∀ i, ((ps.take i).flatMap (stepP pat c)).length ≤ 13 := fun i => by
      have h1 : ∀ l : List Nat, (l.flatMap (stepP pat c)).length ≤ l.length := fun l => by
        induction l with
        | nil => exact Nat.le_refl _
        | cons a l ih =>
          rw [List.flatMap_cons, List.length_append, List.length_cons]
          have : (stepP pat c a).length ≤ 1 := by
            unfold stepP
            cases pat[a]? with
            | none => exact Nat.zero_le _
            | some s =>
              dsimp only
              split
              · exact Nat.le_refl _
              · split
                · exact Nat.le_refl _
                · exact Nat.zero_le _
          omega
      have := h1 (ps.take i)
      rw [List.length_take] at this
      omega
    refine w_seq (w_forL (K := K) ps nI (fun _ (_ : Unit) => True) (fun _ _ => [some (rSt pat), some (rLn K ps), some (rC c), some (rV (.ref p)), none, none]) (fun i _ => [lstR p (((ps.take i).flatMap (stepP pat c)).map nI)]) (x_v rfl) () trivial (by wtm_at "sub") rfl (fun i _ q hq _ => ?_) (fun _ _ => ?_))
    · dsimp only [List.set]
      have hz := hsz i
      have hol : (((ps.take i).flatMap (stepP pat c)).map nI).length < 50000 := by
        rw [List.length_map]; omega
      cases hs : pat[q]? with
      | none =>
        have hge := List.getElem?_eq_none_iff.mp hs
        apply w_if (b := false)
        · apply t_is
          · wtm_at "t"
          · exact decide_eq_false (by omega)
        · intro z; exact nomatch z
        · intro _
          refine w_nx ⟨(), trivial, by wtm_at "sub", ?_⟩
          show _ = [lstR p (((ps.take (i + 1)).flatMap (stepP pat c)).map nI)]
          rw [key i q hq, show stepP pat c q = [] by unfold stepP; rw [hs], List.append_nil]
      | some s =>
        have hlt := (List.getElem?_eq_some_iff.mp hs).1
        apply w_if (b := true)
        · apply t_is
          · wtm_at "t"
          · exact decide_eq_true (by omega)
        · intro _
          refine w_seq (ws_set ?_)
          wtm_at "e"
          try dsimp only [List.set]
          apply w_if (b := decide (s = 42))
          · apply t_is
            · wtm_at "t"
            · simp only [v42]
          · intro hb
            have hb := of_decide_eq_true hb
            refine ws_do (e_app 0 rfl ?_ rfl)
            wtm_at "e"
            refine ⟨(), trivial, by wtm_at "sub", ?_⟩
            show _ = [lstR p (((ps.take (i + 1)).flatMap (stepP pat c)).map nI)]
            rw [key i q hq, show stepP pat c q = [q] by unfold stepP; rw [hs]; exact if_pos hb, List.map_append]
            rfl
          · intro hb
            have hb := of_decide_eq_false hb
            apply w_if (b := decide (s = 63 ∨ s = c))
            · apply t_is
              · wtm_at "t"
              · simp only [v63, vs_eq]
                by_cases h1 : s = 63 <;> by_cases h2 : s = c <;> simp [h1, h2]
            · intro hc
              have hc := of_decide_eq_true hc
              refine ws_do (e_app 0 rfl ?_ rfl)
              wtm_at "e"
              refine ⟨(), trivial, by wtm_at "sub", ?_⟩
              show _ = [lstR p (((ps.take (i + 1)).flatMap (stepP pat c)).map nI)]
              rw [key i q hq, show stepP pat c q = [q + 1] by unfold stepP; rw [hs]; dsimp only; rw [if_neg hb, if_pos hc], List.map_append]
              rfl
            · intro hc
              have hc := of_decide_eq_false hc
              refine w_nx ⟨(), trivial, by wtm_at "sub", ?_⟩
              show _ = [lstR p (((ps.take (i + 1)).flatMap (stepP pat c)).map nI)]
              rw [key i q hq, show stepP pat c q = [] by unfold stepP; rw [hs]; dsimp only; rw [if_neg hb, if_neg hc], List.append_nil]
        · intro z; exact nomatch z
    refine w_frz K 0 3 rfl rfl ?_
    dsimp only [List.set, List.eraseIdx]
    rw [List.take_length]
    exact ws_ret (e_n (xn_call (xa_cons (x_v rfl) (xa_cons (x_v rfl) xa_nil)) fun vs G ra => SpN.of ⟨pat, ps.flatMap (stepP pat c), ra, q0, rfl⟩) fun p2 => ⟨p2, rfl, rfl⟩)
theorem c_next_places (T : Tx P K mg) {M : List Re} {κ : KV} {pat ps : List Nat} {c : Nat} (q0 : pat.length ≤ 12) (q1 : ps.length ≤ 13) (k : κ (rL K ((nextP pat ps c).map nI)) M) : CM (spN (R_next_places T)) [rSt pat, rLn K ps, rC c] M κ := cmn (fun vs G ra => SpN.of ⟨pat, ps, c, ra, q0, q1, rfl⟩) k
theorem o_next_places (T : Tx P K mg) {M : List Re} {κ : KV} {pat ps : List Nat} {c : Nat} (q0 : pat.length ≤ 12) (q1 : ps.length ≤ 13) (k : ∀ p, κ (rV (.ref p)) (M ++ [lstR p ((nextP pat ps c).map nI)])) : CM (spN (R_next_places T)) [rSt pat, rLn K ps, rC c] M κ := cmo (fun vs G ra => SpN.of ⟨pat, ps, c, ra, q0, q1, rfl⟩) k

theorem x_next (T : Tx P K mg) {Γ : Mu.Ctx} {tp ts tc : TE} {E : XK} {pat ps : List Nat} {c : Nat} (hp : EvX Γ tp (rSt pat)) (hs : EvX Γ ts (rLn K ps)) (hc : EvX Γ tc (rC c)) (hl : pat.length ≤ 12) (h2 : ps.length ≤ 13) : EvX Γ (tCall (spN (R_next_places T)) [] E (tCons tp (tCons ts (tCons tc tNil)))) (rLn K (nextP pat ps c)) :=
  EvNX.d (K := K) (xn_call (xa_cons hp (xa_cons hs (xa_cons hc xa_nil))) fun vs G ra => SpN.of ⟨pat, ps, c, ra, hl, h2, rfl⟩)
theorem opL_len {pat ps : List Nat} : (opL pat ps).length ≤ pat.length + 1 := by
  unfold opL
  have := List.length_filter_le (opB pat ps) (List.range (pat.length + 1))
  rwa [List.length_range] at this
local macro_rules | `(tactic| wtm_at "co") => `(tactic| refine o_next_places _ (by wtm_at "s") (by wtm_at "s") ?_)
local macro_rules | `(tactic| wtm_at "c") => `(tactic| refine c_next_places _ (by wtm_at "s") (by wtm_at "s") ?_)
theorem sc__law_all_rows : FnScope ["_law_own_here", "_law_many", "_law_rows", "_law_k", "_law_longer", "_law_row", "_law_letter"] ["_law_own_here", "_law_many"] (defScope s__law_all_rows) := ⟨rfl, rfl, rfl, by decide +kernel, rfl, by decide +kernel, by decide +kernel⟩
theorem b__law_all_rows (T : Tx P K mg) : Binds K T.fd__law_all_rows ["_law_own_here", "_law_many"] [] := T.F__law_all_rows.bindsN fun _ _ _ _ _ _ us hl => match us, hl with | [_, _], _ => rfl
def allR (l : List Nat) : Nat → List (List Nat)
  | 0 => [[]]
  | k + 1 => (allR l k).flatMap fun r => l.map fun c => r ++ [c]
theorem allR_len {l : List Nat} : ∀ k, (allR l k).length = l.length ^ k
  | 0 => by rw [Nat.pow_zero]; rfl
  | k + 1 => by
    have hlen : ∀ L : List (List Nat), (L.flatMap fun r => l.map fun c => r ++ [c]).length = L.length * l.length := fun L => by
      induction L with
      | nil => simp
      | cons a L ih => rw [List.flatMap_cons, List.length_append, ih, List.length_map, List.length_cons, Nat.succ_mul]; omega
    rw [allR, hlen, allR_len k, Nat.pow_succ]
theorem allR_el {l : List Nat} : ∀ k, ∀ r ∈ allR l k, r.length = k
  | 0, r, h => by rw [List.mem_singleton.mp h]; rfl
  | k + 1, r, h => by
    obtain ⟨x, hx, h2⟩ := List.mem_flatMap.mp h
    obtain ⟨c, _, rfl⟩ := List.mem_map.mp h2
    rw [List.length_append, allR_el k x hx]; rfl
theorem allR_in {l : List Nat} : ∀ k, ∀ r ∈ allR l k, ∀ c ∈ r, c ∈ l
  | 0, r, h, c, hc => by rw [List.mem_singleton.mp h] at hc; exact nomatch hc
  | k + 1, r, h, c, hc => by
    obtain ⟨x, hx, h2⟩ := List.mem_flatMap.mp h
    obtain ⟨d, hd, rfl⟩ := List.mem_map.mp h2
    rcases List.mem_append.mp hc with z | z
    · exact allR_in k x hx c z
    · rw [List.mem_singleton.mp z]; exact hd

def R_law_all_rows (T : Tx P K mg) : List V → Hp → Rp → Prop := fun vs G r => ∃ (kvs : List (Key × Rp)) (l : List Nat) (kk : Nat), RA G vs [rD true kvs, nI kk] ∧ (kvs.map (·.1) = l.map fun c => (Sum.inr (ltr c) : Key)) ∧ (l.length ≤ 3) ∧ (kk ≤ 6) ∧ r = rL K ((allR l kk).map rSt)
theorem ok__law_all_rows (T : Tx P K mg) : FnOk P w K mg base CX0 1 T.f__law_all_rows T.fd__law_all_rows ["_law_own_here", "_law_many"] (spD (R_law_all_rows T)) := by
  refine T.F__law_all_rows.ok sc__law_all_rows (fun vs H Q E h => ?_) (fun cdv A outer s H vs Q E hr h => ?_)
  · obtain ⟨G, r, _, ⟨kvs, l, kk, ra, _⟩, _⟩ := h
    exact ra.len
  · obtain ⟨G, r, e, ⟨kvs, l, kk, ra, q0, q1, q2, rfl⟩, k⟩ := h
    refine ⟨_, PSs.nox (pss_cons (ps_set (i := 2) sc__law_all_rows.nd rfl (Or.inl rfl) (pe_lst (pa_cons pe_str pa_nil)))
      (pss_cons (ps_for PassesOwn.never rfl (pi_range1 (by rfl) T.m_range (pa_cons (pv 1) pa_nil)) (pg_name (i := 3) sc__law_all_rows.nd rfl (Or.inl rfl)) (pss_cons (ps_set (i := 4) sc__law_all_rows.nd rfl (Or.inl rfl) (pe_lst pa_nil))
      (pss_cons (ps_for PassesOwn.never rfl (pi_listK K (pv 2)) (pg_name (i := 5) sc__law_all_rows.nd rfl (Or.inr rfl)) (pss_one (ps_set (i := 4) sc__law_all_rows.nd rfl (Or.inl rfl) (pe_op op_cat (pv 4) (pe_lc (own := [("_law_letter", 6)]) (by rfl) sc__law_all_rows.nd (pi_keys (pv 0)) (blkOk_by (N := ["_law_own_here", "_law_many", "_law_rows", "_law_k", "_law_longer", "_law_row", "_law_letter"]) (sc := defScope s__law_all_rows) (by decide +kernel)) (fun _ _ _ _ _ => (pg_name (i := 6) sc__law_all_rows.nd rfl (Or.inl rfl))) (fun _ _ _ _ _ => pts_nil) (fun _ _ _ _ _ => (pe_op op_addT (pv 5) (pv 6))))))))
      (pss_one (ps_set (i := 2) sc__law_all_rows.nd rfl (Or.inl rfl) (pv 4))))))
      (pss_one (ps_ret (pv 2))))), ?_⟩
    refine run_D (W := fun _ _ _ _ => False) (Γ := [some (rD true kvs), some (nI kk), none, none, none, none, none]) ?_ e (En.start (k := 5) _ (rs := [rD true kvs, nI kk]) ra (by rw [ra.len]; rfl)) k
    clear ra e k
    refine w_seq (ws_set (e_x (r := rL K ([[]].map rSt)) (x_is (EvNX.d (K := K) (xn_lst (rs := [rSt []]) (xa_cons (x_is x_c rfl) xa_nil) (by show 1 ≤ 100000; decide))) rfl) ?_))
    try dsimp only [List.set]
    refine w_seq (w_forR kk (fun _ (_ : Unit) => True) (fun i _ => [some (rD true kvs), some (nI kk), some (rL K ((allR l i).map rSt)), none, none, none, none]) (fun _ _ => []) (x_v rfl) (by omega) () trivial (by wtm_at "sub") rfl (fun i _ hi _ => ?_) (fun _ _ => ?_))
    · dsimp only [List.set]
      have hln := allR_len (l := l) i
      have hel := allR_el (l := l) i
      have hp8 : (allR l i).length ≤ 729 := by
        rw [hln]
        exact Nat.le_trans (Nat.pow_le_pow_left q1 i) (Nat.le_trans (Nat.pow_le_pow_right (by decide) (show i ≤ 6 by omega)) (by decide))
      refine w_seq (ws_set (e_x (r := rL K (([] : List (List Nat)).map rSt)) (EvNX.d (K := K) (xn_lst (rs := []) xa_nil (by decide))) ?_))
      try dsimp only [List.set]
      refine w_seq (w_forL (K := K) (allR l i) rSt (fun _ (_ : Unit) => True) (fun j _ => [some (rD true kvs), some (nI kk), some (rL K ((allR l i).map rSt)), none, some (rL K ((((allR l i).take j).flatMap fun r => l.map fun c => r ++ [c]).map rSt)), none, none]) (fun _ _ => []) (x_v rfl) () trivial (by wtm_at "sub") rfl (fun j _ r hr _ => ?_) (fun _ _ => ?_))
      · dsimp only [List.set]
        have hrl := hel r (List.mem_of_getElem? hr)
        have hj : j < (allR l i).length := (List.getElem?_eq_some_iff.mp hr).1
        have hlen : ∀ L : List (List Nat), (L.flatMap fun r => l.map fun c => r ++ [c]).length = L.length * l.length := fun L => by
          induction L with
          | nil => simp
          | cons a L ih => rw [List.flatMap_cons, List.length_append, ih, List.length_map, List.length_cons, Nat.succ_mul]; omega
        have hst : ((allR l i).take (j + 1)).flatMap (fun r => l.map fun c => r ++ [c]) = ((allR l i).take j).flatMap (fun r => l.map fun c => r ++ [c]) ++ l.map fun c => r ++ [c] := by
          rw [List.take_add_one, hr, Option.toList, List.flatMap_append]
          simp
        have hz : (((allR l i).take j).flatMap fun r => l.map fun c => r ++ [c]).length ≤ 2187 := by
          rw [hlen, List.length_take]
          exact Nat.le_trans (Nat.mul_le_mul (Nat.min_le_left j _) q1) (by omega)
        refine ws_set (e_x (r := rL K ((((allR l i).take (j + 1)).flatMap fun r => l.map fun c => r ++ [c]).map rSt)) ?_ ⟨(), trivial, by wtm_at "sub", rfl⟩)
        rw [hst]
        generalize ((allR l i).take j).flatMap (fun r => l.map fun c => r ++ [c]) = B0 at hz ⊢
        refine x_is (EvNX.d (K := K) (xn_cat (K := K) (rs := B0.map rSt) (ss := l.map fun c => rSt (r ++ [c])) (x_v rfl) (EvNX.d (K := K) (xn_lcI0 (l := l) (ρ := rC) (rr := fun c => rSt (r ++ [c])) (ix_KC (x_v rfl) q0) (by omega) (fun c hc => ?_) (by simp))) (by rw [List.length_map, List.length_map]; omega))) ?_
        · exact EvX.by fun W ε => e_op (e_v rfl (e_v rfl (om_addL (l' := [c]) (by show r.length + 1 ≤ _; omega) ⟨rfl, rfl⟩)))
        · rw [List.map_append, List.map_map]; rfl
      · rw [List.take_length]
        refine ws_set (e_v rfl ⟨(), trivial, by wtm_at "sub", rfl⟩)
    · wtm_at "w"
      rfl
theorem c_law_all_rows (T : Tx P K mg) {M : List Re} {κ : KV} {kvs : List (Key × Rp)} {l : List Nat} {kk : Nat} (q0 : kvs.map (·.1) = l.map fun c => (Sum.inr (ltr c) : Key)) (q1 : l.length ≤ 3) (q2 : kk ≤ 6) (k : κ (rL K ((allR l kk).map rSt)) M) : CM (spD (R_law_all_rows T)) [rD true kvs, nI kk] M κ := cm (fun vs G ra => SpD.of ⟨kvs, l, kk, ra, q0, q1, q2, rfl⟩) k
local macro_rules | `(tactic| wtm_at "c") => `(tactic| refine c_law_all_rows _ (by wtm_at "s") (by wtm_at "s") (by wtm_at "s") ?_)
theorem sc_could_end : FnScope ["cast", "pattern", "places", "length", "step", "reached", "letter"] ["cast", "pattern", "places", "length"] (defScope s_could_end) := ⟨rfl, rfl, rfl, by decide +kernel, rfl, by decide +kernel, by decide +kernel⟩
theorem b_could_end (T : Tx P K mg) : Binds K T.fd_could_end ["cast", "pattern", "places", "length"] [] := T.F_could_end.bindsN fun _ _ _ _ _ _ us hl => match us, hl with | [_, _, _, _], _ => rfl
theorem x_m1 : EvX Γ (tUn (rU fun i => V.int (-i)) (tC (.int 1))) (Mu.rI (-1)) := by
  apply EvX.by
  intro W ε
  wtm_at "e"
theorem x_lenTx {l : List Nat} (ha : EvX Γ t1 (rSt l)) (h : l.length ≤ 100000) : EvX Γ (tCB Mu.rLenT (tCons t1 tNil)) (nI l.length) := by
  apply EvX.by
  intro W ε
  exact e_cb (a_cons (e_x ha (a_nil (am_lenL h ⟨rfl, rfl⟩))))

def psN (l pat ps : List Nat) : Nat → List Nat
  | 0 => ps
  | j + 1 => opL pat (l.flatMap (nextP pat (psN l pat ps j)))
theorem ps_len {l pat ps : List Nat} (h : ps.length ≤ pat.length + 1) : ∀ j, (psN l pat ps j).length ≤ pat.length + 1
  | 0 => h
  | j + 1 => opL_len
def couldN (l pat ps : List Nat) (k : Nat) : Bool := decide (pat.length ∈ psN l pat ps k)
def rwsF (l pat : List Nat) : Nat → List Nat → List Nat → List (List Nat)
  | 0, row, ps => if couldN l pat ps 0 = true then [row] else []
  | k + 1, row, ps => if couldN l pat ps (k + 1) = true then l.flatMap fun c => rwsF l pat k (row ++ [c]) (nextP pat ps c) else []
def rwsE (l pat : List Nat) (len : Nat) (e : List Nat × List Nat) : List (List Nat) := rwsF l pat (len - e.1.length) e.1 e.2
theorem op_mono {pat ps qs : List Nat} (h : ∀ p ∈ ps, p ∈ qs) : ∀ p, opB pat ps p = true → opB pat qs p = true
  | 0, z => decide_eq_true (h 0 (of_decide_eq_true z))
  | p + 1, z => by
    unfold opB at z ⊢
    rw [Bool.or_eq_true_iff, Bool.and_eq_true_iff, decide_eq_true_iff] at z ⊢
    rcases z with z | ⟨z, y⟩
    · exact .inl (h _ z)
    · exact .inr ⟨z, op_mono h p y⟩
theorem opL_mono {pat ps qs : List Nat} (h : ∀ p ∈ ps, p ∈ qs) : ∀ p ∈ opL pat ps, p ∈ opL pat qs := fun p hp => by
  rw [mem_opL] at hp ⊢
  exact ⟨hp.1, op_mono h p hp.2⟩
theorem opL_own {pat ps : List Nat} {p : Nat} (h : p ∈ ps) (hl : p ≤ pat.length) : p ∈ opL pat ps := by
  rw [mem_opL]
  refine ⟨hl, ?_⟩
  cases p with
  | zero => exact decide_eq_true h
  | succ p => unfold opB; rw [decide_eq_true h]; rfl
theorem next_mono {pat ps qs : List Nat} (h : ∀ p ∈ ps, p ∈ qs) (c : Nat) : ∀ p ∈ nextP pat ps c, p ∈ nextP pat qs c := opL_mono fun p hp => by
  obtain ⟨q, hq, z⟩ := List.mem_flatMap.mp hp
  exact List.mem_flatMap.mpr ⟨q, h q hq, z⟩
theorem ps_mono {l pat ps qs : List Nat} (h : ∀ p ∈ ps, p ∈ qs) : ∀ j, ∀ p ∈ psN l pat ps j, p ∈ psN l pat qs j
  | 0 => h
  | j + 1 => opL_mono fun p hp => by
    obtain ⟨c, hc, z⟩ := List.mem_flatMap.mp hp
    exact List.mem_flatMap.mpr ⟨c, hc, next_mono (ps_mono h j) c p z⟩
theorem ps_succ {l pat ps : List Nat} : ∀ j, psN l pat ps (j + 1) = psN l pat (opL pat (l.flatMap (nextP pat ps))) j
  | 0 => rfl
  | j + 1 => by rw [psN, ps_succ j]; rfl
theorem ps_all {l pat : List Nat} : ∀ (w ps : List Nat), (∀ c ∈ w, c ∈ l) → ∀ p ∈ w.foldl (nextP pat) ps, p ∈ psN l pat ps w.length
  | [], ps, _, p, hp => hp
  | c :: w, ps, hw, p, hp => by
    rw [List.length_cons, ps_succ]
    refine ps_mono (fun q hq => ?_) _ p (ps_all w _ (fun d hd => hw d (List.mem_cons_of_mem _ hd)) p hp)
    exact opL_own (List.mem_flatMap.mpr ⟨c, hw c List.mem_cons_self, hq⟩) (mem_opL.mp hq).1
theorem map_sing {l : List Nat} : (l.map fun c => [c]) = l.flatMap fun c => [[c]] := by
  induction l with
  | nil => rfl
  | cons a l ih => rw [List.map_cons, List.flatMap_cons, ih]; rfl
theorem allR_s {l : List Nat} (k : Nat) : allR l (k + 1) = (allR l k).flatMap fun r => l.map fun c => r ++ [c] := rfl
theorem allR_head {l : List Nat} : ∀ k, allR l (k + 1) = l.flatMap fun c => (allR l k).map (c :: ·)
  | 0 => by
    show ([[]] : List (List Nat)).flatMap (fun r => l.map fun c => r ++ [c]) = l.flatMap fun c => [[c]]
    rw [List.flatMap_cons, List.flatMap_nil, List.append_nil]
    exact map_sing
  | k + 1 => by
    rw [allR_s (k + 1), allR_head k, List.flatMap_assoc]
    congr 1
    funext c
    rw [← allR_head k, allR_s k, List.flatMap_map, List.map_flatMap]
    congr 1
    funext r
    rw [List.map_map]
    rfl
theorem rws_filter {l pat : List Nat} : ∀ (k : Nat) (row ps : List Nat), rwsF l pat k row ps = ((allR l k).filter fun w => decide (pat.length ∈ w.foldl (nextP pat) ps)).map (row ++ ·)
  | 0, row, ps => by
    unfold rwsF couldN psN allR
    by_cases h : pat.length ∈ ps
    · rw [if_pos (decide_eq_true h), List.filter_cons, if_pos (decide_eq_true (show pat.length ∈ [].foldl (nextP pat) ps from h))]
      simp
    · rw [if_neg (by rw [decide_eq_false h]; exact fun z => nomatch z), List.filter_cons, if_neg (by rw [decide_eq_false (show ¬ pat.length ∈ [].foldl (nextP pat) ps from h)]; exact fun z => nomatch z)]
      rfl
  | k + 1, row, ps => by
    have e1 : ((allR l (k + 1)).filter fun w => decide (pat.length ∈ w.foldl (nextP pat) ps)).map (row ++ ·) = l.flatMap fun c => rwsF l pat k (row ++ [c]) (nextP pat ps c) := by
      rw [allR_head, List.filter_flatMap, List.map_flatMap]
      congr 1
      funext c
      rw [rws_filter k, List.filter_map, List.map_map]
      have : ((fun x => row ++ x) ∘ fun x => c :: x) = fun x => row ++ [c] ++ x := by
        funext x
        simp
      rw [this]
      rfl
    rw [rwsF]
    by_cases h : couldN l pat ps (k + 1) = true
    · rw [if_pos h, e1]
    · rw [if_neg h, List.filter_eq_nil_iff.mpr, List.map_nil]
      intro w hw z
      refine h (decide_eq_true ?_)
      have := ps_all (pat := pat) w ps (allR_in _ w hw) _ (of_decide_eq_true z)
      rwa [allR_el _ w hw] at this
theorem rws_law {l pat : List Nat} {k : Nat} : rwsE l pat k ([], opL pat [0]) = (allR l k).filter (matL pat) := by
  unfold rwsE
  rw [rws_filter]
  show List.map (fun x => [] ++ x) _ = _
  rw [show (fun x : List Nat => [] ++ x) = id from rfl, List.map_id]
  refine List.filter_congr fun w _ => ?_
  rw [← matN_L]
  rfl
theorem len_C {α : Type} (f : α → Nat) (C : Nat) : ∀ (N : Nat) (l : List α), (∀ e ∈ l, f e < N) → (∀ k, (l.filter fun e => decide (f e = k)).length ≤ C) → l.length ≤ N * C
  | 0, l, h, _ => by
    cases l with
    | nil => simp
    | cons e l => exact absurd (h e List.mem_cons_self) (by omega)
  | N + 1, l, h, hc => by
    have h1 := len_C f C N (l.filter fun e => !decide (f e = N)) (fun e he => by
      obtain ⟨h2, h3⟩ := List.mem_filter.mp he
      have := h e h2
      simp at h3
      omega) (fun k => by
      refine Nat.le_trans ?_ (hc k)
      have z : ((l.filter fun e => !decide (f e = N)).filter fun e => decide (f e = k)).Sublist (l.filter fun e => decide (f e = k)) := List.filter_sublist.filter _
      exact z.length_le)
    have h2 := hc N
    have h3 : l.length = (l.filter fun e => decide (f e = N)).length + (l.filter fun e => !decide (f e = N)).length := by
      clear h hc h1 h2
      induction l with
      | nil => rfl
      | cons e l ih =>
        rw [List.filter_cons, List.filter_cons]
        by_cases z : f e = N
        · simp [z] at ih ⊢; omega
        · simp [z] at ih ⊢; omega
    rw [Nat.succ_mul]
    omega
structure StC {α : Type} (f : α → Nat) (C : Nat) (st : List α) : Prop where
  mono : st.Pairwise fun a b => f a ≤ f b
  cnt : ∀ k, (st.filter fun e => decide (f e = k)).length ≤ C
theorem StC.pop {α : Type} {f : α → Nat} {C : Nat} {w P : List α} {e : α} (h : StC f C (w ++ [e])) (hp : ∀ x ∈ P, f x = f e + 1) (hl : P.length ≤ C) : StC f C (w ++ P) := by
  have h1 := List.pairwise_append.mp h.mono
  have top : ∀ x ∈ w, f x ≤ f e := fun x hx => h1.2.2 x hx e (List.mem_singleton.mpr rfl)
  refine ⟨List.pairwise_append.mpr ⟨h1.1, List.pairwise_of_forall_mem_list fun a ha b hb => by rw [hp a ha, hp b hb]; exact Nat.le_refl _, fun a ha b hb => by rw [hp b hb]; have := top a ha; omega⟩, fun k => ?_⟩
  rw [List.filter_append, List.length_append]
  have hw : (w.filter fun e => decide (f e = k)).length ≤ C := by
    have := h.cnt k
    rw [List.filter_append, List.length_append] at this
    omega
  by_cases hk : k = f e + 1
  · have e1 : (w.filter fun e => decide (f e = k)) = [] := by
      rw [List.filter_eq_nil_iff]
      intro x hx z
      have := top x hx
      have := of_decide_eq_true z
      omega
    have h2 := List.length_filter_le (fun e : α => decide (f e = k)) P
    rw [e1]
    simp only [List.length_nil]
    omega
  · have e1 : (P.filter fun e => decide (f e = k)) = [] := by
      rw [List.filter_eq_nil_iff]
      intro x hx z
      have h2 := hp x hx
      have h3 := of_decide_eq_true z
      omega
    rw [e1]
    simpa using hw
theorem StC.sub {α : Type} {f : α → Nat} {C : Nat} {w : List α} {e : α} (h : StC f C (w ++ [e])) : StC f C w := by
  have := h.pop (P := []) (fun x hx => nomatch hx) (Nat.zero_le _)
  rwa [List.append_nil] at this
theorem StC.one {α : Type} {f : α → Nat} {C : Nat} {e : α} (h : 1 ≤ C) : StC f C [e] := ⟨by simp, fun k => Nat.le_trans (List.length_filter_le _ _) (by simpa using h)⟩
def ndR (L : Nat) : Nat → Nat
  | 0 => 1
  | k + 1 => 1 + L * ndR L k
theorem nd_pos (L : Nat) : ∀ k, 0 < ndR L k
  | 0 => Nat.one_pos
  | k + 1 => by rw [ndR]; omega
def msR (L len : Nat) (st : List (List Nat × List Nat)) : Nat := (st.map fun e => ndR L (len - e.1.length)).foldl (· + ·) 0
theorem foldl_add {l : List Nat} : ∀ {a : Nat}, l.foldl (· + ·) a = a + l.foldl (· + ·) 0 := by
  induction l with
  | nil => intro a; rfl
  | cons x l ih =>
    intro a
    rw [List.foldl_cons, List.foldl_cons, ih, ih (a := 0 + x)]
    omega
theorem ms_appR {L len : Nat} {a b : List (List Nat × List Nat)} : msR L len (a ++ b) = msR L len a + msR L len b := by
  unfold msR
  rw [List.map_append, List.foldl_append, foldl_add]
theorem ms_oneR {L len : Nat} {e : List Nat × List Nat} : msR L len [e] = ndR L (len - e.1.length) := by
  unfold msR
  show 0 + ndR L (len - e.1.length) = _
  omega
theorem ms_sameR {L len k : Nat} : ∀ {P : List (List Nat × List Nat)}, (∀ e ∈ P, len - e.1.length = k) → msR L len P = P.length * ndR L k
  | [], _ => by rw [List.length_nil, Nat.zero_mul]; rfl
  | e :: P, h => by
    rw [show e :: P = [e] ++ P from rfl, ms_appR, ms_oneR, h e List.mem_cons_self, ms_sameR fun x hx => h x (List.mem_cons_of_mem _ hx), List.length_append, List.length_singleton, Nat.add_mul, Nat.one_mul]
def rWt (K : PySem.W.Frag) (e : List Nat × List Nat) : Rp := rT K [rSt e.1, rLn K e.2]
def R_could_end (T : Tx P K mg) : List V → Hp → Rp → Prop := fun vs G r => ∃ (n : Nat) (cs : CSt) (pat ps : List Nat) (kk : Nat), RA G vs [rIns T.C_Cast (castZ K T.C_Table n cs), rSt pat, rLn K ps, nI kk] ∧ (pat.length ≤ 12) ∧ (ps.length ≤ pat.length + 1) ∧ (kk ≤ 1000) ∧ r = rB (couldN (rosN cs) pat ps kk)
theorem ok_could_end (T : Tx P K mg) : FnOk P w K mg base CX0 3 T.f_could_end T.fd_could_end ["cast", "pattern", "places", "length"] (spD (R_could_end T)) := by
  refine T.F_could_end.ok sc_could_end (fun vs H Q E h => ?_) (fun cdv A outer s H vs Q E hr h => ?_)
  · obtain ⟨G, r, _, ⟨n, cs, pat, ps, kk, ra, _⟩, _⟩ := h
    exact ra.len
  · obtain ⟨G, r, e, ⟨n, cs, pat, ps, kk, ra, q0, q1, q2, rfl⟩, k⟩ := h
    refine ⟨_, PSs.nox (pss_cons (ps_for PassesOwn.never rfl (pi_range1 (by rfl) T.m_range (pa_cons (pv 3) pa_nil)) (pg_name (i := 4) sc_could_end.nd rfl (Or.inl rfl)) (pss_cons (ps_set (i := 5) sc_could_end.nd rfl (Or.inl rfl) (pe_lst pa_nil))
      (pss_cons (ps_for PassesOwn.never rfl (pi_listK K (pe_meth0 (pv 0) T.c_Cast T.M_Cast_letters (ok_Cast_letters T) (hr.mono (by decide)) (b_Cast_letters T) .nil pass0)) (pg_name (i := 6) sc_could_end.nd rfl (Or.inl rfl)) (pss_one (ps_expr (pe_bm PySem.F.plainAttrs_list PySem.F.slot_list_extend PySem.F.type_list_extend mt_extend (pv 5) (pa_cons (pe_call (ok_next_places T) (hr.mono (by decide)) (by rfl) T.g_next_places T.F_next_places.kp (b_next_places T) .nil pass0 (pa_cons (pv 1) (pa_cons (pv 2) (pa_cons (pv 6) pa_nil)))) pa_nil)))))
      (pss_one (ps_set (i := 2) sc_could_end.nd rfl (Or.inl rfl) (pe_call (ok_open_places T) (hr.mono (by decide)) (by rfl) T.g_open_places T.F_open_places.kp (b_open_places T) .nil pass0 (pa_cons (pv 1) (pa_cons (pv 5) pa_nil))))))))
      (pss_one (ps_ret (pe_cmpR (op_inK K) (pe_callB call_lenT (by rfl) T.m_len PySem.boot_len (pa_cons (pv 1) pa_nil)) (pv 2) rfl)))), ?_⟩
    refine run_D (W := fun _ _ _ _ => False) (Γ := [some (rIns T.C_Cast (castZ K T.C_Table n cs)), some (rSt pat), some (rLn K ps), some (nI kk), none, none, none]) ?_ e (En.start (k := 3) _ (rs := [rIns T.C_Cast (castZ K T.C_Table n cs), rSt pat, rLn K ps, nI kk]) ra (by rw [ra.len]; rfl)) k
    clear ra e k
    have hros : (rosN cs).length ≤ 26 := Nat.le_trans (List.length_filter_le _ _) (by decide)
    refine w_seq (w_forR kk (fun _ (_ : Unit) => True) (fun i _ => [some (rIns T.C_Cast (castZ K T.C_Table n cs)), some (rSt pat), some (rLn K (psN (rosN cs) pat ps i)), some (nI kk), none, none, none]) (fun _ _ => []) (x_v rfl) (by omega) () trivial (by wtm_at "sub") rfl (fun i _ hi _ => ?_) (fun _ _ => ?_))
    · dsimp only [List.set]
      have hpl := ps_len (l := rosN cs) q1 i
      have hst : psN (rosN cs) pat ps (i + 1) = opL pat ((rosN cs).flatMap (nextP pat (psN (rosN cs) pat ps i))) := rfl
      obtain ⟨P2, hP2⟩ : ∃ P2, P2 = psN (rosN cs) pat ps (i + 1) := ⟨_, rfl⟩
      rw [← hP2] at hst
      have hst' : psN (rosN cs) pat ps (i + 1) = P2 := hP2.symm
      generalize psN (rosN cs) pat ps i = P at hpl hst ⊢
      have hfl : ∀ j, (((rosN cs).take j).flatMap (nextP pat P)).length ≤ j * 13 := fun j => by
        have : ∀ l : List Nat, (l.flatMap (nextP pat P)).length ≤ l.length * 13 := fun l => by
          induction l with
          | nil => exact Nat.zero_le _
          | cons a l ih =>
            rw [List.flatMap_cons, List.length_append, List.length_cons, Nat.succ_mul]
            have : (nextP pat P a).length ≤ pat.length + 1 := opL_len
            omega
        have h2 := this ((rosN cs).take j)
        rw [List.length_take] at h2
        exact Nat.le_trans h2 (Nat.mul_le_mul_right _ (Nat.min_le_left _ _))
      refine w_seq (ws_set (e_lstN (a_nil ⟨by show 0 ≤ 100000; decide, fun p => ?_⟩)))
      try dsimp only [List.set, List.cons_append, List.nil_append]
      refine w_seq (w_forL (K := K) (rosN cs) rC (fun _ (_ : Unit) => True) (fun _ _ => [some (rIns T.C_Cast (castZ K T.C_Table n cs)), some (rSt pat), some (rLn K P), some (nI kk), none, some (rV (.ref p)), none]) (fun j _ => [lstR p ((((rosN cs).take j).flatMap (nextP pat P)).map nI)]) (EvX.by fun W ε => e_meth (e_v rfl ⟨ins_ins rfl, a_nil (c_Cast_letters T ⟨rfl, rfl⟩)⟩)) () trivial (by wtm_at "sub") rfl (fun j _ c hc _ => ?_) (fun _ _ => ?_))
      · dsimp only [List.set]
        have hj : j < (rosN cs).length := (List.getElem?_eq_some_iff.mp hc).1
        have h13 := hfl j
        have hn : (nextP pat P c).length ≤ pat.length + 1 := opL_len
        have hst2 : ((rosN cs).take (j + 1)).flatMap (nextP pat P) = ((rosN cs).take j).flatMap (nextP pat P) ++ nextP pat P c := by
          rw [List.take_add_one, hc, Option.toList, List.flatMap_append]
          simp
        generalize ((rosN cs).take j).flatMap (nextP pat P) = A at h13 hst2 ⊢
        refine ws_do (e_extN (K := K) (rs2 := (nextP pat P c).map nI) 0 rfl (xn_call (xa_cons (x_v rfl) (xa_cons (x_v rfl) (xa_cons (x_v rfl) xa_nil))) fun vs G ra => SpN.of ⟨pat, P, c, ra, q0, by omega, rfl⟩) rfl (by rw [List.length_map, List.length_map]; omega) ?_)
        refine ⟨(), trivial, by wtm_at "sub", ?_⟩
        dsimp only [List.set]
        rw [hst2, List.map_append]
      · rw [List.take_length]
        refine w_frz K 0 5 rfl rfl ?_
        try dsimp only [List.set, List.eraseIdx]
        refine ws_set (e_x (r := rLn K P2) (x_is (x_open T (ps := (rosN cs).flatMap (nextP pat P)) (x_v rfl) (x_v rfl) q0) (by rw [hst])) ?_)
        refine ⟨(), trivial, ?_, rfl⟩
        dsimp only [List.set]
        rw [show psN (rosN cs) pat ps (i + 1) = P2 from hst']
        wtm_at "sub"
    refine ws_ret (e_x (r := rB (couldN (rosN cs) pat ps kk)) (x_is (x_inLn (x_lenTx (x_v rfl) (by omega)) (x_v rfl)) rfl) rfl)
theorem c_could_end (T : Tx P K mg) {M : List Re} {κ : KV} {n : Nat} {cs : CSt} {pat ps : List Nat} {kk : Nat} (q0 : pat.length ≤ 12) (q1 : ps.length ≤ pat.length + 1) (q2 : kk ≤ 1000) (k : κ (rB (couldN (rosN cs) pat ps kk)) M) : CM (spD (R_could_end T)) [rIns T.C_Cast (castZ K T.C_Table n cs), rSt pat, rLn K ps, nI kk] M κ := cm (fun vs G ra => SpD.of ⟨n, cs, pat, ps, kk, ra, q0, q1, q2, rfl⟩) k

theorem x_could (T : Tx P K mg) {Γ : Mu.Ctx} {tc tp ts tk : TE} {E : XK} {n : Nat} {cs : CSt} {pat ps : List Nat} {k : Nat} (hc : EvX Γ tc (rIns T.C_Cast (castZ K T.C_Table n cs))) (hp : EvX Γ tp (rSt pat)) (hs : EvX Γ ts (rLn K ps)) (hk : EvX Γ tk (nI k)) (q0 : pat.length ≤ 12) (q1 : ps.length ≤ pat.length + 1) (q2 : k ≤ 1000) : EvX Γ (tCall (spD (R_could_end T)) [] E (tCons tc (tCons tp (tCons ts (tCons tk tNil))))) (rB (couldN (rosN cs) pat ps k)) := x_call (xa_cons hc (xa_cons hp (xa_cons hs (xa_cons hk xa_nil)))) fun vs G ra => SpD.of ⟨n, cs, pat, ps, k, ra, q0, q1, q2, rfl⟩
local macro_rules | `(tactic| wtm_at "c") => `(tactic| refine c_could_end _ (by wtm_at "s") (by wtm_at "s") (by wtm_at "s") ?_)
theorem sc_rows_of : YScope ["cast", "pattern", "length", "waiting", "row", "places", "letter"] ["cast", "pattern", "length"] (defScope s_rows_of) := ⟨⟨rfl, rfl, rfl, by decide +kernel, rfl, by decide +kernel, by decide +kernel⟩, by decide +kernel⟩
theorem b_rows_of (T : Tx P K mg) : Binds K T.fd_rows_of ["cast", "pattern", "length"] [] := T.F_rows_of.bindsN fun _ _ _ _ _ _ us hl => match us, hl with | [_, _, _], _ => rfl
theorem flat_congr56 {α β : Type} {l : List α} {f g : α → List β} (h : ∀ a ∈ l, f a = g a) : l.flatMap f = l.flatMap g := by
  induction l with
  | nil => rfl
  | cons a l ih => rw [List.flatMap_cons, List.flatMap_cons, h a List.mem_cons_self, ih fun x hx => h x (List.mem_cons_of_mem _ hx)]

def R_rows_of (T : Tx P K mg) : List V → Hp → List Rp → Prop := fun vs G out => ∃ (n : Nat) (cs : CSt) (pat : List Nat) (len : Nat), RA G vs [rIns T.C_Cast (castZ K T.C_Table n cs), rSt pat, nI len] ∧ (pat.length ≤ 12) ∧ (badP cs pat 0 = none) ∧ (len ≤ 60) ∧ out = (rwsE (rosN cs) pat len ([], opL pat [0])).map rSt
theorem ok_rows_of (T : Tx P K mg) : GnY P w K mg base 4 T.f_rows_of T.fd_rows_of ["cast", "pattern", "length"] (spYl (R_rows_of T)) := by
  refine okGY T.F_rows_of sc_rows_of (fun vs γ yl Q h => ?_) (fun cdv A outer pn L E hr hF => ?_)
  · obtain ⟨G, out, m, _, _, ⟨n, cs, pat, len, ra, _⟩, _⟩ := h
    exact ra.len
  · refine ⟨_, (g2s_cons (g2_ps' fun _ _ => (ps_expr (pe_call (ok_check_pattern T) (hr.mono (by decide)) (by rfl) T.g_check_pattern T.F_check_pattern.kp (b_check_pattern T) .nil passF (pa_cons (pv 0) (pa_cons (pv 1) pa_nil)))))
      (g2s_cons (g2_ps' fun _ _ => (ps_set (i := 3) sc_rows_of.nd rfl (Or.inl rfl) (pe_lst (pa_cons (pe_tup (pa_cons pe_str (pa_cons (pe_call (ok_open_places T) (hr.mono (by decide)) (by rfl) T.g_open_places T.F_open_places.kp (b_open_places T) .nil pass0 (pa_cons (pv 1) (pa_cons (pe_lst (pa_cons pe_int pa_nil)) pa_nil))) pa_nil))) pa_nil))))
      (g2s_cons (g2_while' (fun _ _ => (pt_cmpR op_gt (pe_callB (call_lenK K) (by rfl) T.m_len PySem.boot_len (pa_cons (pv 3) pa_nil)) pe_int (nomark _))) (g2s_cons (g2_ps' fun _ _ => (ps_asg (pe_yb0 K (pe_bm0 PySem.F.plainAttrs_list PySem.F.slot_list_pop PySem.F.type_list_pop mt_pop (pv 3))) (pg_yt K (pg_tup (n := 2) rfl (pgs_cons (pg_name (i := 4) sc_rows_of.nd rfl (Or.inl rfl)) (pgs_cons (pg_name (i := 5) sc_rows_of.nd rfl (Or.inl rfl)) pgs_nil))))))
      (g2s_cons (g2_ps' fun _ _ => (ps_if (pt_not (pt_val (pe_call (ok_could_end T) (hr.mono (by decide)) (by rfl) T.g_could_end T.F_could_end.kp (b_could_end T) .nil pass0 (pa_cons (pv 0) (pa_cons (pv 1) (pa_cons (pv 5) (pa_cons (pe_op op_sub (pv 2) (pe_callB call_lenT (by rfl) T.m_len PySem.boot_len (pa_cons (pv 4) pa_nil))) pa_nil))))))) (pss_one ps_continue) pss_nil))
      (g2s_cons (g2_if' (fun _ _ => (pt_cmpR op_eq (pe_callB call_lenT (by rfl) T.m_len PySem.boot_len (pa_cons (pv 4) pa_nil)) (pv 2) (nomark _))) (g2s_cons (g2_yield' fun _ _ => (pv 4))
      g2s_nil) (g2s_cons (g2_ps' fun _ _ => (ps_for PassesOwn.never rfl (pi_listK K (pe_revSl (pe_meth0 (pv 0) T.c_Cast T.M_Cast_letters (ok_Cast_letters T) (hr.mono (by decide)) (b_Cast_letters T) .nil pass0) (pe_un un_neg pe_int))) (pg_name (i := 6) sc_rows_of.nd rfl (Or.inl rfl)) (pss_one (ps_expr (pe_yb K (pe_bm PySem.F.plainAttrs_list PySem.F.slot_list_append PySem.F.type_list_append mt_append (pv 3) (pa_cons (pe_tup (pa_cons (pe_op op_addT (pv 4) (pv 6)) (pa_cons (pe_call (ok_next_places T) (hr.mono (by decide)) (by rfl) T.g_next_places T.F_next_places.kp (b_next_places T) .nil pass0 (pa_cons (pv 1) (pa_cons (pv 5) (pa_cons (pv 6) pa_nil)))) pa_nil))) pa_nil)))))))
      g2s_nil))
      g2s_nil))))
      g2s_nil))), fun vs γ yl Q h => ?_⟩
    obtain ⟨G, out, m, hy, e, ⟨n, cs, pat, len, ra, q0, q1, q2, eo⟩, hm, dm⟩ := h
    refine run_Y (Γ := [some (rIns T.C_Cast (castZ K T.C_Table n cs)), some (rSt pat), some (nI len), none, none, none, none]) ?_ hy e hm dm (En.start (k := 4) _ (rs := [rIns T.C_Cast (castZ K T.C_Table n cs), rSt pat, nI len]) ra (by rw [ra.len]; rfl))
    clear ra hm dm e hy
    have hros : (rosN cs).length ≤ 26 := Nat.le_trans (List.length_filter_le _ _) (by decide)
    obtain ⟨l, hl⟩ : ∃ l, l = rosN cs := ⟨_, rfl⟩
    obtain ⟨tot, htot⟩ : ∃ tot, tot = rwsE l pat len ([], opL pat [0]) := ⟨_, rfl⟩
    have eo' : out = tot.map rSt := by rw [eo, htot, hl]
    refine y_seq (y_ps (ws_do (e_call (a_cons (e_v rfl (a_cons (e_v rfl (a_nil (c_check_pattern T (pat_good q1) ?_)))))))))
    try dsimp only [GKy.at_]
    refine y_seq (y_ps ?_)
    refine ws_set (e_n (xn_lst (rs := [rWt K ([], opL pat [0])]) (xa_cons (x_tup (xa_cons (x_is x_c rfl) (xa_cons (x_open T (x_v rfl) (x_is (EvNX.d (K := K) (xn_lst (rs := [nI 0]) (xa_cons (x_cn 0) xa_nil) (by show 1 ≤ 100000; decide))) rfl) q0) xa_nil)) (by show 2 ≤ 100000; decide)) xa_nil) (by show 1 ≤ 100000; decide)) fun p => ?_)
    try dsimp only [List.set, List.cons_append, List.nil_append]
    refine y_seq (y_while (α := List (List Nat) × List (List Nat × List Nat)) (fun m z => m = msR l.length len z.2 ∧ z.1 ++ z.2.reverse.flatMap (rwsE l pat len) = tot ∧ (∀ e ∈ z.2, e.1.length ≤ len ∧ e.2.length ≤ pat.length + 1) ∧ StC (fun e => e.1.length) 26 z.2) (fun z => z.1.length) (fun z => [some (rIns T.C_Cast (castZ K T.C_Table n cs)), some (rSt pat), some (nI len), some (rV (.ref p)), none, none, none]) (fun z => [lstR p (z.2.map (rWt K))]) (msR l.length len [([], opL pat [0])]) ([], [([], opL pat [0])]) ⟨rfl, by rw [htot]; simp, fun e he => ?_, StC.one (by decide)⟩ rfl (by wtm_at "sub") rfl fun m z hz => ?_)
    · rw [List.mem_singleton.mp he]
      exact ⟨Nat.zero_le _, opL_len⟩
    obtain ⟨outs, st⟩ := z
    obtain ⟨hm, hall, hlen, hB⟩ := hz
    dsimp only at hm hall hlen hB ⊢
    refine ⟨decide (0 < st.length), EXT.ofW fun W => et_bx (fun _ => false) (bx_set (i := 3) bx_refl rfl (bx_lst (K := K) (k := 0) rfl)) ?_ ⟨rfl, rfl⟩, fun hb => ?_, fun hb => ?_⟩
    · dsimp only [List.set]
      exact t_T (x_gtN (x_lenLm (l := st) (ρ := rWt K) (x_v rfl)) (x_cn 0))
    · have hb := of_decide_eq_true hb
      obtain ⟨w, ⟨row, ps⟩, rfl⟩ : ∃ w e, st = w ++ [e] := by
        rcases List.eq_nil_or_concat st with e | ⟨w, e, h⟩
        · rw [e] at hb; exact absurd hb (by decide)
        · exact ⟨w, e, by rw [h, List.concat_eq_append]⟩
      obtain ⟨hrl, hpl⟩ := hlen (row, ps) (List.mem_append_right _ (List.mem_singleton.mpr rfl))
      dsimp only at hrl hpl
      have hlw : ∀ e ∈ w, e.1.length ≤ len ∧ e.2.length ≤ pat.length + 1 := fun e he => hlen e (List.mem_append_left _ he)
      rw [ms_appR, ms_oneR] at hm
      dsimp only at hm
      have hnd := nd_pos l.length (len - row.length)
      have hwl : w.length ≤ 61 * 26 := len_C (fun e => e.1.length) 26 61 w (fun e he => by have := (hlw e he).1; omega) hB.sub.cnt
      have hall2 : outs ++ (rwsE l pat len (row, ps) ++ w.reverse.flatMap (rwsE l pat len)) = tot := by
        rw [← hall, List.reverse_append]
        simp
      refine y_seq (y_ps (w_un (e_popL (r := rWt K (row, ps)) (rs := w.map (rWt K)) 0 rfl (by rw [List.map_append]; rfl) ⟨_, tgt_2, ?_⟩)))
      dsimp only [setsC, List.foldl, List.set, GKy.at_]
      have xsub : ∀ {Γ : Mu.Ctx} {ta tb : TE}, EvX Γ ta (nI len) → EvX Γ tb (nI row.length) → EvX Γ (tOp (rI0 fun i j => .int (i - j)) ta tb) (nI (len - row.length)) := fun a b => x_is (x_I0 a b) (congrArg (fun z => rV (.int z)) (by omega))
      refine y_seq (y_ps ?_)
      apply w_if (b := !couldN l pat ps (len - row.length))
      · rw [hl]
        exact t_not (t_B (x_could T (x_v rfl) (x_v rfl) (x_v rfl) (xsub (x_v rfl) (x_lenTx (x_v rfl) (by omega))) q0 hpl (by omega)))
      · intro hc
        have hc : couldN l pat ps (len - row.length) = false := by simpa using hc
        have h0 : rwsE l pat len (row, ps) = [] := by
          unfold rwsE
          dsimp only
          cases q : len - row.length with
          | zero => rw [q] at hc; rw [rwsF, if_neg (by rw [hc]; exact fun z => nomatch z)]
          | succ k => rw [q] at hc; rw [rwsF, if_neg (by rw [hc]; exact fun z => nomatch z)]
        rw [h0] at hall2
        exact w_cnt ⟨msR l.length len w, (outs, w), by (try dsimp only); omega, ⟨rfl, hall2, hlw, hB.sub⟩, rfl, by wtm_at "sub", rfl⟩
      intro hc
      have hc : couldN l pat ps (len - row.length) = true := by simpa using hc
      refine w_nx ?_
      dsimp only [GKy.at_]
      refine y_seq (y_if (decide (row.length = len)) (ext_t (t_T (x_eqN (x_lenTx (x_v rfl) (by omega)) (x_v rfl)))) (fun hr => ?_) fun hr => ?_)
      · have hr := of_decide_eq_true hr
        have h0 : rwsE l pat len (row, ps) = [row] := by
          unfold rwsE
          dsimp only
          rw [hr, Nat.sub_self] at hc ⊢
          rw [rwsF, if_pos hc]
        rw [h0] at hall2
        refine y_seq (y_yield (r := rSt row) (x_v rfl) ?_ (y_nil ?_))
        · rw [eo', ← hall2, List.map_append, List.getElem?_append_right (by rw [List.length_map]; exact Nat.le_refl _), List.length_map, Nat.sub_self]
          rfl
        · refine y_nil ⟨msR l.length len w, (outs ++ [row], w), by (try dsimp only); omega, ⟨rfl, by rw [← hall2]; simp, hlw, hB.sub⟩, by rw [List.length_append]; rfl, by wtm_at "sub", rfl⟩
      · have hr := of_decide_eq_false hr
        obtain ⟨k, hk⟩ : ∃ k, len - row.length = k + 1 := ⟨len - row.length - 1, by omega⟩
        obtain ⟨P, hP⟩ : ∃ P : List (List Nat × List Nat), P = l.reverse.map fun c => (row ++ [c], nextP pat ps c) := ⟨_, rfl⟩
        have hPl : P.length = l.length := by rw [hP, List.length_map, List.length_reverse]
        have hll : l.length ≤ 26 := by rw [hl]; exact hros
        have hPe : ∀ e ∈ P, e.1.length = row.length + 1 ∧ e.2.length ≤ pat.length + 1 := fun e he => by
          rw [hP] at he
          obtain ⟨c, _, rfl⟩ := List.mem_map.mp he
          exact ⟨by rw [List.length_append]; rfl, opL_len⟩
        have h0 : rwsE l pat len (row, ps) = P.reverse.flatMap (rwsE l pat len) := by
          rw [hP, ← List.map_reverse, List.reverse_reverse, List.flatMap_map]
          unfold rwsE
          dsimp only
          rw [hk] at hc ⊢
          rw [rwsF, if_pos hc]
          refine flat_congr56 fun c _ => ?_
          rw [List.length_append, List.length_singleton, show len - (row.length + 1) = k by omega]
        rw [h0] at hall2
        refine y_seq (y_ps (w_forL (K := K) l.reverse rC (fun _ (_ : Unit) => True) (fun _ _ => [some (rIns T.C_Cast (castZ K T.C_Table n cs)), some (rSt pat), some (nI len), some (rV (.ref p)), some (rSt row), some (rLn K ps), none]) (fun j _ => [lstR p ((w ++ P.take j).map (rWt K))]) (x_is (EvNX.d (K := K) (x_revL (rs := l.map rC) (EvX.by fun W ε => e_meth (e_v rfl ⟨ins_ins rfl, a_nil (c_Cast_letters T ⟨by rw [hl], rfl⟩)⟩)) x_m1)) (by rw [List.map_reverse])) () trivial (by wtm_at "sub") (by simp) (fun j _ c hj _ => ?_) (fun _ _ => ?_)))
        · dsimp only [List.set]
          have hjl : j < l.length := by have := (List.getElem?_eq_some_iff.mp hj).1; rwa [List.length_reverse] at this
          have hst : P.take (j + 1) = P.take j ++ [(row ++ [c], nextP pat ps c)] := by
            rw [List.take_add_one, hP, List.getElem?_map, hj]
            rfl
          have hPj : (P.take j).length ≤ 26 := by rw [List.length_take]; omega
          generalize P.take j = PJ at hPj hst ⊢
          refine ws_do (e_app 0 rfl (e_x (r := rWt K (row ++ [c], nextP pat ps c)) (x_tup (xa_cons (EvX.by fun W ε => e_op (e_v rfl (e_v rfl (om_addL (l := row) (l' := [c]) (by show row.length + 1 ≤ _; omega) ⟨rfl, rfl⟩)))) (xa_cons (x_next T (x_v rfl) (x_v rfl) (x_v rfl) q0 (by omega)) xa_nil)) (by show 2 ≤ 100000; decide)) ⟨_, rfl, by rw [List.length_map, List.length_append]; omega, ?_⟩) rfl)
          refine ⟨(), trivial, by wtm_at "sub", ?_⟩
          dsimp only [List.set]
          rw [hst, ← List.append_assoc, List.map_append (l₁ := w ++ PJ)]
          rfl
        · rw [show l.reverse.length = P.length by rw [List.length_reverse, hPl], List.take_length]
          refine y_nil ?_
          refine y_nil ⟨msR l.length len (w ++ P), (outs, w ++ P), ?_, ⟨rfl, ?_, fun e he => ?_, hB.pop (fun x hx => (hPe x hx).1) (by omega)⟩, rfl, by wtm_at "sub", rfl⟩
          · try dsimp only
            rw [ms_appR, ms_sameR (P := P) (k := k) (fun e he => by rw [(hPe e he).1]; omega), hPl]
            rw [hk, ndR] at hm
            omega
          · try dsimp only
            rw [← hall2, List.reverse_append, List.flatMap_append]
          · rcases List.mem_append.mp he with z | z
            · exact hlw e z
            · exact ⟨by rw [(hPe e z).1]; omega, (hPe e z).2⟩
    · have hb := of_decide_eq_false hb
      have hst : st = [] := List.length_eq_zero_iff.mp (by omega)
      subst hst
      refine y_nil ?_
      have e : outs = tot := by simpa using hall
      show out[outs.length]? = none
      rw [eo', e, List.getElem?_eq_none_iff, List.length_map]
      exact Nat.le_refl _
theorem yl_rows_of (T : Tx P K mg) {Γ : Mu.Ctx} {t0 t1 t2 : TE} {n : Nat} {cs : CSt} {pat : List Nat} {len : Nat} (h0 : EvX Γ t0 (rIns T.C_Cast (castZ K T.C_Table n cs))) (h1 : EvX Γ t1 (rSt pat)) (h2 : EvX Γ t2 (nI len)) (q0 : pat.length ≤ 12) (q1 : badP cs pat 0 = none) (q2 : len ≤ 60) : EvY Γ (tCallY (spYl (R_rows_of T)) 3 (tCons t0 (tCons t1 (tCons t2 tNil)))) ((rwsE (rosN cs) pat len ([], opL pat [0])).map rSt) := y_call (xa_cons h0 (xa_cons h1 (xa_cons h2 xa_nil))) rfl fun vs G ra => ⟨n, cs, pat, len, ra, q0, q1, q2, rfl⟩
theorem sc__law_pattern : FnScope ["_law_box_here", "_law_own_here", "_law_cap", "_law_letters_here", "_law_pattern_here", "_law_k", "_law_kind"] ["_law_box_here", "_law_own_here", "_law_cap"] (defScope s__law_pattern) := ⟨rfl, rfl, rfl, by decide +kernel, rfl, by decide +kernel, by decide +kernel⟩
theorem b__law_pattern (T : Tx P K mg) : Binds K T.fd__law_pattern ["_law_box_here", "_law_own_here", "_law_cap"] [] := T.F__law_pattern.bindsN fun _ _ _ _ _ _ us hl => match us, hl with | [_, _, _], _ => rfl
def R_law_pattern (K : PySem.W.Frag) : List V → Hp → (Rp → Prop) → Prop := fun vs G PP => ∃ (z : Bool) (cap : Nat) (kvs : List (Key × Rp)) (l : List Nat), RA G vs [rD z kvs, nI cap] ∧ (kvs.map (·.1) = l.map fun c => (Sum.inr (ltr c) : Key)) ∧ (∀ c ∈ l, c ∈ alphaL) ∧ (l.length ≤ 26) ∧ (cap ≤ 12) ∧ PP = fun r => ∃ (pat : List Nat), ((∀ c ∈ pat, c = 63 ∨ c = 42 ∨ c ∈ l) ∧ pat.length ≤ cap) ∧ r = rSt pat
theorem ok__law_pattern (T : Tx P K mg) : FnOk P w K mg base CX0 2 T.f__law_pattern T.fd__law_pattern ["_law_box_here", "_law_own_here", "_law_cap"] (spB K (R_law_pattern K)) := by
  refine T.F__law_pattern.ok sc__law_pattern (fun vs H Q E h => ?_) (fun cdv A outer s H vs Q E hr h => ?_)
  · obtain ⟨G, b, ws, PP, rfl, _, _, _, ⟨z, cap, kvs, l, ra, _⟩, _⟩ := h
    show ws.length + 1 = _
    rw [ra.len]; rfl
  · obtain ⟨G, b, ws, PP, rfl, e, gb, hbox, ⟨z, cap, kvs, l, ra, q0, q1, q2, q3, rfl⟩, k⟩ := h
    refine ⟨_, PSs.nox (pss_cons (ps_set (i := 3) sc__law_pattern.nd rfl (Or.inl rfl) (pe_callTy (call_listR rfl) (by rfl) T.m_list (by decide +kernel) (pa_cons (pv 1) pa_nil)))
      (pss_cons (ps_set (i := 4) sc__law_pattern.nd rfl (Or.inl rfl) pe_str)
      (pss_cons (ps_for PassesOwn.never rfl (pi_range1 (by rfl) T.m_range (pa_cons (pe_op op_mod (pe_callTy call_int1 (by rfl) T.m_int (by decide +kernel) (pa_cons (pe_op op_add pe_int (pe_call (ok__law_take T) (hr.mono (by decide)) (by rfl) T.g__law_take T.F__law_take.kp (b__law_take T) .nil pass0 (pa_cons (pv 0) (pa_cons (pe_op op_add (pv 2) pe_int) pa_nil)))) pa_nil)) (pe_op op_add (pv 2) pe_int)) pa_nil)) (pg_name (i := 5) sc__law_pattern.nd rfl (Or.inl rfl)) (pss_cons (ps_set (i := 6) sc__law_pattern.nd rfl (Or.inl rfl) (pe_call (ok__law_take T) (hr.mono (by decide)) (by rfl) T.g__law_take T.F__law_take.kp (b__law_take T) .nil pass0 (pa_cons (pv 0) (pa_cons pe_int pa_nil))))
      (pss_one (ps_if (pt_cmpR op_eq (pv 6) pe_int (nomark _)) (pss_one (ps_set (i := 4) sc__law_pattern.nd rfl (Or.inl rfl) (pe_op op_addT (pv 4) pe_str))) (pss_one (ps_if (PW.pt (pw_or (pt_cmpR op_eq (pv 6) pe_int (nomark _)) (pw_or1 (pt_cmpR (op_eqK K hr.units) (pv 3) (pe_lst pa_nil) (nomark _))))) (pss_one (ps_set (i := 4) sc__law_pattern.nd rfl (Or.inl rfl) (pe_op op_addT (pv 4) pe_str))) (pss_one (ps_set (i := 4) sc__law_pattern.nd rfl (Or.inl rfl) (pe_op op_addT (pv 4) (pe_ix (ix_listK K) (pv 3) (pe_call (ok__law_take T) (hr.mono (by decide)) (by rfl) T.g__law_take T.F__law_take.kp (b__law_take T) .nil pass0 (pa_cons (pv 0) (pa_cons (pe_callB (call_lenK K) (by rfl) T.m_len PySem.boot_len (pa_cons (pv 3) pa_nil)) pa_nil))) (fun _ _ => rfl)))))))))))
      (pss_one (ps_ret (pv 4)))))), ?_⟩
    refine run_B (W := fun _ _ _ _ => False) (K := K) (b := b) (P := fun r => ∃ (pat : List Nat), ((∀ c ∈ pat, c = 63 ∨ c = 42 ∨ c ∈ l) ∧ pat.length ≤ cap) ∧ r = rSt pat) (Γ := [some (rV (.ref b)), some (rD z kvs), some (nI cap), none, none, none, none]) ?_ e gb hbox (En.start (k := 4) _ (rs := rV (.ref b) :: [rD z kvs, nI cap]) (.cons rfl ra) (by show _ - (ws.length + 1) = _; rw [ra.len]; rfl)) k
    clear ra e k gb hbox
    refine w_seq (ws_set ?_)
    wtm_at "e"
    try dsimp only [List.set]
    refine w_seq (ws_set (e_c ?_))
    rw [show rV (.str ("" : Str)) = rSt [] from rfl]
    try dsimp only [List.set]

    have hS : l.map rC = (l.map ltr).map rS := by rw [List.map_map]; rfl
    have hok : ∀ s ∈ l.map ltr, PyData.strOk s = true := fun s hs => by
      obtain ⟨c, hc, rfl⟩ := List.mem_map.mp hs
      have : c < 200 := (by decide : ∀ x ∈ alphaL, x < 200) c (q1 c hc)
      simp [PyData.strOk, ltr]
      omega

    refine w_seq (w_forRW (α := List Nat) ?_)
    wtm_at "e"
    intro d hd
    wtm_at "e"
    obtain ⟨mm, hmm, hm2⟩ : ∃ mm : Nat, ((1 + d : Nat) : Int) % ((cap + 1 : Nat) : Int) = (mm : Int) ∧ mm ≤ cap := ⟨(1 + d) % (cap + 1), by first | rfl | exact (Int.natCast_emod _ _).symm, Nat.le_of_lt_succ (Nat.mod_lt _ (Nat.succ_pos _))⟩
    refine ⟨mm, fun i (pat : List Nat) => (∀ c ∈ pat, c = 63 ∨ c = 42 ∨ c ∈ l) ∧ pat.length = i, fun _ pat => [some (rV (.ref b)), some (rD z kvs), some (nI cap), some (rL K (l.map rC)), some (rSt pat), none, none], fun _ _ => [boxR K b], [], ?_, by omega, ⟨fun c hc => (nomatch hc), rfl⟩, by wtm_at "sub", rfl, fun i pat hi hP => ?_, fun pat hP => ?_⟩
    · exact congrArg (fun z => rV (.int z)) hmm
    · dsimp only [List.set]
      obtain ⟨hP1, hP2⟩ := hP
      have more : ∀ c, (c = 63 ∨ c = 42 ∨ c ∈ l) → (∀ x ∈ pat ++ [c], x = 63 ∨ x = 42 ∨ x ∈ l) ∧ (pat ++ [c]).length = i + 1 := fun c hc => ⟨fun x hx => by
        rcases List.mem_append.mp hx with z | z
        · exact hP1 x z
        · rw [List.mem_singleton.mp z]; exact hc, by rw [List.length_append, hP2]; rfl⟩
      refine w_seq (ws_set ?_)
      wtm_at "e"
      intro kd hkd
      try dsimp only [List.set]
      refine ws_if (w_t ?_)
      wtm_at "e"
      refine ⟨_, rfl, fun _ => ?_, fun _ => ?_⟩
      · refine ws_set (e_op (e_v rfl (e_c ?_)))
        rw [show rV (.str ("*" : Str)) = rSt [42] from rfl]
        exact om_addL (by show pat.length + 1 ≤ _; omega) ⟨pat ++ [42], more 42 (.inr (.inl rfl)), by wtm_at "sub", rfl⟩
      · apply w_if (b := decide (kd = 1) || decide (l = []))
        · refine t_or (t_T (x_is (x_eqN (x_v rfl) (x_cn 1)) rfl)) fun _ => ?_
          apply t_is
          · exact t_T (x_eqS0 (K := K) hok (x_is (x_v rfl) (by rw [hS])) (EvNX.d (K := K) (xn_lst xa_nil (by decide))))
          · simp
        · intro _
          refine ws_set (e_op (e_v rfl (e_c ?_)))
          rw [show rV (.str ("?" : Str)) = rSt [63] from rfl]
          exact om_addL (by show pat.length + 1 ≤ _; omega) ⟨pat ++ [63], more 63 (.inl rfl), by wtm_at "sub", rfl⟩
        · intro hb
          have hne : l ≠ [] := fun z => by rw [z] at hb; simp at hb
          have hl0 : 0 < l.length := List.length_pos_iff.mpr hne
          refine ws_set ?_
          wtm_at "e"
          intro k hk
          obtain ⟨c, hc⟩ : ∃ c, l[k]? = some c := ⟨_, List.getElem?_eq_getElem hk⟩
          have hcc : (l.map rC)[k]? = some (rC c) := by rw [List.getElem?_map, hc]; rfl
          have hl2 : pat.length + [c].length ≤ 100000 := by
            show pat.length + 1 ≤ _
            omega
          wtm_at "e"
          exact ⟨pat ++ [c], more c (.inr (.inr (List.mem_of_getElem? hc))), by wtm_at "sub", rfl⟩
    · refine ws_ret (e_v rfl ?_)
      exact ⟨⟨pat, ⟨hP.1, by rw [hP.2]; exact hm2⟩, rfl⟩, rfl⟩
theorem c_law_pattern (T : Tx P K mg) {M : List Re} {κ : KV} {b : Addr} {z : Bool} {cap : Nat} {kvs : List (Key × Rp)} {l : List Nat} (hk : M[0]? = some (boxR K b)) (q0 : kvs.map (·.1) = l.map fun c => (Sum.inr (ltr c) : Key)) (q1 : ∀ c ∈ l, c ∈ alphaL) (q2 : l.length ≤ 26) (q3 : cap ≤ 12) (k : ∀ (pat : List Nat), ((∀ c ∈ pat, c = 63 ∨ c = 42 ∨ c ∈ l) ∧ pat.length ≤ cap) → κ (rSt pat) M) : CM (spB K (R_law_pattern K)) (rV (.ref b) :: [rD z kvs, nI cap]) M κ := c_B 0 hk (fun vs G ra => ⟨z, cap, kvs, l, ra, q0, q1, q2, q3, rfl⟩) fun ss h => by
  obtain ⟨pat, hc, rfl⟩ := h
  exact k pat hc
local macro_rules | `(tactic| wtm_at "c") => `(tactic| refine c_law_pattern (by assumption) rfl (by wtm_at "s") (by wtm_at "s") (by wtm_at "s") (by wtm_at "s") ?_)
theorem sc__law_matches : FnScope ["_law_pattern_here", "_law_row", "_law_ends", "_law_sign", "_law_at"] ["_law_pattern_here", "_law_row"] (defScope s__law_matches) := ⟨rfl, rfl, rfl, by decide +kernel, rfl, by decide +kernel, by decide +kernel⟩
theorem b__law_matches (T : Tx P K mg) : Binds K T.fd__law_matches ["_law_pattern_here", "_law_row"] [] := T.F__law_matches.bindsN fun _ _ _ _ _ _ us hl => match us, hl with | [_, _], _ => rfl
theorem ends_len {row : List Nat} : ∀ (l E : List Nat), E.length ≤ row.length + 1 → (l.foldl (endsL row) E).length ≤ row.length + 1
  | [], _, h => h
  | c :: l, E, h => by
    rw [List.foldl_cons]
    refine ends_len l _ ?_
    unfold endsL
    by_cases z : c = 42
    · rw [if_pos z]
      have := List.length_filter_le (fun j => !decide (E = []) && decide (E.headD 0 ≤ j)) (List.range (row.length + 1))
      rwa [List.length_range] at this
    · rw [if_neg z, List.length_map]
      exact Nat.le_trans (List.length_filter_le _ _) h

def R_law_matches (T : Tx P K mg) : List V → Hp → Rp → Prop := fun vs G r => ∃ (pat row : List Nat), RA G vs [rSt pat, rSt row] ∧ (pat.length ≤ 12) ∧ (row.length ≤ 100) ∧ r = rB (matL pat row)
theorem ok__law_matches (T : Tx P K mg) : FnOk P w K mg base CX0 1 T.f__law_matches T.fd__law_matches ["_law_pattern_here", "_law_row"] (spD (R_law_matches T)) := by
  refine T.F__law_matches.ok sc__law_matches (fun vs H Q E h => ?_) (fun cdv A outer s H vs Q E hr h => ?_)
  · obtain ⟨G, r, _, ⟨pat, row, ra, _⟩, _⟩ := h
    exact ra.len
  · obtain ⟨G, r, e, ⟨pat, row, ra, q0, q1, rfl⟩, k⟩ := h
    refine ⟨_, PSs.nox (pss_cons (ps_set (i := 2) sc__law_matches.nd rfl (Or.inr rfl) (pe_lst (pa_cons pe_int pa_nil)))
      (pss_cons (ps_for PassesOwn.never rfl (pi_str (pv 0)) (pg_name (i := 3) sc__law_matches.nd rfl (Or.inr rfl)) (pss_one (ps_if (pt_cmpR op_eq (pv 3) pe_str (nomark _)) (pss_one (ps_set (i := 2) sc__law_matches.nd rfl (Or.inr rfl) (pe_lc (own := [("_law_at", 4)]) (by rfl) sc__law_matches.nd (pi_range1 (by rfl) T.m_range (pa_cons (pe_op op_add (pe_callB call_lenT (by rfl) T.m_len PySem.boot_len (pa_cons (pv 1) pa_nil)) pe_int) pa_nil)) (blkOk_by (N := ["_law_pattern_here", "_law_row", "_law_ends", "_law_sign", "_law_at"]) (sc := defScope s__law_matches) (by decide +kernel)) (fun _ _ _ _ _ => (pg_name (i := 4) sc__law_matches.nd rfl (Or.inl rfl))) (fun _ _ _ _ _ => (pts_one (PW.pt (pw_and (pt_cmpR (op_neK K hr.units) (pv 2) (pe_lst pa_nil) (nomark _)) (pw_and1 (pt_cmpR op_ge (pv 4) (pe_ix (ix_listK K) (pv 2) pe_int (fun _ _ => rfl)) (nomark _))))))) (fun _ _ _ _ _ => (pv 4))))) (pss_one (ps_set (i := 2) sc__law_matches.nd rfl (Or.inr rfl) (pe_lc (own := [("_law_at", 4)]) (by rfl) sc__law_matches.nd (pi_listK K (pv 2)) (blkOk_by (N := ["_law_pattern_here", "_law_row", "_law_ends", "_law_sign", "_law_at"]) (sc := defScope s__law_matches) (by decide +kernel)) (fun _ _ _ _ _ => (pg_name (i := 4) sc__law_matches.nd rfl (Or.inl rfl))) (fun _ _ _ _ _ => (pts_one (PW.pt (pw_and (pt_cmpR op_lt (pv 4) (pe_callB call_lenT (by rfl) T.m_len PySem.boot_len (pa_cons (pv 1) pa_nil)) (nomark _)) (pw_and1 (PW.pt (pw_or (pt_cmpR op_eq (pv 3) pe_str (nomark _)) (pw_or1 (pt_cmpR op_eq (pe_ix ix_str (pv 1) (pv 4) (fun _ _ => rfl)) (pv 3) (nomark _)))))))))) (fun _ _ _ _ _ => (pe_op op_add (pv 4) pe_int))))))))
      (pss_one (ps_ret (pe_cmpR (op_inK K) (pe_callB call_lenT (by rfl) T.m_len PySem.boot_len (pa_cons (pv 1) pa_nil)) (pv 2) rfl))))), ?_⟩
    refine run_D (W := fun _ _ _ _ => False) (Γ := [some (rSt pat), some (rSt row), none, none, none]) ?_ e (En.start (k := 3) _ (rs := [rSt pat, rSt row]) ra (by rw [ra.len]; rfl)) k
    clear ra e k
    refine w_seq (ws_set (e_x (r := rLn K [0]) (EvNX.d (K := K) (xn_lst (rs := [nI 0]) (xa_cons (x_cn 0) xa_nil) (by show 1 ≤ 100000; decide))) ?_))
    try dsimp only [List.set]
    refine w_seq (w_forI (fun _ (_ : Unit) => True) (fun i _ => [some (rSt pat), some (rSt row), some (rLn K ((pat.take i).foldl (endsL row) [0])), none, none]) (fun _ _ => []) (ix_T (l := pat) (x_v rfl)) () trivial (by wtm_at "sub") rfl (fun i _ c hc _ => ?_) (fun _ _ => ?_))
    · dsimp only [List.set]
      have hE := ends_len (row := row) (pat.take i) [0] (by show 1 ≤ _; omega)
      have hst : (pat.take (i + 1)).foldl (endsL row) [0] = endsL row ((pat.take i).foldl (endsL row) [0]) c := by
        rw [List.take_add_one, hc, Option.toList, List.foldl_append, List.foldl_cons, List.foldl_nil]
      generalize (pat.take i).foldl (endsL row) [0] = en at hE hst ⊢
      apply w_if (b := decide (c = 42))
      · apply t_is
        · wtm_at "t"
        · simp only [v42]
      · intro hb
        have hb := of_decide_eq_true hb
        refine ws_set (e_x (r := rLn K (endsL row en c)) (x_is (EvNX.d (K := K) (xn_lcR (row.length + 1) (fun j => !decide (en = []) && decide (en.headD 0 ≤ j)) nI (by wtm_at "x") (by omega) (fun j hj => t_and (t_T (x_neLn (l := en) (m := []) (x_v rfl) (EvNX.d (K := K) (xn_lst xa_nil (by decide))))) fun hne => ?_) (fun j hj _ => x_v rfl) (by simp))) (by unfold endsL; rw [if_pos hb]; rfl)) ⟨(), trivial, ?_, rfl⟩)
        · obtain ⟨a, t, rfl⟩ : ∃ a t, en = a :: t := by
            cases en with
            | nil => simp at hne
            | cons a t => exact ⟨a, t, rfl⟩
          exact t_T (x_geN (x_v rfl) (x_ixL (K := K) (r := nI a) (x_v rfl) (x_cn 0) rfl))
        · dsimp only [List.set]
          rw [hst]
          wtm_at "sub"
      · intro hb
        have hb := of_decide_eq_false hb
        refine ws_set (e_x (r := rLn K (endsL row en c)) (x_is (EvNX.d (K := K) (xn_lcL (K := K) en nI (fun j => decide (j < row.length) && (decide (c = 63) || decide (row[j]? = some c))) (fun j => nI (j + 1)) (x_v rfl) (by omega) (fun j hj => t_and (c := decide (j < row.length)) ?_ fun hlt => t_or ?_ fun _ => ?_) (fun j hj _ => by wtm_at "x") (by simp))) (by unfold endsL; rw [if_neg hb]; show _ = rL K (List.map nI (List.map _ _)); rw [List.map_map]; rfl)) ⟨(), trivial, ?_, rfl⟩)
        · apply t_is
          · wtm_at "t"
          · rfl
        · apply t_is
          · wtm_at "t"
          · simp only [v63]
        · obtain ⟨x, hx⟩ : ∃ x, row[j]? = some x := ⟨_, List.getElem?_eq_getElem (of_decide_eq_true hlt)⟩
          apply t_is
          · wtm_at "t"
          · rw [hx]
            simp only [vs_eq, Option.some.injEq]
        · dsimp only [List.set]
          rw [hst]
          wtm_at "sub"
    · rw [List.take_length]
      refine ws_ret (e_x (r := rB (matL pat row)) ?_ rfl)
      apply x_is
      · wtm_at "x"
      · unfold matL
        first | rfl | simp
theorem c_law_matches (T : Tx P K mg) {M : List Re} {κ : KV} {pat row : List Nat} (q0 : pat.length ≤ 12) (q1 : row.length ≤ 100) (k : κ (rB (matL pat row)) M) : CM (spD (R_law_matches T)) [rSt pat, rSt row] M κ := cm (fun vs G ra => SpD.of ⟨pat, row, ra, q0, q1, rfl⟩) k
local macro_rules | `(tactic| wtm_at "c") => `(tactic| refine c_law_matches _ (by wtm_at "s") (by wtm_at "s") ?_)
theorem sc__law_first_of_forty : FnScope ["_law_cast_here", "_law_letters_here", "_law_head", "_law_last", "_law_wanted", "_law_found", "_law_row"] ["_law_cast_here", "_law_letters_here"] (defScope s__law_first_of_forty) := ⟨rfl, rfl, rfl, by decide +kernel, rfl, by decide +kernel, by decide +kernel⟩
theorem b__law_first_of_forty (T : Tx P K mg) : Binds K T.fd__law_first_of_forty ["_law_cast_here", "_law_letters_here"] [] := T.F__law_first_of_forty.bindsN fun _ _ _ _ _ _ us hl => match us, hl with | [_, _], _ => rfl
theorem strOk_w56 {w : List Nat} (h : ∀ c ∈ w, c ∈ alphaL) : PyData.strOk (sL w) = true := by
  have h2 : ∀ c ∈ w, c < 200 := fun c hc => (by decide : ∀ x ∈ alphaL, x < 200) c (h c hc)
  unfold PyData.strOk
  simp [sL]
  intro c hc
  have := h2 c hc
  omega
abbrev AW := {w : List Nat // ∀ c ∈ w, c ∈ alphaL}
theorem al_listW : ∀ {l : List (List Nat)}, (∀ w ∈ l, ∀ c ∈ w, c ∈ alphaL) → ∃ l' : List AW, l'.map (·.1) = l
  | [], _ => ⟨[], rfl⟩
  | w :: l, h => by
    obtain ⟨l', e⟩ := al_listW (l := l) fun x hx => h x (List.mem_cons_of_mem _ hx)
    exact ⟨⟨w, h w List.mem_cons_self⟩ :: l', by rw [List.map_cons, e]⟩
theorem dt_w56 {K : PySem.W.Frag} (a : AW) : Dt K 1 (rSt a.1) (.str (sL a.1)) := dt_s (by unfold PyData.canLay0; exact strOk_w56 a.2)
section
variable {Γ : Mu.Ctx} {ta tb : TE} {l : List (List Nat)}
theorem x_eqW (hl : ∀ w ∈ l, ∀ c ∈ w, c ∈ alphaL) (ha : EvX Γ ta (rL K (l.map rSt))) (hb : EvX Γ tb (rL K (l.map rSt))) : EvX Γ (tOp (rEqD K) ta tb) (rB true) := by
  obtain ⟨l', rfl⟩ := al_listW hl
  rw [List.map_map] at ha hb
  exact x_eqS (dt_l (ρ := fun a : AW => rSt a.1) dt_w56 l') (by decide) ha hb
theorem x_neW (hl : ∀ w ∈ l, ∀ c ∈ w, c ∈ alphaL) (ha : EvX Γ ta (rL K (l.map rSt))) (hb : EvX Γ tb (rL K (l.map rSt))) : EvX Γ (tOp (rNeD K) ta tb) (rB false) := by
  obtain ⟨l', rfl⟩ := al_listW hl
  rw [List.map_map] at ha hb
  exact x_neS (dt_l (ρ := fun a : AW => rSt a.1) dt_w56 l') (by decide) ha hb
end

theorem mat_zz {z : Nat} {row : List Nat} (h1 : z ≠ 42) (h2 : z ≠ 63) : matL [z, 42, z] row = true ↔ ∃ r, row = z :: (r ++ [z]) := by
  unfold matL
  rw [List.foldl_cons, List.foldl_cons, List.foldl_cons, List.foldl_nil, decide_eq_true_iff]
  have e1 : endsL row [0] z = if row[0]? = some z then [1] else [] := by
    unfold endsL
    rw [if_neg h1, List.filter_cons, List.filter_nil]
    by_cases q : row[0]? = some z
    · have hl : 0 < row.length := (List.getElem?_eq_some_iff.mp q).1
      rw [if_pos q, if_pos (by rw [decide_eq_true hl, decide_eq_true q]; simp)]
      rfl
    · rw [if_neg q, if_neg (by rw [decide_eq_false q, decide_eq_false h2]; simp)]
      rfl
  have e2 : ∀ E, endsL row E 42 = (List.range (row.length + 1)).filter (fun j => !decide (E = []) && decide (E.headD 0 ≤ j)) := fun E => if_pos rfl
  have e3 : ∀ E, endsL row E z = (E.filter fun j => decide (j < row.length) && (decide (z = 63) || decide (row[j]? = some z))).map (· + 1) := fun E => if_neg h1
  rw [e3, e2, List.mem_map, e1]
  constructor
  · rintro ⟨j, hj, hl⟩
    obtain ⟨h3, h4⟩ := List.mem_filter.mp hj
    obtain ⟨h5, h6⟩ := List.mem_filter.mp h3
    by_cases q : row[0]? = some z
    · rw [if_pos q] at h6
      have h6 : 1 ≤ j := by simpa using h6
      have h4 : row[j]? = some z := by
        have := (Bool.and_eq_true_iff.mp h4).2
        simpa [h2] using this
      match row, q, hl with
      | c :: r, q, hl =>
        obtain rfl : c = z := Option.some.inj q
        have hjr : j = r.length := by
          rw [List.length_cons] at hl
          omega
        obtain ⟨k, rfl⟩ : ∃ k, j = k + 1 := ⟨j - 1, by omega⟩
        have h4 : r[k]? = some c := h4
        refine ⟨r.take k, ?_⟩
        have : r = r.take k ++ [c] := by
          have h7 := List.take_add_one (l := r) (i := k)
          rw [h4, hjr, List.take_length] at h7
          exact h7
        rw [← this]
    · rw [if_neg q] at h6
      simp at h6
  · rintro ⟨r, rfl⟩
    refine ⟨r.length + 1, List.mem_filter.mpr ⟨List.mem_filter.mpr ⟨List.mem_range.mpr (by simp), ?_⟩, ?_⟩, by simp⟩
    · simp
    · have : (z :: (r ++ [z]))[r.length + 1]? = some z := by
        rw [List.getElem?_cons_succ, List.getElem?_append_right (Nat.le_refl _), Nat.sub_self]; rfl
      rw [this]
      simp
theorem flat_one {β : Type} {z : Nat} {f : Nat → List β} : ∀ {l : List Nat}, l.Nodup → z ∈ l → (∀ c ∈ l, c ≠ z → f c = []) → l.flatMap f = f z
  | [], _, h, _ => nomatch h
  | a :: l, hn, h, hf => by
    obtain ⟨n1, n2⟩ := List.nodup_cons.mp hn
    rw [List.flatMap_cons]
    rcases List.mem_cons.mp h with e | e
    · subst e
      rw [List.flatMap_eq_nil_iff.mpr fun c hc => hf c (List.mem_cons_of_mem _ hc) fun q => n1 (q ▸ hc), List.append_nil]
    · rw [hf a List.mem_cons_self fun q => n1 (q ▸ e), flat_one n2 e fun c hc => hf c (List.mem_cons_of_mem _ hc)]
      rfl
theorem filt_one {z : Nat} : ∀ {l : List Nat}, l.Nodup → z ∈ l → (l.filter fun c => decide (c = z)) = [z]
  | [], _, h => nomatch h
  | a :: l, hn, h => by
    obtain ⟨n1, n2⟩ := List.nodup_cons.mp hn
    rcases List.mem_cons.mp h with e | e
    · subst e
      have h0 : (l.filter fun c => decide (c = z)) = [] := List.filter_eq_nil_iff.mpr fun c hc q => n1 (of_decide_eq_true q ▸ hc)
      rw [List.filter_cons, if_pos (decide_eq_true rfl), h0]
    · rw [List.filter_cons, if_neg (by rw [decide_eq_false (fun q : a = z => n1 (q ▸ e))]; exact fun z => nomatch z), filt_one n2 e]
theorem zz_rows {l : List Nat} {z k : Nat} (hn : l.Nodup) (hz : z ∈ l) (h1 : z ≠ 42) (h2 : z ≠ 63) : (allR l (k + 2)).filter (matL [z, 42, z]) = (allR l k).map fun r => z :: (r ++ [z]) := by
  rw [allR_head, List.filter_flatMap, flat_one hn hz fun c hc hcz => ?_]
  · rw [allR_s, List.map_flatMap, List.filter_flatMap]
    rw [← List.flatMap_singleton' ((allR l k).map fun r => z :: (r ++ [z])), List.flatMap_map]
    refine flat_congr56 fun r hr => ?_
    rw [List.map_map, List.filter_map]
    have : (matL [z, 42, z] ∘ ((fun x => z :: x) ∘ fun c => r ++ [c])) = fun c => decide (c = z) := by
      funext c
      rw [Bool.eq_iff_iff, decide_eq_true_iff]
      show matL [z, 42, z] (z :: (r ++ [c])) = true ↔ _
      rw [mat_zz h1 h2]
      constructor
      · rintro ⟨r', e⟩
        have e := (List.cons.inj e).2
        have := congrArg List.getLast? e
        rw [List.getLast?_concat, List.getLast?_concat] at this
        exact Option.some.inj this
      · rintro rfl
        exact ⟨r, rfl⟩
    rw [this, filt_one hn hz]
    rfl
  · rw [List.filter_eq_nil_iff]
    intro w hw q
    obtain ⟨x, _, rfl⟩ := List.mem_map.mp hw
    obtain ⟨r, e⟩ := (mat_zz h1 h2).mp q
    exact hcz (List.cons.inj e).1
theorem allR_hd {a : Nat} {t : List Nat} : ∀ k, ∃ T, allR (a :: t) k = List.replicate k a :: T
  | 0 => ⟨[], rfl⟩
  | k + 1 => by
    obtain ⟨T, e⟩ := allR_hd (a := a) (t := t) k
    rw [allR_s, e, List.flatMap_cons, List.map_cons, ← List.replicate_succ']
    exact ⟨_, rfl⟩
theorem allR_one {a : Nat} : ∀ k, allR [a] k = [List.replicate k a]
  | 0 => rfl
  | k + 1 => by
    rw [allR_s, allR_one k, List.replicate_succ']
    rfl
theorem x_catW {Γ : Mu.Ctx} {ta tb : TE} {l l' : List Nat} (ha : EvX Γ ta (rSt l)) (hb : EvX Γ tb (rSt l')) (hz : l.length + l'.length ≤ 1000) : EvX Γ (tOp rAddT ta tb) (rSt (l ++ l')) := x_is (x_addT ha hb (by rw [sL_len, sL_len]; omega)) (by rw [show sL l ++ sL l' = sL (l ++ l') from sL_app])

def R_law_first_of_forty (T : Tx P K mg) : List V → Hp → Rp → Prop := fun vs G r => ∃ (n : Nat) (cs : CSt) (l : List Nat), RA G vs [rIns T.C_Cast (castZ K T.C_Table n cs), rL K (l.map rC)] ∧ (rosN cs = l) ∧ (l ≠ []) ∧ (∀ c ∈ l, c ∈ alphaL) ∧ (∀ c ∈ l, hasC cs c = true) ∧ r = rB true
theorem ok__law_first_of_forty (T : Tx P K mg) : FnOk P w K mg base CX0 8 T.f__law_first_of_forty T.fd__law_first_of_forty ["_law_cast_here", "_law_letters_here"] (spD (R_law_first_of_forty T)) := by
  refine T.F__law_first_of_forty.ok sc__law_first_of_forty (fun vs H Q E h => ?_) (fun cdv A outer s H vs Q E hr h => ?_)
  · obtain ⟨G, r, _, ⟨n, cs, l, ra, _⟩, _⟩ := h
    exact ra.len
  · obtain ⟨G, r, e, ⟨n, cs, l, ra, q0, q1, q2, q3, rfl⟩, k⟩ := h
    refine ⟨_, PSs.nox (pss_cons (ps_set (i := 2) sc__law_first_of_forty.nd rfl (Or.inl rfl) (pe_ix (ix_listK K) (pv 1) pe_int (fun _ _ => rfl)))
      (pss_cons (ps_set (i := 3) sc__law_first_of_forty.nd rfl (Or.inl rfl) (pe_ix (ix_listK K) (pv 1) (pe_un un_neg pe_int) (fun _ _ => rfl)))
      (pss_cons (ps_set (i := 4) sc__law_first_of_forty.nd rfl (Or.inl rfl) (pe_lst (pa_cons (pe_op op_addT (pe_op op_addT (pv 3) (pe_op op_mulT (pv 2) pe_int)) (pv 3)) pa_nil)))
      (pss_cons (ps_if (pt_cmpR op_gt (pe_callB (call_lenK K) (by rfl) T.m_len PySem.boot_len (pa_cons (pv 1) pa_nil)) pe_int (nomark _)) (pss_one (ps_expr (pe_bm PySem.F.plainAttrs_list PySem.F.slot_list_append PySem.F.type_list_append mt_append (pv 4) (pa_cons (pe_op op_addT (pe_op op_addT (pe_op op_addT (pv 3) (pe_op op_mulT (pv 2) pe_int)) (pe_ix (ix_listK K) (pv 1) pe_int (fun _ _ => rfl))) (pv 3)) pa_nil)))) pss_nil)
      (pss_cons (ps_set (i := 5) sc__law_first_of_forty.nd rfl (Or.inl rfl) (pe_lst pa_nil))
      (pss_cons (ps_nox (ps_forY0 rfl (hr.mono (by decide)) (py_call (ok_rows_of T) (hr.mono (by decide)) (by rfl) T.g_rows_of T.F_rows_of.kp (b_rows_of T) (pa_cons (pv 0) (pa_cons (pe_op op_addT (pe_op op_addT (pv 3) pe_str) (pv 3)) (pa_cons pe_int pa_nil)))) (pg_name (i := 6) sc__law_first_of_forty.nd rfl (Or.inl rfl)) (pss_cons (ps_expr (pe_bm PySem.F.plainAttrs_list PySem.F.slot_list_append PySem.F.type_list_append mt_append (pv 5) (pa_cons (pv 6) pa_nil)))
      (pss_one (ps_if (pt_cmpR op_eq (pe_callB (call_lenK K) (by rfl) T.m_len PySem.boot_len (pa_cons (pv 5) pa_nil)) pe_int (nomark _)) (pss_one ps_break) pss_nil)))))
      (pss_one (ps_ret (pe_cmpR (op_eqK K hr.units) (pv 5) (pv 4) (nomark _)))))))))), ?_⟩
    refine run_D (W := fun _ _ _ _ => False) (Γ := [some (rIns T.C_Cast (castZ K T.C_Table n cs)), some (rL K (l.map rC)), none, none, none, none, none]) ?_ e (En.start (k := 5) _ (rs := [rIns T.C_Cast (castZ K T.C_Table n cs), rL K (l.map rC)]) ra (by rw [ra.len]; rfl)) k
    clear ra e k
    have hn : l.Nodup := by rw [← q0]; exact (by decide : alphaL.Nodup).filter _
    have hl26 : l.length ≤ 26 := by rw [← q0]; exact Nat.le_trans (List.length_filter_le _ _) (by decide)
    obtain ⟨a, t, hlt⟩ : ∃ a t, l = a :: t := by
      cases l with
      | nil => exact absurd rfl q1
      | cons a t => exact ⟨a, t, rfl⟩
    obtain ⟨z, hz⟩ : ∃ z, l.getLast? = some z := ⟨_, List.getLast?_eq_getLast q1⟩
    have hzm := List.mem_of_getLast? hz
    have hz42 : z ≠ 42 := fun e => (by decide : ¬ (42 : Nat) ∈ alphaL) (e ▸ q2 z hzm)
    have hz63 : z ≠ 63 := fun e => (by decide : ¬ (63 : Nat) ∈ alphaL) (e ▸ q2 z hzm)
    have ham : a ∈ l := by rw [hlt]; exact List.mem_cons_self
    refine w_seq (ws_set (e_x (r := rSt [a]) (x_ixL (K := K) (x_v rfl) (x_cn 0) (by rw [hlt]; rfl)) ?_))
    try dsimp only [List.set]
    refine w_seq (ws_set (e_x (r := rSt [z]) (EvX.by fun W ε => e_op (e_x (x_v rfl) (e_x x_m1 (om_ixLast (rs := l.map rC) (r := rSt [z]) (by rw [List.getLast?_map, hz]; rfl) ⟨rfl, rfl⟩)))) ?_))
    try dsimp only [List.set]
    obtain ⟨Z, hZ⟩ : ∃ Z, Z = (allR l 38).map fun r => z :: (r ++ [z]) := ⟨_, rfl⟩
    obtain ⟨T37, h37⟩ := allR_hd (a := a) (t := t) 37
    obtain ⟨T38, h38⟩ := allR_hd (a := a) (t := t) 38
    rw [← hlt] at h37 h38
    have hZ0 : Z[0]? = some (z :: (List.replicate 38 a ++ [z])) := by rw [hZ, h38]; rfl
    have xrep : ∀ {Γ : Mu.Ctx} {ta tb : TE} (k : Nat), EvX Γ ta (rSt [a]) → EvX Γ tb (nI k) → k ≤ 100 → EvX Γ (tOp rMulT ta tb) (rSt (List.replicate k a)) := fun {Γ ta tb} k h1 h2 h3 => x_is (x_mulT (l := [a]) (k := k) h1 h2 (by show 1 ≤ 16; decide) (by omega)) (by simp)
    refine w_seq (ws_set (e_lstN (a_cons (e_x (r := rSt (z :: (List.replicate 38 a ++ [z]))) (x_is (x_catW (l := z :: List.replicate 38 a) (l' := [z]) (x_is (x_catW (l := [z]) (l' := List.replicate 38 a) (x_v rfl) (xrep 38 (x_v rfl) (x_cn 38) (by decide)) (by simp)) rfl) (x_v rfl) (by simp)) rfl) (a_nil ⟨by show 1 ≤ 100000; decide, fun q => ?_⟩)))))
    try dsimp only [List.set, List.cons_append, List.nil_append]
    refine w_cutM (fun W : List (List Nat) => W = Z.take 2) (fun _ => [some (rIns T.C_Cast (castZ K T.C_Table n cs)), some (rL K (l.map rC)), none, some (rSt [z]), some (rV (.ref q)), none, none]) (fun W => [lstR q (W.map rSt)]) ?_ fun W hW => ?_
    · apply w_if (b := decide (1 < l.length))
      · exact t_T (x_gtN (x_lenLm (l := l) (ρ := rC) (x_v rfl)) (x_cn 1))
      · intro hb
        have hb := of_decide_eq_true hb
        obtain ⟨b2, t2, ht2⟩ : ∃ b2 t2, t = b2 :: t2 := by
          cases t with
          | nil => rw [hlt] at hb; simp at hb
          | cons b2 t2 => exact ⟨b2, t2, rfl⟩
        refine ws_do (e_app 0 rfl (e_x (r := rSt (z :: (List.replicate 37 a ++ [b2] ++ [z]))) (x_is (x_catW (l := z :: (List.replicate 37 a ++ [b2])) (l' := [z]) (x_is (x_catW (l := z :: List.replicate 37 a) (l' := [b2]) (x_is (x_catW (l := [z]) (l' := List.replicate 37 a) (x_v rfl) (xrep 37 (x_v rfl) (x_cn 37) (by decide)) (by simp)) rfl) (x_ixL (K := K) (rs := l.map rC) (r := rSt [b2]) (x_v rfl) (x_cn 1) (by rw [hlt, ht2]; rfl)) (by simp)) (by simp)) (x_v rfl) (by simp)) (by simp)) ⟨_, rfl, by show 1 < 50000; decide, ?_⟩) rfl)
        refine ⟨Z.take 2, rfl, by wtm_at "sub", ?_⟩
        have : Z.take 2 = [z :: (List.replicate 38 a ++ [z]), z :: (List.replicate 37 a ++ [b2] ++ [z])] := by
          rw [hZ, allR_s, h37, List.flatMap_cons, hlt, ht2]
          simp
        rw [this]
        rfl
      · intro hb
        have hb := of_decide_eq_false hb
        refine w_nx ⟨Z.take 2, rfl, by wtm_at "sub", ?_⟩
        have ht2 : t = [] := by
          cases t with
          | nil => rfl
          | cons b2 t2 => rw [hlt] at hb; exact absurd (by simp : 1 < (a :: b2 :: t2).length) hb
        have : Z.take 2 = [z :: (List.replicate 38 a ++ [z])] := by
          rw [hZ, hlt, ht2, allR_one]
          simp
        rw [this]
        rfl
    subst hW
    refine w_seq (ws_set (e_lstN (a_nil ⟨by show 0 ≤ 100000; decide, fun p => ?_⟩)))
    try dsimp only [List.set, List.cons_append, List.nil_append]
    have hbp : badP cs [z, 42, z] 0 = none := badP_none (by show 0 + 3 ≤ 12; decide) fun c hc => by
      simp only [List.mem_cons, List.not_mem_nil, or_false] at hc
      rcases hc with e | e | e
      · rw [e]; exact .inr (.inr (q3 z hzm))
      · exact .inr (.inl e)
      · rw [e]; exact .inr (.inr (q3 z hzm))
    obtain ⟨out, ho⟩ : ∃ out, out = Z.map rSt := ⟨_, rfl⟩
    have hgen : EvY [some (rIns T.C_Cast (castZ K T.C_Table n cs)), some (rL K (l.map rC)), none, some (rSt [z]), some (rV (.ref q)), some (rV (.ref p)), none] (tCallY (spYl (R_rows_of T)) 3 (tCons (tVar 0) (tCons (tOp rAddT (tOp rAddT (tVar 3) (tC (V.str (Str.ofString "*")))) (tVar 3)) (tCons (tC (.int 40)) tNil)))) out := by
      have := yl_rows_of T (t0 := tVar 0) (t1 := tOp rAddT (tOp rAddT (tVar 3) (tC (V.str (Str.ofString "*")))) (tVar 3)) (t2 := tC (.int 40)) (Γ := [some (rIns T.C_Cast (castZ K T.C_Table n cs)), some (rL K (l.map rC)), none, some (rSt [z]), some (rV (.ref q)), some (rV (.ref p)), none]) (n := n) (cs := cs) (pat := [z, 42, z]) (len := 40) (x_v rfl) (x_is (x_catW (l := [z, 42]) (l' := [z]) (x_is (x_catW (l := [z]) (l' := [42]) (x_v rfl) (x_is x_c rfl) (by show 2 ≤ 1000; decide)) rfl) (x_v rfl) (by show 3 ≤ 1000; decide)) rfl) (x_cn 40) (by show 3 ≤ 12; decide) hbp (by decide)
      rw [rws_law, q0, zz_rows (k := 38) hn hzm hz42 hz63, ← hZ, ← ho] at this
      exact this
    refine w_sub (Γ' := [some (rIns T.C_Cast (castZ K T.C_Table n cs)), some (rL K (l.map rC)), none, some (rSt [z]), some (rV (.ref q)), some (rV (.ref p)), none]) (by wtm_at "sub") ?_
    have hol : ∀ i, (out.take i).length ≤ i := fun i => by rw [List.length_take]; exact Nat.min_le_left _ _
    refine w_cutM (fun _ : Unit => True) (fun _ => [some (rIns T.C_Cast (castZ K T.C_Table n cs)), some (rL K (l.map rC)), none, some (rSt [z]), some (rV (.ref q)), some (rV (.ref p)), none]) (fun _ => [lstR q ((Z.take 2).map rSt), lstR p (out.take 2)]) (w_forY hgen 2 (by decide) (fun i (_ : Unit) => i < 2) (fun _ _ => [some (rIns T.C_Cast (castZ K T.C_Table n cs)), some (rL K (l.map rC)), none, some (rSt [z]), some (rV (.ref q)), some (rV (.ref p)), none]) (fun i _ => [lstR q ((Z.take 2).map rSt), lstR p (out.take i)]) (fun i _ h => h) () (by decide) (by wtm_at "sub") rfl (fun i _ r nap hr hi => ?_) (fun i _ hi hnn => ?_)) fun _ _ => ?_
    · dsimp only [List.set, List.cons_append, List.nil_append]
      refine w_seq (ws_do (e_app 1 rfl (e_v rfl ⟨_, rfl, by have := hol i; omega, ?_⟩) rfl))
      dsimp only [List.set]
      have htk : out.take i ++ [r] = out.take (i + 1) := by rw [List.take_add_one, hr]; rfl
      rw [htk]
      have hlen : (out.take (i + 1)).length = i + 1 := by
        rw [List.length_take]
        have := (List.getElem?_eq_some_iff.mp hr).1
        omega
      refine ws_if (et_bx (c := decide (i + 1 = 2)) (fun _ => false) (bx_set (i := 5) bx_refl rfl (bx_lst (K := K) (k := 1) rfl)) ?_ ⟨fun hb => ?_, fun hb => ?_⟩)
      · dsimp only [List.set]
        exact t_T (x_eqN (x_is (x_lenL (x_v rfl)) (by rw [hlen])) (x_cn 2))
      · have hi1 : i + 1 = 2 := of_decide_eq_true hb
        refine w_brk' (tb := tBreak) ⟨[lstR q ((Z.take 2).map rSt), lstR p (out.take (i + 1))], rfl, (), trivial, by wtm_at "sub", by rw [hi1]⟩
      · have hi1 : i + 1 ≠ 2 := of_decide_eq_false hb
        exact w_nx ⟨[lstR q ((Z.take 2).map rSt), lstR p (out.take (i + 1))], rfl, (), by omega, by wtm_at "sub", rfl⟩
    · refine ⟨(), trivial, by wtm_at "sub", ?_⟩
      have h1 := List.getElem?_eq_none_iff.mp hnn
      rw [List.take_of_length_le h1, List.take_of_length_le (by omega : out.length ≤ 2)]
    refine w_frz K 1 5 rfl rfl ?_
    try dsimp only [List.set, List.eraseIdx]
    refine w_frz K 0 4 rfl rfl ?_
    try dsimp only [List.set, List.eraseIdx]
    have ho2 : out.take 2 = (Z.take 2).map rSt := by rw [ho, List.map_take]
    rw [ho2]
    have hA2 : ∀ w ∈ Z.take 2, ∀ c ∈ w, c ∈ alphaL := fun w hw c hc => by
      have hw := List.mem_of_mem_take hw
      rw [hZ] at hw
      obtain ⟨r, hr, rfl⟩ := List.mem_map.mp hw
      refine q2 c ?_
      rcases List.mem_cons.mp hc with e | e
      · rw [e]; exact hzm
      · rcases List.mem_append.mp e with e | e
        · exact allR_in _ r hr c e
        · rw [List.mem_singleton.mp e]; exact hzm
    exact ws_ret (e_x (x_eqW hA2 (x_v rfl) (x_v rfl)) rfl)
theorem c_law_first_of_forty (T : Tx P K mg) {M : List Re} {κ : KV} {n : Nat} {cs : CSt} {l : List Nat} (q0 : rosN cs = l) (q1 : l ≠ []) (q2 : ∀ c ∈ l, c ∈ alphaL) (q3 : ∀ c ∈ l, hasC cs c = true) (k : κ (rB true) M) : CM (spD (R_law_first_of_forty T)) [rIns T.C_Cast (castZ K T.C_Table n cs), rL K (l.map rC)] M κ := cm (fun vs G ra => SpD.of ⟨n, cs, l, ra, q0, q1, q2, q3, rfl⟩) k
local macro_rules | `(tactic| wtm_at "c") => `(tactic| refine c_law_first_of_forty _ (by wtm_at "s") (by wtm_at "s") (by wtm_at "s") (by wtm_at "s") ?_)
theorem sc_law : FnScope ["_law_script", "_law_box_here", "_law_n", "_law_folk_here", "_law_own_here", "_law_cast_here", "_law_pattern_here", "_law_wanted", "_law_many", "_law_due", "_law_row", "_law_turn", "_law_told"] ["_law_script"] (defScope s_law) := ⟨rfl, rfl, rfl, by decide +kernel, rfl, by decide +kernel, by decide +kernel⟩
def sp_law (K : PySem.W.Frag) : Sp := fun vs H Q _ => ∃ (a : Addr) (ns : List Int), vs = [.ref a] ∧ SqL K H a (ns.map V.int) ∧ ns.length ≤ 63 ∧ ∀ H', Q (.bl true) H'
section
variable {K : PySem.W.Frag} {n c : Nat} {fk : List FK}
def letF (fk : List FK) : List Nat := alphaL.filter fun c => decide (c ∈ fk.map FK.c)
theorem has_castE : hasC (castE n fk) c = decide (c ∈ fk.map FK.c) := by
  unfold hasC castE
  rw [List.any_map, Bool.eq_iff_iff, decide_eq_true_iff, List.any_eq_true]
  constructor
  · rintro ⟨f, hf, h⟩
    exact List.mem_map.mpr ⟨f, hf, of_decide_eq_true h⟩
  · intro h
    obtain ⟨f, hf, h⟩ := List.mem_map.mp h
    exact ⟨f, hf, decide_eq_true h⟩
theorem ros_castE : rosN (castE n fk) = letF fk := List.filter_congr fun c _ => has_castE
theorem letF_mem : c ∈ letF fk ↔ c ∈ alphaL ∧ c ∈ fk.map FK.c := by
  unfold letF
  rw [List.mem_filter, decide_eq_true_iff]
theorem letF_len : (letF fk).length ≤ 26 := Nat.le_trans (List.length_filter_le _ _) (by decide)
theorem letF_nodup : (letF fk).Nodup := (by decide : alphaL.Nodup).filter _
theorem one_of (nd : (fk.map FK.c).Nodup) (a : Nat) : (fk.filter fun f => decide (f.c = a)).map (fun _ => a) = if a ∈ fk.map FK.c then [a] else [] := by
  induction fk with
  | nil => rfl
  | cons g l ih =>
    rw [List.map_cons, List.nodup_cons] at nd
    rw [List.filter_cons]
    by_cases e : g.c = a
    · rw [if_pos (decide_eq_true e), if_pos (by rw [List.map_cons, e]; exact List.mem_cons_self), List.map_cons, ih nd.2, if_neg (by rw [← e]; exact nd.1)]
    · rw [if_neg (by simpa using e), ih nd.2, List.map_cons]
      by_cases z : a ∈ l.map FK.c
      · rw [if_pos z, if_pos (List.mem_cons_of_mem _ z)]
      · rw [if_neg z, if_neg (fun q => by
          rcases List.mem_cons.mp q with q | q
          · exact e q.symm
          · exact z q)]
theorem own_fst (nd : (fk.map FK.c).Nodup) : ∀ l : List Nat, (ownL fk l).map (·.1) = l.filter fun c => decide (c ∈ fk.map FK.c)
  | [] => rfl
  | a :: l => by
    have e : ownL fk (a :: l) = ((fk.filter fun f => decide (f.c = a)).map fun f => (a, f)) ++ ownL fk l := by simp [ownL]
    rw [e, List.map_append, own_fst nd l, List.map_map, List.filter_cons]
    rw [show ((fun x : Nat × FK => x.1) ∘ fun f => (a, f)) = fun _ => a from rfl, one_of nd a]
    by_cases z : a ∈ fk.map FK.c
    · rw [if_pos z, if_pos (decide_eq_true z)]; rfl
    · rw [if_neg z, if_neg (by simpa using z)]; rfl
theorem keys_own (nd : (fk.map FK.c).Nodup) : (ownK K n fk).map (·.1) = (letF fk).map fun c => (Sum.inr (ltr c) : Key) := by
  unfold ownK kvO
  rw [List.map_map]
  unfold letF
  rw [← own_fst nd alphaL, List.map_map]
  rfl
end
theorem nl_le : ∀ {l m : List Nat}, l.Nodup → (∀ c ∈ l, c ∈ m) → l.length ≤ m.length
  | [], _, _, _ => Nat.zero_le _
  | a :: l, m, nd, h => by
    have hd := List.nodup_cons.mp nd
    have h1 := nl_le (m := m.erase a) hd.2 fun c hc => (List.mem_erase_of_ne (fun z : c = a => hd.1 (z ▸ hc))).mpr (h c (List.mem_cons_of_mem _ hc))
    have h2 := List.length_erase_of_mem (h a List.mem_cons_self)
    have h3 : 0 < m.length := List.length_pos_of_mem (h a List.mem_cons_self)
    rw [List.length_cons]; omega

theorem ok_law (T : Tx P K mg) : FnOk P w K mg base CX0 15 T.f_law T.fd_law ["_law_script"] (sp_law K) := by
  refine T.F_law.ok sc_law (fun vs H Q E h => ?_) (fun cdv A outer s H vs Q E hr h => ?_)
  · obtain ⟨a, ns, rfl, _⟩ := h
    rfl
  · obtain ⟨a, ns, rfl, hS, hl, k⟩ := h
    refine ⟨_, PSs.nox (pss_cons (ps_set (i := 1) sc_law.nd rfl (Or.inl rfl) (pe_call (ok__law_box T) (hr.mono (by decide)) (by rfl) T.g__law_box T.F__law_box.kp (b__law_box T) .nil pass0 (pa_cons (pv 0) pa_nil)))
      (pss_cons (ps_set (i := 2) sc_law.nd rfl (Or.inl rfl) (pe_op op_add pe_int (pe_call (ok__law_take T) (hr.mono (by decide)) (by rfl) T.g__law_take T.F__law_take.kp (b__law_take T) .nil pass0 (pa_cons (pv 1) (pa_cons pe_int pa_nil)))))
      (pss_cons (ps_set (i := 3) sc_law.nd rfl (Or.inl rfl) (pe_call (ok__law_folk T) (hr.mono (by decide)) (by rfl) T.g__law_folk T.F__law_folk.kp (b__law_folk T) .nil pass0 (pa_cons (pv 1) (pa_cons (pv 2) (pa_cons (pe_op op_mod (pe_callTy call_int1 (by rfl) T.m_int (by decide +kernel) (pa_cons (pe_op op_add pe_int (pe_call (ok__law_take T) (hr.mono (by decide)) (by rfl) T.g__law_take T.F__law_take.kp (b__law_take T) .nil pass0 (pa_cons (pv 1) (pa_cons pe_int pa_nil)))) pa_nil)) pe_int) pa_nil)))))
      (pss_cons (ps_set (i := 4) sc_law.nd rfl (Or.inl rfl) (pe_call (ok__law_own T) (hr.mono (by decide)) (by rfl) T.g__law_own T.F__law_own.kp (b__law_own T) .nil pass0 (pa_cons (pv 3) pa_nil)))
      (pss_cons (ps_set (i := 5) sc_law.nd rfl (Or.inl rfl) (pe_call (ok__law_cast T) (hr.mono (by decide)) (by rfl) T.g__law_cast T.F__law_cast.kp (b__law_cast T) .nil pass0 (pa_cons (pv 2) (pa_cons (pv 3) pa_nil))))
      (pss_cons (ps_set (i := 6) sc_law.nd rfl (Or.inr rfl) (pe_call (ok__law_pattern T) (hr.mono (by decide)) (by rfl) T.g__law_pattern T.F__law_pattern.kp (b__law_pattern T) .nil pass0 (pa_cons (pv 1) (pa_cons (pv 4) (pa_cons pe_int pa_nil)))))
      (pss_cons (ps_set (i := 7) sc_law.nd rfl (Or.inl rfl) (pe_lst (pa_cons (pe_call (ok__law_take T) (hr.mono (by decide)) (by rfl) T.g__law_take T.F__law_take.kp (b__law_take T) .nil pass0 (pa_cons (pv 1) (pa_cons pe_int pa_nil))) (pa_cons (pe_callB (call_min2 rfl) (by rfl) T.m_min (by decide +kernel) (pa_cons pe_int (pa_cons (pe_callB call_lenT (by rfl) T.m_len PySem.boot_len (pa_cons (pv 6) pa_nil)) pa_nil))) pa_nil))))
      (pss_cons (ps_if (pt_cmpR op_lt (pe_callB (call_lenK K) (by rfl) T.m_len PySem.boot_len (pa_cons (pv 3) pa_nil)) pe_int (nomark _)) (pss_one (ps_expr (pe_bm PySem.F.plainAttrs_list PySem.F.slot_list_append PySem.F.type_list_append mt_append (pv 7) (pa_cons pe_int pa_nil)))) pss_nil)
      (pss_cons (ps_for PassesOwn.never rfl (pi_listK K (pv 7)) (pg_name (i := 8) sc_law.nd rfl (Or.inl rfl)) (pss_cons (ps_setLc (i := 9) (own := [("_law_row", 10)]) (by rfl) sc_law.nd rfl rfl (sw_true rfl rfl rfl (by decide +kernel)) (pi_listK K (pe_call (ok__law_all_rows T) (hr.mono (by decide)) (by rfl) T.g__law_all_rows T.F__law_all_rows.kp (b__law_all_rows T) .nil pass0 (pa_cons (pv 4) (pa_cons (pv 8) pa_nil)))) (blkOk_by (N := ["_law_script", "_law_box_here", "_law_n", "_law_folk_here", "_law_own_here", "_law_cast_here", "_law_pattern_here", "_law_wanted", "_law_many", "_law_due", "_law_row", "_law_turn", "_law_told"]) (sc := defScope s_law) (by decide +kernel)) (fun _ _ _ _ _ => (pg_name (i := 10) sc_law.nd rfl (Or.inl rfl))) (fun _ _ _ _ _ => (pts_one (pt_val (pe_call (ok__law_matches T) (hr.mono (by decide)) (by rfl) T.g__law_matches T.F__law_matches.kp (b__law_matches T) .nil pass0 (pa_cons (pv 6) (pa_cons (pv 10) pa_nil)))))) (fun _ _ _ _ _ => (pv 10)))
      (pss_one (ps_for PassesOwn.never rfl (pi_range1 (by rfl) T.m_range (pa_cons pe_int pa_nil)) (pg_name (i := 11) sc_law.nd rfl (Or.inl rfl)) (pss_cons (ps_set (i := 12) sc_law.nd rfl (Or.inl rfl) (pe_listY (py_call (ok_rows_of T) (hr.mono (by decide)) (by rfl) T.g_rows_of T.F_rows_of.kp (b_rows_of T) (pa_cons (pv 5) (pa_cons (pv 6) (pa_cons (pv 8) pa_nil)))) (hr.mono (by decide)) (by rfl) T.m_list (by rfl)))
      (pss_one (ps_if (PW.pt (pw_or (pt_cmpR (op_neK K hr.units) (pv 12) (pv 9) (nomark _)) (pw_or1 (pt_cmpR op_gt (pe_callB (call_lenK K) (by rfl) T.m_len PySem.boot_len (pa_cons (pe_lc (own := [("_law_row", 10)]) (by rfl) sc_law.nd (pi_listK K (pv 12)) (blkOk_by (N := ["_law_script", "_law_box_here", "_law_n", "_law_folk_here", "_law_own_here", "_law_cast_here", "_law_pattern_here", "_law_wanted", "_law_many", "_law_due", "_law_row", "_law_turn", "_law_told"]) (sc := defScope s_law) (by decide +kernel)) (fun _ _ _ _ _ => (pg_name (i := 10) sc_law.nd rfl (Or.inl rfl))) (fun _ _ _ _ _ => (pts_one (pt_not (pt_val (pe_callB (call_isiK K) (by rfl) T.m_isinstance (by decide +kernel) (pa_cons (pv 10) (pa_cons (pe_bltn (v := .ty "str") (by rfl) T.m_str (by decide +kernel) rfl) pa_nil))))))) (fun _ _ _ _ _ => (pv 10))) pa_nil)) pe_int (nomark _))))) (pss_one (ps_ret pe_bl)) pss_nil)))))))
      (pss_cons (ps_if (PW.pt (pw_and (pt_cmpR (op_neF0 (Nat.lt_of_succ_lt hr.u1)) (pv 4) pe_dnewK (nomark _)) (pw_and1 (pt_not (pt_val (pe_call (ok__law_first_of_forty T) (hr.mono (by decide)) (by rfl) T.g__law_first_of_forty T.F__law_first_of_forty.kp (b__law_first_of_forty T) .nil pass0 (pa_cons (pv 5) (pa_cons (pe_callTy (call_listR rfl) (by rfl) T.m_list (by decide +kernel) (pa_cons (pv 4) pa_nil)) pa_nil)))))))) (pss_one (ps_ret pe_bl)) pss_nil)
      (pss_one (ps_ret (pe_and (pe_cmpR (op_eqK K hr.units) (pe_listY (py_call (ok_rows_of T) (hr.mono (by decide)) (by rfl) T.g_rows_of T.F_rows_of.kp (b_rows_of T) (pa_cons (pv 5) (pa_cons pe_str (pa_cons pe_int pa_nil)))) (hr.mono (by decide)) (by rfl) T.m_list (by rfl)) (pe_lst (pa_cons pe_str pa_nil)) (nomark _)) (pe_one (pe_cmpR (op_eqK K hr.units) (pe_listY (py_call (ok_rows_of T) (hr.mono (by decide)) (by rfl) T.g_rows_of T.F_rows_of.kp (b_rows_of T) (pa_cons (pv 5) (pa_cons pe_str (pa_cons pe_int pa_nil)))) (hr.mono (by decide)) (by rfl) T.m_list (by rfl)) (pe_lst pa_nil) (nomark _)))))))))))))))), ?_⟩
    refine run_law (W := fun _ _ _ _ => False) (n := 12) (i := 1) hS hl rfl rfl (by decide) k fun b => ?_
    change WP _ [none, some (rV (.ref b)), none, none, none, none, none, none, none, none, none, none, none] [boxR K b] _ _
    clear k hS hl
    refine w_seq (ws_set ?_)
    wtm_at "e"
    intro d hd
    wtm_at "e"
    obtain ⟨n, hn⟩ : ∃ n, n = 1 + d := ⟨_, rfl⟩
    rw [← hn]
    have h1 : 1 ≤ n := by omega
    have h6 : n ≤ 6 := by omega
    clear hn hd d
    try dsimp only [List.set]

    refine w_seq (ws_set ?_)
    wtm_at "e"
    intro d hd
    wtm_at "e"
    obtain ⟨m, hm, hm3⟩ : ∃ m : Nat, ((1 + d : Nat) : Int) % ((4 : Nat) : Int) = (m : Int) ∧ m ≤ 3 := ⟨(1 + d) % 4, by omega, by omega⟩
    rw [show rV (V.int (((1 + d : Nat) : Int) % ((4 : Nat) : Int))) = nI m from congrArg (fun z => rV (.int z)) hm]
    refine c_law_folk T rfl h1 h6 (by omega) fun fk ho => ?_
    obtain ⟨ho, hlf⟩ := ho
    try dsimp only [List.set]
    have l20 : fk.length ≤ 20 := by omega
    have l8 : fk.length ≤ 8 := by omega
    refine w_seq (ws_set ?_)
    wtm_at "e"
    try dsimp only [List.set]
    refine w_seq (ws_set ?_)
    wtm_at "e"
    try dsimp only [List.set]
    have hL := letF_len (fk := fk)
    have hks := keys_own (K := K) (n := n) ho.nd
    have hLA : ∀ c ∈ letF fk, c ∈ alphaL := fun c hc => (letF_mem.mp hc).1
    have hH : ∀ c ∈ letF fk, hasC (castE n fk) c = true := fun c hc => by rw [has_castE]; exact decide_eq_true (letF_mem.mp hc).2
    have hros : rosN (castE n fk) = letF fk := ros_castE
    have hl3 : (letF fk).length ≤ fk.length := by
      have := nl_le (letF_nodup (fk := fk)) fun c hc => (letF_mem.mp hc).2
      rwa [List.length_map] at this
    refine w_seq (ws_set ?_)
    wtm_at "e"
    intro pat hpat
    obtain ⟨hp1, hp2⟩ := hpat
    try dsimp only [List.set]
    have hbp : badP (castE n fk) pat 0 = none := badP_none (by omega) fun c hc => (hp1 c hc).imp id (·.imp id (hH c))
    obtain ⟨l, hl⟩ : ∃ l, l = letF fk := ⟨_, rfl⟩
    rw [← hl] at hros hl3 hks hL hLA hH hp1
    have hp12 : pat.length ≤ 12 := by omega
    have hgenL : ∀ {Γ : Mu.Ctx} {tc tp tk : TE} {pt : List Nat} {k : Nat}, EvX Γ tc (rIns T.C_Cast (castZ K T.C_Table n (castE n fk))) → EvX Γ tp (rSt pt) → EvX Γ tk (nI k) → pt.length ≤ 12 → badP (castE n fk) pt 0 = none → k ≤ 60 → (allR l k).length < 50000 → EvX Γ (tListY (tCallY (spYl (R_rows_of T)) 3 (tCons tc (tCons tp (tCons tk tNil))))) (rL K (((allR l k).filter (matL pt)).map rSt)) := fun {Γ tc tp tk pt k} a b c h1 h2 h3 h4 => by
      have := yl_rows_of T a b c h1 h2 h3
      rw [hros, rws_law] at this
      refine EvNX.d (K := K) (xn_listY this ?_)
      rw [List.length_map]
      exact Nat.lt_of_le_of_lt (List.length_filter_le _ _) h4
    refine w_seq (ws_set (e_lstN (a_cons (e_call (a_cons (e_v rfl (a_cons (e_cn (a_nil (c_take 0 rfl (by decide) (by decide) fun w0 hw0 => a_cons (e_x (r := nI (min 4 pat.length)) (x_minM (x_cn 4) (x_lenTx (x_v rfl) (by omega))) (a_nil ⟨by show 2 ≤ 100000; decide, fun p => ?_⟩))))))))))))
    try dsimp only [List.set, List.cons_append, List.nil_append]
    have p34 : ∀ k, k ≤ 4 → l.length ^ k ≤ 100 := fun k hk => Nat.le_trans (Nat.pow_le_pow_left (show l.length ≤ 3 by omega) k) (Nat.le_trans (Nat.pow_le_pow_right (by decide) hk) (by decide))
    refine w_cutM (fun W : List Nat => ∀ k ∈ W, k ≤ 6 ∧ l.length ^ k ≤ 100) (fun _ => [none, some (rV (.ref b)), some (nI n), some (rL K (fk.map (rOne K n))), some (rD true (ownK K n fk)), some (rIns T.C_Cast (castZ K T.C_Table n (castE n fk))), some (rSt pat), some (rV (.ref p)), none, none, none, none, none]) (fun W => [boxR K b, lstR p (W.map nI)]) ?_ fun W hW => ?_
    · apply w_if (b := decide (fk.length < 3))
      · exact t_T (x_ltN (x_lenLm (x_v rfl)) (x_cn 3))
      · intro hb
        have hb := of_decide_eq_true hb
        refine ws_do (e_app 1 rfl (e_cn ⟨_, rfl, by show 2 < 50000; decide, ?_⟩) rfl)
        refine ⟨[w0, min 4 pat.length, 6], fun k hk => ?_, by wtm_at "sub", rfl⟩
        simp only [List.mem_cons, List.not_mem_nil, or_false] at hk
        rcases hk with e | e | e
        · exact ⟨by omega, p34 k (by omega)⟩
        · exact ⟨by omega, p34 k (by omega)⟩
        · rw [e]
          exact ⟨Nat.le_refl _, Nat.le_trans (Nat.pow_le_pow_left (show l.length ≤ 2 by omega) 6) (by decide)⟩
      · intro hb
        refine w_nx ⟨[w0, min 4 pat.length], fun k hk => ?_, by wtm_at "sub", rfl⟩
        simp only [List.mem_cons, List.not_mem_nil, or_false] at hk
        rcases hk with e | e
        · exact ⟨by omega, p34 k (by omega)⟩
        · exact ⟨by omega, p34 k (by omega)⟩
    refine w_frz K 1 7 rfl rfl ?_
    try dsimp only [List.set, List.eraseIdx]
    refine w_seq (w_forL (K := K) W nI (fun _ (_ : Unit) => True) (fun _ _ => [none, some (rV (.ref b)), some (nI n), some (rL K (fk.map (rOne K n))), some (rD true (ownK K n fk)), some (rIns T.C_Cast (castZ K T.C_Table n (castE n fk))), some (rSt pat), none, none, none, none, none, none]) (fun _ _ => [boxR K b]) (x_v rfl) () trivial (by wtm_at "sub") rfl (fun wi _ k hk _ => ?_) (fun _ _ => ?_))
    · dsimp only [List.set]
      obtain ⟨hk6, hk100⟩ := hW k (List.mem_of_getElem? hk)
      have hkl : (allR l k).length ≤ 100 := by rw [allR_len]; exact hk100
      have hRA : ∀ w ∈ (allR l k).filter (matL pat), ∀ c ∈ w, c ∈ alphaL := fun w hw c hc => hLA c (allR_in k w (List.mem_filter.mp hw).1 c hc)
      obtain ⟨R, hR⟩ : ∃ R, R = (allR l k).filter (matL pat) := ⟨_, rfl⟩
      have hRl : R.length ≤ 100 := by rw [hR]; exact Nat.le_trans (List.length_filter_le _ _) hkl
      refine w_seq (ws_set (e_x (r := rL K (R.map rSt)) (x_is (EvNX.d (K := K) (xn_lcL (K := K) (allR l k) rSt (matL pat) rSt (x_call (xa_cons (x_v rfl) (xa_cons (x_v rfl) xa_nil)) fun vs G ra => SpD.of ⟨ownK K n fk, l, k, ra, hks, by omega, hk6, rfl⟩) (by omega) (fun w hw => t_B (x_call (xa_cons (x_v rfl) (xa_cons (x_v rfl) xa_nil)) fun vs G ra => SpD.of ⟨pat, w, ra, hp12, by rw [allR_el k w hw]; omega, rfl⟩)) (fun w hw _ => x_v rfl) (by simp))) (by rw [hR])) ?_))
      try dsimp only [List.set]
      refine w_forR 2 (fun _ (_ : Unit) => True) (fun _ _ => [none, some (rV (.ref b)), some (nI n), some (rL K (fk.map (rOne K n))), some (rD true (ownK K n fk)), some (rIns T.C_Cast (castZ K T.C_Table n (castE n fk))), some (rSt pat), none, some (nI k), some (rL K (R.map rSt)), none, none, none]) (fun _ _ => [boxR K b]) (x_cn 2) (by omega) () trivial (by wtm_at "sub") rfl (fun i _ hi _ => ?_) (fun _ _ => ⟨(), trivial, by wtm_at "sub", rfl⟩)
      dsimp only [List.set]
      refine w_seq (ws_set (e_x (r := rL K (R.map rSt)) (x_is (hgenL (x_v rfl) (x_v rfl) (x_v rfl) hp12 hbp (by omega) (by omega)) (by rw [hR])) ?_))
      try dsimp only [List.set]
      apply w_no
      · refine t_is (t_or (c := false) (d := false) (t_T (x_neW (by rw [hR]; exact hRA) (x_v rfl) (x_v rfl))) fun _ => t_is (t_T (x_gtN (m := 0) (n := 0) (x_is (x_lenLm (l := R.filter fun _ => false) (ρ := rSt) (EvNX.d (K := K) (xn_lcL (K := K) R rSt (fun _ => false) rSt (x_v rfl) (by omega) (fun w hw => t_is (t_not (t_B (x_isStrS (s := sL w) (x_v rfl)))) rfl) (fun w hw z => nomatch z) (by simp)))) (by rw [show (R.filter fun _ => false) = [] from List.filter_eq_nil_iff.mpr fun _ _ z => nomatch z]; rfl)) (x_cn 0))) rfl) rfl
      exact w_nx ⟨(), trivial, by wtm_at "sub", rfl⟩
    dsimp only
    refine w_cutM (fun _ : Unit => True) (fun _ => [none, some (rV (.ref b)), some (nI n), some (rL K (fk.map (rOne K n))), some (rD true (ownK K n fk)), some (rIns T.C_Cast (castZ K T.C_Table n (castE n fk))), some (rSt pat), none, none, none, none, none, none]) (fun _ => [boxR K b]) ?_ fun _ _ => ?_
    · refine ws_if (w_tAnd (w_t (e_neF0 (x_v rfl) fun dq => ⟨_, rfl, fun hb => ?_, fun hb => ⟨(fun z => nomatch z), fun _ => w_few [boxR K b] [_] (w_nx ⟨(), trivial, by wtm_at "sub", rfl⟩)⟩⟩)))
      have hne : l ≠ [] := fun e => by
        rw [e] at hks
        have := congrArg List.length hks
        rw [List.length_map] at this
        rw [this] at hb
        exact nomatch hb
      refine w_tx (c := false) (t_is (t_not (t_B (x_call (xa_cons (x_v rfl) (xa_cons (EvX.by fun W ε => e_cb (a_cons (e_v rfl (a_nil (am_listK hks ⟨rfl, rfl⟩))))) xa_nil)) fun vs G ra => SpD.of ⟨n, castE n fk, l, ra, hros, hne, hLA, hH, rfl⟩))) rfl) ⟨(fun z => nomatch z), fun _ => w_few [boxR K b] [_] (w_nx ⟨(), trivial, by wtm_at "sub", rfl⟩)⟩
    have hal0 : (allR l 0).filter (matL []) = [[]] := by
      show List.filter _ [[]] = _
      rw [List.filter_cons, if_pos (by rw [matL_nil]; rfl), List.filter_nil]
    have hal1 : (allR l 1).filter (matL []) = [] := by
      rw [List.filter_eq_nil_iff]
      intro w hw z
      rw [matL_nil] at z
      have := allR_el 1 w hw
      rw [of_decide_eq_true z] at this
      exact nomatch this
    refine ws_ret (e_x (r := rB true) (x_and (c := true) (d := true) ?_ fun _ => ?_) rfl)
    · exact x_eqW (l := [[]]) (fun w hw c hc => by rw [List.mem_singleton.mp hw] at hc; exact nomatch hc) (x_is (hgenL (pt := []) (x_v rfl) (x_is x_c rfl) (x_cn 0) (Nat.zero_le _) rfl (by decide) (by rw [allR_len, Nat.pow_zero]; decide)) (by rw [hal0])) (x_is (EvNX.d (K := K) (xn_lst (rs := [rSt []]) (xa_cons (x_is x_c rfl) xa_nil) (by show 1 ≤ 100000; decide))) rfl)
    · exact x_eqW (l := []) (fun w hw => nomatch hw) (x_is (hgenL (pt := []) (x_v rfl) (x_is x_c rfl) (x_cn 1) (Nat.zero_le _) rfl (by decide) (by rw [allR_len, Nat.pow_one]; omega)) (by rw [hal1])) (EvNX.d (K := K) (xn_lst xa_nil (by decide)))
end
end MuL

set_option maxHeartbeats 0
open PySem PySem.W PySem.Calls PyProof.Rows
set_option maxRecDepth 100000 in
set_option maxHeartbeats 0 in
theorem PySem.Challenge.cw_murmurline_k21_rows_of_a_pattern_holds : PySem.Challenge.rw_murmurline_k21_rows_of_a_pattern.Holds := by
  w_on; o_law
  refine HandSHeadRun.head_any (r := OpenLaw.row PySem.Challenge.rw_murmurline_k21_rows_of_a_pattern) (q := view (OpenLaw.row PySem.Challenge.rw_murmurline_k21_rows_of_a_pattern).prog [64]) (H := MuL.hk) (ob := MuL.ob) (M := 40000) (loose := MuL.loose) (d := HandSHeadRun.topDef (OpenLaw.row PySem.Challenge.rw_murmurline_k21_rows_of_a_pattern).prog 64) (kwd := []) MuL.ob_eq
    (by kernel_rfl) (fun s => by kernel_rfl) MuL.run (by kernel_rfl) (by kernel_rfl) (by kernel_rfl) (by rfl) (by first | assumption | decide +kernel) (by decide +kernel) ⟨rfl, rfl, rfl, rfl, rfl, by decide +kernel⟩ ?hw ?hc
  case hw => w_witness2
  case hc =>
    refine L2.walk_ofE (l := PySem.Challenge.rw_murmurline_k21_rows_of_a_pattern) (n := 63) (k := 15) (x := "_law_script") (CX := L2.CX0) rfl (by decide) (by kernel_rfl) ⟨rfl, by decide, by decide⟩ ?F (fun _ _ _ _ z => z)
    intro w mg fa h Y G hmg0
    obtain ⟨K, KX, c⟩ := Y
    have hmg : mg ("law" : PySem.Str) = some (.ref fa) := by
      have e : (HandSHeadRun.topDef (OpenLaw.row PySem.Challenge.rw_murmurline_k21_rows_of_a_pattern).prog 64).name = ("law" : PySem.Str) := by kernel_rfl
      rw [← e]
      exact hmg0
    obtain ⟨T, hT⟩ := MuL.mkTx (P := PySem.Challenge.rw_murmurline_k21_rows_of_a_pattern.prog) ⟨by kernel_rfl, by kernel_rfl⟩ KX G c
    have e := hmg.symm.trans T.g_law
    cases e
    exact ⟨K, T.fd_law, MuL.sp_law K, KX, fun s v => T.F_law.bindsA (ps := ["_law_script"]) (fun _ _ _ _ _ _ us hl => match us, hl with | [_], _ => rfl) s [v] rfl, fun H a ns hl _ hS => ⟨a, ns, rfl, hS, hl, fun _ => rfl⟩, fun base _ _ => MuL.ok_law T⟩
#print axioms PySem.Challenge.cw_murmurline_k21_rows_of_a_pattern_holds
