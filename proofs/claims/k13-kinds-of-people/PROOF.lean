import PyProof.Rows.All
import Wide.All
import OpenK.AllK
import Wide.FinOn
import KE.KStateDown
import Lean
import HandS.ForMost
import HandS.ForExc
import HandS.Evl
import HandS.IsInst
import HandS.Wide
import HandS.Defaults
import HandS.Conv
import HandS.Head0
import HandS.Head1
import HandS.Head2
import HandS.HeadEnd
import HandS.HeadHook1
import HandS.HeadHook2
import HandS.Star
import HandS.Deep
import HandS.Style
import KE.KExcSuper
import HandS.ExcInit
import HandS.ExcField
import HandS.ExcIs
import HandS.HotCalls
import KE.KExcIs
import HandS.Property
import PySem.Challenge.RW_murmurline_k13_kinds_of_people
set_option Elab.async false
set_option linter.all false
set_option maxRecDepth 100000
set_option maxHeartbeats 4000000

namespace Mu
open PySem PySem.Spec PyProof.Rows L2 He
abbrev FactB := PySem.W.Frag → Bool
abbrev FnS : Type := Option (Str × Str × Arguments × FuncBody × Scope × Addr × List Str × Addr)
def fnS (K : PySem.W.Frag) (p : Str × Option Str) : FnS := match K.lookup (fAd K p) with
  | some ⟨_, _, .func fd, _⟩ => some (fd.name, fd.qualname, fd.params, fd.body, fd.scope, fd.globals, fd.closure.map (·.1), fd.builtins)
  | _ => none
structure DefS where
  at_ : Str × Option Str
  name : Str
  qual : Str
  params : Arguments
  body : List Stmt
  scope : Scope
  cls : Str
  file : Str
def DefS.val (d : DefS) : FnS := some (d.name, d.qual, d.params, .stmts d.body, d.scope, mainGlobals, [("__class__" : Str)], builtinsNs)
def cellB (K : PySem.W.Frag) (cc D : Addr) : Bool := match K.lookup cc with
  | some ⟨_, _, .cell (some (.ref d)), _⟩ => d == D
  | _ => false
def fileB (K : PySem.W.Frag) (cda : Addr) (file : Str) : Bool := match K.lookup cda with
  | some ⟨_, _, .fields vs, _⟩ => (match (vs[2]? : Option Value) with | some (Value.str x _) => x == file | _ => false)
  | _ => false
def supB (K : PySem.W.Frag) (q : Str) (D : Addr) (file : Str) (cl : List (Str × Addr)) (cd : Value) : Bool := match cl, cd with
  | [(_, cc)], .ref cda => PySem.W.codeIn K (.ref cda) q && (cellB K cc D && fileB K cda file)
  | _, _ => false
def DefS.ok (K : PySem.W.Frag) (d : DefS) : Bool := PySem.W.keepIn K (.ref (fAd K d.at_)) && ((PySem.W.clsIn K (ga K d.cls)).isSome && (decide (PySem.W.nsIn K cStatics "thirdparty.any" = some none) && (match K.lookup (fAd K d.at_) with
  | some ⟨_, _, .func fd, _⟩ => decide (fd.defaults = Value.none) && supB K d.qual (ga K d.cls) d.file fd.closure fd.code
  | _ => false)))
abbrev AlS : Type := Bool × List FnW × List FnS
def obsS (fa : List Fa) (ex : List FactB) (fn : List DefD) (sn : List DefS) (K : PySem.W.Frag) : AlS := ((((fa.all fun f => f.ok K) && ex.all fun f => f K) && fn.all fun d => d.ok K) && sn.all fun d => d.ok K, fn.map fun d => fnW K d.at_, sn.map fun d => fnS K d.at_)
def valS (fn : List DefD) (sn : List DefS) : AlS := (true, fn.map DefD.val, sn.map DefS.val)
def SaysS (fa : List Fa) (ex : List FactB) (fn : List DefD) (sn : List DefS) (K : PySem.W.Frag) : Prop := obsS fa ex fn sn K = valS fn sn
def obsSG (n : Nat) (fa : List Fa) (ex : List FactB) (fn : List DefD) (sn : List DefS) (g : Addr → Option Obj) : AlS := obsS fa ex fn sn (frG g (cStatics :: asD g n))
def hookS (n : Nat) (fa : List Fa) (ex : List FactB) (fn : List DefD) (sn : List DefS) : PySem.W.Hook where
  α := AlS
  obs := fun s => obsSG n fa ex fn sn s.heap.get?
  val := fun _ => valS fn sn
  says := fun _ h => ∃ K : PySem.W.Frag, K.In h ∧ SaysS fa ex fn sn K
  of := fun _ _ e => ⟨_, frG_in, e⟩
  keeps := fun _ _ _ ⟨K, hK, c⟩ k => ⟨K, PySem.W.Frag.In.keeps hK k, c⟩
theorem obsSG_eq {n : Nat} {fa : List Fa} {ex : List FactB} {fn : List DefD} {sn : List DefS} {g : Addr → Option Obj} {s : Shared} (h : ∀ a, g a = s.heap.get? a) : obsSG n fa ex fn sn g = (hookS n fa ex fn sn).obs s := by
  have e : g = s.heap.get? := funext h
  rw [e] <;> rfl
def isCB (K : PySem.W.Frag) (C : Addr) : Bool := He.eqO (PySem.W.findIn K (.ref C) "__class__") (some (some (.builtin "object.__class__"))) && (He.eqO (PySem.W.specialIn K (.builtin "object.__class__") "__get__") (some (some (.builtin "getset_descriptor.__get__"))) &&
  (decide (PySem.W.takesIn K (.builtin "object.__class__") = some true) && decide (PySem.W.mroIn K C (.type "object") = some true)))
def oexB (K : PySem.W.Frag) (C : Addr) : Bool := (match K.lookup C with
  | some ⟨.type "type", _, .cls cd, sl⟩ => (match cd.mro, sl.toList with
    | .ref C' :: bm, [_, _, _, _, some (.builtin n), _] => C' == C && (n == "ValueError.__new__" && (!cd.hasDel && (cd.hasDict && PySem.HandSPX.refsVE bm)))
    | _, _ => false)
  | _ => false) && (He.eqO (PySem.W.findIn K (.ref C) "__setattr__") (some (some (.builtin "object.__setattr__"))) && (decide (PySem.W.subIn K (.ref C) (.type "BaseException") = some true) && (decide (PySem.W.typeIn K (.ref C) = some (.type "type")) && PySem.W.keepIn K (.ref C))))
def errB (K : PySem.W.Frag) (C fI : Addr) : Bool := oexB K C && (He.eqO (PySem.W.findIn K (.ref C) "__init__") (some (some (.ref fI))) && (decide (PySem.W.typeIn K (.ref fI) = some (.type "function")) && (decide (PySem.W.mroIn K C (.ref C) = some true) && (He.eqO (PySem.W.ks_superIn K C C "__init__") (some (some (.builtin "ValueError.__init__"))) &&
  (decide (PySem.W.subIn K (.ref C) (.type "ValueError") = some true) && (xfB K C && (He.eqO (PySem.W.findIn K (.ref C) "__class__") (some (some (.builtin "object.__class__"))) && (He.eqO (PySem.W.specialIn K (.builtin "object.__class__") "__get__") (some (some (.builtin "getset_descriptor.__get__"))) &&
  (decide (PySem.W.takesIn K (.builtin "object.__class__") = some true) && decide (PySem.W.mroIn K C (.type "object") = some true))))))))))
def isB (K : PySem.W.Frag) (C : Addr) : Bool := xfB K C && (He.eqO (PySem.W.findIn K (.ref C) "__class__") (some (some (.builtin "object.__class__"))) && (He.eqO (PySem.W.specialIn K (.builtin "object.__class__") "__get__") (some (some (.builtin "getset_descriptor.__get__"))) &&
  (decide (PySem.W.takesIn K (.builtin "object.__class__") = some true) && decide (PySem.W.mroIn K C (.type "object") = some true))))
def sgB (K : PySem.W.Frag) (cs : List Addr) (mu D : Addr) : Bool := isB K D && ((cs.all fun c => decide (PySem.W.kitOne K (.ref D) (.ref c) = some true) || decide (PySem.W.kitOne K (.ref D) (.ref c) = some false)) && (decide ((cs.filter fun c => decide (PySem.W.kitOne K (.ref D) (.ref c) = some true)).length = 1) &&
  (decide (PySem.W.kitOne K (.ref D) (.ref mu) = some true) && decide (PySem.W.kitOne K (.ref D) (.type "ValueError") = some true))))
def mkB (K : PySem.W.Frag) (C f : Addr) : Bool := PySem.W.makesIn K C && (He.eqO (PySem.W.findIn K (.ref C) "__init__") (some (some (.ref f))) && (PySem.W.isFn K (.ref f) && PySem.W.keepIn K (.ref C)))
def methB (K : PySem.W.Frag) (C : Addr) (m : Str) (f : Addr) : Bool := He.eqO (PySem.W.findIn K (.ref C) m) (some (some (.ref f))) && (PySem.W.isFn K (.ref f) && PySem.W.keepIn K (.ref f))
def supFB (K : PySem.W.Frag) (C D : Addr) (m : Str) (f : Addr) : Bool := decide (PySem.W.mroIn K C (.ref D) = some true) && He.eqO (PySem.W.ks_superIn K C D m) (some (some (.ref f)))
def pAd (K : PySem.W.Frag) (c f : Str) (T : String) : Addr := match PySem.W.findIn K (.ref (ga K c)) f with
  | some (some (.ref p)) => (match PySem.W.recIn K p T with
    | some (.ref g :: _) => g
    | _ => 0)
  | _ => 0
structure DefA where
  at_ : PySem.W.Frag → Addr
  name : Str
  qual : Str
  params : Arguments
  body : List Stmt
  scope : Scope
def fnA (K : PySem.W.Frag) (a : Addr) : FnW := match K.lookup a with
  | some ⟨_, _, .func fd, _⟩ => some (fd.name, fd.qualname, fd.params, fd.body, fd.scope, fd.globals, fd.closure, fd.builtins)
  | _ => none
def DefA.val (d : DefA) : FnW := some (d.name, d.qual, d.params, .stmts d.body, d.scope, mainGlobals, [], builtinsNs)
def DefA.ok (K : PySem.W.Frag) (d : DefA) : Bool := PySem.W.keepIn K (.ref (d.at_ K)) && (match K.lookup (d.at_ K) with
  | some ⟨_, _, .func fd, _⟩ => PySem.W.codeIn K fd.code d.qual && (dflB K fd.defaults [] && kwdB K fd.kwdefaults [])
  | _ => false)
abbrev AlP : Type := Bool × List FnW × List FnS × List FnW
def obsP (fa : List Fa) (ex : List FactB) (fn : List DefD) (sn : List DefS) (an : List DefA) (K : PySem.W.Frag) : AlP := (((((fa.all fun f => f.ok K) && ex.all fun f => f K) && fn.all fun d => d.ok K) && sn.all fun d => d.ok K) && an.all fun d => d.ok K, fn.map fun d => fnW K d.at_, sn.map fun d => fnS K d.at_, an.map fun d => fnA K (d.at_ K))
def valP (fn : List DefD) (sn : List DefS) (an : List DefA) : AlP := (true, fn.map DefD.val, sn.map DefS.val, an.map DefA.val)
def SaysP (fa : List Fa) (ex : List FactB) (fn : List DefD) (sn : List DefS) (an : List DefA) (K : PySem.W.Frag) : Prop := obsP fa ex fn sn an K = valP fn sn an
def obsPG (n : Nat) (fa : List Fa) (ex : List FactB) (fn : List DefD) (sn : List DefS) (an : List DefA) (g : Addr → Option Obj) : AlP := obsP fa ex fn sn an (frG g (cStatics :: asD g n))
def hookP (n : Nat) (fa : List Fa) (ex : List FactB) (fn : List DefD) (sn : List DefS) (an : List DefA) : PySem.W.Hook where
  α := AlP
  obs := fun s => obsPG n fa ex fn sn an s.heap.get?
  val := fun _ => valP fn sn an
  says := fun _ h => ∃ K : PySem.W.Frag, K.In h ∧ SaysP fa ex fn sn an K
  of := fun _ _ e => ⟨_, frG_in, e⟩
  keeps := fun _ _ _ ⟨K, hK, c⟩ k => ⟨K, PySem.W.Frag.In.keeps hK k, c⟩
theorem obsPG_eq {n : Nat} {fa : List Fa} {ex : List FactB} {fn : List DefD} {sn : List DefS} {an : List DefA} {g : Addr → Option Obj} {s : Shared} (h : ∀ a, g a = s.heap.get? a) : obsPG n fa ex fn sn an g = (hookP n fa ex fn sn an).obs s := by
  have e : g = s.heap.get? := funext h
  rw [e] <;> rfl
def propB (K : PySem.W.Frag) (C : Addr) (f : Str) (g : Addr) : Bool := match PySem.W.findIn K (.ref C) f with
  | some (some (.ref p)) => eqO (PySem.W.specialIn K (.ref p) "__get__") (some (some (.builtin "property.__get__"))) && (decide (PySem.W.takesIn K (.ref p) = some true) && (match PySem.W.recIn K p "property" with
    | some (.ref g' :: _) => g' == g
    | _ => false))
  | _ => false
def refQ (g : Addr → Option Obj) (a : Addr) : List Addr := match g a with
  | some o => refsD o
  | none => []
def lvA (g : Addr → Option Obj) (nm : List Str) : List Addr := nm.map (ga (frG g [mainGlobals]))
def lvB (g : Addr → Option Obj) (l1 : List Addr) : List Addr := (l1 ++ l1.flatMap (refQ g)).eraseDups
def lvC (g : Addr → Option Obj) (l2 : List Addr) (ds : List (Str × Option Str)) : List Addr := ds.map (fAd (frG g (mainGlobals :: l2)))
def conQ (nm : List Str) (ds : List (Str × Option Str)) (g : Addr → Option Obj) : List Addr := mainGlobals :: cStatics :: (lvB g (lvA g nm) ++ lvB g (lvB g (lvC g (lvB g (lvA g nm)) ds))).eraseDups
def hookSQ (nm : List Str) (ds : List (Str × Option Str)) (fa : List Fa) (ex : List FactB) (fn : List DefD) (sn : List DefS) : PySem.W.Hook where
  α := AlS
  obs := fun s => obsS fa ex fn sn (frG s.heap.get? (conQ nm ds s.heap.get?))
  val := fun _ => valS fn sn
  says := fun _ h => ∃ K : PySem.W.Frag, K.In h ∧ SaysS fa ex fn sn K
  of := fun _ _ e => ⟨_, frG_in, e⟩
  keeps := fun _ _ _ ⟨K, hK, c⟩ k => ⟨K, PySem.W.Frag.In.keeps hK k, c⟩
def obsSQ (nm : List Str) (ds : List (Str × Option Str)) (fa : List Fa) (ex : List FactB) (fn : List DefD) (sn : List DefS) (g : Addr → Option Obj) : AlS := obsS fa ex fn sn (frG g (conQ nm ds g))
theorem obsSQ_eq {nm : List Str} {ds : List (Str × Option Str)} {fa : List Fa} {ex : List FactB} {fn : List DefD} {sn : List DefS} {g : Addr → Option Obj} {s : Shared} (h : ∀ a, g a = s.heap.get? a) : obsSQ nm ds fa ex fn sn g = (hookSQ nm ds fa ex fn sn).obs s := by
  have e : g = s.heap.get? := funext h
  rw [e] <;> rfl
def hookPQ (nm : List Str) (ds : List (Str × Option Str)) (fa : List Fa) (ex : List FactB) (fn : List DefD) (sn : List DefS) (an : List DefA) : PySem.W.Hook where
  α := AlP
  obs := fun s => obsP fa ex fn sn an (frG s.heap.get? (conQ nm ds s.heap.get?))
  val := fun _ => valP fn sn an
  says := fun _ h => ∃ K : PySem.W.Frag, K.In h ∧ SaysP fa ex fn sn an K
  of := fun _ _ e => ⟨_, frG_in, e⟩
  keeps := fun _ _ _ ⟨K, hK, c⟩ k => ⟨K, PySem.W.Frag.In.keeps hK k, c⟩
def obsPQ (nm : List Str) (ds : List (Str × Option Str)) (fa : List Fa) (ex : List FactB) (fn : List DefD) (sn : List DefS) (an : List DefA) (g : Addr → Option Obj) : AlP := obsP fa ex fn sn an (frG g (conQ nm ds g))
theorem obsPQ_eq {nm : List Str} {ds : List (Str × Option Str)} {fa : List Fa} {ex : List FactB} {fn : List DefD} {sn : List DefS} {an : List DefA} {g : Addr → Option Obj} {s : Shared} (h : ∀ a, g a = s.heap.get? a) : obsPQ nm ds fa ex fn sn an g = (hookPQ nm ds fa ex fn sn an).obs s := by
  have e : g = s.heap.get? := funext h
  rw [e] <;> rfl
end Mu

namespace MuL
open PySem PySem.Spec PyProof.Rows L2 He Evl Mu
def top (i : Nat) : Stmt := PySem.Challenge.pw_murmurline_k13_kinds_of_people.main.body.getD i (.Pass ⟨0, 0, 0, 0⟩)
abbrev s_bits : Stmt := top 23
abbrev s_mask_of : Stmt := top 24
abbrev s_masks_of : Stmt := top 25
abbrev s_check_size : Stmt := top 33
abbrev s_Table___init__ : Stmt := inClass (top 39) 1
abbrev s_Table_rows : Stmt := inClass (top 39) 6
abbrev s_all_words : Stmt := top 42
abbrev s_check_person : Stmt := top 43
abbrev s_Person___init__ : Stmt := inClass (top 44) 0
abbrev s_check_word : Stmt := top 34
abbrev s_Person_heard : Stmt := inClass (top 44) 1
abbrev s_Person_said : Stmt := inClass (top 44) 2
abbrev s_Person_table : Stmt := inClass (top 44) 3
abbrev s_Knower_known : Stmt := inClass (top 45) 2
abbrev s__law_is_int : Stmt := top 49
abbrev s__law_is_words : Stmt := top 50
abbrev s__law_same : Stmt := top 51
abbrev s__law_box : Stmt := top 52
abbrev s__law_take : Stmt := top 53
abbrev s__law_words : Stmt := top 54
abbrev s__law_outs : Stmt := top 55
abbrev s__law_person : Stmt := top 56
abbrev s__law_mixed : Stmt := top 57
abbrev s__law_far : Stmt := top 58
abbrev s__law_single : Stmt := top 59
abbrev s__law_spoil : Stmt := top 62
abbrev s__law_is_kind : Stmt := top 61
abbrev s__law_word_error : Stmt := top 60
abbrev s_law : Stmt := top 63
abbrev s_Knower___init__ : Stmt := inClass (top 45) 0
abbrev s_Doubter_said : Stmt := inClass (top 46) 0
abbrev s_Knower_said : Stmt := inClass (top 45) 1
abbrev s_KnowingDoubter_said : Stmt := inClass (top 47) 0
abbrev s_BadPerson___init__ : Stmt := inClass (top 8) 0
abbrev s_UnknownWord___init__ : Stmt := inClass (top 5) 0
def d_Person_table : Mu.DefA := ⟨fun K => Mu.pAd K "Person" "table" "property", "table", "Person.table", defArgs s_Person_table, defBody s_Person_table, defScope s_Person_table⟩
def d_Knower_known : Mu.DefA := ⟨fun K => Mu.pAd K "Knower" "known" "property", "known", "Knower.known", defArgs s_Knower_known, defBody s_Knower_known, defScope s_Knower_known⟩
def d_bits : He.DefD := ⟨("bits", none), "bits", "bits", defArgs s_bits, defBody s_bits, defScope s_bits, [], []⟩
def d_mask_of : He.DefD := ⟨("mask_of", none), "mask_of", "mask_of", defArgs s_mask_of, defBody s_mask_of, defScope s_mask_of, [], []⟩
def d_masks_of : He.DefD := ⟨("masks_of", none), "masks_of", "masks_of", defArgs s_masks_of, defBody s_masks_of, defScope s_masks_of, [], []⟩
def d_check_size : He.DefD := ⟨("check_size", none), "check_size", "check_size", defArgs s_check_size, defBody s_check_size, defScope s_check_size, [], []⟩
def d_Table___init__ : He.DefD := ⟨("Table", some "__init__"), "__init__", "Table.__init__", defArgs s_Table___init__, defBody s_Table___init__, defScope s_Table___init__, [], []⟩
def d_Table_rows : He.DefD := ⟨("Table", some "rows"), "rows", "Table.rows", defArgs s_Table_rows, defBody s_Table_rows, defScope s_Table_rows, [], []⟩
def d_all_words : He.DefD := ⟨("all_words", none), "all_words", "all_words", defArgs s_all_words, defBody s_all_words, defScope s_all_words, [], []⟩
def d_check_person : He.DefD := ⟨("check_person", none), "check_person", "check_person", defArgs s_check_person, defBody s_check_person, defScope s_check_person, [], []⟩
def d_Person___init__ : He.DefD := ⟨("Person", some "__init__"), "__init__", "Person.__init__", defArgs s_Person___init__, defBody s_Person___init__, defScope s_Person___init__, [], []⟩
def d_check_word : He.DefD := ⟨("check_word", none), "check_word", "check_word", defArgs s_check_word, defBody s_check_word, defScope s_check_word, [], []⟩
def d_Person_heard : He.DefD := ⟨("Person", some "heard"), "heard", "Person.heard", defArgs s_Person_heard, defBody s_Person_heard, defScope s_Person_heard, [], []⟩
def d_Person_said : He.DefD := ⟨("Person", some "said"), "said", "Person.said", defArgs s_Person_said, defBody s_Person_said, defScope s_Person_said, [], []⟩
def d__law_is_int : He.DefD := ⟨("_law_is_int", none), "_law_is_int", "_law_is_int", defArgs s__law_is_int, defBody s__law_is_int, defScope s__law_is_int, [], []⟩
def d__law_is_words : He.DefD := ⟨("_law_is_words", none), "_law_is_words", "_law_is_words", defArgs s__law_is_words, defBody s__law_is_words, defScope s__law_is_words, [], []⟩
def d__law_same : He.DefD := ⟨("_law_same", none), "_law_same", "_law_same", defArgs s__law_same, defBody s__law_same, defScope s__law_same, [], []⟩
def d__law_box : He.DefD := ⟨("_law_box", none), "_law_box", "_law_box", defArgs s__law_box, defBody s__law_box, defScope s__law_box, [], []⟩
def d__law_take : He.DefD := ⟨("_law_take", none), "_law_take", "_law_take", defArgs s__law_take, defBody s__law_take, defScope s__law_take, [], []⟩
def d__law_words : He.DefD := ⟨("_law_words", none), "_law_words", "_law_words", defArgs s__law_words, defBody s__law_words, defScope s__law_words, [], []⟩
def d__law_outs : He.DefD := ⟨("_law_outs", none), "_law_outs", "_law_outs", defArgs s__law_outs, defBody s__law_outs, defScope s__law_outs, [], []⟩
def d__law_person : He.DefD := ⟨("_law_person", none), "_law_person", "_law_person", defArgs s__law_person, defBody s__law_person, defScope s__law_person, [], []⟩
def d__law_mixed : He.DefD := ⟨("_law_mixed", none), "_law_mixed", "_law_mixed", defArgs s__law_mixed, defBody s__law_mixed, defScope s__law_mixed, [], []⟩
def d__law_far : He.DefD := ⟨("_law_far", none), "_law_far", "_law_far", defArgs s__law_far, defBody s__law_far, defScope s__law_far, [], []⟩
def d__law_single : He.DefD := ⟨("_law_single", none), "_law_single", "_law_single", defArgs s__law_single, defBody s__law_single, defScope s__law_single, [], []⟩
def d__law_spoil : He.DefD := ⟨("_law_spoil", none), "_law_spoil", "_law_spoil", defArgs s__law_spoil, defBody s__law_spoil, defScope s__law_spoil, [], []⟩
def d__law_is_kind : He.DefD := ⟨("_law_is_kind", none), "_law_is_kind", "_law_is_kind", defArgs s__law_is_kind, defBody s__law_is_kind, defScope s__law_is_kind, [], []⟩
def d__law_word_error : He.DefD := ⟨("_law_word_error", none), "_law_word_error", "_law_word_error", defArgs s__law_word_error, defBody s__law_word_error, defScope s__law_word_error, [], []⟩
def d_law : He.DefD := ⟨("law", none), "law", "law", defArgs s_law, defBody s_law, defScope s_law, [], []⟩
def d_BadPerson___init__ : Mu.DefS := ⟨("BadPerson", some "__init__"), "__init__", "BadPerson.__init__", defArgs s_BadPerson___init__, defBody s_BadPerson___init__, defScope s_BadPerson___init__, "BadPerson", "/claim/cut.py"⟩
def d_UnknownWord___init__ : Mu.DefS := ⟨("UnknownWord", some "__init__"), "__init__", "UnknownWord.__init__", defArgs s_UnknownWord___init__, defBody s_UnknownWord___init__, defScope s_UnknownWord___init__, "UnknownWord", "/claim/cut.py"⟩
def d_Knower___init__ : Mu.DefS := ⟨("Knower", some "__init__"), "__init__", "Knower.__init__", defArgs s_Knower___init__, defBody s_Knower___init__, defScope s_Knower___init__, "Knower", "/claim/cut.py"⟩
def d_Doubter_said : Mu.DefS := ⟨("Doubter", some "said"), "said", "Doubter.said", defArgs s_Doubter_said, defBody s_Doubter_said, defScope s_Doubter_said, "Doubter", "/claim/cut.py"⟩
def d_Knower_said : Mu.DefS := ⟨("Knower", some "said"), "said", "Knower.said", defArgs s_Knower_said, defBody s_Knower_said, defScope s_Knower_said, "Knower", "/claim/cut.py"⟩
def d_KnowingDoubter_said : Mu.DefS := ⟨("KnowingDoubter", some "said"), "said", "KnowingDoubter.said", defArgs s_KnowingDoubter_said, defBody s_KnowingDoubter_said, defScope s_KnowingDoubter_said, "KnowingDoubter", "/claim/cut.py"⟩
def fa : List He.Fa := [.glo "Table", .cls "Table", .cls "Table", .noat "Table" "size", .noat "Table" "masks", .noat "Table" "cells", .glo "Person", .cls "Person", .cls "Person", .noat "Person" "size", .noat "Person" "ears", .noat "Person" "mouths", .glo "Knower", .cls "Knower", .cls "Knower", .noat "Knower" "size", .noat "Knower" "ears", .noat "Knower" "mouths", .noat "Knower" "sure_words", .glo "Doubter", .cls "Doubter", .cls "Doubter", .noat "Doubter" "size", .noat "Doubter" "ears", .noat "Doubter" "mouths", .glo "KnowingDoubter", .cls "KnowingDoubter", .cls "KnowingDoubter", .noat "KnowingDoubter" "size", .noat "KnowingDoubter" "ears", .noat "KnowingDoubter" "mouths", .noat "KnowingDoubter" "sure_words", .glo "bits", .glo "mask_of", .glo "masks_of", .glo "check_size", .mkr "Table", .meth "Table" "rows", .glo "all_words", .glo "check_person", .mkr "Person", .glo "check_word", .meth "Person" "heard", .meth "Person" "said", .glo "_law_is_int", .glo "_law_is_words", .glo "_law_same", .glo "_law_box", .glo "_law_take", .glo "_law_words", .glo "_law_outs", .glo "_law_person", .glo "_law_mixed", .glo "_law_far", .glo "_law_single", .glo "_law_spoil", .glo "_law_is_kind", .glo "_law_word_error", .glo "law", .free "super", .glo "BadPerson", .glo "UnknownWord", .glo "BadSize", .glo "BadTable", .glo "SizeMismatch", .glo "BadCount", .glo "BadLetter", .glo "UnknownPerson", .glo "TooMany", .glo "BadPattern", .glo "SameWord", .glo "UnknownClue", .glo "BadPlace", .glo "TooLong", .glo "Melted", .glo "NothingToUndo", .glo "NothingToRedo", .glo "Refused", .glo "BadLine", .glo "MurmurError", .mkr "Knower", .meth "Doubter" "said", .meth "Knower" "said", .meth "KnowingDoubter" "said", .free "len", .free "range", .free "tuple", .free "list", .free "int", .free "abs", .free "enumerate", .free "isinstance", .free "bool", .free "str", .free "iter", .free "ValueError", .int "GREATEST_SIZE" 6]
def ex : List Mu.FactB := [(fun K => Mu.isCB K (ga K "Table")), (fun K => PySem.W.selfFirst K (ga K "Table")), (fun K => Mu.isCB K (ga K "Person")), (fun K => PySem.W.selfFirst K (ga K "Person")), (fun K => Mu.isCB K (ga K "Knower")), (fun K => PySem.W.selfFirst K (ga K "Knower")), (fun K => Mu.isCB K (ga K "Doubter")), (fun K => PySem.W.selfFirst K (ga K "Doubter")), (fun K => Mu.isCB K (ga K "KnowingDoubter")), (fun K => PySem.W.selfFirst K (ga K "KnowingDoubter")), (fun K => Mu.propB K (ga K "Person") "table" (Mu.pAd K "Person" "table" "property")), (fun K => Mu.propB K (ga K "Knower") "table" (Mu.pAd K "Person" "table" "property")), (fun K => Mu.propB K (ga K "Doubter") "table" (Mu.pAd K "Person" "table" "property")), (fun K => Mu.propB K (ga K "KnowingDoubter") "table" (Mu.pAd K "Person" "table" "property")), (fun K => Mu.propB K (ga K "Knower") "known" (Mu.pAd K "Knower" "known" "property")), (fun K => Mu.propB K (ga K "KnowingDoubter") "known" (Mu.pAd K "Knower" "known" "property")), (fun K => Mu.errB K (ga K "BadPerson") (fAd K ("BadPerson", some "__init__"))), (fun K => He.eqO (PySem.W.findIn K (.ref (ga K "BadPerson")) "part") (some none)), (fun K => decide (PySem.W.exmOne K (.ref (ga K "BadPerson")) (.ref (ga K "BadPerson")) = some true)), (fun K => Mu.sgB K [ga K "BadSize", ga K "BadTable", ga K "UnknownWord", ga K "SizeMismatch", ga K "BadCount", ga K "BadPerson", ga K "BadLetter", ga K "UnknownPerson", ga K "TooMany", ga K "BadPattern", ga K "SameWord", ga K "UnknownClue", ga K "BadPlace", ga K "TooLong", ga K "Melted", ga K "NothingToUndo", ga K "NothingToRedo", ga K "Refused", ga K "BadLine"] (ga K "MurmurError") (ga K "BadPerson")), (fun K => Mu.errB K (ga K "UnknownWord") (fAd K ("UnknownWord", some "__init__"))), (fun K => He.eqO (PySem.W.findIn K (.ref (ga K "UnknownWord")) "word") (some none)), (fun K => decide (PySem.W.exmOne K (.ref (ga K "UnknownWord")) (.ref (ga K "UnknownWord")) = some true)), (fun K => Mu.sgB K [ga K "BadSize", ga K "BadTable", ga K "UnknownWord", ga K "SizeMismatch", ga K "BadCount", ga K "BadPerson", ga K "BadLetter", ga K "UnknownPerson", ga K "TooMany", ga K "BadPattern", ga K "SameWord", ga K "UnknownClue", ga K "BadPlace", ga K "TooLong", ga K "Melted", ga K "NothingToUndo", ga K "NothingToRedo", ga K "Refused", ga K "BadLine"] (ga K "MurmurError") (ga K "UnknownWord")), (fun K => Mu.mkB K (ga K "Doubter") (fAd K ("Person", some "__init__"))), (fun K => Mu.mkB K (ga K "KnowingDoubter") (fAd K ("Knower", some "__init__"))), (fun K => Mu.methB K (ga K "Knower") "heard" (fAd K ("Person", some "heard"))), (fun K => Mu.methB K (ga K "Doubter") "heard" (fAd K ("Person", some "heard"))), (fun K => Mu.methB K (ga K "KnowingDoubter") "heard" (fAd K ("Person", some "heard"))), (fun K => decide (PySem.W.kitOne K (.ref (ga K "Knower")) (.ref (ga K "Person")) = some true)), (fun K => decide (PySem.W.kitOne K (.ref (ga K "Doubter")) (.ref (ga K "Person")) = some true)), (fun K => decide (PySem.W.kitOne K (.ref (ga K "KnowingDoubter")) (.ref (ga K "Person")) = some true)), (fun K => decide (PySem.W.kitOne K (.ref (ga K "Knower")) (.ref (ga K "Doubter")) = some false)), (fun K => decide (PySem.W.kitOne K (.ref (ga K "Doubter")) (.ref (ga K "Knower")) = some false)), (fun K => decide (PySem.W.kitOne K (.ref (ga K "KnowingDoubter")) (.ref (ga K "Knower")) = some true)), (fun K => decide (PySem.W.kitOne K (.ref (ga K "KnowingDoubter")) (.ref (ga K "Doubter")) = some true)), (fun K => Mu.supFB K (ga K "Knower") (ga K "Knower") "__init__" (fAd K ("Person", some "__init__"))), (fun K => Mu.supFB K (ga K "KnowingDoubter") (ga K "Knower") "__init__" (fAd K ("Person", some "__init__"))), (fun K => Mu.supFB K (ga K "Doubter") (ga K "Doubter") "said" (fAd K ("Person", some "said"))), (fun K => Mu.supFB K (ga K "KnowingDoubter") (ga K "Doubter") "said" (fAd K ("Person", some "said"))), (fun K => Mu.supFB K (ga K "Knower") (ga K "Knower") "said" (fAd K ("Person", some "said"))), (fun K => Mu.supFB K (ga K "KnowingDoubter") (ga K "Knower") "said" (fAd K ("Doubter", some "said"))), (fun K => Mu.supFB K (ga K "KnowingDoubter") (ga K "KnowingDoubter") "said" (fAd K ("Knower", some "said"))), (fun K => decide (PySem.W.typeIn K (.ref (fAd K ("Doubter", some "said"))) = some (.type "function"))), (fun K => decide (PySem.W.typeIn K (.ref (fAd K ("Knower", some "said"))) = some (.type "function"))), (fun K => decide (PySem.W.typeIn K (.ref (fAd K ("Person", some "__init__"))) = some (.type "function"))), (fun K => decide (PySem.W.typeIn K (.ref (fAd K ("Person", some "said"))) = some (.type "function")))]
def fn : List He.DefD := [d_bits, d_mask_of, d_masks_of, d_check_size, d_Table___init__, d_Table_rows, d_all_words, d_check_person, d_Person___init__, d_check_word, d_Person_heard, d_Person_said, d__law_is_int, d__law_is_words, d__law_same, d__law_box, d__law_take, d__law_words, d__law_outs, d__law_person, d__law_mixed, d__law_far, d__law_single, d__law_spoil, d__law_is_kind, d__law_word_error, d_law]
def sn : List Mu.DefS := [d_BadPerson___init__, d_UnknownWord___init__, d_Knower___init__, d_Doubter_said, d_Knower_said, d_KnowingDoubter_said]
def an : List Mu.DefA := [d_Person_table, d_Knower_known]
end MuL

set_option maxHeartbeats 0
namespace MuL
open PySem PySem.Spec PyProof.Rows L2 He Evl Mu
def nm0 : List Str := ["Table", "Person", "Knower", "Doubter", "KnowingDoubter", "bits", "mask_of", "masks_of", "check_size", "all_words", "check_person", "check_word", "_law_is_int", "_law_is_words", "_law_same", "_law_box", "_law_take", "_law_words", "_law_outs", "_law_person", "_law_mixed", "_law_far", "_law_single", "_law_spoil", "_law_is_kind", "_law_word_error", "law", "BadPerson", "UnknownWord", "BadSize"]
def nm1 : List Str := ["BadTable", "SizeMismatch", "BadCount", "BadLetter", "UnknownPerson", "TooMany", "BadPattern", "SameWord", "UnknownClue", "BadPlace", "TooLong", "Melted", "NothingToUndo", "NothingToRedo", "Refused", "BadLine", "MurmurError"]
def nm : List Str := nm0 ++ nm1
def ds0 : List (Str × Option Str) := [("Table", some "__init__"), ("Table", some "rows"), ("Person", some "__init__"), ("Person", some "heard"), ("Person", some "said"), ("BadPerson", some "__init__"), ("UnknownWord", some "__init__"), ("Knower", some "__init__"), ("Doubter", some "said"), ("Knower", some "said"), ("KnowingDoubter", some "said"), ("Person", some "table"), ("Knower", some "known")]
def ds : List (Str × Option Str) := ds0
def loose0 : List Str := ["_wall", "MurmurError", "BadSize", "BadTable", "UnknownWord", "SizeMismatch", "BadCount", "BadPerson", "BadLetter", "UnknownPerson", "TooMany", "BadPattern", "SameWord", "UnknownClue", "BadPlace", "TooLong", "Melted", "NothingToUndo", "NothingToRedo", "Refused", "BadLine", "bits", "mask_of", "masks_of", "image", "product", "converse", "greatest_behind", "greatest_ahead", "GREATEST_SIZE"]
def loose1 : List Str := ["check_size", "check_word", "check_words", "check_sizes", "written", "table_of_masks", "Table", "product_inside", "all_words", "check_person", "Person", "Knower", "Doubter", "KnowingDoubter", "_law_is_int", "_law_is_words", "_law_same", "_law_box", "_law_take", "_law_words", "_law_outs", "_law_person", "_law_mixed", "_law_far", "_law_single", "_law_word_error", "_law_is_kind", "_law_spoil"]
def loose : List Str := loose0 ++ loose1
abbrev R : PySem.W.OpenRow := PySem.W.OpenLaw.row PySem.Challenge.rw_murmurline_k13_kinds_of_people
abbrev hk : PySem.W.Hook := Mu.hookPQ nm ds fa ex fn sn an
def ob (s : PySem.W.SharedT) : Mu.AlP := Mu.obsPQ nm ds fa ex fn sn an (HandSHeadRun.getT s)
theorem ob_eq (s : PySem.W.SharedT) : ob s = hk.obs s.abs := Mu.obsPQ_eq (HandSHeadRun.getT_eq s)
theorem run (w : World) : HandSHeadRun.RunEq R (PySem.W.view R.prog [63]) hk ob 40000 loose w := by
  intro os
  kernel_rfl
end MuL

set_option maxHeartbeats 4000000
namespace Mu
open PySem L2 Evl

/-! ### footprints: G is what is known for sure and never changed, H the heap; foreign things of H stay out of G -/
structure Gr (G H G2 H2 : Hp) : Prop where
  g : Ex G G2
  h : Ex H H2
  i : Ex G2 H2
  n : ∀ a o, H a = some o → G a = none → G2 a = none
theorem Gr.refl {G H : Hp} (e : Ex G H) : Gr G H G H := ⟨Ex.refl _, Ex.refl _, e, fun _ _ _ n => n⟩
theorem Gr.trans {G H G2 H2 G3 H3 : Hp} (a : Gr G H G2 H2) (b : Gr G2 H2 G3 H3) : Gr G H G3 H3 :=
  ⟨a.g.trans b.g, a.h.trans b.h, b.i, fun c o q z => b.n c o (a.h c o q) (a.n c o q z)⟩
theorem Gr.more {G H G2 H2 H3 : Hp} (a : Gr G H G2 H2) (e : Ex H2 H3) : Gr G H G2 H3 := ⟨a.g, a.h.trans e, a.i.trans e, a.n⟩
/-- a new object, within the footprint | outside it -/
theorem Gr.new {G H : Hp} {p : Addr} {o : HO} (e : Ex G H) (hp : H p = none) : Gr G H (upd G p o) (upd H p o) where
  g := Ex.new (fresh_back e hp)
  h := Ex.new hp
  i := fun a u z => by
    by_cases q : a = p
    · subst q
      rw [upd_same] at z ⊢
      exact z
    · rw [upd_ne q] at z ⊢
      exact e a u z
  n := fun a u z y => by rw [upd_ne (ne_of_none z hp)]; exact y
theorem Gr.out {G H : Hp} {p : Addr} {o : HO} (e : Ex G H) (hp : H p = none) : Gr G H G (upd H p o) := (Gr.refl e).more (Ex.new hp)
/-- two parts of one heap, together -/
def un (A B : Hp) : Hp := fun a => match A a with
  | some o => some o
  | none => B a
theorem un_l {A B : Hp} {a : Addr} {o : HO} (h : A a = some o) : un A B a = some o := by unfold un; rw [h]
theorem un_r {A B : Hp} {a : Addr} (h : A a = none) : un A B a = B a := by unfold un; rw [h]
theorem ex_un_l {A B : Hp} : Ex A (un A B) := fun _ _ h => un_l h
theorem ex_un_r {A B H : Hp} (ha : Ex A H) (hb : Ex B H) : Ex B (un A B) := fun a o h => by
  cases q : A a with
  | none => rw [un_r q]; exact h
  | some u =>
    have h1 := ha a u q
    have h2 := hb a o h
    rw [h1] at h2
    rw [un_l q]
    exact h2
theorem un_in {A B H : Hp} (ha : Ex A H) (hb : Ex B H) : Ex (un A B) H := fun a o h => by
  cases q : A a with
  | none => rw [un_r q] at h; exact hb a o h
  | some u => rw [un_l q] at h; exact ha a o (q.trans h)
theorem Gr.up {G G' H G2 H2 : Hp} (e : Ex G G') (e' : Ex G' H) (a : Gr G H G2 H2) : Gr G' H (un G' G2) H2 where
  g := ex_un_l
  h := a.h
  i := un_in (e'.trans a.h) a.i
  n := fun c o q z => by rw [un_r z]; exact a.n c o q (fresh_back e z)
theorem Gr.upr {G G' H G2 H2 : Hp} (e' : Ex G' H) (a : Gr G H G2 H2) : Ex G2 (un G' G2) := ex_un_r (e'.trans a.h) a.i

/-! ### what a value stands for -/
structure Rp where
  p : V → Hp → Prop
  mono : ∀ {v : V} {H H' : Hp}, Ex H H' → p v H → p v H'
abbrev RA (H : Hp) : List V → List Rp → Prop := Paired fun v r => r.p v H
theorem RA.mono {H H' : Hp} (e : Ex H H') : ∀ {vs : List V} {rs : List Rp}, RA H vs rs → RA H' vs rs
  | _, _, .nil => .nil
  | _, _, .cons (b := r) h t => .cons (r.mono e h) (RA.mono e t)
theorem RA.len {H : Hp} {vs : List V} {rs : List Rp} (h : RA H vs rs) : vs.length = rs.length := Paired.length h
theorem RA.get {H : Hp} : ∀ {vs : List V} {rs : List Rp} {i : Nat} {r : Rp}, RA H vs rs → rs[i]? = some r → ∃ v, vs[i]? = some v ∧ r.p v H
  | _, _, _, _, .nil, e => by simp at e
  | _, _, 0, _, .cons h t, e => by simp at e; subst e; exact ⟨_, rfl, h⟩
  | _, _, i + 1, r, .cons h t, e => by
    obtain ⟨v, h1, h2⟩ := RA.get (i := i) (r := r) t (by simpa using e)
    exact ⟨v, by simpa using h1, h2⟩
theorem RA.getV {H : Hp} : ∀ {vs : List V} {rs : List Rp} {i : Nat} {v : V}, RA H vs rs → vs[i]? = some v → ∃ r, rs[i]? = some r ∧ r.p v H
  | _, _, _, _, .nil, e => by simp at e
  | _, _, 0, _, .cons h t, e => by simp at e; subst e; exact ⟨_, rfl, h⟩
  | _, _, i + 1, v, .cons h t, e => by
    obtain ⟨r, h1, h2⟩ := RA.getV (i := i) (v := v) t (by simpa using e)
    exact ⟨r, by simpa using h1, h2⟩
theorem RA.snoc {H : Hp} {vs : List V} {rs : List Rp} {v : V} {r : Rp} (h : RA H vs rs) (q : r.p v H) : RA H (vs ++ [v]) (rs ++ [r]) := Paired.snoc h q
theorem RA.append {H : Hp} : ∀ {vs ws : List V} {rs ss : List Rp}, RA H vs rs → RA H ws ss → RA H (vs ++ ws) (rs ++ ss)
  | _, _, _, _, .nil, q => q
  | _, _, _, _, .cons h t, q => .cons h (RA.append t q)
theorem RA.set {H : Hp} {v : V} {r : Rp} (q : r.p v H) : ∀ {vs : List V} {rs : List Rp} (i : Nat), RA H vs rs → RA H (vs.set i v) (rs.set i r)
  | _, _, _, .nil => .nil
  | _, _, 0, .cons _ t => .cons q t
  | _, _, i + 1, .cons h t => .cons h (RA.set q i t)

def rV (v : V) : Rp := ⟨fun x _ => x = v, fun _ h => h⟩
abbrev rI (i : Int) : Rp := rV (.int i)
abbrev rB (b : Bool) : Rp := rV (.bl b)
abbrev rS (s : Str) : Rp := rV (.str s)
def rL (_K : PySem.W.Frag) (rs : List Rp) : Rp := ⟨fun v H => ∃ a vs, v = .ref a ∧ H a = some (.lst vs) ∧ RA H vs rs, fun e ⟨a, vs, h1, h2, h3⟩ => ⟨a, vs, h1, e _ _ h2, h3.mono e⟩⟩
section
variable (K : PySem.W.Frag)
/-- a list that may only be read (the script) -/
def rLs (rs : List Rp) : Rp := ⟨fun v H => ∃ a vs, v = .ref a ∧ SqL K H a vs ∧ RA H vs rs, fun e ⟨a, vs, h1, h2, h3⟩ => ⟨a, vs, h1, ex_l e h2, h3.mono e⟩⟩
def rT (rs : List Rp) : Rp := ⟨fun v H => ∃ a vs, v = .ref a ∧ SqT K H a vs ∧ RA H vs rs, fun e ⟨a, vs, h1, h2, h3⟩ => ⟨a, vs, h1, ex_t e h2, h3.mono e⟩⟩
/-- ints -/
abbrev nI (n : Nat) : Rp := rI (n : Int)
def rLn (l : List Nat) : Rp := rL K (l.map nI)
def rTn (l : List Nat) : Rp := rT K (l.map nI)
def rLL (l : List (List Nat)) : Rp := rL K (l.map (rLn K))
end
theorem ra_nats {H : Hp} : ∀ {l : List Nat}, RA H (l.map fun (n : Nat) => V.int (n : Int)) (l.map nI)
  | [] => .nil
  | _ :: r => .cons rfl (ra_nats (l := r))
theorem ra_vals {H : Hp} : ∀ {l : List V}, RA H l (l.map rV)
  | [] => .nil
  | _ :: r => .cons rfl (ra_vals (l := r))
theorem ra_nats_eq {H : Hp} : ∀ {l : List Nat} {vs : List V}, RA H vs (l.map nI) → vs = l.map fun (n : Nat) => V.int (n : Int)
  | [], _, .nil => rfl
  | n :: r, _, .cons h t => by
    have e1 := ra_nats_eq (l := r) t
    have e2 : _ = V.int (n : Int) := h
    rw [e1, e2]; rfl

/-! ### what a reading gives -/
def EvD (te : TE) (σ : L2.St) (G : Hp) (r : Rp) : Prop := ∀ H, Ex G H → ∀ Q : VK, (∀ v G2 H2, Gr G H G2 H2 → r.p v G2 → Q v H2) → te σ H Q
/-- a new list, not (yet) in the footprint -/
def EvN (te : TE) (σ : L2.St) (G : Hp) (rs : List Rp) : Prop := ∀ H, Ex G H → ∀ Q : VK, (∀ p vs G2 H2, Gr G H G2 H2 → H p = none → G2 p = none → H2 p = some (.lst vs) → RA G2 vs rs → Q (.ref p) H2) → te σ H Q
def EvAD (ta : TA) (σ : L2.St) (G : Hp) (rs : List Rp) : Prop := ∀ H, Ex G H → ∀ Q : List V → Hp → Prop, (∀ vs G2 H2, Gr G H G2 H2 → RA G2 vs rs → Q vs H2) → ta σ H Q
section
variable {σ : L2.St} {G G' : Hp} {te ta tb : TE} {r r1 r2 : Rp} {v w x y z : V} {K : PySem.W.Frag}
theorem EvD.mono (e : Ex G G') (h : EvD te σ G r) : EvD te σ G' r := fun H e' Q q =>
  h H (e.trans e') Q fun v G2 H2 g hp => q v (un G' G2) H2 (g.up e e') (r.mono (g.upr e') hp)
theorem EvN.mono {rs : List Rp} (e : Ex G G') (h : EvN te σ G rs) : EvN te σ G' rs := fun H e' Q q =>
  h H (e.trans e') Q fun p vs G2 H2 g hp gp h2 ra => q p vs (un G' G2) H2 (g.up e e') hp (by rw [un_r (fresh_back e' hp)]; exact gp) h2 (ra.mono (g.upr e'))
theorem EvAD.mono {ta : TA} {rs : List Rp} (e : Ex G G') (h : EvAD ta σ G rs) : EvAD ta σ G' rs := fun H e' Q q =>
  h H (e.trans e') Q fun vs G2 H2 g hp => q vs (un G' G2) H2 (g.up e e') (hp.mono (g.upr e'))
theorem Ev.d (h : Ev te σ G v) : EvD te σ G (rV v) := fun H e Q q => h H e Q fun H2 e2 => q v G H2 ((Gr.refl e).more e2) rfl
theorem EvD.ev (h : EvD te σ G (rV v)) : Ev te σ G v := fun H e Q q => h H e Q fun v' G2 H2 g (hv : v' = v) => by subst hv; exact q H2 g.h
theorem ed_var {i : Nat} (h : σ[i]? = some (some v)) (hr : r.p v G) : EvD (tVar i) σ G r := fun H e Q q => ⟨v, h, q v G H (Gr.refl e) hr⟩
theorem EvN.d {rs : List Rp} (h : EvN te σ G rs) : EvD te σ G (rL K rs) := fun H e Q q => h H e Q fun p vs G2 H2 g hp gp h2 ra => by
  have e2 : Ex (upd G2 p (.lst vs)) H2 := fun a u z => by
    by_cases c : a = p
    · subst c
      rw [upd_same] at z
      rw [h2]; exact z
    · rw [upd_ne c] at z
      exact g.i a u z
  refine q (.ref p) (upd G2 p (.lst vs)) H2 ⟨g.g.trans (Ex.new gp), g.h, e2, fun a u z y => ?_⟩ ⟨p, vs, rfl, upd_same, ra.mono (Ex.new gp)⟩
  rw [upd_ne (ne_of_none z hp)]
  exact g.n a u z y
/-! arguments -/
theorem ead_nil : EvAD tNil σ G [] := fun H e Q q => q [] G H (Gr.refl e) .nil
theorem ead_cons {tr : TA} {rs : List Rp} (h : EvD te σ G r) (hr : EvAD tr σ G rs) : EvAD (tCons te tr) σ G (r :: rs) := fun H e Q q =>
  h H e _ fun v G2 H2 g hv => (hr.mono g.g) H2 g.i _ fun vs G3 H3 g3 hvs => q (v :: vs) G3 H3 (g.trans g3) (.cons (r.mono g3.g hv) hvs)
/-! calls -/
def SpD (sp : Sp) (vs : List V) (G : Hp) (r : Rp) : Prop := ∀ H, Ex G H → ∀ Q : VK, (∀ v G2 H2, Gr G H G2 H2 → r.p v G2 → Q v H2) → ∀ E : XK, sp vs H Q E
def SpN (sp : Sp) (vs : List V) (G : Hp) (rs : List Rp) : Prop := ∀ H, Ex G H → ∀ Q : VK, (∀ p vs G2 H2, Gr G H G2 H2 → H p = none → G2 p = none → H2 p = some (.lst vs) → RA G2 vs rs → Q (.ref p) H2) → ∀ E : XK, sp vs H Q E
theorem ed_call {sp : Sp} {E : XK} {ta : TA} {rs : List Rp} (h : EvAD ta σ G rs) (hs : ∀ vs G2, Ex G G2 → RA G2 vs rs → SpD sp vs G2 r) : EvD (tCall sp [] E ta) σ G r := fun H e Q q =>
  h H e _ fun vs G2 H2 g hv => by
    rw [List.append_nil]
    exact hs vs G2 g.g hv H2 g.i Q (fun v G3 H3 g3 hv3 => q v G3 H3 (g.trans g3) hv3) E
theorem en_call {sp : Sp} {E : XK} {ta : TA} {rs ss : List Rp} (h : EvAD ta σ G rs) (hs : ∀ vs G2, Ex G G2 → RA G2 vs rs → SpN sp vs G2 ss) : EvN (tCall sp [] E ta) σ G ss := fun H e Q q =>
  h H e _ fun vs G2 H2 g hv => by
    rw [List.append_nil]
    exact hs vs G2 g.g hv H2 g.i Q (fun p ws G3 H3 g3 hp gp h3 ra => q p ws G3 H3 (g.trans g3) (fresh_back g.h hp) gp h3 ra) E
theorem ed_callB {rr : List V → Hp → VK → Prop} {ta : TA} {rs : List Rp} (h : EvAD ta σ G rs) (hs : ∀ vs G2 H, Ex G G2 → Ex G2 H → RA G2 vs rs → ∀ Q : VK, (∀ v G3 H3, Gr G2 H G3 H3 → r.p v G3 → Q v H3) → rr vs H Q) : EvD (tCB rr ta) σ G r := fun H e Q q =>
  h H e _ fun vs G2 H2 g hv => hs vs G2 H2 g.g g.i hv Q fun v G3 H3 g3 hv3 => q v G3 H3 (g.trans g3) hv3
theorem en_callB {rr : List V → Hp → VK → Prop} {ta : TA} {rs ss : List Rp} (h : EvAD ta σ G rs) (hs : ∀ vs G2 H, Ex G G2 → Ex G2 H → RA G2 vs rs → ∀ Q : VK, (∀ p ws G3 H3, Gr G2 H G3 H3 → H p = none → G3 p = none → H3 p = some (.lst ws) → RA G3 ws ss → Q (.ref p) H3) → rr vs H Q) : EvN (tCB rr ta) σ G ss := fun H e Q q =>
  h H e _ fun vs G2 H2 g hv => hs vs G2 H2 g.g g.i hv Q fun p ws G3 H3 g3 hp gp h3 ra => q p ws G3 H3 (g.trans g3) (fresh_back g.h hp) gp h3 ra
/-- operators -/
theorem ed_op {rr : R2} (ha : EvD ta σ G r1) (hb : EvD tb σ G r2) (hs : ∀ x y G2 H, Ex G G2 → Ex G2 H → r1.p x G2 → r2.p y G2 → ∀ Q : VK, (∀ v G3 H3, Gr G2 H G3 H3 → r.p v G3 → Q v H3) → rr x y H Q) : EvD (tOp rr ta tb) σ G r := fun H e Q q =>
  ha H e _ fun x G2 H2 g hx => (hb.mono g.g) H2 g.i _ fun y G3 H3 g3 hy => hs x y G3 H3 (g.g.trans g3.g) g3.i (r1.mono g3.g hx) hy Q fun v G4 H4 g4 hv => q v G4 H4 ((g.trans g3).trans g4) hv
theorem en_op {rr : R2} {ss : List Rp} (ha : EvD ta σ G r1) (hb : EvD tb σ G r2) (hs : ∀ x y G2 H, Ex G G2 → Ex G2 H → r1.p x G2 → r2.p y G2 → ∀ Q : VK, (∀ p ws G3 H3, Gr G2 H G3 H3 → H p = none → G3 p = none → H3 p = some (.lst ws) → RA G3 ws ss → Q (.ref p) H3) → rr x y H Q) : EvN (tOp rr ta tb) σ G ss := fun H e Q q =>
  ha H e _ fun x G2 H2 g hx => (hb.mono g.g) H2 g.i _ fun y G3 H3 g3 hy => hs x y G3 H3 (g.g.trans g3.g) g3.i (r1.mono g3.g hx) hy Q fun p ws G4 H4 g4 hp gp h4 ra => q p ws G4 H4 ((g.trans g3).trans g4) (fresh_back (g.h.trans g3.h) hp) gp h4 ra
/-- an operation whose answer is a plain value and that leaves the heap -/
theorem ev_op2 {rr : R2} (ha : EvD ta σ G r1) (hb : EvD tb σ G r2) (hs : ∀ x y H, r1.p x H → r2.p y H → ∀ Q : VK, Q z H → rr x y H Q) : Ev (tOp rr ta tb) σ G z := EvD.ev (ed_op ha hb fun x y G2 H _ e hx hy Q q => hs x y H (r1.mono e hx) (r2.mono e hy) Q (q z G2 H (Gr.refl e) rfl))
/-! items -/
theorem ed_ixT {rs : List Rp} {i : Nat} (ha : EvD ta σ G (rT K rs)) (hb : Ev tb σ G (.int (i : Int))) (hi : rs[i]? = some r) : EvD (tOp (rIxT K) ta tb) σ G r :=
  ed_op ha (Ev.d hb) fun x y G2 H _ e hx hy Q q => by
    obtain ⟨a, vs, rfl, h1, h2⟩ := hx
    obtain ⟨v, h3, h4⟩ := h2.get hi
    have hy' : y = .int (i : Int) := hy
    subst hy'
    exact ⟨a, vs, (i : Int), v, rfl, rfl, ex_t e h1, atI_nat h3, q v G2 H (Gr.refl e) h4⟩
theorem ed_ixL {rs : List Rp} {i : Nat} (ha : EvD ta σ G (rL K rs)) (hb : Ev tb σ G (.int (i : Int))) (hi : rs[i]? = some r) : EvD (tOp (rIxL K) ta tb) σ G r :=
  ed_op ha (Ev.d hb) fun x y G2 H _ e hx hy Q q => by
    obtain ⟨a, vs, rfl, h1, h2⟩ := hx
    obtain ⟨v, h3, h4⟩ := h2.get hi
    have hy' : y = .int (i : Int) := hy
    subst hy'
    exact ⟨a, vs, (i : Int), v, rfl, rfl, sq_of (e _ _ h1), atI_nat h3, q v G2 H (Gr.refl e) h4⟩
/-! len, list, tuple -/
def rTupO (K : PySem.W.Frag) : List V → Hp → VK → Prop := fun xs H Q => ∃ p ys, xs = [.ref p] ∧ ((SqL K H p ys ∧ ∀ l, H l = none → Q (.ref l) (upd H l (.tup ys))) ∨ (SqT K H p ys ∧ Q (.ref p) H))
theorem ev_lenL {rs : List Rp} {n : Nat} (h : EvD te σ G (rL K rs)) (hn : rs.length = n) : Ev (tCB (rLenS K) (tCons te tNil)) σ G (.int (n : Int)) := fun H e Q q =>
  h H e _ fun v G2 H2 g ⟨a, vs, hv, h1, h2⟩ => by
    subst hv
    refine ⟨a, vs, rfl, Or.inl (sq_of (g.i _ _ h1)), ?_⟩
    rw [h2.len, hn]
    exact q H2 g.h
theorem ev_lenT {rs : List Rp} {n : Nat} (h : EvD te σ G (rT K rs)) (hn : rs.length = n) : Ev (tCB (rLenS K) (tCons te tNil)) σ G (.int (n : Int)) := fun H e Q q =>
  h H e _ fun v G2 H2 g ⟨a, vs, hv, h1, h2⟩ => by
    subst hv
    refine ⟨a, vs, rfl, Or.inr (ex_t g.i h1), ?_⟩
    rw [h2.len, hn]
    exact q H2 g.h
theorem en_listL {rs : List Rp} (h : EvD te σ G (rL K rs)) : EvN (tCB (rListS K) (tCons te tNil)) σ G rs := fun H e Q q =>
  h H e _ fun v G2 H2 g ⟨a, vs, hv, h1, h2⟩ => by
    subst hv
    exact ⟨a, vs, rfl, Or.inl (sq_of (g.i _ _ h1)), fun l hl => q l vs G2 _ (g.more (Ex.new hl)) (fresh_back g.h hl) (fresh_back g.i hl) upd_same h2⟩
theorem en_listT {rs : List Rp} (h : EvD te σ G (rT K rs)) : EvN (tCB (rListS K) (tCons te tNil)) σ G rs := fun H e Q q =>
  h H e _ fun v G2 H2 g ⟨a, vs, hv, h1, h2⟩ => by
    subst hv
    exact ⟨a, vs, rfl, Or.inr (ex_t g.i h1), fun l hl => q l vs G2 _ (g.more (Ex.new hl)) (fresh_back g.h hl) (fresh_back g.i hl) upd_same h2⟩
theorem ed_tupL {rs : List Rp} (h : EvD te σ G (rL K rs)) : EvD (tCB (rTupO K) (tCons te tNil)) σ G (rT K rs) := fun H e Q q =>
  h H e _ fun v G2 H2 g ⟨a, vs, hv, h1, h2⟩ => by
    subst hv
    refine ⟨a, vs, rfl, Or.inl ⟨sq_of (g.i _ _ h1), fun l hl => ?_⟩⟩
    have g3 := Gr.new (o := .tup vs) g.i hl
    exact q (.ref l) _ _ (g.trans g3) ⟨l, vs, rfl, st_of upd_same, h2.mono g3.g⟩
/-! displays -/
theorem ed_tup {ta : TA} {rs : List Rp} (h : EvAD ta σ G rs) (hl : rs.length ≤ 100000) : EvD (tTup ta) σ G (rT K rs) := fun H e Q q =>
  h H e _ fun vs G2 H2 g hv => ⟨sz_of (by rw [hv.len]; exact hl), fun p hp => by
    have g3 := Gr.new (o := .tup vs) g.i hp
    exact q (.ref p) _ _ (g.trans g3) ⟨p, vs, rfl, st_of upd_same, hv.mono g3.g⟩⟩
theorem en_lst {ta : TA} {rs : List Rp} (h : EvAD ta σ G rs) (hl : rs.length ≤ 100000) : EvN (tLst ta) σ G rs := fun H e Q q =>
  h H e _ fun vs G2 H2 g hv => ⟨sz_of (by rw [hv.len]; exact hl), fun p hp => q p vs G2 _ (g.more (Ex.new hp)) (fresh_back g.h hp) (fresh_back g.i hp) upd_same hv⟩
end

/-! ### comprehensions -/
section
variable {σ : L2.St} {G : Hp} {te tl : TE} {t : TT} {K : PySem.W.Frag} {α : Type} {j : Nat} {vs : List Nat}
/-- between two turns: D the list that grows, outside the footprint -/
def Cm (G0 H0 : Hp) (Dl : Addr) (rs : List Rp) (H' : Hp) : Prop := H0 Dl = none ∧ ∃ G' ws, Gr G0 H0 G' H' ∧ G' Dl = none ∧ H' Dl = some (.lst ws) ∧ RA G' ws rs
theorem cm_turn {G0 H0 H' : Hp} {Dl : Addr} {rs : List Rp} {b : Bool} {r : Rp} {σ2 : L2.St} (hz : rs.length < 50000) (p : Cm G0 H0 Dl rs H') (ht : ∀ G1, Ex G0 G1 → Ex G1 H' → EvT t σ2 G1 b) (he : b = true → ∀ G1, Ex G0 G1 → Ex G1 H' → EvD te σ2 G1 r) :
    t σ2 H' fun b H3 => if b = true then te σ2 H3 fun y H4 => ∃ acc, H4 Dl = some (.lst acc) ∧ acc.length < sizeLine ∧ Cm G0 H0 Dl (rs ++ (if true = true then [r] else [])) (upd H4 Dl (.lst (acc ++ [y]))) else Cm G0 H0 Dl rs H3 := by
  obtain ⟨p1, G', ws, g, hG, hD, ra⟩ := p
  refine ht G' g.g g.i H' g.i _ fun H3 e3 => ?_
  cases b with
  | true =>
    show te σ2 H3 fun y H4 => _
    refine he rfl G' g.g g.i H3 (g.i.trans e3) _ fun y G4 H4 g4 hy => ⟨ws, g4.h _ _ (e3 _ _ hD), sz_lt (by rw [ra.len]; omega), p1, G4, ws ++ [y], ?_, g4.n _ _ (e3 _ _ hD) hG, upd_same, (ra.mono g4.g).snoc hy⟩
    have q := (g.more e3).trans g4
    exact ⟨q.g, Ex.mut q.h p1, Ex.mut q.i (g4.n _ _ (e3 _ _ hD) hG), q.n⟩
  | false =>
    show Cm G0 H0 Dl rs H3
    exact ⟨p1, G', ws, g.more e3, hG, e3 _ _ hD, ra⟩
theorem filter_take_succ {l : List α} {f : α → Bool} {rr : α → Rp} {i : Nat} {a : α} (h : l[i]? = some a) : ((l.take (i + 1)).filter f).map rr = ((l.take i).filter f).map rr ++ (if f a = true then [rr a] else []) := by
  rw [List.take_add_one, h, List.filter_append, List.map_append]
  congr 1
  cases q : f a <;> simp [q]
theorem cm_step {l : List α} {f : α → Bool} {rr : α → Rp} {G0 H0 H' : Hp} {Dl : Addr} {i : Nat} {a : α} {σ2 : L2.St} (h : l[i]? = some a) (hz : l.length ≤ 40000) (p : Cm G0 H0 Dl (((l.take i).filter f).map rr) H')
    (ht : ∀ G1, Ex G0 G1 → Ex G1 H' → EvT t σ2 G1 (f a)) (he : f a = true → ∀ G1, Ex G0 G1 → Ex G1 H' → EvD te σ2 G1 (rr a)) :
    t σ2 H' fun b H3 => if b = true then te σ2 H3 fun y H4 => ∃ acc, H4 Dl = some (.lst acc) ∧ acc.length < sizeLine ∧ Cm G0 H0 Dl (((l.take (i + 1)).filter f).map rr) (upd H4 Dl (.lst (acc ++ [y]))) else Cm G0 H0 Dl (((l.take (i + 1)).filter f).map rr) H3 := by
  rw [filter_take_succ h]
  have hl : (((l.take i).filter f).map rr).length < 50000 := by
    rw [List.length_map]
    have h1 := List.length_filter_le f (l.take i)
    have h2 := List.length_take_le i l
    have h3 : (l.take i).length ≤ l.length := by rw [List.length_take]; omega
    omega
  have z := cm_turn (t := t) (te := te) (r := rr a) (b := f a) hl p ht he
  cases q : f a with
  | true =>
    rw [q] at ht
    obtain ⟨p1, G', ws, g, hG, hD, ra⟩ := p
    refine ht G' g.g g.i H' g.i _ fun H3 e3 => ?_
    show te σ2 H3 fun y H4 => _
    refine he q G' g.g g.i H3 (g.i.trans e3) _ fun y G4 H4 g4 hy => ⟨ws, g4.h _ _ (e3 _ _ hD), sz_lt (by rw [ra.len]; omega), p1, G4, ws ++ [y], ?_, g4.n _ _ (e3 _ _ hD) hG, upd_same, (ra.mono g4.g).snoc hy⟩
    have q := (g.more e3).trans g4
    exact ⟨q.g, Ex.mut q.h p1, Ex.mut q.i (g4.n _ _ (e3 _ _ hD) hG), q.n⟩
  | false =>
    rw [q] at ht
    obtain ⟨p1, G', ws, g, hG, hD, ra⟩ := p
    refine ht G' g.g g.i H' g.i _ fun H3 e3 => ?_
    show Cm G0 H0 Dl (_ ++ []) H3
    rw [List.append_nil]
    exact ⟨p1, G', ws, g.more e3, hG, e3 _ _ hD, ra⟩
theorem cm_start {G0 H0 : Hp} {Dl : Addr} (e : Ex G0 H0) (h : H0 Dl = none) : Cm G0 H0 Dl [] (upd H0 Dl (.lst [])) := ⟨h, G0, [], Gr.out e h, fresh_back e h, upd_same, .nil⟩
theorem en_lcL (l : List α) (ρ : α → Rp) (f : α → Bool) (rr : α → Rp) (h : EvD tl σ G (rL K (l.map ρ))) (hz : l.length ≤ 40000) (hw : ∀ x, wipe ((wipe σ vs).set j (some x)) vs = wipe σ vs)
    (ht : ∀ a x G1, a ∈ l → Ex G G1 → (ρ a).p x G1 → EvT t ((wipe σ vs).set j (some x)) G1 (f a)) (he : ∀ a x G1, a ∈ l → f a = true → Ex G G1 → (ρ a).p x G1 → EvD te ((wipe σ vs).set j (some x)) G1 (rr a)) :
    EvN (tLc (iList K tl) (gName j) t te vs) σ G ((l.filter f).map rr) := fun H0 e Q q => h H0 e _ fun v G1 H1 g1 ⟨a, xs, hv, h1, h2⟩ => by
  subst hv
  refine ⟨a, rfl, ⟨xs, sq_of (g1.i _ _ h1)⟩, fun Dl hD => lc_list (xs := xs) (fun i H' => Cm G1 H1 Dl (((l.take i).filter f).map rr) H') (cm_start g1.i hD) (fun i H' _ p => ?_) (fun i x H' hi p => ⟨hw x, ?_⟩) (fun H' p => ?_)⟩
  · obtain ⟨_, G', ws, g, _, _, _⟩ := p
    exact sq_of ((g.g.trans g.i) _ _ h1)
  · obtain ⟨r, hr, hx⟩ := h2.getV hi
    rw [List.getElem?_map] at hr
    cases q2 : l[i]? with
    | none => rw [q2] at hr; cases hr
    | some b =>
      rw [q2] at hr
      have hr' : ρ b = r := Option.some.inj hr
      subst hr'
      have hm : b ∈ l := List.mem_of_getElem? q2
      exact cm_step q2 hz p (fun G2 e1 e2 => ht b x G2 hm (g1.g.trans e1) ((ρ b).mono e1 hx)) (fun hf G2 e1 e2 => he b x G2 hm hf (g1.g.trans e1) ((ρ b).mono e1 hx))
  · obtain ⟨p1, G', ws, g, hG, hD', ra⟩ := p
    have el : xs.length = l.length := by rw [h2.len, List.length_map]
    rw [el, List.take_length] at ra
    exact q Dl ws G' H' (g1.trans g) (fresh_back g1.h p1) hG hD' ra
theorem en_lcT (l : List α) (ρ : α → Rp) (f : α → Bool) (rr : α → Rp) (h : EvD tl σ G (rT K (l.map ρ))) (hz : l.length ≤ 40000) (hw : ∀ x, wipe ((wipe σ vs).set j (some x)) vs = wipe σ vs)
    (ht : ∀ a x G1, a ∈ l → Ex G G1 → (ρ a).p x G1 → EvT t ((wipe σ vs).set j (some x)) G1 (f a)) (he : ∀ a x G1, a ∈ l → f a = true → Ex G G1 → (ρ a).p x G1 → EvD te ((wipe σ vs).set j (some x)) G1 (rr a)) :
    EvN (tLc (iTup K tl) (gName j) t te vs) σ G ((l.filter f).map rr) := fun H0 e Q q => h H0 e _ fun v G1 H1 g1 ⟨a, xs, hv, h1, h2⟩ => by
  subst hv
  refine ⟨a, rfl, ⟨xs, ex_t g1.i h1⟩, fun Dl hD => lc_tup (xs := xs) (fun i H' => Cm G1 H1 Dl (((l.take i).filter f).map rr) H') (cm_start g1.i hD) (fun i H' _ p => ?_) (fun i x H' hi p => ⟨hw x, ?_⟩) (fun H' p => ?_)⟩
  · obtain ⟨_, G', ws, g, _, _, _⟩ := p
    exact ex_t (g.g.trans g.i) h1
  · obtain ⟨r, hr, hx⟩ := h2.getV hi
    rw [List.getElem?_map] at hr
    cases q2 : l[i]? with
    | none => rw [q2] at hr; cases hr
    | some b =>
      rw [q2] at hr
      have hr' : ρ b = r := Option.some.inj hr
      subst hr'
      have hm : b ∈ l := List.mem_of_getElem? q2
      exact cm_step q2 hz p (fun G2 e1 e2 => ht b x G2 hm (g1.g.trans e1) ((ρ b).mono e1 hx)) (fun hf G2 e1 e2 => he b x G2 hm hf (g1.g.trans e1) ((ρ b).mono e1 hx))
  · obtain ⟨p1, G', ws, g, hG, hD', ra⟩ := p
    have el : xs.length = l.length := by rw [h2.len, List.length_map]
    rw [el, List.take_length] at ra
    exact q Dl ws G' H' (g1.trans g) (fresh_back g1.h p1) hG hD' ra
theorem range_get {n i : Nat} (h : i < n) : (List.range n)[i]? = some i := by rw [List.getElem?_range h]
theorem en_lcR {ta : TA} (n : Nat) (f : Nat → Bool) (rr : Nat → Rp) (h : EvA ta σ G [.int (n : Int)]) (hz : n ≤ 40000) (hw : ∀ x, wipe ((wipe σ vs).set j (some x)) vs = wipe σ vs)
    (ht : ∀ (a : Nat) G1, a < n → Ex G G1 → EvT t ((wipe σ vs).set j (some (.int (a : Int)))) G1 (f a)) (he : ∀ (a : Nat) G1, a < n → f a = true → Ex G G1 → EvD te ((wipe σ vs).set j (some (.int (a : Int)))) G1 (rr a)) :
    EvN (tLc (iRng1 ta) (gName j) t te vs) σ G (((List.range n).filter f).map rr) := fun H0 e Q q => h H0 e _ fun H1 e1 => by
  refine ⟨(n : Int), rfl, by omega, by omega, fun Dl hD => ?_⟩
  have g1 := (Gr.refl e).more e1
  rw [Int.toNat_natCast]
  refine lc_range (lo := 0) (n := n) (fun i H' => Cm G H1 Dl ((((List.range n).take i).filter f).map rr) H') (cm_start g1.i hD) (fun i H' hi p => ?_) (fun H' p => ?_)
  · have e0 : (0 : Int) + (i : Int) = (i : Int) := Int.zero_add _
    rw [e0]
    exact ⟨hw _, cm_step (range_get hi) (by rw [List.length_range]; exact hz) p (fun G2 e1 e2 => ht i G2 hi e1) (fun hf G2 e1 e2 => he i G2 hi hf e1)⟩
  · obtain ⟨p1, G', ws, g, hG, hD', ra⟩ := p
    have el : (List.range n).length = n := List.length_range
    rw [show (List.range n).take n = List.range n by rw [List.take_of_length_le (by rw [el]; omega)]] at ra
    exact q Dl ws G' H' (g1.trans (⟨g.g, g.h, g.i, g.n⟩ : Gr G H1 G' H')) (fresh_back e1 p1) hG hD' ra
theorem yes_T {b : Bool} (h : b = true) : EvT tYes σ G b := fun H e Q q => by subst h; exact q H (Ex.refl H)
theorem en_is {rs ss : List Rp} (h : EvN te σ G rs) (e : rs = ss) : EvN te σ G ss := e ▸ h
theorem ed_is {r s : Rp} (h : EvD te σ G r) (e : r = s) : EvD te σ G s := e ▸ h
end

/-! ### statements, from a footprint -/
section
variable {σ : L2.St} {G H : Hp} {te ta : TE} {t : TT} {K : PySem.W.Frag} {D : Ends} {tu tw : TS} {v : V} {r : Rp} {i : Nat}
theorem s_set (e : Ex G H) (h : Ev te σ G v) (k : ∀ H1, Ex H H1 → D.nx (σ.set i (some v)) H1) : tAsg te (gName i) D σ H := h H e _ fun H1 e1 => k H1 e1
theorem s_setD (e : Ex G H) (h : EvD te σ G r) (k : ∀ v G2 H2, Gr G H G2 H2 → r.p v G2 → D.nx (σ.set i (some v)) H2) : tAsg te (gName i) D σ H := h H e _ k
theorem s_setN {rs : List Rp} (e : Ex G H) (h : EvN te σ G rs) (k : ∀ p vs G2 H2, Gr G H G2 H2 → H p = none → G2 p = none → H2 p = some (.lst vs) → RA G2 vs rs → D.nx (σ.set i (some (.ref p))) H2) : tAsg te (gName i) D σ H := h H e _ k
theorem s_retE (e : Ex G H) (h : Ev te σ G v) (k : ∀ H1, Ex H H1 → D.rt v H1) : tRet te D σ H := h H e _ k
theorem s_retD (e : Ex G H) (h : EvD te σ G r) (k : ∀ v G2 H2, Gr G H G2 H2 → r.p v G2 → D.rt v H2) : tRet te D σ H := h H e _ k
theorem s_retN {rs : List Rp} (e : Ex G H) (h : EvN te σ G rs) (k : ∀ p vs G2 H2, Gr G H G2 H2 → H p = none → G2 p = none → H2 p = some (.lst vs) → RA G2 vs rs → D.rt (.ref p) H2) : tRet te D σ H := h H e _ k
theorem s_ifE {b : Bool} (e : Ex G H) (h : EvT t σ G b) (h1 : b = true → ∀ H1, Ex H H1 → tu D σ H1) (h2 : b = false → ∀ H1, Ex H H1 → tw D σ H1) : tIfS t tu tw D σ H := h H e _ fun H1 e1 => by
  cases b with
  | true =>
    show tu D σ H1
    exact h1 rfl H1 e1
  | false =>
    show tw D σ H1
    exact h2 rfl H1 e1
/-- a call for its doing -/
theorem s_doE (e : Ex G H) (h : Ev te σ G v) (k : ∀ H1, Ex H H1 → D.nx σ H1) : tDrop te D σ H := h H e _ k
/-- xs.append(e), xs a list of our own -/
theorem s_appD {p : Addr} {ws : List V} {rs : List Rp} (e : Ex G H) (hp : H p = some (.lst ws)) (gp : G p = none) (ra : RA G ws rs) (hv : Ev ta σ G (.ref p)) (h : EvD te σ G r) (hz : rs.length < 50000)
    (k : ∀ ws' G2 H2, Ex G G2 → (∀ a o, H a = some o → a ≠ p → H2 a = some o) → Ex G2 H2 → (∀ a o, H a = some o → G a = none → G2 a = none) → G2 p = none → H2 p = some (.lst ws') → RA G2 ws' (rs ++ [r]) → D.nx σ H2) :
    tDrop (tBM K "list" rAppend ta (tCons te tNil)) D σ H := hv H e _ fun H1 e1 => ⟨Or.inl ⟨rfl, ws, sq_of (e1 p _ hp)⟩, h H1 (e.trans e1) _ fun v G2 H2 g hv2 => by
  have h2 := g.h p _ (e1 p _ hp)
  have g2 : G2 p = none := g.n p _ (e1 p _ hp) gp
  refine ⟨p, ws, v, rfl, rfl, h2, sz_lt (by rw [ra.len]; omega), k (ws ++ [v]) G2 _ g.g (fun a o z n => ?_) (Ex.mut g.i g2) (fun a o z n => g.n a o (e1 a o z) n) g2 upd_same ((ra.mono g.g).snoc hv2)⟩
  rw [upd_ne n]
  exact g.h a o (e1 a o z)⟩
end
end Mu

namespace Mu
open PySem PySem.Spec PyProof.Rows L2 Evl
/-! ### operators of one's own: the special methods of an instance -/
section
variable {X : Cx} {CX : CXT} {k : Nat} {f C : Addr} {fd : FuncData} {ps : List Str} {sp : Sp} {E : XK}
/-- the callee runs, somewhere below this body -/
theorem run_fnA {A : Around} {pins : List (Addr × Obj)} {σ : L2.St} {H : Hp} {s : Shared} {Q : VK} {us : List Value} {vs : List V} (hA : A.frames = X.A.frames) (F : FnOk X.prog X.w X.K X.mg X.base CX k f fd ps sp) (hr : Room k A) (hb : Binds X.K fd ps []) (hx : Passes CX X E)
    (I : Inv X pins σ H s) (r : Vals vs us) (h : sp vs H Q E) : wpAny (model X.prog X.w) A (call (.ref f) us) (EP X pins σ Q) X.xe s := by
  have hl : (us ++ []).length = ps.length := by rw [List.append_nil, ← r.length]; exact F.len _ _ _ _ h
  have e := I.env0
  have e0 : Env0 X.prog X.w X.K X.mg X.base A X.stack s H := ⟨by rw [hA]; exact e.frames, e.mod, e.bs, e.bsz, e.funs, e.frf, e.hok, e.bare⟩
  have hbb := hb s us I.kIn hl
  rw [List.append_nil] at hbb
  refine wpAny_call (codeAny_mono (F.run A X.stack s H ⟨us, []⟩ us vs Q E hr e0 hbb r h) fun r s' hq => ?_)
  cases r with
  | error e => exact hx pins σ H s e s' I hq
  | ok fl =>
    cases fl with
    | ret u => exact I.after hq
    | next => exact False.elim hq
    | brk => exact False.elim hq
    | cont => exact False.elim hq
theorem ep_back {pins : List (Addr × Obj)} {σ : L2.St} {Q : VK} {u : Value} {s' : Shared} (h : EP X pins σ Q u s') : PySem.W.CmpBack (EP X pins σ Q) u s' := by
  obtain ⟨v, H', I, r, q⟩ := id h
  cases v with
  | non => cases (show u = Value.none from r); exact h
  | bl b => cases (show u = Value.bool b from r); exact h
  | int i => obtain ⟨t, e⟩ := (show ∃ t, u = Value.int i t from r); subst e; exact h
  | str i => obtain ⟨t, e⟩ := (show ∃ t, u = Value.str i t from r); subst e; exact h
  | byt i => obtain ⟨t, e⟩ := (show ∃ t, u = Value.bytes i t from r); subst e; exact h
  | flt i => obtain ⟨t, e⟩ := (show ∃ t, u = Value.float i t from r); subst e; exact h
  | ref a => cases (show u = Value.ref a from r); exact h
  | ty n => cases (show u = Value.type n from r); exact h
/-- a special method stands in the class -/
structure Dun (K : PySem.W.Frag) (C : Addr) (m : Str) (f : Addr) : Prop where
  at_ : PySem.W.findIn K (.ref C) m = some (some (.ref f))
  fn : PySem.W.isFn K (.ref f) = true
def rOwn2 (C : Addr) (sp : Sp) (E : XK) : R2 := fun x y H Q => ∃ a b dx fs dy gs, x = .ref a ∧ y = .ref b ∧ H a = some (.ins C dx fs) ∧ H b = some (.ins C dy gs) ∧ sp [.ref a, .ref b] H Q E
theorem op_own {op : Operator} {m : Str} (hm : PySem.dunder op.info.2 = m) (d : Dun X.K C m f) (hc : PySem.W.selfFirst X.K C = true) (F : FnOk X.prog X.w X.K X.mg X.base CX k f fd ps sp) (hr : Room k X.A) (hb : Binds X.K fd ps []) (hx : Passes CX X E) : OpR X (binaryOp op) (rOwn2 C sp E) := by
  intro pins s σ H x y u v Q I rx ry h
  obtain ⟨a, b, dx, fs, dy, gs, rfl, rfl, ha, hb', q⟩ := h
  cases rx
  cases ry
  obtain ⟨mA, J, _⟩ := ins_get I.hok ha
  obtain ⟨mB, J', _⟩ := ins_get I.hok hb'
  obtain ⟨od, J, _⟩ := J.look
  obtain ⟨od', J', _⟩ := J'.look
  obtain ⟨m0, hF⟩ := I.fr
  subst hm
  refine PySem.W.binop_K hF I.ok.mod.kin J J'.type hc d.at_ d.fn ?_
  exact wpAny_mono (run_fnA (vs := [.ref a, .ref b]) rfl F hr hb hx I (.cons rfl (.cons rfl .nil)) q) (fun u s' h => ep_back h) (fun _ _ z => z)
theorem cmp_own {op : CmpOp} {m : Str} (hm : (cmpInfo op).2.1 = m) (hop : ∀ a b, compareOp op a b = richCompare op a b) (d : Dun X.K C m f) (F : FnOk X.prog X.w X.K X.mg X.base CX k f fd ps sp) (hr : Room k X.A) (hb : Binds X.K fd ps []) (hx : Passes CX X E) : OpR X (compareOp op) (rOwn2 C sp E) := by
  intro pins s σ H x y u v Q I rx ry h
  obtain ⟨a, b, dx, fs, dy, gs, rfl, rfl, ha, hb', q⟩ := h
  cases rx
  cases ry
  obtain ⟨mA, J, _⟩ := ins_get I.hok ha
  obtain ⟨mB, J', _⟩ := ins_get I.hok hb'
  obtain ⟨od, J, _⟩ := J.look
  obtain ⟨od', J', _⟩ := J'.look
  obtain ⟨m0, hF⟩ := I.fr
  subst hm
  rw [hop]
  refine PySem.W.cmp_K (tb := .ref C) hr.units0 hF I.ok.mod.kin J J'.type (by simp [PySem.W.notFirst]) d.at_ d.fn ?_
  exact wpAny_mono (run_fnA (vs := [.ref a, .ref b]) rfl F hr hb hx I (.cons rfl (.cons rfl .nil)) q) (fun u s' h => ep_back h) (fun _ _ z => z)
def rOwn1 (C : Addr) (sp : Sp) (E : XK) : V → Hp → VK → Prop := fun x H Q => ∃ a dx fs, x = .ref a ∧ H a = some (.ins C dx fs) ∧ sp [.ref a] H Q E
theorem inv_own (d : Dun X.K C "__invert__" f) (F : FnOk X.prog X.w X.K X.mg X.base CX k f fd ps sp) (hr : Room k X.A) (hb : Binds X.K fd ps []) (hx : Passes CX X E) : UnR X (unaryOp .Invert) (rOwn1 C sp E) := by
  intro pins s σ H x u Q I rx h
  obtain ⟨a, dx, fs, rfl, ha, q⟩ := h
  cases rx
  obtain ⟨mA, J, _⟩ := ins_get I.hok ha
  obtain ⟨od, J, _⟩ := J.look
  obtain ⟨m0, hF⟩ := I.fr
  exact PySem.W.ksp_inv hF I.ok.mod.kin J d.at_ d.fn (run_fnA (vs := [.ref a]) rfl F hr hb hx I (.cons rfl .nil) q)
/-- o[i] -/
def rOwnIx (C : Addr) (sp : Sp) (E : XK) : R2 := fun x y H Q => ∃ a dx fs, x = .ref a ∧ H a = some (.ins C dx fs) ∧ sp [.ref a, y] H Q E
theorem pe_ixOwn {a b : Expr} {ta tb : TE} {pos : Pos} (d : Dun X.K C "__getitem__" f) (hfi : PySem.W.fnIn X.K f = true) (F : FnOk X.prog X.w X.K X.mg X.base CX k f fd ps sp) (hr : Room (k + 1) X.A) (hb : Binds X.K fd ps []) (hx : Passes CX X E) (ha : PE X a ta) (hbe : PE X b tb)
    (hsl : ∀ o i, subscripted b true o i = runValue (.builtin "lifetime.subscript" ⟨[o, i], []⟩) := by intro _ _; with_unfolding_all rfl) : PE X (.Subscript a b pos) (tOp (rOwnIx C sp E) ta tb) := by
  refine ⟨fun pins s σ H Q I h => ?_⟩
  refine Subscript_ (binT ha hbe I h fun v u s2 x y H2 I2 rx ry q => ?_)
  obtain ⟨p, dx, fs, rfl, hp, q⟩ := q
  cases rx
  obtain ⟨mA, J, _⟩ := ins_get I2.hok hp
  obtain ⟨od, J, _⟩ := J.look
  obtain ⟨m0, hF⟩ := I2.fr
  exact PySem.W.sub_K hF I2.ok.mod.kin J d.at_ hfi d.fn (run_fnA (vs := [.ref p, y]) rfl F hr.in1 hb hx I2 (.cons rfl (.cons ry .nil)) q) (hsl _ _)
/-- v in o -/
def rOwnIn (C : Addr) (neg : Bool) (sp : Sp) (E : XK) : R2 := fun x y H Q => ∃ a dx fs, y = .ref a ∧ H a = some (.ins C dx fs) ∧ sp [.ref a, x] H (fun v H' => ∃ b, v = .bl b ∧ Q (.bl (if neg then !b else b)) H') E
theorem in_own (d : Dun X.K C "__contains__" f) (F : FnOk X.prog X.w X.K X.mg X.base CX k f fd ps sp) (hr : Room k X.A) (hb : Binds X.K fd ps []) (hx : Passes CX X E) : OpR X (compareOp .In) (rOwnIn C false sp E) := by
  intro pins s σ H x y u v Q I rx ry h
  obtain ⟨a, dx, fs, rfl, ha, q⟩ := h
  cases ry
  obtain ⟨mA, J, _⟩ := ins_get I.hok ha
  obtain ⟨od, J, _⟩ := J.look
  obtain ⟨m0, hF⟩ := I.fr
  refine PySem.W.in_K hF I.ok.mod.kin J d.at_ d.fn (wpAny_mono (run_fnA (vs := [.ref a, x]) rfl F hr hb hx I (.cons rfl (.cons rx .nil)) q) (fun w s' h => ?_) (fun _ _ z => z))
  obtain ⟨z, H', I', rz, b, rfl, q'⟩ := h
  cases (show w = Value.bool b from rz)
  exact wpAny_truthy_bool ⟨.bl b, H', I', rfl, q'⟩
theorem notIn_own (d : Dun X.K C "__contains__" f) (F : FnOk X.prog X.w X.K X.mg X.base CX k f fd ps sp) (hr : Room k X.A) (hb : Binds X.K fd ps []) (hx : Passes CX X E) : OpR X (compareOp .NotIn) (rOwnIn C true sp E) := by
  intro pins s σ H x y u v Q I rx ry h
  obtain ⟨a, dx, fs, rfl, ha, q⟩ := h
  cases ry
  obtain ⟨mA, J, _⟩ := ins_get I.hok ha
  obtain ⟨od, J, _⟩ := J.look
  obtain ⟨m0, hF⟩ := I.fr
  refine PySem.W.notIn_K hF I.ok.mod.kin J d.at_ d.fn (wpAny_mono (run_fnA (vs := [.ref a, x]) rfl F hr hb hx I (.cons rfl (.cons rx .nil)) q) (fun w s' h => ?_) (fun _ _ z => z))
  obtain ⟨z, H', I', rz, b, rfl, q'⟩ := h
  cases (show w = Value.bool b from rz)
  exact wpAny_truthy_bool ⟨.bl (!b), H', I', rfl, q'⟩
end
/-! ### an instance called -/
section
variable {X : Cx} {CX : CXT} {k : Nat} {f C : Addr} {fd : FuncData} {ps : List Str} {sp : Sp} {E : XK} {e fe : Expr} {es : List Expr} {tf : TE} {t : TA} {pos : Pos}
def tCallOwn (C : Addr) (sp : Sp) (E : XK) (tf : TE) (t : TA) : TE := fun σ H Q => tf σ H fun y H1 => ∃ a, y = V.ref a ∧ t σ H1 fun vs H2 => (∃ dx fs, H2 a = some (.ins C dx fs)) ∧ sp (V.ref a :: vs) H2 Q E
theorem fnR_of (F : FnOk X.prog X.w X.K X.mg X.base CX k f fd ps sp) (hb : Binds X.K fd ps []) : FnR X.prog X.w X.K X.mg X.base CX k f sp := fun A outer s H us vs Q E hr e0 r h => by
  have hl : (us ++ []).length = ps.length := by rw [List.append_nil, ← r.length]; exact F.len _ _ _ _ h
  have kin : X.K.In s.heap := e0.mod.kin.keeps fun b o z => (e0.bs b o z).1
  have hbb := hb s us kin hl
  rw [List.append_nil] at hbb
  exact F.run A outer s H ⟨us, []⟩ us vs Q E hr e0 hbb r h
theorem pe_callOwn (hf : PE X fe tf) (d : Dun X.K C "__call__" f) (hfi : PySem.W.fnIn X.K f = true) (F : FnOk X.prog X.w X.K X.mg X.base CX k f fd ps sp) (hr : Room k X.A) (hb : Binds X.K fd ps []) (hx : Passes CX X E) (ha : PA X (e :: es) t)
    (ht : eval (.Call fe (e :: es) [] pos) X.env = (do callWith pos (← eval fe X.env) [] (backTo pos (starEach (e :: es) X.env)) (backToKw pos (keywordEach [] X.env))) := by rfl)
    (he : starEach (e :: es) X.env = (false, eval e X.env) :: starEach es X.env := by rfl) (hpl : (backTo pos (starEach es X.env)).any (·.1) = false := by rfl) : PE X (.Call fe (e :: es) [] pos) (tCallOwn C sp E tf t) := by
  refine ⟨fun pins s σ H Q I h => ?_⟩
  refine Call_ (thn (hf.run pins s σ H _ I h) fun u s1 ⟨y, H1, I1, ry, a, ey, q⟩ => ?_) ht
  subst ey
  obtain rfl : u = Value.ref a := ry
  refine StX.callO_with (thn (ha.run pos pins s1 σ H1 _ I1 q) fun us s2 ⟨vs, H2, I2, r, hi, q2⟩ => ?_) he hpl
  obtain ⟨dx, fs, hi⟩ := hi
  obtain ⟨ox, od, J, hd⟩ := StX.insC_at I2 (Or.inr ⟨dx, fs, hi⟩)
  exact ⟨⟨C, ox, od, J, hd⟩, StX.run_callO ⟨d.at_, d.fn, hfi⟩ (fnR_of F hb) hr hx I2 (.inr ⟨dx, fs, hi⟩) r q2⟩
end
/-! ### rules with the written part told: within a comprehension's block -/
section
variable {X : Cx} (K : PySem.W.Frag) {tg l e a b o : Expr} {tl ta tb te to : TE} {f : Str} {pos : Pos}
theorem pi_listK (hl : PE X l tl) (hK : X.K = K := by rfl) : PI X tg l (iList K tl) := hK ▸ pi_list hl
theorem pi_tupK (hl : PE X l tl) (hK : X.K = K := by rfl) : PI X tg l (iTup K tl) := hK ▸ pi_tup hl
theorem ix_listK (hK : X.K = K := by rfl) : IxR X (rIxL K) := hK ▸ ix_list
theorem ix_tupK (hK : X.K = K := by rfl) : IxR X (rIxT K) := hK ▸ ix_tup
theorem pe_fldK (he : PE X e ta) (hb : attributeBase e f X.env (eval e X.env) = eval e X.env := by rfl) (hK : X.K = K := by rfl) : PE X (.Attribute e f pos) (tFld K ta f) := hK ▸ pe_fld he hb
theorem call_lenK (hK : X.K = K := by rfl) : CallR X (.builtin "len") (rLenS K) := hK ▸ call_len_seq
theorem call_tupK (hK : X.K = K := by rfl) : CallR X (.type "tuple") (rTupO K) := hK ▸ call_tuple_of
theorem call_listK (hK : X.K = K := by rfl) : CallR X (.type "list") (rListS K) := hK ▸ call_list_of
theorem call_isiK (hK : X.K = K := by rfl) : CallR X (.builtin "isinstance") (rIsi K) := hK ▸ call_isi
theorem op_inK (hK : X.K = K := by rfl) : OpR X (compareOp .In) (rIn K false) := hK ▸ op_in_seq
theorem op_notInK (hK : X.K = K := by rfl) : OpR X (compareOp .NotIn) (rIn K true) := hK ▸ op_notIn_seq
theorem op_eqK (hu : X.A.units + 64 < cLine) (hK : X.K = K := by rfl) : OpR X (compareOp .Eq) (rEqD K) := hK ▸ op_eqD hu
theorem op_neK (hu : X.A.units + 64 < cLine) (hK : X.K = K := by rfl) : OpR X (compareOp .NotEq) (rNeD K) := hK ▸ op_neD hu
theorem sl_listK (hK : X.K = K := by rfl) : SlR X (rSlL K) := hK ▸ sl_list
end
end Mu

namespace Mu
open PySem PySem.Spec PyProof.Rows L2 He
/-! ### the head's facts: names, further facts, defs -/
def obsM (fa : List Fa) (ex : List FactB) (fn : List DefD) (K : PySem.W.Frag) : AlD := (((fa.all fun f => f.ok K) && ex.all fun f => f K) && fn.all fun d => d.ok K, fn.map fun d => fnW K d.at_)
def SaysM (fa : List Fa) (ex : List FactB) (fn : List DefD) (K : PySem.W.Frag) : Prop := obsM fa ex fn K = valD fn
def obsMG (n : Nat) (fa : List Fa) (ex : List FactB) (fn : List DefD) (g : Addr → Option Obj) : AlD := obsM fa ex fn (frG g (asD g n))
def hookM (n : Nat) (fa : List Fa) (ex : List FactB) (fn : List DefD) : PySem.W.Hook where
  α := AlD
  obs := fun s => obsMG n fa ex fn s.heap.get?
  val := fun _ => valD fn
  says := fun _ h => ∃ K : PySem.W.Frag, K.In h ∧ SaysM fa ex fn K
  of := fun _ _ e => ⟨_, frG_in, e⟩
  keeps := fun _ _ _ ⟨K, hK, c⟩ k => ⟨K, PySem.W.Frag.In.keeps hK k, c⟩
theorem obsMG_eq {n : Nat} {fa : List Fa} {ex : List FactB} {fn : List DefD} {g : Addr → Option Obj} {s : Shared} (h : ∀ a, g a = s.heap.get? a) : obsMG n fa ex fn g = (hookM n fa ex fn).obs s := by
  have e : g = s.heap.get? := funext h
  rw [e] <;> rfl
section
variable {fa : List Fa} {ex : List FactB} {fn : List DefD} {K : PySem.W.Frag}
theorem SaysM.fact (c : SaysM fa ex fn K) (i : Nat) {f : Fa} (h : fa[i]? = some f := by rfl) : f.ok K = true := by
  have c1 := (ba (ba (show (((fa.all fun f => f.ok K) && ex.all fun f => f K) && fn.all fun d => d.ok K) = true from congrArg (fun z : AlD => z.1) c)).1).1
  exact List.all_eq_true.mp c1 f (List.mem_of_getElem? h)
theorem SaysM.exf (c : SaysM fa ex fn K) (i : Nat) {f : FactB} (h : ex[i]? = some f := by rfl) : f K = true := by
  have c1 := (ba (ba (show (((fa.all fun f => f.ok K) && ex.all fun f => f K) && fn.all fun d => d.ok K) = true from congrArg (fun z : AlD => z.1) c)).1).2
  exact List.all_eq_true.mp c1 f (List.mem_of_getElem? h)
theorem SaysM.def_ (c : SaysM fa ex fn K) (i : Nat) {d : DefD} (h : fn[i]? = some d := by rfl) : ∃ fd, FunD K d.name d.qual d.params d.body d.scope (d.dvs K) (d.kws K) (fAd K d.at_) fd := by
  have c2 := (ba (show (((fa.all fun f => f.ok K) && ex.all fun f => f K) && fn.all fun d => d.ok K) = true from congrArg (fun z : AlD => z.1) c)).2
  have e : fn.map (fun d => fnW K d.at_) = fn.map DefD.val := congrArg (fun z : AlD => z.2) c
  have e2 : (fn.map fun d => fnW K d.at_)[i]? = (fn.map DefD.val)[i]? := by rw [e]
  rw [List.getElem?_map, List.getElem?_map, h] at e2
  exact DefD.funD (Option.some.inj e2) (List.all_eq_true.mp c2 d (List.mem_of_getElem? h))
end
end Mu

namespace Mu
open PySem
/-! ### bits of naturals -/
theorem band_nat (a b : Nat) : Builtin.bitAnd (a : Int) (b : Int) = ((a &&& b : Nat) : Int) := by simp [Builtin.bitAnd]
theorem bor_nat (a b : Nat) : Builtin.bitOr (a : Int) (b : Int) = ((a ||| b : Nat) : Int) := by
  unfold Builtin.bitOr
  have h1 : ¬ (0 : Int) ≤ Builtin.bitNot (a : Int) := by unfold Builtin.bitNot; omega
  have h2 : ¬ (0 : Int) ≤ Builtin.bitNot (b : Int) := by unfold Builtin.bitNot; omega
  have n1 : Builtin.bitNot (Builtin.bitNot (a : Int)) = (a : Int) := by unfold Builtin.bitNot; omega
  have n2 : Builtin.bitNot (Builtin.bitNot (b : Int)) = (b : Int) := by unfold Builtin.bitNot; omega
  have e : Builtin.bitAnd (Builtin.bitNot (a : Int)) (Builtin.bitNot (b : Int)) = Builtin.bitNot (((a ||| b : Nat)) : Int) := by
    unfold Builtin.bitAnd
    rw [decide_eq_false h1, decide_eq_false h2]
    simp [n1, n2]
  rw [e]
  unfold Builtin.bitNot; omega
theorem band_not (a b : Nat) : Builtin.bitAnd (a : Int) (Builtin.bitNot (b : Int)) = ((a - (a &&& b) : Nat) : Int) := by
  have h2 : ¬ (0 : Int) ≤ Builtin.bitNot (b : Int) := by unfold Builtin.bitNot; omega
  have n2 : Builtin.bitNot (Builtin.bitNot (b : Int)) = (b : Int) := by unfold Builtin.bitNot; omega
  have le : a &&& b ≤ a := Nat.and_le_left
  unfold Builtin.bitAnd
  rw [decide_eq_false h2, decide_eq_true (Int.natCast_nonneg a)]
  simp only [n2, Int.toNat_natCast]
  omega
theorem shl_nat (k : Nat) : (1 : Int) * 2 ^ ((k : Int)).toNat = ((2 ^ k : Nat) : Int) := by
  rw [Int.toNat_natCast, Int.one_mul, Int.natCast_pow]; rfl
theorem shr_nat (n k : Nat) : (n : Int) / 2 ^ ((k : Int)).toNat = ((n / 2 ^ k : Nat) : Int) := by
  rw [Int.toNat_natCast, Int.natCast_ediv, Int.natCast_pow]; rfl
theorem shr1 (n : Nat) : (n : Int) / 2 ^ ((1 : Int)).toNat = ((n / 2 : Nat) : Int) := by
  have := shr_nat n 1
  simpa using this
theorem and1_test (n : Nat) : ((n &&& 1 : Nat) : Int) = 1 ↔ n.testBit 0 = true := by
  rw [Nat.and_one_is_mod, Nat.testBit_zero]
  simp
  omega
theorem shr_test (n k : Nat) : (n / 2 ^ k).testBit 0 = n.testBit k := by
  rw [← Nat.shiftRight_eq_div_pow, Nat.testBit_shiftRight]
  simp
theorem bit_test (n k : Nat) : decide (Builtin.bitAnd ((n : Int) / 2 ^ ((k : Int)).toNat) 1 = 1) = n.testBit k := by
  rw [shr_nat, show (1 : Int) = ((1 : Nat) : Int) from rfl, band_nat]
  rw [Bool.eq_iff_iff, decide_eq_true_iff]
  rw [show ((1 : Nat) : Int) = 1 from rfl, and1_test, shr_test]
/-- a < 2 ^ k by its bits -/
theorem lt_pow_of_bits {n k : Nat} (h : ∀ i, n.testBit i = true → i < k) : n < 2 ^ k := by
  refine Nat.lt_pow_two_of_testBit n fun i hi => ?_
  cases q : n.testBit i with
  | false => rfl
  | true => exact absurd (h i q) (Nat.not_lt.mpr hi)
theorem bit_lt {n k i : Nat} (h : n < 2 ^ k) (hi : n.testBit i = true) : i < k := by
  rcases Nat.lt_or_ge i k with q | q
  · exact q
  · rw [Nat.testBit_lt_two_pow (Nat.lt_of_lt_of_le h (Nat.pow_le_pow_right (by decide) q))] at hi
    cases hi
/-! ### the positions of the set bits -/
def bitsN (n : Nat) : List Nat := (List.range n).filter n.testBit
theorem bits_more {n k : Nat} (h : n < 2 ^ k) : ∀ d : Nat, (List.range (k + d)).filter n.testBit = (List.range k).filter n.testBit
  | 0 => rfl
  | d + 1 => by
    rw [← Nat.add_assoc, List.range_succ, List.filter_append, bits_more h d]
    have z : n.testBit (k + d) = false := Nat.testBit_lt_two_pow (Nat.lt_of_lt_of_le h (Nat.pow_le_pow_right (by decide) (by omega)))
    simp [z]
theorem bits_eq {n k : Nat} (h : n < 2 ^ k) : (List.range k).filter n.testBit = bitsN n := by
  rcases Nat.le_total k n with q | q
  · have e := bits_more h (n - k)
    rw [show k + (n - k) = n by omega] at e
    exact e.symm
  · have e := bits_more (Nat.lt_two_pow_self (n := n)) (k - n)
    rw [show n + (k - n) = k by omega] at e
    exact e
theorem mem_bits {n i : Nat} : i ∈ bitsN n ↔ n.testBit i = true := by
  unfold bitsN
  rw [List.mem_filter, List.mem_range]
  exact ⟨fun h => h.2, fun h => ⟨bit_lt Nat.lt_two_pow_self h, h⟩⟩
theorem bits_len {n k : Nat} (h : n < 2 ^ k) : (bitsN n).length ≤ k := by
  rw [← bits_eq h]
  have := List.length_filter_le n.testBit (List.range k)
  rw [List.length_range] at this
  exact this
/-! ### a mask of words -/
def maskN (l : List Nat) : Nat := l.foldl (fun m w => m ||| 2 ^ w) 0
theorem maskN_from (l : List Nat) : ∀ m i, (l.foldl (fun m w => m ||| 2 ^ w) m).testBit i = (m.testBit i || decide (i ∈ l)) := by
  induction l with
  | nil => intro m i; simp
  | cons w r ih =>
    intro m i
    rw [List.foldl_cons, ih, Nat.testBit_or, Nat.testBit_two_pow]
    simp only [List.mem_cons]
    by_cases h1 : w = i <;> by_cases h2 : i ∈ r <;> simp [h1, h2, eq_comm]
theorem maskN_bit (l : List Nat) (i : Nat) : (maskN l).testBit i = decide (i ∈ l) := by
  unfold maskN
  rw [maskN_from]; simp
theorem maskN_lt {l : List Nat} {k : Nat} (h : ∀ w ∈ l, w < k) : maskN l < 2 ^ k := lt_pow_of_bits fun i hi => by
  rw [maskN_bit] at hi
  exact h i (of_decide_eq_true hi)
theorem maskN_take {l : List Nat} {i : Nat} {w : Nat} (h : l[i]? = some w) : maskN (l.take (i + 1)) = maskN (l.take i) ||| 2 ^ w := by
  unfold maskN
  rw [List.take_add_one, h, List.foldl_append]
  rfl
/-! ### images and products -/
def bitOf (m : List Nat) (a b : Nat) : Bool := (m.getD a 0).testBit b
def imageTo (m : List Nat) (w : Nat) (k : Nat) : Nat := (List.range k).foldl (fun o j => if w.testBit j then o ||| m.getD j 0 else o) 0
def imageN (m : List Nat) (w : Nat) : Nat := imageTo m w m.length
theorem imageTo_succ (m : List Nat) (w k : Nat) : imageTo m w (k + 1) = if w.testBit k then imageTo m w k ||| m.getD k 0 else imageTo m w k := by
  unfold imageTo
  rw [List.range_succ, List.foldl_append]
  rfl
theorem imageTo_bit (m : List Nat) (w : Nat) : ∀ k i, (imageTo m w k).testBit i = true ↔ ∃ j, j < k ∧ w.testBit j = true ∧ bitOf m j i = true
  | 0, i => by simp [imageTo]
  | k + 1, i => by
    rw [imageTo_succ]
    have ih := imageTo_bit m w k i
    by_cases q : w.testBit k = true
    · rw [if_pos q, Nat.testBit_or, Bool.or_eq_true, ih]
      constructor
      · rintro (⟨j, h1, h2⟩ | h)
        · exact ⟨j, by omega, h2⟩
        · exact ⟨k, by omega, q, h⟩
      · rintro ⟨j, h1, h2, h3⟩
        rcases Nat.lt_or_ge j k with z | z
        · exact .inl ⟨j, z, h2, h3⟩
        · have : j = k := by omega
          subst this
          exact .inr h3
    · rw [if_neg q, ih]
      constructor
      · rintro ⟨j, h1, h2⟩
        exact ⟨j, by omega, h2⟩
      · rintro ⟨j, h1, h2, h3⟩
        rcases Nat.lt_or_ge j k with z | z
        · exact ⟨j, z, h2, h3⟩
        · have : j = k := by omega
          subst this
          exact absurd h2 q
theorem imageN_bit (m : List Nat) (w i : Nat) : (imageN m w).testBit i = true ↔ ∃ j, j < m.length ∧ w.testBit j = true ∧ bitOf m j i = true := imageTo_bit m w m.length i
/-- masks of n words -/
structure Wf (n : Nat) (m : List Nat) : Prop where
  len : m.length = n
  lt : ∀ x ∈ m, x < 2 ^ n
theorem Wf.get {n : Nat} {m : List Nat} (h : Wf n m) (a : Nat) : m.getD a 0 < 2 ^ n := by
  rw [List.getD_eq_getElem?_getD]
  cases q : m[a]? with
  | none => exact Nat.two_pow_pos n
  | some x => exact h.lt x (List.mem_of_getElem? q)
theorem Wf.bit {n : Nat} {m : List Nat} (h : Wf n m) {a b : Nat} (q : bitOf m a b = true) : a < n ∧ b < n := by
  refine ⟨?_, bit_lt (h.get a) q⟩
  rcases Nat.lt_or_ge a n with z | z
  · exact z
  · unfold bitOf at q
    rw [List.getD_eq_getElem?_getD, List.getElem?_eq_none (by rw [h.len]; exact z)] at q
    simp at q
theorem imageTo_lt {n : Nat} {m : List Nat} (h : Wf n m) (w k : Nat) : imageTo m w k < 2 ^ n := lt_pow_of_bits fun i hi => by
  obtain ⟨j, _, _, q⟩ := (imageTo_bit m w k i).mp hi
  exact (h.bit q).2
theorem imageN_lt {n : Nat} {m : List Nat} (h : Wf n m) (w : Nat) : imageN m w < 2 ^ n := imageTo_lt h w _
/-- two relations with the same pairs are one -/
theorem Wf.ext {n : Nat} {m m' : List Nat} (h : Wf n m) (h' : Wf n m') (e : ∀ a b, a < n → b < n → bitOf m a b = bitOf m' a b) : m = m' := by
  refine List.ext_getElem? fun a => ?_
  rcases Nat.lt_or_ge a n with z | z
  · have h1 : a < m.length := by rw [h.len]; exact z
    have h2 : a < m'.length := by rw [h'.len]; exact z
    rw [List.getElem?_eq_getElem h1, List.getElem?_eq_getElem h2]
    congr 1
    refine Nat.eq_of_testBit_eq fun b => ?_
    have g1 : m.getD a 0 = m[a] := by rw [List.getD_eq_getElem?_getD, List.getElem?_eq_getElem h1]; rfl
    have g2 : m'.getD a 0 = m'[a] := by rw [List.getD_eq_getElem?_getD, List.getElem?_eq_getElem h2]; rfl
    rcases Nat.lt_or_ge b n with y | y
    · have q := e a b z y
      unfold bitOf at q
      rw [g1, g2] at q
      exact q
    · rw [Nat.testBit_lt_two_pow (Nat.lt_of_lt_of_le (h.lt _ (List.getElem_mem h1)) (Nat.pow_le_pow_right (by decide) y)), Nat.testBit_lt_two_pow (Nat.lt_of_lt_of_le (h'.lt _ (List.getElem_mem h2)) (Nat.pow_le_pow_right (by decide) y))]
  · rw [List.getElem?_eq_none (by rw [h.len]; exact z), List.getElem?_eq_none (by rw [h'.len]; exact z)]
def prodN (f l : List Nat) : List Nat := f.map (imageN l)
theorem getD_map {f : Nat → Nat} {l : List Nat} {a : Nat} (h : a < l.length) : (l.map f).getD a 0 = f (l.getD a 0) := by
  rw [List.getD_eq_getElem?_getD, List.getD_eq_getElem?_getD, List.getElem?_map, List.getElem?_eq_getElem h]
  rfl
theorem getD_range_map {f : Nat → Nat} {n a : Nat} (h : a < n) : ((List.range n).map f).getD a 0 = f a := by
  rw [List.getD_eq_getElem?_getD, List.getElem?_map, List.getElem?_range h]
  rfl
theorem wf_range {n : Nat} {f : Nat → Nat} (h : ∀ a, a < n → f a < 2 ^ n) : Wf n ((List.range n).map f) := ⟨by simp, fun x hx => by
  obtain ⟨a, ha, e⟩ := List.mem_map.mp hx
  rw [← e]
  exact h a (List.mem_range.mp ha)⟩
theorem prodN_wf {n : Nat} {f l : List Nat} (hf : Wf n f) (hl : Wf n l) : Wf n (prodN f l) := ⟨by unfold prodN; rw [List.length_map]; exact hf.len, fun x hx => by
  obtain ⟨a, _, e⟩ := List.mem_map.mp hx
  rw [← e]
  exact imageN_lt hl a⟩
theorem prodN_bit {n : Nat} {f l : List Nat} (hf : Wf n f) (hl : Wf n l) {a c : Nat} (ha : a < n) : bitOf (prodN f l) a c = true ↔ ∃ b, b < n ∧ bitOf f a b = true ∧ bitOf l b c = true := by
  unfold bitOf prodN
  rw [getD_map (by rw [hf.len]; exact ha), imageN_bit, hl.len]
  rfl
end Mu
namespace Mu
/-! ### the greatest table behind -/
theorem maskN_bits (n : Nat) : maskN (bitsN n) = n := Nat.eq_of_testBit_eq fun i => by
  rw [maskN_bit, Bool.eq_iff_iff, decide_eq_true_iff, mem_bits]
def behindTo (f w : List Nat) (mid k : Nat) : Nat := (List.range k).foldl (fun m j => if bitOf f j mid then m &&& w.getD j 0 else m) (2 ^ f.length - 1)
theorem behindTo_succ (f w : List Nat) (mid k : Nat) : behindTo f w mid (k + 1) = if bitOf f k mid = true then behindTo f w mid k &&& w.getD k 0 else behindTo f w mid k := by
  unfold behindTo
  rw [List.range_succ, List.foldl_append]
  rfl
def behindAt (f w : List Nat) (mid : Nat) : Nat := behindTo f w mid f.length
def behindN (f w : List Nat) : List Nat := (List.range f.length).map (behindAt f w)
theorem behindTo_bit (f w : List Nat) (mid : Nat) : ∀ k c, (behindTo f w mid k).testBit c = true ↔ c < f.length ∧ ∀ j, j < k → bitOf f j mid = true → bitOf w j c = true
  | 0, c => by
    unfold behindTo
    simp [Nat.testBit_two_pow_sub_one]
  | k + 1, c => by
    rw [behindTo_succ]
    have ih := behindTo_bit f w mid k c
    by_cases q : bitOf f k mid = true
    · rw [if_pos q, Nat.testBit_and, Bool.and_eq_true, ih]
      constructor
      · rintro ⟨⟨h1, h2⟩, h3⟩
        refine ⟨h1, fun j hj hb => ?_⟩
        rcases Nat.lt_or_ge j k with z | z
        · exact h2 j z hb
        · have : j = k := by omega
          subst this; exact h3
      · rintro ⟨h1, h2⟩
        exact ⟨⟨h1, fun j hj => h2 j (by omega)⟩, h2 k (by omega) q⟩
    · rw [if_neg q, ih]
      constructor
      · rintro ⟨h1, h2⟩
        refine ⟨h1, fun j hj hb => ?_⟩
        rcases Nat.lt_or_ge j k with z | z
        · exact h2 j z hb
        · have : j = k := by omega
          subst this; exact absurd hb q
      · rintro ⟨h1, h2⟩
        exact ⟨h1, fun j hj => h2 j (by omega)⟩
theorem behindN_wf {n : Nat} {f w : List Nat} (hf : Wf n f) (_ : Wf n w) : Wf n (behindN f w) := by
  unfold behindN
  rw [hf.len]
  refine wf_range fun a _ => lt_pow_of_bits fun i hi => ?_
  have := ((behindTo_bit f w a f.length i).mp hi).1
  rw [hf.len] at this; exact this
theorem behindN_bit {n : Nat} {f w : List Nat} (hf : Wf n f) {mid c : Nat} (hm : mid < n) : bitOf (behindN f w) mid c = true ↔ c < n ∧ ∀ j, j < n → bitOf f j mid = true → bitOf w j c = true := by
  unfold bitOf behindN
  rw [getD_range_map (by rw [hf.len]; exact hm)]
  have := behindTo_bit f w mid f.length c
  rw [hf.len] at this
  unfold behindAt
  rw [hf.len]
  exact this
end Mu
namespace Mu
/-! ### masks put together bit by bit -/
def accTo (c : Nat → Bool) (k : Nat) : Nat := (List.range k).foldl (fun m j => if c j then m ||| 2 ^ j else m) 0
theorem accTo_succ (c : Nat → Bool) (k : Nat) : accTo c (k + 1) = if c k = true then accTo c k ||| 2 ^ k else accTo c k := by
  unfold accTo
  rw [List.range_succ, List.foldl_append]
  rfl
theorem accTo_bit (c : Nat → Bool) : ∀ k i, (accTo c k).testBit i = (decide (i < k) && c i)
  | 0, i => by simp [accTo]
  | k + 1, i => by
    rw [accTo_succ]
    have ih := accTo_bit c k i
    by_cases q : c k = true
    · rw [if_pos q, Nat.testBit_or, ih, Nat.testBit_two_pow]
      by_cases z : k = i
      · subst z; simp [q]
      · have : decide (i < k + 1) = decide (i < k) := by
          rw [Bool.eq_iff_iff, decide_eq_true_iff, decide_eq_true_iff]; omega
        rw [this, decide_eq_false z, Bool.or_false]
    · rw [if_neg q, ih]
      by_cases z : k = i
      · subst z
        have : c k = false := by cases y : c k <;> simp_all
        simp [this]
      · have : decide (i < k + 1) = decide (i < k) := by
          rw [Bool.eq_iff_iff, decide_eq_true_iff, decide_eq_true_iff]; omega
        rw [this]
theorem accTo_lt (c : Nat → Bool) (k : Nat) : accTo c k < 2 ^ k := lt_pow_of_bits fun i hi => by
  rw [accTo_bit] at hi
  have := (Bool.and_eq_true_iff.mp hi).1
  exact of_decide_eq_true this
def tabOf (n : Nat) (c : Nat → Nat → Bool) : List Nat := (List.range n).map fun a => accTo (c a) n
theorem tabOf_wf (n : Nat) (c : Nat → Nat → Bool) : Wf n (tabOf n c) := wf_range fun a _ => accTo_lt (c a) n
theorem tabOf_bit {n : Nat} {c : Nat → Nat → Bool} {a b : Nat} (ha : a < n) : bitOf (tabOf n c) a b = (decide (b < n) && c a b) := by
  unfold bitOf tabOf
  rw [getD_range_map ha]
  exact accTo_bit (c a) n b
theorem tabOf_bits {n : Nat} {c : Nat → Nat → Bool} : (tabOf n c).map bitsN = (List.range n).map fun a => (List.range n).filter (c a) := by
  unfold tabOf
  rw [List.map_map]
  refine List.map_congr_left fun a _ => ?_
  show bitsN (accTo (c a) n) = _
  rw [← bits_eq (accTo_lt (c a) n)]
  refine List.filter_congr fun i hi => ?_
  rw [accTo_bit, decide_eq_true (List.mem_range.mp hi), Bool.true_and]
/-- the turned table -/
def convN (m : List Nat) : List Nat := tabOf m.length fun out told => bitOf m told out
theorem convN_wf {n : Nat} {m : List Nat} (h : Wf n m) : Wf n (convN m) := by unfold convN; rw [h.len]; exact tabOf_wf _ _
theorem convN_bit {n : Nat} {m : List Nat} (h : Wf n m) {a b : Nat} (ha : a < n) : bitOf (convN m) a b = bitOf m b a := by
  unfold convN
  rw [h.len, tabOf_bit ha]
  by_cases q : b < n
  · rw [decide_eq_true q, Bool.true_and]
  · rw [decide_eq_false q, Bool.false_and]
    cases z : bitOf m b a with
    | false => rfl
    | true => exact absurd (h.bit z).1 q
/-- the greatest table ahead -/
def subN (x y : Nat) : Bool := decide (x - (x &&& y) = 0)
theorem subN_iff (x y : Nat) : subN x y = true ↔ ∀ i, x.testBit i = true → y.testBit i = true := by
  unfold subN
  rw [decide_eq_true_iff]
  have le : x &&& y ≤ x := Nat.and_le_left
  constructor
  · intro h i hi
    have e : x &&& y = x := by omega
    have := congrArg (fun z => z.testBit i) e
    simp only [Nat.testBit_and] at this
    rw [hi, Bool.true_and] at this
    exact this
  · intro h
    have e : x &&& y = x := Nat.eq_of_testBit_eq fun i => by
      rw [Nat.testBit_and]
      cases q : x.testBit i with
      | false => rfl
      | true => rw [h i q]; rfl
    omega
def aheadN (w l : List Nat) : List Nat := tabOf w.length fun told mid => subN (l.getD mid 0) (w.getD told 0)
theorem aheadN_wf {n : Nat} {w l : List Nat} (hw : Wf n w) (_ : Wf n l) : Wf n (aheadN w l) := by unfold aheadN; rw [hw.len]; exact tabOf_wf _ _
theorem aheadN_bit {n : Nat} {w l : List Nat} (hw : Wf n w) {a b : Nat} (ha : a < n) : bitOf (aheadN w l) a b = true ↔ b < n ∧ ∀ c, bitOf l b c = true → bitOf w a c = true := by
  unfold aheadN
  rw [hw.len, tabOf_bit ha, Bool.and_eq_true, decide_eq_true_iff, subN_iff]
  rfl
/-- turned around: ahead by behind -/
theorem ahead_turned {n : Nat} {w l : List Nat} (hw : Wf n w) (hl : Wf n l) : convN (behindN (convN l) (convN w)) = aheadN w l := by
  have wb := behindN_wf (convN_wf hl) (convN_wf hw)
  refine (convN_wf wb).ext (aheadN_wf hw hl) fun a b ha hb => ?_
  rw [convN_bit wb ha, Bool.eq_iff_iff, aheadN_bit hw ha, behindN_bit (convN_wf hl) hb]
  constructor
  · rintro ⟨_, h⟩
    refine ⟨hb, fun c hc => ?_⟩
    have hcn := (hl.bit hc).2
    have := h c hcn (by rw [convN_bit hl hcn]; exact hc)
    rw [convN_bit hw hcn] at this
    exact this
  · rintro ⟨_, h⟩
    refine ⟨ha, fun c hc hb2 => ?_⟩
    rw [convN_bit hl hc] at hb2
    rw [convN_bit hw hc]
    exact h c hb2
end Mu

namespace Mu
open PySem L2 Evl
/-! ### promises -/
def spN (R : List V → Hp → List Rp → Prop) : Sp := fun vs H Q _ => ∃ G rs, Ex G H ∧ R vs G rs ∧ ∀ p ws G2 H2, Gr G H G2 H2 → H p = none → G2 p = none → H2 p = some (.lst ws) → RA G2 ws rs → Q (.ref p) H2
def spD (R : List V → Hp → Rp → Prop) : Sp := fun vs H Q _ => ∃ G r, Ex G H ∧ R vs G r ∧ ∀ v G2 H2, Gr G H G2 H2 → r.p v G2 → Q v H2
theorem SpN.of {R : List V → Hp → List Rp → Prop} {vs : List V} {G : Hp} {rs : List Rp} (h : R vs G rs) : SpN (spN R) vs G rs := fun H e Q q _ => ⟨G, rs, e, h, q⟩
theorem SpD.of {R : List V → Hp → Rp → Prop} {vs : List V} {G : Hp} {r : Rp} (h : R vs G r) : SpD (spD R) vs G r := fun H e Q q _ => ⟨G, r, e, h, q⟩
section
variable {σ : L2.St} {G H : Hp} {te ta tb : TE} {t u : TT} {K : PySem.W.Frag} {D : Ends} {tu tw : TS} {v x y z : V} {r : Rp} {i : Nat}
theorem sq {t1 t2 : TS} (h : t1 { D with nx := t2 D } σ H) : tSeq t1 t2 D σ H := h
theorem nxt (h : D.nx σ H) : tNext D σ H := h
/-! tests over ints -/
theorem et_cmp {p : Int → Int → Bool} {a b : Int} (ha : Ev ta σ G (.int a)) (hb : Ev tb σ G (.int b)) : EvT (tTest (tOp (rI0 fun i j => .bl (p i j)) ta tb)) σ G (p a b) := et_test (ev_op ha hb rv_I0)
theorem et_eq (ha : Ev ta σ G x) (hb : Ev tb σ G y) (hs : scal x y = true) : EvT (tTest (tOp rEq ta tb)) σ G (decide (x = y)) := et_test (ev_op ha hb (rv_eq hs))
theorem et_ne (ha : Ev ta σ G x) (hb : Ev tb σ G y) (hs : scal x y = true) : EvT (tTest (tOp rNe ta tb)) σ G (!decide (x = y)) := et_test (ev_op ha hb (rv_ne hs))
/-- a call's answer in a plain value -/
theorem ev_callD {sp : Sp} {E : XK} {ta : TA} {rs : List Rp} (h : EvAD ta σ G rs) (hs : ∀ vs G2, Ex G G2 → RA G2 vs rs → SpD sp vs G2 (rV v)) : Ev (tCall sp [] E ta) σ G v := EvD.ev (ed_call h hs)
theorem ra1 {G : Hp} {vs : List V} {r : Rp} (h : RA G vs [r]) : ∃ v, vs = [v] ∧ r.p v G := by
  cases h with
  | cons h t => cases t; exact ⟨_, rfl, h⟩
theorem ra2 {G : Hp} {vs : List V} {r r' : Rp} (h : RA G vs [r, r']) : ∃ v w, vs = [v, w] ∧ r.p v G ∧ r'.p w G := by
  cases h with
  | cons h t =>
    obtain ⟨w, e, hw⟩ := ra1 t
    exact ⟨_, w, by rw [e], h, hw⟩
theorem ra3 {G : Hp} {vs : List V} {r r' r'' : Rp} (h : RA G vs [r, r', r'']) : ∃ v w x, vs = [v, w, x] ∧ r.p v G ∧ r'.p w G ∧ r''.p x G := by
  cases h with
  | cons h t =>
    obtain ⟨w, x, e, hw⟩ := ra2 t
    exact ⟨_, w, x, by rw [e], h, hw⟩
end
/-! ### loops: Pv over the footprint behind the source, the items taken so far (their number), the slots, the heap -/
section
variable {σ : L2.St} {G H : Hp} {tl : TE} {K : PySem.W.Frag} {D : Ends} {tu : TS} {j : Nat} {α : Type} {ta : TA}
theorem s_forL (l : List α) (ρ : α → Rp) (e : Ex G H) (h : EvD tl σ G (rL K (l.map ρ))) (Pv : Hp → Nat → L2.St → Hp → Prop) (h0 : ∀ G1 H1, Gr G H G1 H1 → Pv G1 0 σ H1) (hk : ∀ G1 i σ' H', Pv G1 i σ' H' → Ex G1 H')
    (hs : ∀ G1 i a x σ' H', Ex G G1 → l[i]? = some a → (ρ a).p x G1 → Pv G1 i σ' H' → tu { D with nx := Pv G1 (i + 1), ct := Pv G1 (i + 1), bk := D.nx } (σ'.set j (some x)) H') (hd : ∀ G1 σ' H', Ex G G1 → Pv G1 l.length σ' H' → D.nx σ' H') :
    tFor (iList K tl) (gName j) tu D σ H := h H e _ fun v G1 H1 g1 ⟨a, vs, hv, h1, h2⟩ => by
  subst hv
  have el : vs.length = l.length := by rw [h2.len, List.length_map]
  refine ⟨a, rfl, ⟨vs, sq_of (g1.i _ _ h1)⟩, for_list (xs := vs) (Pv G1) (h0 G1 H1 g1) (fun i σ' H' _ p => sq_of ((hk G1 i σ' H' p) _ _ h1)) (fun i x σ' H' hi p => ?_) (fun σ' H' p => hd G1 σ' H' g1.g (el ▸ p))⟩
  obtain ⟨r, hr, hx⟩ := h2.getV hi
  rw [List.getElem?_map] at hr
  cases q2 : l[i]? with
  | none => rw [q2] at hr; cases hr
  | some b =>
    rw [q2] at hr
    have hr' : ρ b = r := Option.some.inj hr
    subst hr'
    exact hs G1 i b x σ' H' g1.g q2 hx p
theorem s_forT (l : List α) (ρ : α → Rp) (e : Ex G H) (h : EvD tl σ G (rT K (l.map ρ))) (Pv : Hp → Nat → L2.St → Hp → Prop) (h0 : ∀ G1 H1, Gr G H G1 H1 → Pv G1 0 σ H1) (hk : ∀ G1 i σ' H', Pv G1 i σ' H' → Ex G1 H')
    (hs : ∀ G1 i a x σ' H', Ex G G1 → l[i]? = some a → (ρ a).p x G1 → Pv G1 i σ' H' → tu { D with nx := Pv G1 (i + 1), ct := Pv G1 (i + 1), bk := D.nx } (σ'.set j (some x)) H') (hd : ∀ G1 σ' H', Ex G G1 → Pv G1 l.length σ' H' → D.nx σ' H') :
    tFor (iTup K tl) (gName j) tu D σ H := h H e _ fun v G1 H1 g1 ⟨a, vs, hv, h1, h2⟩ => by
  subst hv
  have el : vs.length = l.length := by rw [h2.len, List.length_map]
  refine ⟨a, rfl, ⟨vs, ex_t g1.i h1⟩, for_tup (xs := vs) (Pv G1) (h0 G1 H1 g1) (fun i σ' H' _ p => ex_t (hk G1 i σ' H' p) h1) (fun i x σ' H' hi p => ?_) (fun σ' H' p => hd G1 σ' H' g1.g (el ▸ p))⟩
  obtain ⟨r, hr, hx⟩ := h2.getV hi
  rw [List.getElem?_map] at hr
  cases q2 : l[i]? with
  | none => rw [q2] at hr; cases hr
  | some b =>
    rw [q2] at hr
    have hr' : ρ b = r := Option.some.inj hr
    subst hr'
    exact hs G1 i b x σ' H' g1.g q2 hx p
theorem s_forR (n : Nat) (e : Ex G H) (h : EvA ta σ G [.int (n : Int)]) (hn : n ≤ 100000) (Pv : Nat → L2.St → Hp → Prop) (h0 : ∀ H1, Ex H H1 → Pv 0 σ H1)
    (hs : ∀ (i : Nat) σ' H', i < n → Pv i σ' H' → tu { D with nx := Pv (i + 1), ct := Pv (i + 1), bk := D.nx } (σ'.set j (some (.int (i : Int)))) H') (hd : ∀ σ' H', Pv n σ' H' → D.nx σ' H') : tFor (iRng1 ta) (gName j) tu D σ H :=
  h H e _ fun H1 e1 => ⟨(n : Int), rfl, by omega, by omega, by
    rw [Int.toNat_natCast]
    refine for_range (lo := 0) (n := n) Pv (h0 H1 e1) (fun i σ' H' hi p => ?_) hd
    rw [Int.zero_add]
    exact hs i σ' H' hi p⟩
/-- for at, x in enumerate(xs): slots j, j' -/
theorem s_forE {ta : TA} {j' : Nat} (l : List α) (ρ : α → Rp) (e : Ex G H) (h : EvAD ta σ G [rL K (l.map ρ)]) (Pv : Hp → Nat → L2.St → Hp → Prop) (h0 : ∀ G1 H1, Gr G H G1 H1 → Pv G1 0 σ H1) (hk : ∀ G1 i σ' H', Pv G1 i σ' H' → Ex G1 H')
    (hm : ∀ G1 i σ' H' H'', Pv G1 i σ' H' → Ex H' H'' → Pv G1 i σ' H'')
    (hs : ∀ G1 i a x σ' H', Ex G G1 → l[i]? = some a → (ρ a).p x G1 → Pv G1 i σ' H' → tu { D with nx := Pv G1 (i + 1), ct := Pv G1 (i + 1), bk := D.nx } ((σ'.set j (some (.int (i : Int)))).set j' (some x)) H') (hd : ∀ G1 σ' H', Ex G G1 → Pv G1 l.length σ' H' → D.nx σ' H') :
    tFor (iEnum K ta) (gTup K 2 (gCons (gName j) (gCons (gName j') gNil))) tu D σ H := h H e _ fun ws G1 H1 g1 hw => by
  obtain ⟨v, rfl, a, vs, rfl, h1, h2⟩ := ra1 hw
  have el : vs.length = l.length := by rw [h2.len, List.length_map]
  refine ⟨a, vs, rfl, sq_of (g1.i _ _ h1), fun i m σ' H' => m = vs.length - i ∧ i ≤ vs.length ∧ Pv G1 i σ' H', ⟨vs.length, by simp, Nat.zero_le _, h0 G1 H1 g1⟩, ?_⟩
  rintro i m σ' H' ⟨rfl, hi, p⟩
  have q : SqL K H' a vs := sq_of ((hk G1 i σ' H' p) _ _ h1)
  by_cases hlt : i < vs.length
  · refine .inr ⟨⟨vs, vs[i], q, by simp [hlt]⟩, Pv G1 (i + 1), fun σ2 H2 p' => ⟨vs.length - (i + 1), by omega, rfl, hlt, p'⟩, fun x H2 y => ?_⟩
    obtain ⟨T, x', rfl, hT, rfl, y⟩ := y
    have hx := y vs q
    refine ⟨T, _, rfl, st_of upd_same, rfl, _, _, rfl, _, _, rfl, rfl, ?_⟩
    obtain ⟨r, hr, hx'⟩ := h2.getV hx
    rw [List.getElem?_map] at hr
    cases q2 : l[i]? with
    | none => rw [q2] at hr; cases hr
    | some b =>
      rw [q2] at hr
      have hr' : ρ b = r := Option.some.inj hr
      subst hr'
      exact hs G1 i b x' σ' _ g1.g q2 hx' (hm G1 i σ' H' _ p (Ex.new hT))
  · have e : i = vs.length := by omega
    subst e
    exact .inl ⟨⟨vs, q, Nat.le_refl _⟩, hd G1 σ' H' g1.g (el ▸ p)⟩
end
end Mu

namespace Mu
open PySem L2 Evl
section
variable {σ : L2.St} {G H : Hp} {te tl ta : TE} {t : TT} {K : PySem.W.Frag} {α : Type} {j : Nat} {vs : List Nat}
theorem yes_ite {σ : L2.St} {H : Hp} {A B : Hp → Prop} (h : A H) : tYes σ H (fun b H3 => if b = true then A H3 else B H3) := by
  show (if true = true then A H else B H)
  rw [if_pos rfl]
  exact h
theorem filter_yes {l : List α} {rr : α → Rp} : (l.filter fun _ => true).map rr = l.map rr := by
  congr 1
  exact List.filter_eq_self.mpr fun _ _ => rfl
theorem en_lcL0 (l : List α) (ρ : α → Rp) (rr : α → Rp) (h : EvD tl σ G (rL K (l.map ρ))) (hz : l.length ≤ 40000) (hw : ∀ x, wipe ((wipe σ vs).set j (some x)) vs = wipe σ vs)
    (he : ∀ a x G1, a ∈ l → Ex G G1 → (ρ a).p x G1 → EvD te ((wipe σ vs).set j (some x)) G1 (rr a)) : EvN (tLc (iList K tl) (gName j) tYes te vs) σ G (l.map rr) :=
  en_is (en_lcL l ρ (fun _ => true) rr h hz hw (fun _ _ _ _ _ _ => yes_T rfl) fun a x G1 hm _ e hx => he a x G1 hm e hx) filter_yes
theorem en_lcT0 (l : List α) (ρ : α → Rp) (rr : α → Rp) (h : EvD tl σ G (rT K (l.map ρ))) (hz : l.length ≤ 40000) (hw : ∀ x, wipe ((wipe σ vs).set j (some x)) vs = wipe σ vs)
    (he : ∀ a x G1, a ∈ l → Ex G G1 → (ρ a).p x G1 → EvD te ((wipe σ vs).set j (some x)) G1 (rr a)) : EvN (tLc (iTup K tl) (gName j) tYes te vs) σ G (l.map rr) :=
  en_is (en_lcT l ρ (fun _ => true) rr h hz hw (fun _ _ _ _ _ _ => yes_T rfl) fun a x G1 hm _ e hx => he a x G1 hm e hx) filter_yes
theorem en_lcR0 {ta : TA} (n : Nat) (rr : Nat → Rp) (h : EvA ta σ G [.int (n : Int)]) (hz : n ≤ 40000) (hw : ∀ x, wipe ((wipe σ vs).set j (some x)) vs = wipe σ vs)
    (he : ∀ (a : Nat) G1, a < n → Ex G G1 → EvD te ((wipe σ vs).set j (some (.int (a : Int)))) G1 (rr a)) : EvN (tLc (iRng1 ta) (gName j) tYes te vs) σ G ((List.range n).map rr) :=
  en_is (en_lcR n (fun _ => true) rr h hz hw (fun _ _ _ _ => yes_T rfl) fun a G1 hm _ e => he a G1 hm e) filter_yes
/-- [e for a in range(n) for b in xs(a)] -/
theorem en_lc2R {ta : TA} {te1 tl1 : TE} {j1 : Nat} {vs vs1 : List Nat} (n : Nat) (l : Nat → List α) (ρ : α → Rp) (rr : Nat → α → Rp) (h : EvA ta σ G [.int (n : Int)]) (hz : n ≤ 100) (hz1 : ∀ a, a < n → (l a).length ≤ 100)
    (hw : ∀ x, wipe ((wipe σ vs).set j (some x)) vs = wipe σ vs) (hw1 : ∀ x y, wipe ((wipe ((wipe σ vs).set j (some x)) vs1).set j1 (some y)) vs1 = wipe ((wipe σ vs).set j (some x)) vs1)
    (hl : ∀ (a : Nat) G1, a < n → Ex G G1 → EvD tl1 ((wipe σ vs).set j (some (.int (a : Int)))) G1 (rL K ((l a).map ρ)))
    (he : ∀ (a : Nat) (b : α) x G1, a < n → b ∈ l a → Ex G G1 → (ρ b).p x G1 → EvD te1 ((wipe ((wipe σ vs).set j (some (.int (a : Int)))) vs1).set j1 (some x)) G1 (rr a b)) :
    EvN (tLc2 (iRng1 ta) (gName j) tYes (iList K tl1) (gName j1) tYes te1 vs vs1) σ G ((List.range n).flatMap fun a => (l a).map (rr a)) := fun H0 e Q q => h H0 e _ fun H1 e1 => by
  refine ⟨(n : Int), rfl, by omega, by omega, fun Dl hD => ?_⟩
  have g1 := (Gr.refl e).more e1
  rw [Int.toNat_natCast]
  have hsz : ∀ i, ((List.range i).flatMap fun a => (l a).map (rr a)).length ≤ i * 100 ∨ n < i := fun i => by
    induction i with
    | zero => exact .inl (by simp)
    | succ i ih =>
      rcases ih with ih | ih
      · rcases Nat.lt_or_ge i n with z | z
        · refine .inl ?_
          rw [List.range_succ, List.flatMap_append, List.length_append]
          have := hz1 i z
          rw [List.flatMap_cons, List.flatMap_nil, List.append_nil, List.length_map]
          omega
        · exact .inr (by omega)
      · exact .inr (by omega)
  refine ⟨fun i m H' => m = n - i ∧ i ≤ n ∧ Cm G H1 Dl ((List.range i).flatMap fun a => (l a).map (rr a)) H', ⟨n, by simp, Nat.zero_le _, cm_start g1.i hD⟩, ?_⟩
  rintro i m H' ⟨rfl, hi, p⟩
  by_cases hlt : i < n
  · refine .inr ⟨hlt, fun H' => Cm G H1 Dl ((List.range (i + 1)).flatMap fun a => (l a).map (rr a)) H', fun H2 p' => ⟨n - (i + 1), by omega, rfl, hlt, p'⟩, fun x H2 y => ?_⟩
    obtain ⟨ex, ey⟩ := y
    subst ex ey
    rw [show (0 : Int) + (i : Int) = (i : Int) from Int.zero_add _]
    refine ⟨hw _, ?_⟩
    refine yes_ite ?_
    obtain ⟨p1, G', ws, g, hG, hD', ra⟩ := p
    refine hl i G' hlt g.g _ g.i _ fun v G3 H3 g3 ⟨a, xs, hv, h1, h2⟩ => ?_
    subst hv
    have el : xs.length = (l i).length := by rw [h2.len, List.length_map]
    refine ⟨a, rfl, ⟨xs, sq_of (g3.i _ _ h1)⟩, fun k m' H' => m' = xs.length - k ∧ k ≤ xs.length ∧ Ex G3 H' ∧ Cm G H1 Dl (((List.range i).flatMap fun a => (l a).map (rr a)) ++ ((l i).take k).map (rr i)) H' ∧ ∃ G4 ws, Gr G H1 G4 H' ∧ Ex G3 G4 ∧ G4 Dl = none ∧ H' Dl = some (.lst ws) ∧ RA G4 ws (((List.range i).flatMap fun a => (l a).map (rr a)) ++ ((l i).take k).map (rr i)), ⟨xs.length, by simp, Nat.zero_le _, g3.i, ?_, ?_⟩, ?_⟩
    · rw [List.take_zero, List.map_nil, List.append_nil]
      exact ⟨p1, G3, ws, g.trans g3, g3.n _ _ hD' hG, g3.h _ _ hD', ra.mono g3.g⟩
    · rw [List.take_zero, List.map_nil, List.append_nil]
      exact ⟨G3, ws, g.trans g3, Ex.refl _, g3.n _ _ hD' hG, g3.h _ _ hD', ra.mono g3.g⟩
    · rintro k m' H5 ⟨rfl, hk, e5, _, G4, ws4, g4, e34, hG4, hD4, ra4⟩
      by_cases hlk : k < xs.length
      · refine .inr ⟨⟨xs, xs[k], sq_of (e5 _ _ h1), by simp [hlk]⟩, fun H' => Ex G3 H' ∧ Cm G H1 Dl (((List.range i).flatMap fun a => (l a).map (rr a)) ++ ((l i).take (k + 1)).map (rr i)) H' ∧ ∃ G4 ws, Gr G H1 G4 H' ∧ Ex G3 G4 ∧ G4 Dl = none ∧ H' Dl = some (.lst ws) ∧ RA G4 ws (((List.range i).flatMap fun a => (l a).map (rr a)) ++ ((l i).take (k + 1)).map (rr i)),
          fun H6 p' => ⟨xs.length - (k + 1), by omega, rfl, hlk, p'⟩, fun x H6 y => ?_⟩
        obtain ⟨ey, y⟩ := y
        subst ey
        have hx := y xs (sq_of (e5 _ _ h1))
        obtain ⟨r, hr, hx'⟩ := h2.getV hx
        rw [List.getElem?_map] at hr
        cases q2 : (l i)[k]? with
        | none => rw [q2] at hr; cases hr
        | some b =>
          rw [q2] at hr
          have hr' : ρ b = r := Option.some.inj hr
          subst hr'
          refine ⟨hw1 _ _, ?_⟩
          refine yes_ite ?_
          refine (he i b x G4 hlt (List.mem_of_getElem? q2) g4.g ((ρ b).mono e34 hx')) _ g4.i _ fun y G6 H6 g6 hy => ?_
          have hlen : (((List.range i).flatMap fun a => (l a).map (rr a)) ++ ((l i).take k).map (rr i)).length < 50000 := by
            have z1 := hsz i
            have z2 := hz1 i hlt
            rw [List.length_append, List.length_map, List.length_take]
            omega
          have gg := g4.trans g6
          have n6 : G6 Dl = none := g6.n _ _ hD4 hG4
          have ee : (((List.range i).flatMap fun a => (l a).map (rr a)) ++ ((l i).take k).map (rr i)) ++ [rr i b] = ((List.range i).flatMap fun a => (l a).map (rr a)) ++ ((l i).take (k + 1)).map (rr i) := by
            rw [List.take_add_one, q2, List.append_assoc, List.map_append]
            rfl
          have g7 : Gr G H1 G6 (upd H6 Dl (.lst (ws4 ++ [y]))) := ⟨gg.g, Ex.mut gg.h p1, Ex.mut gg.i n6, gg.n⟩
          have r7 : RA G6 (ws4 ++ [y]) (((List.range i).flatMap fun a => (l a).map (rr a)) ++ ((l i).take (k + 1)).map (rr i)) := ee ▸ (ra4.mono g6.g).snoc hy
          exact ⟨ws4, g6.h _ _ hD4, sz_lt (by rw [ra4.len]; omega), (e34.trans g6.g).trans g7.i, ⟨p1, G6, _, g7, n6, upd_same, r7⟩, G6, _, g7, e34.trans g6.g, n6, upd_same, r7⟩
      · have ek : k = xs.length := by omega
        subst ek
        refine .inl ⟨⟨xs, sq_of (e5 _ _ h1), Nat.le_refl _⟩, p1, G4, ws4, g4, hG4, hD4, ?_⟩
        rw [List.range_succ, List.flatMap_append]
        rw [el, List.take_length] at ra4
        simpa using ra4
  · have ei : i = n := by omega
    subst ei
    obtain ⟨p1, G', ws, g, hG, hD', ra⟩ := p
    exact .inl ⟨Nat.le_refl _, q Dl ws G' H' (g1.trans g) (fresh_back e1 p1) hG hD' ra⟩
end
/-! ### tables -/
def pairsN (m : List Nat) : List (Nat × Nat) := (List.range m.length).flatMap fun a => (bitsN (m.getD a 0)).map fun b => (a, b)
section
variable (K : PySem.W.Frag) (C : Addr)
def rP (p : Nat × Nat) : Rp := rT K [nI p.1, nI p.2]
def tabF (n : Nat) (t c : Addr) : List (Str × V) := [("size", .int (n : Int)), ("masks", .ref t), ("cells", .ref c)]
def rTab (m : List Nat) : Rp := ⟨fun v H => ∃ a dx t c, v = .ref a ∧ H a = some (.ins C dx (tabF m.length t c)) ∧ (rTn K m).p (.ref t) H ∧ (rT K ((pairsN m).map (rP K))).p (.ref c) H,
  fun e ⟨a, dx, t, c, h1, h2, h3, h4⟩ => ⟨a, dx, t, c, h1, e _ _ h2, (rTn K _).mono e h3, (rT K _).mono e h4⟩⟩
/-- Table.__init__: the rows are written into the new instance -/
def spTab : Sp := fun vs H Q _ => ∃ p dx x G rows, vs = [.ref p, x] ∧ H p = some (.ins C dx []) ∧ Ex G H ∧ G p = none ∧ (rLL K rows).p x G ∧ 1 ≤ rows.length ∧ rows.length ≤ 6 ∧ (∀ r ∈ rows, r.length ≤ 100 ∧ ∀ w ∈ r, w < rows.length) ∧
  ∀ H2 G2 t c, Ex G G2 → (∀ a o, H a = some o → a ≠ p → H2 a = some o) → Ex G2 H2 → (∀ a o, H a = some o → G a = none → G2 a = none) → H2 p = some (.ins C dx (tabF rows.length t c)) → (rTn K (rows.map maskN)).p (.ref t) G2 → (rT K ((pairsN (rows.map maskN)).map (rP K))).p (.ref c) G2 → Q .non H2
end
section
variable {K : PySem.W.Frag} {C : Addr} {σ : L2.St} {G H : Hp} {ta te : TE} {m : List Nat}
theorem ed_tab {rows : List (List Nat)} {E : XK} (h : EvD ta σ G (rLL K rows)) (h1 : 1 ≤ rows.length) (h6 : rows.length ≤ 6) (hr : ∀ r ∈ rows, r.length ≤ 100 ∧ ∀ w ∈ r, w < rows.length) :
    EvD (tMake C (spTab K C) [] E (tCons ta tNil)) σ G (rTab K C (rows.map maskN)) := fun H e Q q => h H e _ fun v G2 H2 g hv => fun x dx hx hdx hne => by
  have ed : Ex H2 (upd (upd H2 dx (.own x)) x (.ins C dx [])) := (Ex.new hdx).trans (Ex.new (by rw [upd_ne (Ne.symm hne)]; exact hx))
  refine ⟨x, dx, v, G2, rows, rfl, upd_same, g.i.trans ed, fresh_back g.i hx, hv, h1, h6, hr, fun H3 G3 t c e3 k3 i3 n3 p3 t3 c3 => ⟨rfl, ?_⟩⟩
  have hx2 : (upd (upd H2 dx (.own x)) x (.ins C dx [])) x = some (.ins C dx []) := upd_same
  have gx : G3 x = none := n3 x _ hx2 (fresh_back g.i hx)
  have len : (rows.map maskN).length = rows.length := List.length_map _
  refine q (.ref x) (upd G3 x (.ins C dx (tabF rows.length t c))) H3 ⟨(g.g.trans e3).trans (Ex.new gx), fun a o z => ?_, fun a o z => ?_, fun a o z y => ?_⟩ ⟨x, dx, t, c, rfl, by rw [len]; exact upd_same, (rTn K _).mono (Ex.new gx) t3, (rT K _).mono (Ex.new gx) c3⟩
  · have z2 := g.h a o z
    exact k3 a o (ed a o z2) (ne_of_none z2 hx)
  · by_cases c1 : a = x
    · subst c1
      rw [upd_same] at z
      rw [p3]; exact z
    · rw [upd_ne c1] at z
      exact i3 a o z
  · have z2 := g.h a o z
    rw [upd_ne (ne_of_none z2 hx)]
    exact n3 a o (ed a o z2) (g.n a o z y)
theorem tabF_masks {n : Nat} {t c : Addr} : (tabF n t c).lookup ("masks" : Str) = some (.ref t) := by
  have h1 : (("masks" : Str) == ("size" : Str)) = false := by decide +kernel
  unfold tabF
  simp [List.lookup, h1]
theorem tabF_cells {n : Nat} {t c : Addr} : (tabF n t c).lookup ("cells" : Str) = some (.ref c) := by
  have h1 : (("cells" : Str) == ("size" : Str)) = false := by decide +kernel
  have h2 : (("cells" : Str) == ("masks" : Str)) = false := by decide +kernel
  unfold tabF
  simp [List.lookup, h1, h2]
theorem tab_size {x : V} (h : (rTab K C m).p x G) : ∃ a dx fs, x = .ref a ∧ G a = some (.ins C dx fs) ∧ fs.lookup ("size" : Str) = some (V.int (m.length : Int)) := by
  obtain ⟨a, dx, t, c, h1, h2, _⟩ := h
  exact ⟨a, dx, _, h1, h2, rfl⟩
theorem ev_size (h : EvD ta σ G (rTab K C m)) (hc : Cls K C) (hn : NoAttr K C "size") : Ev (tFld K ta "size") σ G (.int (m.length : Int)) := fun H e Q q => h H e _ fun v G2 H2 g hv => by
  obtain ⟨a, dx, t, c, rfl, h2, h3, h4⟩ := hv
  exact ⟨a, C, dx, _, _, rfl, g.i _ _ h2, hc, hn, rfl, q H2 g.h⟩
theorem ed_masks (h : EvD ta σ G (rTab K C m)) (hc : Cls K C) (hn : NoAttr K C "masks") : EvD (tFld K ta "masks") σ G (rTn K m) := fun H e Q q => h H e _ fun v G2 H2 g hv => by
  obtain ⟨a, dx, t, c, rfl, h2, h3, h4⟩ := hv
  exact ⟨a, C, dx, _, .ref t, rfl, g.i _ _ h2, hc, hn, tabF_masks, q _ G2 H2 g h3⟩
theorem ed_cells (h : EvD ta σ G (rTab K C m)) (hc : Cls K C) (hn : NoAttr K C "cells") : EvD (tFld K ta "cells") σ G (rT K ((pairsN m).map (rP K))) := fun H e Q q => h H e _ fun v G2 H2 g hv => by
  obtain ⟨a, dx, t, c, rfl, h2, h3, h4⟩ := hv
  exact ⟨a, C, dx, _, .ref c, rfl, g.i _ _ h2, hc, hn, tabF_cells, q _ G2 H2 g h4⟩
theorem tabF_no {n : Nat} {t c : Addr} {f : Str} (h : (f == "size" || (f == "masks" || f == "cells")) = false) : (tabF n t c).lookup f = none := by
  unfold tabF
  simp only [Bool.or_eq_false_iff] at h
  simp [List.lookup, h.1, h.2.1, h.2.2]
end
section
variable {K : PySem.W.Frag} {C : Addr} {σ : L2.St} {G H : Hp} {ta tv : TE} {f : Str} {D : Ends} {r : Rp}
/-- self.f = e, self a new instance -/
theorem s_fld {p dx : Addr} {fs : List (Str × V)} (e : Ex G H) (hp : H p = some (.ins C dx fs)) (gp : G p = none) (hv : EvD tv σ G r) (ha : Ev ta σ G (.ref p)) (hc : Cls K C) (hn : NoAttr K C f) (hl : fs.length < 1000)
    (k : ∀ y G2 H2, Ex G G2 → (∀ a o, H a = some o → a ≠ p → H2 a = some o) → Ex G2 H2 → (∀ a o, H a = some o → G a = none → G2 a = none) → G2 p = none → r.p y G2 → H2 p = some (.ins C dx (putF f y fs)) → D.nx σ H2) : sFld K ta tv f D σ H :=
  hv H e _ fun y G2 H2 g hy => ha H2 (g.g.trans g.i) _ fun H3 e3 => by
    have g2 : G2 p = none := g.n p _ hp gp
    refine ⟨p, C, dx, fs, rfl, e3 _ _ (g.h _ _ hp), hc, hn, hl, k y G2 _ g.g (fun a o z n => ?_) (Ex.mut (g.i.trans e3) g2) g.n g2 hy upd_same⟩
    rw [upd_ne n]
    exact e3 a o (g.h a o z)
def off (p : Addr) (G : Hp) : Hp := fun a => if a = p then none else G a
theorem off_self {p : Addr} {G : Hp} : off p G p = none := by unfold off; rw [if_pos rfl]
theorem off_ne {p a : Addr} {G : Hp} (h : a ≠ p) : off p G a = G a := by unfold off; rw [if_neg h]
theorem ex_off {p : Addr} {G : Hp} : Ex (off p G) G := fun a o h => by
  by_cases c : a = p
  · subst c; rw [off_self] at h; cases h
  · rw [off_ne c] at h; exact h
theorem ex_in_off {p : Addr} {G G' : Hp} (e : Ex G G') (h : G p = none) : Ex G (off p G') := fun a o z => by
  rw [off_ne (ne_of_none z h)]; exact e a o z
theorem ex_off2 {p : Addr} {G G' : Hp} (e : Ex G G') : Ex (off p G) (off p G') := fun a o h => by
  by_cases c : a = p
  · subst c; rw [off_self] at h; cases h
  · rw [off_ne c] at h ⊢; exact e a o h
theorem ex_add {p : Addr} {G H : Hp} {o : HO} (e : Ex G H) (h : H p = some o) : Ex (upd G p o) H := fun a u z => by
  by_cases c : a = p
  · subst c; rw [upd_same] at z; rw [h]; exact z
  · rw [upd_ne c] at z; exact e a u z
/-- the value may read self's own attributes -/
theorem s_fldS {p dx : Addr} {fs : List (Str × V)} (e : Ex G H) (hp : H p = some (.ins C dx fs)) (gp : G p = none) (hv : EvD tv σ (upd G p (.ins C dx fs)) r) (hoff : ∀ y G2, G2 p = some (.ins C dx fs) → r.p y G2 → r.p y (off p G2)) (ha : Ev ta σ G (.ref p)) (hc : Cls K C) (hn : NoAttr K C f) (hl : fs.length < 1000)
    (k : ∀ y G2 H2, Ex G G2 → (∀ a o, H a = some o → a ≠ p → H2 a = some o) → Ex G2 H2 → (∀ a o, H a = some o → G a = none → G2 a = none) → G2 p = none → r.p y G2 → H2 p = some (.ins C dx (putF f y fs)) → D.nx σ H2) : sFld K ta tv f D σ H :=
  hv H (ex_add e hp) _ fun y G2 H2 g hy => ha H2 (e.trans g.h) _ fun H3 e3 => by
    have g2 : G2 p = some (.ins C dx fs) := g.g p _ upd_same
    refine ⟨p, C, dx, fs, rfl, e3 _ _ (g.h _ _ hp), hc, hn, hl, k y (off p G2) _ (ex_in_off ((Ex.new gp).trans g.g) gp) (fun a o z n => ?_) (Ex.mut (ex_off.trans (g.i.trans e3)) off_self) (fun a o z y => ?_) off_self (hoff y G2 g2 hy) upd_same⟩
    · rw [upd_ne n]
      exact e3 a o (g.h a o z)
    · by_cases c : a = p
      · subst c; exact off_self
      · rw [off_ne c]
        exact g.n a o z (by rw [upd_ne c]; exact y)
theorem rT_off {p C' dx : Addr} {fs : List (Str × V)} {rs : List Rp} {y : V} {G2 : Hp} (h : G2 p = some (.ins C' dx fs)) (hr : ∀ r ∈ rs, ∀ v, r.p v G2 → r.p v (off p G2)) (q : (rT K rs).p y G2) : (rT K rs).p y (off p G2) := by
  obtain ⟨a, vs, rfl, h1, h2⟩ := q
  refine ⟨a, vs, rfl, ?_, ?_⟩
  · rcases h1 with (h1 | ⟨o, h1⟩) | h1
    · exact .inl (.inl (by rw [off_ne (ne_of h1 h (by intro z; cases z))]; exact h1))
    · exact .inl (.inr ⟨o, by rw [off_ne (ne_of h1 h (by intro z; cases z))]; exact h1⟩)
    · exact .inr h1
  · clear h1
    induction h2 with
    | nil => exact .nil
    | cons a t ih => exact .cons (hr _ List.mem_cons_self _ a) (ih fun r hm v => hr r (List.mem_cons_of_mem _ hm) v)
theorem rP_off {p C' dx : Addr} {fs : List (Str × V)} {l : List (Nat × Nat)} {y : V} {G2 : Hp} (h : G2 p = some (.ins C' dx fs)) (q : (rT K (l.map (rP K))).p y G2) : (rT K (l.map (rP K))).p y (off p G2) := by
  refine rT_off h (fun r hr v hv => ?_) q
  obtain ⟨z, _, rfl⟩ := List.mem_map.mp hr
  refine rT_off h (fun r hr v hv => ?_) hv
  simp at hr
  rcases hr with rfl | rfl <;> exact hv
end
section
variable {K : PySem.W.Frag} {C : Addr} {σ : L2.St} {G H : Hp} {ta tb : TE} {m : List Nat} {f : Str} {sp : Sp} {E : XK}
theorem en_meth {rs : List Rp} (h : EvD ta σ G (rTab K C m)) (hf : (f == "size" || (f == "masks" || f == "cells")) = false) (hs : ∀ v G2, Ex G G2 → (rTab K C m).p v G2 → SpN sp [v] G2 rs) : EvN (tMeth C f sp [] E ta tNil) σ G rs := fun H e Q q =>
  h H e _ fun v G2 H2 g hv => by
    obtain ⟨a, dx, t, c, rfl, h2, h3⟩ := id hv
    exact ⟨a, dx, _, rfl, g.i _ _ h2, tabF_no hf, hs _ G2 g.g hv H2 g.i Q (fun p ws G3 H3 g3 hp gp h4 ra => q p ws G3 H3 (g.trans g3) (fresh_back g.h hp) gp h4 ra) E⟩
theorem ed_meth {r : Rp} (h : EvD ta σ G (rTab K C m)) (hf : (f == "size" || (f == "masks" || f == "cells")) = false) (hs : ∀ v G2, Ex G G2 → (rTab K C m).p v G2 → SpD sp [v] G2 r) : EvD (tMeth C f sp [] E ta tNil) σ G r := fun H e Q q =>
  h H e _ fun v G2 H2 g hv => by
    obtain ⟨a, dx, t, c, rfl, h2, h3⟩ := id hv
    exact ⟨a, dx, _, rfl, g.i _ _ h2, tabF_no hf, hs _ G2 g.g hv H2 g.i Q (fun v G3 H3 g3 hv3 => q v G3 H3 (g.trans g3) hv3) E⟩
/-- one OP other, both tables -/
theorem ed_own2 {r : Rp} {m' : List Nat} (ha : EvD ta σ G (rTab K C m)) (hb : EvD tb σ G (rTab K C m')) (hs : ∀ x y G2, Ex G G2 → (rTab K C m).p x G2 → (rTab K C m').p y G2 → SpD sp [x, y] G2 r) : EvD (tOp (rOwn2 C sp E) ta tb) σ G r :=
  ed_op ha hb fun x y G2 H e1 e2 hx hy Q q => by
    obtain ⟨a, dx, t, c, rfl, h2, _⟩ := id hx
    obtain ⟨a', dx', t', c', rfl, h2', _⟩ := id hy
    exact ⟨a, a', dx, _, dx', _, rfl, rfl, e2 _ _ h2, e2 _ _ h2', hs _ _ G2 e1 hx hy H e2 Q q E⟩
end
section
variable {K : PySem.W.Frag} {C : Addr} {σ : L2.St} {G H : Hp} {te tl : TE} {E : XK}
theorem masks_bits (m : List Nat) : (m.map bitsN).map maskN = m := by
  rw [List.map_map]
  exact (List.map_congr_left fun a _ => maskN_bits a).trans (List.map_id _)
theorem rows_ok {n : Nat} {m : List Nat} (w : Wf n m) (h6 : n ≤ 6) : ∀ r ∈ m.map bitsN, r.length ≤ 100 ∧ ∀ x ∈ r, x < (m.map bitsN).length := fun r hr => by
  obtain ⟨a, ha, rfl⟩ := List.mem_map.mp hr
  refine ⟨Nat.le_trans (bits_len (w.lt a ha)) (by omega), fun x hx => ?_⟩
  rw [List.length_map, w.len]
  exact bit_lt (w.lt a ha) (mem_bits.mp hx)
/-- Table(rows), the rows of masks -/
theorem ed_tabRows {n : Nat} {m : List Nat} (h : EvD te σ G (rLL K (m.map bitsN))) (w : Wf n m) (h1 : 1 ≤ n) (h6 : n ≤ 6) : EvD (tMake C (spTab K C) [] E (tCons te tNil)) σ G (rTab K C m) :=
  ed_is (ed_tab h (by rw [List.length_map, w.len]; exact h1) (by rw [List.length_map, w.len]; exact h6) (rows_ok w h6)) (by rw [masks_bits])
/-- [list(row) for row in rows] -/
theorem ed_copy {rows : List (List Nat)} {j : Nat} (h : EvD tl σ G (rLL K rows)) (hz : rows.length ≤ 1000) (hw : ∀ x, wipe ((wipe σ [j]).set j (some x)) [j] = wipe σ [j]) (hg : ∀ x, ((wipe σ [j]).set j (some x))[j]? = some (some x)) : EvD (tLc (iList K tl) (gName j) tYes (tCB (rListS K) (tCons (tVar j) tNil)) [j]) σ G (rLL K rows) :=
  EvN.d (en_lcL0 rows (rLn K) (rLn K) h (by omega) hw fun r y G1 hr e1 hy => EvN.d (en_listL (ed_var (hg y) hy)))
end
section
variable {K : PySem.W.Frag} {C : Addr} {σ : L2.St} {G H : Hp} {ta : TE} {m : List Nat} {sp : Sp} {E : XK}
theorem ed_own1 {r : Rp} (ha : EvD ta σ G (rTab K C m)) (hs : ∀ x G2, Ex G G2 → (rTab K C m).p x G2 → SpD sp [x] G2 r) : EvD (tUn (rOwn1 C sp E) ta) σ G r := fun H e Q q =>
  ha H e _ fun v G2 H2 g hv => by
    obtain ⟨a, dx, t, c, rfl, h2, _⟩ := id hv
    exact ⟨a, dx, _, rfl, g.i _ _ h2, hs _ G2 g.g hv H2 g.i Q (fun v G3 H3 g3 hv3 => q v G3 H3 (g.trans g3) hv3) E⟩
theorem ru_inv {i : Int} {H : Hp} : RU (rU fun i => .int (Builtin.bitNot i)) (.int i) H (.int (Builtin.bitNot i)) := fun H1 _ _ q => ⟨i, rfl, q H1 (Ex.refl H1)⟩
end
end Mu

namespace Mu
open PySem L2 Evl
/-! ### isinstance -/
structure IsC (K : PySem.W.Frag) (C : Addr) : Prop where
  c : Cls K C
  a : PySem.W.findIn K (.ref C) "__class__" = some (some (.builtin "object.__class__"))
  g : PySem.W.specialIn K (.builtin "object.__class__") "__get__" = some (some (.builtin "getset_descriptor.__get__"))
  t : PySem.W.takesIn K (.builtin "object.__class__") = some true
  m : PySem.W.mroIn K C (.type "object") = some true
theorem isCB_ok {K : PySem.W.Frag} {C : Addr} (c : Cls K C) (h : isCB K C = true) : IsC K C := by
  obtain ⟨h1, h⟩ := He.ba h
  obtain ⟨h2, h⟩ := He.ba h
  obtain ⟨h3, h4⟩ := He.ba h
  exact ⟨c, He.eqO_ok h1, He.eqO_ok h2, of_decide_eq_true h3, of_decide_eq_true h4⟩
section
variable {K : PySem.W.Frag} {C : Addr} {σ : L2.St} {G H : Hp} {ta te : TE} {m : List Nat}
theorem ev_isi {r : Rp} {c : V} {u : Value} {b : Bool} (h : EvD ta σ G r) (hc : ClsV c u) (ht : ∀ v H, r.p v H → ∃ t, TyX K H v t ∧ PySem.W.kitOne K t u = some b) : Ev (tCB (rIsi K) (tCons ta (tCons (tC c) tNil))) σ G (.bl b) := fun H e Q q =>
  h H e _ fun v G2 H2 g hv => by
    obtain ⟨t, h1, h2⟩ := ht v H2 (r.mono g.i hv)
    exact ⟨v, c, t, u, b, rfl, hc, h1, h2, q H2 g.h⟩
theorem kit_same {t : Value} : PySem.W.kitOne K t t = some true := by unfold PySem.W.kitOne; simp
theorem ty_list {rs : List Rp} {v : V} (h : (rL K rs).p v H) : TyX K H v (.type "list") := by
  obtain ⟨a, vs, rfl, h1, _⟩ := h
  exact .base (.lst h1)
theorem ty_tup {rs : List Rp} {v : V} (h : (rT K rs).p v H) : TyX K H v (.type "tuple") := by
  obtain ⟨a, vs, rfl, h1, _⟩ := h
  rcases h1 with (h1 | ⟨o, h1⟩) | ⟨o, its, n, h1, h2, _⟩
  · exact .base (.tup h1)
  · exact .fTuple h1
  · exact .kTuple h1 h2
theorem ty_tab (c : IsC K C) {v : V} (h : (rTab K C m).p v H) : TyX K H v (.ref C) := by
  obtain ⟨a, dx, t, cc, rfl, h2, _⟩ := h
  exact .base (.ins h2 c.c c.a c.g c.t c.m)
theorem is_int {i : Int} (h : Ev ta σ G (.int i)) : Ev (tCB (rIsi K) (tCons ta (tCons (tC (.ty "int")) tNil))) σ G (.bl true) := ev_isi (Ev.d h) (.ty _) fun v H hv => ⟨_, by obtain rfl : v = V.int i := hv; exact .base (.int i), kit_same⟩
theorem is_bool_int {i : Int} (h : Ev ta σ G (.int i)) : Ev (tCB (rIsi K) (tCons ta (tCons (tC (.ty "bool")) tNil))) σ G (.bl false) := ev_isi (Ev.d h) (.ty _) fun v H hv => ⟨_, by obtain rfl : v = V.int i := hv; exact .base (.int i), kit_ty (by decide +kernel)⟩
theorem is_list {rs : List Rp} (h : EvD ta σ G (rL K rs)) : Ev (tCB (rIsi K) (tCons ta (tCons (tC (.ty "list")) tNil))) σ G (.bl true) := ev_isi h (.ty _) fun v H hv => ⟨_, ty_list hv, kit_same⟩
theorem is_tup {rs : List Rp} (h : EvD ta σ G (rT K rs)) : Ev (tCB (rIsi K) (tCons ta (tCons (tC (.ty "tuple")) tNil))) σ G (.bl true) := ev_isi h (.ty _) fun v H hv => ⟨_, ty_tup hv, kit_same⟩
theorem is_tab (c : IsC K C) (h : EvD ta σ G (rTab K C m)) : Ev (tCB (rIsi K) (tCons ta (tCons (tC (.ref C)) tNil))) σ G (.bl true) := ev_isi h (.own _) fun v H hv => ⟨_, ty_tab c hv, kit_same⟩
/-! ### == of data -/
/-- the data that a value stands for -/
def AsD (K : PySem.W.Frag) (r : Rp) (d : PyData) : Prop := ∀ v H, r.p v H → Dp K H v d
theorem asd_int (i : Int) : AsD K (rI i) (.int i) := fun v H h => by obtain rfl : v = V.int i := h; exact .int i
theorem asd_str (z : Str) : AsD K (rS z) (.str z) := fun v H h => by obtain rfl : v = V.str z := h; exact .str z
theorem asd_bl (b : Bool) : AsD K (rB b) (.bool b) := fun v H h => by obtain rfl : v = V.bl b := h; exact .bl b
theorem asd_non : AsD K (rV .non) .none := fun v H h => by obtain rfl : v = V.non := h; exact .non
theorem asd_all {H : Hp} {α : Type} {ρ : α → Rp} {δ : α → PyData} (h : ∀ a, AsD K (ρ a) (δ a)) : ∀ {l : List α} {vs : List V}, RA H vs (l.map ρ) → DpAll K H vs (l.map δ)
  | [], _, .nil => .nil
  | a :: r, _, .cons q t => .cons (h a _ _ q) (asd_all h t)
theorem asd_list {α : Type} {ρ : α → Rp} {δ : α → PyData} (h : ∀ a, AsD K (ρ a) (δ a)) (l : List α) : AsD K (rL K (l.map ρ)) (.list (l.map δ)) := fun v H q => by
  obtain ⟨a, vs, rfl, h1, h2⟩ := q
  exact .lst (sq_of h1) (asd_all h h2)
theorem asd_tup {α : Type} {ρ : α → Rp} {δ : α → PyData} (h : ∀ a, AsD K (ρ a) (δ a)) (l : List α) : AsD K (rT K (l.map ρ)) (.tuple (l.map δ)) := fun v H q => by
  obtain ⟨a, vs, rfl, h1, h2⟩ := q
  exact .tup h1 (asd_all h h2)
abbrev dN (n : Nat) : PyData := .int (n : Int)
abbrev dLn (l : List Nat) : PyData := .list (l.map dN)
abbrev dTn (l : List Nat) : PyData := .tuple (l.map dN)
abbrev dLL (l : List (List Nat)) : PyData := .list (l.map dLn)
abbrev dP (p : Nat × Nat) : PyData := .tuple [.int (p.1 : Int), .int (p.2 : Int)]
theorem asd_ln (l : List Nat) : AsD K (rLn K l) (dLn l) := asd_list (fun a => asd_int _) l
theorem asd_tn (l : List Nat) : AsD K (rTn K l) (dTn l) := asd_tup (fun a => asd_int _) l
theorem asd_ll (l : List (List Nat)) : AsD K (rLL K l) (dLL l) := asd_list asd_ln l
theorem asd_p (p : Nat × Nat) : AsD K (rP K p) (dP p) := fun v H q => by
  obtain ⟨a, vs, rfl, h1, h2⟩ := q
  obtain ⟨x, y, rfl, hx, hy⟩ := ra2 h2
  obtain rfl : x = V.int (p.1 : Int) := hx
  obtain rfl : y = V.int (p.2 : Int) := hy
  exact .tup h1 (.cons (.int _) (.cons (.int _) .nil))
theorem ev_eqD {r1 r2 : Rp} {d1 d2 : PyData} {tb : TE} (ha : EvD ta σ G r1) (hb : EvD tb σ G r2) (a1 : AsD K r1 d1) (a2 : AsD K r2 d2) (s1 : SeqAt.shaped d1 = true) (s2 : SeqAt.shaped d2 = true) : Ev (tOp (rEqD K) ta tb) σ G (.bl (PyData.eqv d1 d2)) :=
  ev_op2 ha hb fun x y H hx hy Q q => ⟨d1, d2, a1 x H hx, a2 y H hy, s1, s2, q⟩
theorem ev_neD {r1 r2 : Rp} {d1 d2 : PyData} {tb : TE} (ha : EvD ta σ G r1) (hb : EvD tb σ G r2) (a1 : AsD K r1 d1) (a2 : AsD K r2 d2) (s1 : SeqAt.shaped d1 = true) (s2 : SeqAt.shaped d2 = true) : Ev (tOp (rNeD K) ta tb) σ G (.bl (!PyData.eqv d1 d2)) :=
  ev_op2 ha hb fun x y H hx hy Q q => ⟨d1, d2, a1 x H hx, a2 y H hy, s1, s2, q⟩
end
end Mu
namespace Mu
open PySem L2 Evl
/-! ### shapes and equality of such data -/
def Sh (k : Nat) (d : PyData) : Prop := d.canLay0 = true ∧ d.depth ≤ k
theorem sh_all {α : Type} {δ : α → PyData} {k : Nat} (h : ∀ a, Sh k (δ a)) : ∀ l : List α, PyData.canLayAll0 (l.map δ) = true ∧ PyData.depthAll (l.map δ) ≤ k
  | [] => ⟨rfl, Nat.zero_le _⟩
  | a :: r => by
    obtain ⟨h1, h2⟩ := sh_all h r
    refine ⟨?_, ?_⟩
    · rw [List.map_cons]; unfold PyData.canLayAll0; rw [(h a).1, h1]; rfl
    · rw [List.map_cons]; unfold PyData.depthAll; exact Nat.max_le.mpr ⟨(h a).2, h2⟩
theorem sh_list {α : Type} {δ : α → PyData} {k : Nat} (h : ∀ a, Sh k (δ a)) (l : List α) : Sh (k + 1) (.list (l.map δ)) := by
  obtain ⟨h1, h2⟩ := sh_all h l
  refine ⟨by unfold PyData.canLay0; exact h1, ?_⟩
  unfold PyData.depth; omega
theorem sh_tup {α : Type} {δ : α → PyData} {k : Nat} (h : ∀ a, Sh k (δ a)) (l : List α) : Sh (k + 1) (.tuple (l.map δ)) := by
  obtain ⟨h1, h2⟩ := sh_all h l
  refine ⟨by unfold PyData.canLay0; exact h1, ?_⟩
  unfold PyData.depth; omega
theorem sh_int (i : Int) : Sh 1 (.int i) := ⟨by unfold PyData.canLay0; rfl, by unfold PyData.depth; omega⟩
theorem Sh.ok {k : Nat} {d : PyData} (h : Sh k d) (hk : k ≤ 64) : SeqAt.shaped d = true := by
  unfold SeqAt.shaped
  rw [h.1, decide_eq_true (Nat.le_trans h.2 hk)]; rfl
theorem Sh.mono {k j : Nat} {d : PyData} (h : Sh k d) (hk : k ≤ j) : Sh j d := ⟨h.1, Nat.le_trans h.2 hk⟩
theorem sh_ln (l : List Nat) : Sh 2 (dLn l) := sh_list (fun a => sh_int _) l
theorem sh_tn (l : List Nat) : Sh 2 (dTn l) := sh_tup (fun a => sh_int _) l
theorem sh_ll (l : List (List Nat)) : Sh 3 (dLL l) := sh_list sh_ln l
theorem sh_p (p : Nat × Nat) : Sh 2 (dP p) := sh_tup (fun a : Nat => sh_int (a : Int)) [p.1, p.2]
theorem eqv_all {α : Type} [DecidableEq α] {δ : α → PyData} (h : ∀ a b, PyData.eqv (δ a) (δ b) = decide (a = b)) : ∀ l m : List α, PyData.eqvAll (l.map δ) (m.map δ) = decide (l = m)
  | [], [] => by simp [PyData.eqvAll]
  | [], _ :: _ => by simp [PyData.eqvAll]
  | _ :: _, [] => by simp [PyData.eqvAll]
  | a :: l, b :: m => by
    rw [List.map_cons, List.map_cons, PyData.eqvAll, h a b, eqv_all h l m, Bool.eq_iff_iff]
    simp
theorem eqv_n (a b : Nat) : PyData.eqv (dN a) (dN b) = decide (a = b) := by
  rw [Bool.eq_iff_iff]
  simp [PyData.eqv]
  omega
theorem eqv_ln (a b : List Nat) : PyData.eqv (dLn a) (dLn b) = decide (a = b) := by
  show PyData.eqv (.list _) (.list _) = _
  rw [PyData.eqv]; exact eqv_all eqv_n a b
theorem eqv_tn (a b : List Nat) : PyData.eqv (dTn a) (dTn b) = decide (a = b) := by
  show PyData.eqv (.tuple _) (.tuple _) = _
  rw [PyData.eqv]; exact eqv_all eqv_n a b
theorem eqv_ll (a b : List (List Nat)) : PyData.eqv (dLL a) (dLL b) = decide (a = b) := by
  show PyData.eqv (.list _) (.list _) = _
  rw [PyData.eqv]; exact eqv_all eqv_ln a b
theorem eqv_p (a b : Nat × Nat) : PyData.eqv (dP a) (dP b) = decide (a = b) := by
  obtain ⟨a1, a2⟩ := a
  obtain ⟨b1, b2⟩ := b
  show PyData.eqv (.tuple _) (.tuple _) = _
  rw [PyData.eqv, Bool.eq_iff_iff]
  simp [PyData.eqvAll, PyData.eqv]
  omega
section
variable {K : PySem.W.Frag} {σ : L2.St} {G : Hp} {ta tb : TE}
theorem et_eqLn {l m : List Nat} (ha : EvD ta σ G (rLn K l)) (hb : EvD tb σ G (rLn K m)) : EvT (tTest (tOp (rEqD K) ta tb)) σ G (decide (l = m)) := eqv_ln l m ▸ et_test (ev_eqD ha hb (asd_ln l) (asd_ln m) ((sh_ln l).ok (by decide)) ((sh_ln m).ok (by decide)))
theorem et_neLn {l m : List Nat} (ha : EvD ta σ G (rLn K l)) (hb : EvD tb σ G (rLn K m)) : EvT (tTest (tOp (rNeD K) ta tb)) σ G (!decide (l = m)) := eqv_ln l m ▸ et_test (ev_neD ha hb (asd_ln l) (asd_ln m) ((sh_ln l).ok (by decide)) ((sh_ln m).ok (by decide)))
theorem et_neLL {l m : List (List Nat)} (ha : EvD ta σ G (rLL K l)) (hb : EvD tb σ G (rLL K m)) : EvT (tTest (tOp (rNeD K) ta tb)) σ G (!decide (l = m)) := eqv_ll l m ▸ et_test (ev_neD ha hb (asd_ll l) (asd_ll m) ((sh_ll l).ok (by decide)) ((sh_ll m).ok (by decide)))
theorem et_neP {l m : Nat × Nat} (ha : EvD ta σ G (rP K l)) (hb : EvD tb σ G (rP K m)) : EvT (tTest (tOp (rNeD K) ta tb)) σ G (!decide (l = m)) := eqv_p l m ▸ et_test (ev_neD ha hb (asd_p l) (asd_p m) ((sh_p l).ok (by decide)) ((sh_p m).ok (by decide)))
theorem ev_eqTn {l m : List Nat} (ha : EvD ta σ G (rTn K l)) (hb : EvD tb σ G (rTn K m)) : Ev (tOp (rEqD K) ta tb) σ G (.bl (decide (l = m))) := eqv_tn l m ▸ ev_eqD ha hb (asd_tn l) (asd_tn m) ((sh_tn l).ok (by decide)) ((sh_tn m).ok (by decide))
theorem ev_neTn {l m : List Nat} (ha : EvD ta σ G (rTn K l)) (hb : EvD tb σ G (rTn K m)) : Ev (tOp (rNeD K) ta tb) σ G (.bl (!decide (l = m))) := eqv_tn l m ▸ ev_neD ha hb (asd_tn l) (asd_tn m) ((sh_tn l).ok (by decide)) ((sh_tn m).ok (by decide))
/-! ### in a list of ints -/
theorem ints_flat (l : List Nat) : (l.map fun (n : Nat) => V.int (n : Int)).all flatV = true := by
  rw [List.all_map]
  exact List.all_eq_true.mpr fun _ _ => rfl
theorem inV_nat (w : Nat) (l : List Nat) : inV (.int (w : Int)) (l.map fun (n : Nat) => V.int (n : Int)) = decide (w ∈ l) := by
  unfold inV
  rw [List.any_map, Bool.eq_iff_iff, List.any_eq_true, decide_eq_true_iff]
  constructor
  · rintro ⟨x, hx, h⟩
    have : x = w := by
      have h2 : eqV (.int (x : Int)) (.int (w : Int)) = true := h
      simp [eqV] at h2
      omega
    rw [← this]; exact hx
  · intro h
    exact ⟨w, h, by simp [eqV]⟩
theorem ev_inLn {l : List Nat} {w : Nat} {neg : Bool} (ha : Ev ta σ G (.int (w : Int))) (hb : EvD tb σ G (rLn K l)) : Ev (tOp (rIn K neg) ta tb) σ G (.bl (if neg then !decide (w ∈ l) else decide (w ∈ l))) :=
  ev_op2 (Ev.d ha) hb fun x y H hx hy Q q => by
    obtain rfl : x = V.int (w : Int) := hx
    obtain ⟨a, vs, rfl, h1, h2⟩ := hy
    have e := ra_nats_eq h2
    subst e
    exact ⟨a, _, rfl, .inl (sq_of h1), rfl, ints_flat l, by rw [inV_nat]; exact q⟩
theorem et_in {l : List Nat} {w : Nat} (ha : Ev ta σ G (.int (w : Int))) (hb : EvD tb σ G (rLn K l)) : EvT (tTest (tOp (rIn K false) ta tb)) σ G (decide (w ∈ l)) := et_test (ev_inLn (neg := false) ha hb)
theorem et_notIn {l : List Nat} {w : Nat} (ha : Ev ta σ G (.int (w : Int))) (hb : EvD tb σ G (rLn K l)) : EvT (tTest (tOp (rIn K true) ta tb)) σ G (!decide (w ∈ l)) := et_test (ev_inLn (neg := true) ha hb)
end
end Mu

namespace Mu
open PySem L2 Evl
/-! ### the law's box: a list [cells, place, digits, state] that every draw changes -/
structure Box (K : PySem.W.Frag) (G H : Hp) (b : Addr) : Prop where
  ex : ∃ (c : Addr) (cells : List Int) (i x y : Int), H b = some (.lst [.ref c, .int i, .int x, .int y]) ∧ G c = some (.lst (cells.map V.int)) ∧ (∀ z ∈ cells, 0 ≤ z) ∧ 0 ≤ i ∧ 0 ≤ x ∧ 0 ≤ y ∧ y < 2147483647
theorem Box.mono {K : PySem.W.Frag} {G G' H H' : Hp} {b : Addr} (h : Box K G H b) (g : Ex G G') (e : Ex H H') : Box K G' H' b := by
  obtain ⟨c, cells, i, x, y, h1, h2, h3⟩ := h.ex
  exact ⟨c, cells, i, x, y, e _ _ h1, g _ _ h2, h3⟩
theorem Box.mono' {K : PySem.W.Frag} {G G' H H' : Hp} {b : Addr} (h : Box K G H b) (g : Ex G G') (e : ∀ o, H b = some o → H' b = some o) : Box K G' H' b := by
  obtain ⟨c, cells, i, x, y, h1, h2, h3⟩ := h.ex
  exact ⟨c, cells, i, x, y, e _ h1, g _ _ h2, h3⟩
theorem Box.at_ {K : PySem.W.Frag} {G H : Hp} {b : Addr} (h : Box K G H b) : ∃ o, H b = some o := by
  obtain ⟨c, cells, i, x, y, h1, _⟩ := h.ex
  exact ⟨_, h1⟩
/-- the box at b may have changed -/
structure GrB (b : Addr) (G H G2 H2 : Hp) : Prop where
  g : Ex G G2
  h : ∀ a o, H a = some o → a ≠ b → H2 a = some o
  i : Ex G2 H2
  n : ∀ a o, H a = some o → G a = none → G2 a = none
theorem Gr.b {b : Addr} {G H G2 H2 : Hp} (g : Gr G H G2 H2) : GrB b G H G2 H2 := ⟨g.g, fun a o z _ => g.h a o z, g.i, g.n⟩
theorem GrB.refl {b : Addr} {G H : Hp} (e : Ex G H) : GrB b G H G H := (Gr.refl e).b
theorem GrB.trans {b : Addr} {G H G2 H2 G3 H3 : Hp} (gb : G b = none) (hb : ∃ o, H b = some o) (a : GrB b G H G2 H2) (c : GrB b G2 H2 G3 H3) (hb2 : ∃ o, H2 b = some o) : GrB b G H G3 H3 :=
  ⟨a.g.trans c.g, fun x o z n => c.h x o (a.h x o z n) n, c.i, fun x o z y => by
    have y2 := a.n x o z y
    by_cases q : x = b
    · subst q
      obtain ⟨o2, z2⟩ := hb2
      exact c.n x o2 z2 y2
    · exact c.n x o (a.h x o z q) y2⟩
theorem GrB.out {b : Addr} {G H G2 H2 : Hp} (a : GrB b G H G2 H2) (gb : G b = none) (hb : ∃ o, H b = some o) : G2 b = none := by
  obtain ⟨o, z⟩ := hb
  exact a.n b o z gb
theorem GrB.more {b : Addr} {G H G2 H2 H3 : Hp} (a : GrB b G H G2 H2) (e : Ex H2 H3) : GrB b G H G2 H3 := ⟨a.g, fun x o z n => e x o (a.h x o z n), a.i.trans e, a.n⟩
/-- all that stood ahead and is not b -/
theorem GrB.all {b : Addr} {G H G2 H2 : Hp} (a : GrB b G H G2 H2) : Ex (off b H) H2 := fun x o z => by
  by_cases q : x = b
  · subst q; rw [off_self] at z; cases z
  · rw [off_ne q] at z; exact a.h x o z q

section
variable (K : PySem.W.Frag)
def EvB (te : TE) (σ : L2.St) (b : Addr) (G : Hp) (P : Rp → Prop) : Prop := ∀ H, Ex G H → G b = none → Box K G H b → ∀ Q : VK, (∀ r v G2 H2, P r → GrB b G H G2 H2 → Box K G2 H2 b → r.p v G2 → Q v H2) → te σ H Q
/-- a new list, outside the footprint -/
def EvBN (te : TE) (σ : L2.St) (b : Addr) (G : Hp) (P : List Rp → Prop) : Prop := ∀ H, Ex G H → G b = none → Box K G H b → ∀ Q : VK, (∀ rs p vs G2 H2, P rs → GrB b G H G2 H2 → Box K G2 H2 b → H p = none → G2 p = none → H2 p = some (.lst vs) → RA G2 vs rs → Q (.ref p) H2) → te σ H Q
def EvTB (tt : TT) (σ : L2.St) (b : Addr) (G : Hp) (P : Bool → Prop) : Prop := ∀ H, Ex G H → G b = none → Box K G H b → ∀ Q : Bool → Hp → Prop, (∀ c G2 H2, P c → GrB b G H G2 H2 → Box K G2 H2 b → Q c H2) → tt σ H Q
def spB (R : List V → Hp → (Rp → Prop) → Prop) : Sp := fun vs H Q _ => ∃ G b ws P, vs = .ref b :: ws ∧ Ex G H ∧ G b = none ∧ Box K G H b ∧ R ws G P ∧ ∀ r v G2 H2, P r → GrB b G H G2 H2 → Box K G2 H2 b → r.p v G2 → Q v H2
def spBN (R : List V → Hp → (List Rp → Prop) → Prop) : Sp := fun vs H Q _ => ∃ G b ws P, vs = .ref b :: ws ∧ Ex G H ∧ G b = none ∧ Box K G H b ∧ R ws G P ∧ ∀ rs p vs G2 H2, P rs → GrB b G H G2 H2 → Box K G2 H2 b → H p = none → G2 p = none → H2 p = some (.lst vs) → RA G2 vs rs → Q (.ref p) H2
/-- a draw below n -/
def PN (n : Nat) : Rp → Prop := fun r => ∃ d : Nat, d < n ∧ r = nI d
/-- take(box, m): a number below m; only the box changes, and it stays a box over whatever footprint it was one -/
def spT : Sp := fun vs H Q _ => ∃ G b m, vs = [.ref b, .int ((m : Nat) : Int)] ∧ Ex G H ∧ G b = none ∧ Box K G H b ∧ 0 < m ∧ m < 2 ^ 30 ∧ ∀ (d : Nat) H2, d < m → (∀ a o, H a = some o → a ≠ b → H2 a = some o) → (∀ G', Box K G' H b → Box K G' H2 b) → Q (.int (d : Int)) H2
/-- a plain value, by draws alone -/
def EvBI (te : TE) (σ : L2.St) (b : Addr) (G : Hp) (PV : V → Prop) : Prop := ∀ H, Ex G H → G b = none → Box K G H b → ∀ Q : VK, (∀ v H2, PV v → (∀ a o, H a = some o → a ≠ b → H2 a = some o) → (∀ G', Box K G' H b → Box K G' H2 b) → Q v H2) → te σ H Q
end
section
variable {K : PySem.W.Frag} {σ : L2.St} {b : Addr} {G H : Hp} {te ta tb : TE} {P P1 : Rp → Prop} {D : Ends} {tu tw : TS} {i i0 : Nat} {E : XK}
theorem EvD.bx {r : Rp} (h : EvD te σ G r) : EvB K te σ b G (fun x => x = r) := fun H e gb hb Q q => h H e Q fun v G2 H2 g hv => q r v G2 H2 rfl g.b (hb.mono g.g g.h) hv
theorem EvB.imp {P' : Rp → Prop} (h : EvB K te σ b G P) (hp : ∀ r, P r → P' r) : EvB K te σ b G P' := fun H e gb hb Q q => h H e gb hb Q fun r v G2 H2 p => q r v G2 H2 (hp r p)
theorem EvBN.d {P : List Rp → Prop} (h : EvBN K te σ b G P) : EvB K te σ b G (fun r => ∃ rs, P rs ∧ r = rL K rs) := fun H e gb hb Q q => h H e gb hb Q fun rs p vs G2 H2 hP g hb2 hp gp h2 ra =>
  q (rL K rs) (.ref p) (upd G2 p (.lst vs)) H2 ⟨rs, hP, rfl⟩ ⟨g.g.trans (Ex.new gp), g.h, ex_add g.i h2, fun a o z y => by rw [upd_ne (ne_of_none z hp)]; exact g.n a o z y⟩ (hb2.mono (Ex.new gp) (Ex.refl _)) ⟨p, vs, rfl, upd_same, ra.mono (Ex.new gp)⟩
theorem eb_call {ta : TA} {rs : List Rp} {R : List V → Hp → (Rp → Prop) → Prop} (hv : σ[i0]? = some (some (.ref b))) (h : EvAD ta σ G rs) (hs : ∀ ws G2, Ex G G2 → RA G2 ws rs → R ws G2 P) : EvB K (tCall (spB K R) [] E (tCons (tVar i0) ta)) σ b G P := fun H e gb hb Q q =>
  ⟨.ref b, hv, h H e _ fun ws G2 H2 g hw => by
    show spB K R ((V.ref b :: ws) ++ []) H2 Q E
    rw [List.append_nil]
    have gb2 : G2 b = none := by obtain ⟨o, z⟩ := hb.at_; exact g.n b o z gb
    refine ⟨G2, b, ws, P, rfl, g.i, gb2, hb.mono g.g g.h, hs ws G2 g.g hw, fun r v G3 H3 p g3 hb3 hv3 => q r v G3 H3 p (g.b.trans gb hb.at_ g3 (hb.mono g.g g.h).at_) hb3 hv3⟩⟩
theorem ebn_call {ta : TA} {rs : List Rp} {P : List Rp → Prop} {R : List V → Hp → (List Rp → Prop) → Prop} (hv : σ[i0]? = some (some (.ref b))) (h : EvAD ta σ G rs) (hs : ∀ ws G2, Ex G G2 → RA G2 ws rs → R ws G2 P) : EvBN K (tCall (spBN K R) [] E (tCons (tVar i0) ta)) σ b G P := fun H e gb hb Q q =>
  ⟨.ref b, hv, h H e _ fun ws G2 H2 g hw => by
    show spBN K R ((V.ref b :: ws) ++ []) H2 Q E
    rw [List.append_nil]
    have gb2 : G2 b = none := by obtain ⟨o, z⟩ := hb.at_; exact g.n b o z gb
    refine ⟨G2, b, ws, P, rfl, g.i, gb2, hb.mono g.g g.h, hs ws G2 g.g hw, fun rs' p vs G3 H3 p3 g3 hb3 hp gp h3 ra => q rs' p vs G3 H3 p3 (g.b.trans gb hb.at_ g3 (hb.mono g.g g.h).at_) hb3 (fresh_back g.h hp) gp h3 ra⟩⟩
theorem EvBI.eb {PV : V → Prop} (h : EvBI K te σ b G PV) : EvB K te σ b G (fun r => ∃ v, PV v ∧ r = rV v) := fun H e gb hb Q q => h H e gb hb Q fun v H2 p k s => q (rV v) v G H2 ⟨v, p, rfl⟩ ⟨Ex.refl G, k, fun a o z => k a o (e a o z) (fun q => by subst q; rw [gb] at z; cases z), fun _ _ _ z => z⟩ (s G hb) rfl
/-- take(box, m) -/
theorem ebi_take {m : Nat} (hv : σ[i0]? = some (some (.ref b))) (h : Ev te σ G (.int (m : Int))) (h0 : 0 < m) (h1 : m < 2 ^ 30) : EvBI K (tCall (spT K) [] E (tCons (tVar i0) (tCons te tNil))) σ b G (fun v => ∃ d : Nat, d < m ∧ v = .int (d : Int)) := fun H e gb hb Q q =>
  ⟨.ref b, hv, h H e _ fun H2 e2 => by
    show spT K (([V.ref b, V.int (m : Int)]) ++ []) H2 Q E
    rw [List.append_nil]
    refine ⟨G, b, m, rfl, e.trans e2, gb, hb.mono (Ex.refl G) e2, h0, h1, fun d H3 hd k s => q _ H3 ⟨d, hd, rfl⟩ (fun a o z n => k a o (e2 a o z) n) fun G' hb' => s G' (hb'.mono (Ex.refl G') e2)⟩⟩
theorem eb_take {m : Nat} (hv : σ[i0]? = some (some (.ref b))) (h : Ev te σ G (.int (m : Int))) (h0 : 0 < m) (h1 : m < 2 ^ 30) : EvB K (tCall (spT K) [] E (tCons (tVar i0) (tCons te tNil))) σ b G (PN m) :=
  EvB.imp (EvBI.eb (ebi_take hv h h0 h1)) fun r ⟨v, ⟨d, hd, hv⟩, hr⟩ => ⟨d, hd, by rw [hr, hv]⟩
/-- t and a drawn test -/
theorem etb_and {t u : TT} {c : Bool} {P : Bool → Prop} (h1 : EvT t σ G c) (h2 : c = true → EvTB K u σ b G P) : EvTB K (tAnd t u) σ b G (fun d => (c = false ∧ d = false) ∨ (c = true ∧ P d)) := fun H e gb hb Q q => h1 H e _ fun H1 e1 => by
  cases c with
  | true =>
    show u σ H1 Q
    exact h2 rfl H1 (e.trans e1) gb (hb.mono (Ex.refl G) e1) Q fun d G2 H2 p g hb2 => q d G2 H2 (.inr ⟨rfl, p⟩) ⟨g.g, fun a o z n => g.h a o (e1 a o z) n, g.i, fun a o z y => g.n a o (e1 a o z) y⟩ hb2
  | false =>
    show Q false H1
    exact q false G H1 (.inl ⟨rfl, rfl⟩) ((GrB.refl e).more e1) (hb.mono (Ex.refl G) e1)
/-- xs[a draw], xs a list of ints at a name -/
theorem ebi_ix {l : List Nat} {n j : Nat} {x : V} (hv : σ[j]? = some (some x)) (hx : (rLn K l).p x G) (hb : EvBI K tb σ b G (fun v => ∃ d : Nat, d < n ∧ v = .int (d : Int))) (hn : n ≤ l.length) : EvBI K (tOp (rIxL K) (tVar j) tb) σ b G (fun v => ∃ w ∈ l, v = .int (w : Int)) := fun H e gb hbx Q q =>
  ⟨x, hv, hb H e gb hbx _ fun v H2 ⟨d, hd, hv⟩ k s => by
    subst hv
    obtain ⟨a, vs, rfl, h1, ra⟩ := hx
    have ev := ra_nats_eq ra
    subst ev
    have hdl : d < l.length := by omega
    refine ⟨a, _, (d : Int), .int ((l[d] : Nat) : Int), rfl, rfl, sq_of (k a _ (e _ _ h1) (fun q => by subst q; rw [gb] at h1; cases h1)), atI_nat (by rw [List.getElem?_map, List.getElem?_eq_getElem hdl]; rfl), q _ H2 ⟨l[d], List.getElem_mem hdl, rfl⟩ k s⟩⟩
/-- xs.append(a drawn plain value that may be made of xs), xs a list of our own -/
theorem s_appBI {p : Addr} {ws : List V} {PV : V → Prop} (e : Ex G H) (gb : G b = none) (hbx : Box K G H b) (hp : H p = some (.lst ws)) (gp : G p = none) (pb : p ≠ b) (hv : σ[i]? = some (some (.ref p))) (h : EvBI K te σ b (upd G p (.lst ws)) PV) (hz : ws.length < 50000)
    (k : ∀ v H2, PV v → (∀ a o, H a = some o → a ≠ p → a ≠ b → H2 a = some o) → Box K G H2 b → H2 p = some (.lst (ws ++ [v])) → D.nx σ H2) :
    tDrop (tBM K "list" rAppend (tVar i) (tCons te tNil)) D σ H := ⟨.ref p, hv, Or.inl ⟨rfl, ws, sq_of hp⟩, h H (ex_add e hp) (by rw [upd_ne (Ne.symm pb)]; exact gb) (hbx.mono (Ex.new gp) (Ex.refl H)) _ fun v H2 hP kk s =>
  ⟨p, ws, v, rfl, rfl, kk _ _ hp pb, sz_lt (by omega), k v _ hP (fun a o z n nb => by rw [upd_ne n]; exact kk a o z nb) ((s G hbx).mono' (Ex.refl G) fun o z => by rw [upd_ne (Ne.symm pb)]; exact z) upd_same⟩⟩
/-- xs.reverse() -/
theorem s_rev {p : Addr} {ws : List V} (hp : H p = some (.lst ws)) (hv : Ev ta σ H (.ref p)) (k : ∀ H1, Ex H H1 → D.nx σ (upd H1 p (.lst ws.reverse))) : tDrop (tBM0 K "list" rReverse ta) D σ H := hv H (Ex.refl H) _ fun H1 e1 =>
  ⟨Or.inl ⟨rfl, ws, sq_of (e1 _ _ hp)⟩, p, ws, rfl, rfl, e1 _ _ hp, k H1 e1⟩
/-- a written operand, then a draw -/
theorem eb_opN {rr : R2} {x : V} {n : Nat} (ha : Ev ta σ G x) (hb : EvB K tb σ b G (PN n)) (f : Nat → V) (hs : ∀ d, d < n → ∀ H (Q : VK), Q (f d) H → rr x (.int (d : Int)) H Q) : EvB K (tOp rr ta tb) σ b G (fun r => ∃ d, d < n ∧ r = rV (f d)) := fun H e gb hbx Q q =>
  ha H e _ fun H1 e1 => hb H1 (e.trans e1) gb (hbx.mono (Ex.refl G) e1) _ fun r v G2 H2 p g hb2 hv => by
    obtain ⟨d, hd, rfl⟩ := p
    obtain rfl : v = V.int (d : Int) := hv
    exact hs d hd H2 Q (q (rV (f d)) (f d) G2 H2 ⟨d, hd, rfl⟩ ⟨g.g, fun a o z n => g.h a o (e1 a o z) n, g.i, fun a o z y => g.n a o (e1 a o z) y⟩ hb2 rfl)
/-- a draw, then a written operand -/
theorem eb_opN' {rr : R2} {y : V} {n : Nat} (ha : EvB K ta σ b G (PN n)) (hb : ∀ G2, Ex G G2 → Ev tb σ G2 y) (f : Nat → V) (hs : ∀ d, d < n → ∀ H (Q : VK), Q (f d) H → rr (.int (d : Int)) y H Q) : EvB K (tOp rr ta tb) σ b G (fun r => ∃ d, d < n ∧ r = rV (f d)) := fun H e gb hbx Q q =>
  ha H e gb hbx _ fun r v G2 H2 p g hb2 hv => by
    obtain ⟨d, hd, rfl⟩ := p
    obtain rfl : v = V.int (d : Int) := hv
    refine hb G2 g.g H2 g.i _ fun H3 e3 => ?_
    exact hs d hd H3 Q (q (rV (f d)) (f d) G2 H3 ⟨d, hd, rfl⟩ (g.more e3) (hb2.mono (Ex.refl _) e3) rfl)
theorem et_bN {f : Nat → Bool} {n : Nat} (h : EvB K te σ b G (fun r => ∃ d, d < n ∧ r = rV (.bl (f d)))) : EvTB K (tTest te) σ b G (fun c => ∃ d, d < n ∧ c = f d) := fun H e gb hb Q q =>
  h H e gb hb _ fun r v G2 H2 p g hb2 hv => by
    obtain ⟨d, hd, rfl⟩ := p
    obtain rfl : v = V.bl (f d) := hv
    exact ⟨_, rfl, q _ G2 H2 ⟨d, hd, rfl⟩ g hb2⟩
/-! statements -/
theorem s_setB (e : Ex G H) (gb : G b = none) (hb : Box K G H b) (h : EvB K te σ b G P) (k : ∀ r v G2 H2, P r → GrB b G H G2 H2 → Box K G2 H2 b → r.p v G2 → D.nx (σ.set i (some v)) H2) : tAsg te (gName i) D σ H := h H e gb hb _ k
theorem s_setBN {P : List Rp → Prop} (e : Ex G H) (gb : G b = none) (hb : Box K G H b) (h : EvBN K te σ b G P) (k : ∀ rs p vs G2 H2, P rs → GrB b G H G2 H2 → Box K G2 H2 b → H p = none → G2 p = none → H2 p = some (.lst vs) → RA G2 vs rs → D.nx (σ.set i (some (.ref p))) H2) : tAsg te (gName i) D σ H := h H e gb hb _ k
theorem s_ifB {t : TT} {P : Bool → Prop} (e : Ex G H) (gb : G b = none) (hb : Box K G H b) (h : EvTB K t σ b G P) (h1 : P true → ∀ G2 H2, GrB b G H G2 H2 → Box K G2 H2 b → tu D σ H2) (h2 : P false → ∀ G2 H2, GrB b G H G2 H2 → Box K G2 H2 b → tw D σ H2) : tIfS t tu tw D σ H := h H e gb hb _ fun c G2 H2 p g hb2 => by
  cases c with
  | true =>
    show tu D σ H2
    exact h1 p G2 H2 g hb2
  | false =>
    show tw D σ H2
    exact h2 p G2 H2 g hb2
/-- xs.append(a drawn thing), xs a list of our own -/
theorem s_appB {p : Addr} {ws : List V} {rs : List Rp} (e : Ex G H) (gb : G b = none) (hbx : Box K G H b) (hp : H p = some (.lst ws)) (gp : G p = none) (pb : p ≠ b) (ra : RA G ws rs) (hv : Ev ta σ G (.ref p)) (h : EvB K te σ b G P) (hz : rs.length < 50000)
    (k : ∀ r ws' G2 H2, P r → Ex G G2 → (∀ a o, H a = some o → a ≠ p → a ≠ b → H2 a = some o) → Ex G2 H2 → (∀ a o, H a = some o → G a = none → G2 a = none) → Box K G2 H2 b → H2 p = some (.lst ws') → RA G2 ws' (rs ++ [r]) → D.nx σ H2) :
    tDrop (tBM K "list" rAppend ta (tCons te tNil)) D σ H := hv H e _ fun H1 e1 => ⟨Or.inl ⟨rfl, ws, sq_of (e1 p _ hp)⟩, h H1 (e.trans e1) gb (hbx.mono (Ex.refl G) e1) _ fun r v G2 H2 hP g hb2 hv2 => by
  have h2 := g.h p _ (e1 p _ hp) pb
  have g2 : G2 p = none := g.n p _ (e1 p _ hp) gp
  refine ⟨p, ws, v, rfl, rfl, h2, sz_lt (by rw [ra.len]; omega), k r (ws ++ [v]) G2 _ hP g.g (fun a o z n nb => ?_) (Ex.mut g.i g2) (fun a o z n => g.n a o (e1 a o z) n) ?_ upd_same ((ra.mono g.g).snoc hv2)⟩
  · rw [upd_ne n]
    exact g.h a o (e1 a o z) nb
  · exact hb2.mono' (Ex.refl _) fun o z => by rw [upd_ne (Ne.symm pb)]; exact z⟩
end
section
variable {K : PySem.W.Frag} {σ : L2.St} {G H : Hp} {te ta tb : TE} {tl th : TO}
theorem RA.drop {H : Hp} : ∀ {vs : List V} {rs : List Rp} (n : Nat), RA H vs rs → RA H (vs.drop n) (rs.drop n)
  | _, _, 0, h => h
  | _, _, _ + 1, .nil => .nil
  | _, _, n + 1, .cons _ t => RA.drop n t
theorem RA.take {H : Hp} : ∀ {vs : List V} {rs : List Rp} (n : Nat), RA H vs rs → RA H (vs.take n) (rs.take n)
  | _, _, 0, _ => .nil
  | _, _, _ + 1, .nil => .nil
  | _, _, n + 1, .cons h t => .cons h (RA.take n t)
def cutR {α : Type} (xs : List α) (lo hi : Option Int) : List α := (xs.drop (HT.sIx xs.length 0 lo)).take (HT.sIx xs.length xs.length hi - HT.sIx xs.length 0 lo)
theorem cutR_map {α β : Type} (f : α → β) (l : List α) (lo hi : Option Int) : cutR (l.map f) lo hi = (cutR l lo hi).map f := by
  unfold cutR
  rw [List.length_map, List.map_take, List.map_drop]
/-- xs[lo:hi] -/
theorem en_slL {rs : List Rp} {lo hi : Option Int} (h : EvD te σ G (rLs K rs)) (h1 : ∀ G', Ex G G' → EvO tl σ G' lo) (h2 : ∀ G', Ex G G' → EvO th σ G' hi) : EvN (tSl (rSlL K) te tl th) σ G (cutR rs lo hi) := fun H e Q q =>
  h H e _ fun v G2 H2 g hv => by
    obtain ⟨a, vs, rfl, s1, ra⟩ := hv
    refine h1 G2 g.g H2 g.i _ fun H3 e3 => h2 G2 g.g H3 (g.i.trans e3) _ fun H4 e4 => ?_
    refine ⟨a, vs, rfl, ex_l ((g.i.trans e3).trans e4) s1, fun p hp => ?_⟩
    have gg := (g.more e3).more e4
    refine q p (cutV vs lo hi) G2 _ (gg.more (Ex.new hp)) (fresh_back gg.h hp) (fresh_back gg.i hp) upd_same ?_
    unfold cutV cutR
    rw [ra.len]
    exact (ra.drop _).take _
/-! ### ints that are not known: a list of ints -/
theorem ra_ints_eq {H : Hp} : ∀ {l : List Int} {vs : List V}, RA H vs (l.map rI) → vs = l.map V.int
  | [], _, .nil => rfl
  | n :: r, _, .cons h t => by
    have e1 := ra_ints_eq (l := r) t
    have e2 : _ = V.int n := h
    rw [e1, e2]; rfl
theorem ra_ints {H : Hp} : ∀ {l : List Int}, RA H (l.map V.int) (l.map rI)
  | [] => .nil
  | _ :: r => .cons rfl (ra_ints (l := r))
def spBoxMk (K : PySem.W.Frag) : Sp := fun vs H Q _ => ∃ (a : Addr) (ns : List Int), vs = [.ref a] ∧ SqL K H a (ns.map V.int) ∧ ns.length ≤ 63 ∧ ∀ b G2 H2, Ex H G2 → Ex G2 H2 → H b = none → G2 b = none → Box K G2 H2 b → Q (.ref b) H2
theorem ev_abs {i : Int} (h : Ev te σ G (.int i)) : Ev (tCB (fun xs H Q => ∃ i, xs = [.int i] ∧ Q (.int (if i < 0 then -i else i)) H) (tCons te tNil)) σ G (.int (if i < 0 then -i else i)) := fun H e Q q => h H e _ fun H2 e2 => ⟨i, rfl, q H2 e2⟩
theorem ev_int {i : Int} (h : Ev te σ G (.int i)) : Ev (tCB (fun xs H Q => (∃ i, xs = [.int i] ∧ Q (.int i) H) ∨ ∃ k, xs = [.bl k] ∧ Q (.int (if k then 1 else 0)) H) (tCons te tNil)) σ G (.int i) := fun H e Q q => h H e _ fun H2 e2 => .inl ⟨i, rfl, q H2 e2⟩
end
section
variable {K : PySem.W.Frag} {σ : L2.St} {b p : Addr} {G H : Hp} {te ta tb : TE} {D : Ends}
theorem en_listR {n : Nat} (h : Ev te σ G (.int (n : Int))) (hn : n ≤ 1000000) : EvN (tLstRg (tRg1 te)) σ G ((List.range n).map nI) := fun H e Q q => h H e _ fun H2 e2 =>
  ⟨(n : Int), rfl, RgOk.of_le (by omega) (by omega) (by omega) (by omega), fun l hl => by
    have eq : rgV 0 (n : Int) = (List.range n).map fun (i : Nat) => V.int (i : Int) := by
      unfold rgV
      rw [Int.sub_zero, Int.toNat_natCast]
      exact List.map_congr_left fun a _ => by rw [Int.zero_add]
    refine q l _ G _ (((Gr.refl e).more e2).more (Ex.new hl)) (fresh_back e2 hl) (fresh_back (e.trans e2) hl) upd_same ?_
    rw [eq]
    exact ra_nats⟩
/-- xs[i] = a new list of ints that is made of what stands, xs itself among it -/
theorem s_setNI {ws : List V} {rs : List Rp} {l : List Nat} {j : Nat} (e : Ex G H) (hp : H p = some (.lst ws)) (gp : G p = none) (ra : RA G ws rs) (h : EvN te σ (upd G p (.lst ws)) (l.map nI)) (ho : Ev ta σ G (.ref p)) (hi : Ev tb σ G (.int (j : Int))) (hj : j < rs.length)
    (k : ∀ ws' G3 H3, Ex G G3 → (∀ a o, H a = some o → a ≠ p → H3 a = some o) → Ex G3 H3 → (∀ a o, H a = some o → G a = none → G3 a = none) → G3 p = none → H3 p = some (.lst ws') → RA G3 ws' (rs.set j (rLn K l)) → D.nx σ H3) :
    tAsg te (gSub ta tb rSetL) D σ H := h H (ex_add e hp) _ fun q vs G2 H2 g hq gq h2 ra2 => by
  have ev := ra_nats_eq ra2
  subst ev
  have pq : p ≠ q := ne_of_none hp hq
  refine ho H2 (e.trans g.h) _ fun H3 e3 => hi H3 ((e.trans g.h).trans e3) _ fun H4 e4 => ?_
  have e34 := e3.trans e4
  have gq0 : G q = none := fresh_back e hq
  refine ⟨p, ws, (j : Int), j, rfl, rfl, e34 _ _ (g.h _ _ hp), ixN_nat (by rw [ra.len]; exact hj), ?_⟩
  refine k (ws.set j (.ref q)) (upd G q (.lst (l.map fun (n : Nat) => V.int (n : Int)))) _ (Ex.new gq0) (fun a o z n => by rw [upd_ne n]; exact e34 _ _ (g.h _ _ z)) ?_ (fun a o z y => by rw [upd_ne (ne_of_none z hq)]; exact y) (by rw [upd_ne pq]; exact gp) upd_same ?_
  · refine Ex.mut (ex_add ((e.trans g.h).trans e34) (e34 _ _ h2)) (by rw [upd_ne pq]; exact gp)
  · exact RA.set (r := rLn K l) ⟨q, _, rfl, upd_same, ra_nats⟩ j (ra.mono (Ex.new gq0))
/-- [a draw] -/
theorem ebn_lst1 {n : Nat} (h : EvB K te σ b G (PN n)) : EvBN K (tLst (tCons te tNil)) σ b G (fun rs => ∃ d, d < n ∧ rs = [nI d]) := fun H e gb hb Q q =>
  h H e gb hb _ fun r v G2 H2 p g hb2 hv => ⟨by show 1 ≤ sizeLine; decide, fun l hl => by
    obtain ⟨d, hd, rfl⟩ := p
    obtain rfl : v = V.int (d : Int) := hv
    have hlb : l ≠ b := fun z => by
      subst z
      obtain ⟨o, z2⟩ := hb2.at_
      rw [z2] at hl; cases hl
    have hlH : H l = none := by
      cases z : H l with
      | none => rfl
      | some o => rw [g.h l o z hlb] at hl; cases hl
    exact q [nI d] l [.int (d : Int)] G2 _ ⟨d, hd, rfl⟩ (g.more (Ex.new hl)) (hb2.mono (Ex.refl _) (Ex.new hl)) hlH (fresh_back g.i hl) upd_same (.cons rfl .nil)⟩
end
theorem bits_pow (d : Nat) : bitsN (2 ^ d) = [d] := by
  have h : (2 : Nat) ^ d < 2 ^ (d + 1) := Nat.pow_lt_pow_right (by decide) (by omega)
  rw [← bits_eq h, List.range_succ, List.filter_append]
  have h1 : (List.range d).filter (2 ^ d).testBit = [] := List.filter_eq_nil_iff.mpr fun a ha => by
    have := List.mem_range.mp ha
    rw [Nat.testBit_two_pow]
    simp
    omega
  rw [h1]
  simp [Nat.testBit_two_pow]
theorem pow_list {n : Nat} (h : n ≤ 6) : ([nI 1, nI 2, nI 4, nI 8, nI 16, nI 32, nI 64] : List Rp)[n]? = some (nI (2 ^ n)) := by
  have : n = 0 ∨ n = 1 ∨ n = 2 ∨ n = 3 ∨ n = 4 ∨ n = 5 ∨ n = 6 := by omega
  rcases this with rfl | rfl | rfl | rfl | rfl | rfl | rfl <;> rfl
theorem pow_list6 {n : Nat} (h : n ≤ 5) : ([nI 1, nI 2, nI 4, nI 8, nI 16, nI 32] : List Rp)[n]? = some (nI (2 ^ n)) := by
  have : n = 0 ∨ n = 1 ∨ n = 2 ∨ n = 3 ∨ n = 4 ∨ n = 5 := by omega
  rcases this with rfl | rfl | rfl | rfl | rfl | rfl <;> rfl
theorem test_div (m w : Nat) : decide (((m : Int) / ((2 ^ w : Nat) : Int)) % 2 = 1) = m.testBit w := by
  rw [← Int.natCast_ediv, Bool.eq_iff_iff, decide_eq_true_iff, ← shr_test, Nat.testBit_zero, decide_eq_true_iff]
  omega
/-- behind an append to a list p of our own -/
theorem GrB.app {b p : Addr} {G0 H0 G H G3 H3 : Hp} (g : GrB b G0 H0 G H) (hp0 : H0 p = none) (gb0 : G0 b = none) (hb0 : ∃ o, H0 b = some o) (hb : ∃ o, H b = some o) (e3 : Ex G G3) (k3 : ∀ a o, H a = some o → a ≠ p → a ≠ b → H3 a = some o) (i3 : Ex G3 H3) (n3 : ∀ a o, H a = some o → G a = none → G3 a = none) : GrB b G0 H0 G3 H3 where
  g := g.g.trans e3
  h := fun a o z nb => k3 a o (g.h a o z nb) (ne_of_none z hp0) nb
  i := i3
  n := fun a o z y => by
    have y2 := g.n a o z y
    by_cases q : a = b
    · subst q
      obtain ⟨o2, z2⟩ := hb
      exact n3 a o2 z2 y2
    · exact n3 a o (g.h a o z q) y2
theorem GrB.fresh {b p : Addr} {G H G2 H2 : Hp} (g : GrB b G H G2 H2) (hb2 : ∃ o, H2 b = some o) (hp : H2 p = none) : H p = none ∧ p ≠ b := by
  have hpb : p ≠ b := fun z => by
    subst z
    obtain ⟨o, z2⟩ := hb2
    rw [z2] at hp; cases hp
  refine ⟨?_, hpb⟩
  cases z : H p with
  | none => rfl
  | some o => rw [g.h p o z hpb] at hp; cases hp
section
variable {K : PySem.W.Frag} {σ : L2.St} {G H : Hp} {te ta tb tf : TE} {C : Addr} {m : List Nat} {sp : Sp} {E : XK}
/-- xs + ys -/
theorem en_cat {rs ss : List Rp} (ha : EvD ta σ G (rL K rs)) (hb : EvD tb σ G (rL K ss)) (hz : rs.length + ss.length ≤ 100000) : EvN (tOp rCat ta tb) σ G (rs ++ ss) := en_op ha hb fun x y G2 H e1 e2 hx hy Q q => by
  obtain ⟨a, vs, rfl, h1, h2⟩ := hx
  obtain ⟨a', vs', rfl, h1', h2'⟩ := hy
  refine ⟨a, a', vs, vs', rfl, rfl, e2 _ _ h1, e2 _ _ h1', sz_of (by rw [h2.len, h2'.len]; exact hz), fun p hp => ?_⟩
  exact q p _ G2 _ ((Gr.refl e2).more (Ex.new hp)) hp (fresh_back e2 hp) upd_same (h2.append h2')
/-- table(words) -/
theorem en_callT {ss rs : List Rp} {ta : TA} (hf : EvD tf σ G (rTab K C m)) (ha : EvAD ta σ G ss) (hs : ∀ x vs G2, Ex G G2 → (rTab K C m).p x G2 → RA G2 vs ss → SpN sp (x :: vs) G2 rs) : EvN (tCallOwn C sp E tf ta) σ G rs := fun H e Q q =>
  hf H e _ fun x G2 H2 g hx => by
    obtain ⟨a, dx, t, c, rfl, h2, h3⟩ := id hx
    refine ⟨a, rfl, (ha.mono g.g) H2 g.i _ fun vs G3 H3 g3 ra => ⟨⟨dx, _, g3.h _ _ (g.i _ _ h2)⟩, hs _ vs G3 (g.g.trans g3.g) ((rTab K C m).mono g3.g hx) ra H3 g3.i Q (fun p ws G4 H4 g4 hp gp h4 ra4 => q p ws G4 H4 ((g.trans g3).trans g4) (fresh_back (g.h.trans g3.h) hp) gp h4 ra4) E⟩⟩
end
section
variable {K : PySem.W.Frag} {σ : L2.St} {b : Addr} {G H : Hp} {te ta tb : TE} {D : Ends} {tu tw : TS}
/-- a test by draws alone -/
def EvTBI (K : PySem.W.Frag) (tt : TT) (σ : L2.St) (b : Addr) (G : Hp) (P : Bool → Prop) : Prop := ∀ H, Ex G H → G b = none → Box K G H b → ∀ Q : Bool → Hp → Prop, (∀ c H2, P c → (∀ a o, H a = some o → a ≠ b → H2 a = some o) → (∀ G', Box K G' H b → Box K G' H2 b) → Q c H2) → tt σ H Q
theorem etbi_eq {n : Nat} {y : Int} (ha : EvBI K ta σ b G (fun v => ∃ d : Nat, d < n ∧ v = .int (d : Int))) : EvTBI K (tTest (tOp rEq ta (tC (.int y)))) σ b G (fun c => ∃ d : Nat, d < n ∧ c = decide (V.int (d : Int) = V.int y)) := fun H e gb hb Q q =>
  ha H e gb hb _ fun v H2 ⟨d, hd, hv⟩ k s => by
    subst hv
    exact ⟨rfl, _, rfl, q _ H2 ⟨d, hd, rfl⟩ k s⟩
theorem etbi_and {t u : TT} {c : Bool} {P : Bool → Prop} (h1 : EvT t σ G c) (h2 : c = true → EvTBI K u σ b G P) : EvTBI K (tAnd t u) σ b G (fun d => (c = false ∧ d = false) ∨ (c = true ∧ P d)) := fun H e gb hb Q q => h1 H e _ fun H1 e1 => by
  cases c with
  | true =>
    show u σ H1 Q
    exact h2 rfl H1 (e.trans e1) gb (hb.mono (Ex.refl G) e1) Q fun d H2 p k s => q d H2 (.inr ⟨rfl, p⟩) (fun a o z n => k a o (e1 a o z) n) fun G' hb' => s G' (hb'.mono (Ex.refl G') e1)
  | false =>
    show Q false H1
    exact q false H1 (.inl ⟨rfl, rfl⟩) (fun a o z _ => e1 a o z) fun G' hb' => hb'.mono (Ex.refl G') e1
theorem s_ifBI {t : TT} {P : Bool → Prop} (e : Ex G H) (gb : G b = none) (hb : Box K G H b) (h : EvTBI K t σ b G P) (h1 : P true → ∀ H2, (∀ a o, H a = some o → a ≠ b → H2 a = some o) → (∀ G', Box K G' H b → Box K G' H2 b) → tu D σ H2) (h2 : P false → ∀ H2, (∀ a o, H a = some o → a ≠ b → H2 a = some o) → (∀ G', Box K G' H b → Box K G' H2 b) → tw D σ H2) : tIfS t tu tw D σ H := h H e gb hb _ fun c H2 p k s => by
  cases c with
  | true =>
    show tu D σ H2
    exact h1 p H2 k s
  | false =>
    show tw D σ H2
    exact h2 p H2 k s
theorem GrB.same {b : Addr} {G0 H0 G H H2 : Hp} (g : GrB b G0 H0 G H) (gb : G b = none) (k : ∀ a o, H a = some o → a ≠ b → H2 a = some o) : GrB b G0 H0 G H2 := ⟨g.g, fun a o z n => k a o (g.h a o z n) n, fun a o z => k a o (g.i a o z) (fun q => by subst q; rw [gb] at z; cases z), g.n⟩
end
section
variable {K : PySem.W.Frag} {σ : L2.St} {b : Addr} {G H : Hp} {te : TE} {E : XK} {i0 : Nat}
/-- f(box, a drawn thing) -/
theorem ebn_callB {P1 : Rp → Prop} {P : List Rp → Prop} {R : List V → Hp → (List Rp → Prop) → Prop} (hv : σ[i0]? = some (some (.ref b))) (h : EvB K te σ b G P1) (hs : ∀ r v G2, P1 r → Ex G G2 → r.p v G2 → ∃ P', R [v] G2 P' ∧ ∀ rs, P' rs → P rs) : EvBN K (tCall (spBN K R) [] E (tCons (tVar i0) (tCons te tNil))) σ b G P := fun H e gb hb Q q =>
  ⟨.ref b, hv, h H e gb hb _ fun r v G2 H2 p g hb2 hr => by
    show spBN K R ([V.ref b, v] ++ []) H2 Q E
    rw [List.append_nil]
    obtain ⟨P', hR, hP⟩ := hs r v G2 p g.g hr
    have gb2 : G2 b = none := g.out gb hb.at_
    exact ⟨G2, b, [v], P', rfl, g.i, gb2, hb2, hR, fun rs' p' vs G3 H3 p3 g3 hb3 hp gp h3 ra => q rs' p' vs G3 H3 (hP rs' p3) (g.trans gb hb.at_ g3 hb2.at_) hb3 (g.fresh hb2.at_ hp).1 gp h3 ra⟩⟩
end
end Mu

theorem L2.Room.u65 {k : Nat} {A : PySem.Around} (r : L2.Room k A) : A.units + 65 < PySem.cLine := by have := r.un; omega
namespace Mu
open PySem PySem.Spec PyProof.Rows L2 Evl
section
variable {X : Cx} (K : PySem.W.Frag)
theorem op_inDK (hu : X.A.units + 65 < cLine) (hK : X.K = K := by rfl) : OpR X (compareOp .In) (rInD K) := hK ▸ op_inD hu
theorem op_notInDK (hu : X.A.units + 65 < cLine) (hK : X.K = K := by rfl) : OpR X (compareOp .NotIn) (rNotInD K) := hK ▸ op_notInD hu
end
section
variable {K : PySem.W.Frag} {σ : L2.St} {G H : Hp} {ta tb : TE}
theorem any_p (p : Nat × Nat) (l : List (Nat × Nat)) : ((l.map dP).any fun z => PyData.eqv z (dP p)) = decide (p ∈ l) := by
  rw [List.any_map, Bool.eq_iff_iff, List.any_eq_true, decide_eq_true_iff]
  constructor
  · rintro ⟨x, hx, h⟩
    have h2 : PyData.eqv (dP x) (dP p) = true := h
    rw [eqv_p] at h2
    rw [← of_decide_eq_true h2]; exact hx
  · intro h
    exact ⟨p, h, by show PyData.eqv (dP p) (dP p) = true; rw [eqv_p]; simp⟩
theorem ev_notInP {p : Nat × Nat} {l : List (Nat × Nat)} (ha : EvD ta σ G (rP K p)) (hb : EvD tb σ G (rL K (l.map (rP K)))) : Ev (tOp (rNotInD K) ta tb) σ G (.bl (!decide (p ∈ l))) :=
  ev_op2 ha hb fun x y H hx hy Q q => ⟨dP p, l.map dP, asd_p p x H hx, asd_list asd_p l y H hy, (sh_p p).ok (by decide), (sh_list sh_p l).ok (by decide), by rw [any_p]; exact q⟩
theorem ev_inP {p : Nat × Nat} {l : List (Nat × Nat)} (ha : EvD ta σ G (rP K p)) (hb : EvD tb σ G (rL K (l.map (rP K)))) : Ev (tOp (rInD K) ta tb) σ G (.bl (decide (p ∈ l))) :=
  ev_op2 ha hb fun x y H hx hy Q q => ⟨dP p, l.map dP, asd_p p x H hx, asd_list asd_p l y H hy, (sh_p p).ok (by decide), (sh_list sh_p l).ok (by decide), by rw [any_p]; exact q⟩
theorem et_notInP {p : Nat × Nat} {l : List (Nat × Nat)} (ha : EvD ta σ G (rP K p)) (hb : EvD tb σ G (rL K (l.map (rP K)))) : EvT (tTest (tOp (rNotInD K) ta tb)) σ G (!decide (p ∈ l)) := et_test (ev_notInP ha hb)
theorem et_inP {p : Nat × Nat} {l : List (Nat × Nat)} (ha : EvD ta σ G (rP K p)) (hb : EvD tb σ G (rL K (l.map (rP K)))) : EvT (tTest (tOp (rInD K) ta tb)) σ G (decide (p ∈ l)) := et_test (ev_inP ha hb)
theorem ev_isB {a b : Bool} (ha : Ev ta σ G (.bl a)) (hb : Ev tb σ G (.bl b)) : Ev (tOp rIsB ta tb) σ G (.bl (decide (a = b))) :=
  ev_op2 (Ev.d ha) (Ev.d hb) fun x y H hx hy Q q => ⟨a, b, hx, hy, q⟩
theorem ev_isNB {a b : Bool} (ha : Ev ta σ G (.bl a)) (hb : Ev tb σ G (.bl b)) : Ev (tOp rNotB ta tb) σ G (.bl (!decide (a = b))) :=
  ev_op2 (Ev.d ha) (Ev.d hb) fun x y H hx hy Q q => ⟨a, b, hx, hy, q⟩
theorem Gr.outB {b : Addr} {G2 H2 : Hp} (g : Gr G H G2 H2) (gb : G b = none) (hb : Box K G H b) : G2 b = none := by
  obtain ⟨o, z⟩ := hb.at_
  exact g.n b o z gb
theorem Ev.is {x y : V} {te : TE} (h : Ev te σ G x) (e : x = y) : Ev te σ G y := e ▸ h
end
theorem s_box {K : PySem.W.Frag} {σ : L2.St} {H : Hp} {D : Ends} {E : XK} {a : Addr} {ns : List Int} {i i0 : Nat} (hv : σ[i0]? = some (some (.ref a))) (hS : SqL K H a (ns.map V.int)) (hl : ns.length ≤ 63) (k : ∀ b G2 H2, Ex H G2 → Ex G2 H2 → H b = none → G2 b = none → Box K G2 H2 b → D.nx (σ.set i (some (.ref b))) H2) : tAsg (tCall (spBoxMk K) [] E (tCons (tVar i0) tNil)) (gName i) D σ H :=
  ⟨.ref a, hv, a, ns, rfl, hS, hl, k⟩
/-! ### a comprehension within a comprehension -/
theorem look_re {env : Env} : ∀ {names : List (Str × NameKind)} {x : Str} {k : NameKind}, names.lookup x = some k →
    (names.map fun (n, k) => if (k == NameKind.free && env.scope.kind == .function && env.kindOf n == some .cell) then (n, NameKind.cell) else (n, k)).lookup x = some k ∨ (k = .free ∧ (names.map fun (n, k) => if (k == NameKind.free && env.scope.kind == .function && env.kindOf n == some .cell) then (n, NameKind.cell) else (n, k)).lookup x = some .cell)
  | [], _, _, h => by simp at h
  | (n, k) :: r, x, k', h => by
    have ih := @look_re env r x k'
    show List.lookup x ((if (k == NameKind.free && env.scope.kind == .function && env.kindOf n == some .cell) = true then (n, NameKind.cell) else (n, k)) :: _) = _ ∨ (_ ∧ List.lookup x ((if (k == NameKind.free && env.scope.kind == .function && env.kindOf n == some .cell) = true then (n, NameKind.cell) else (n, k)) :: _) = _)
    by_cases hc : (k == NameKind.free && env.scope.kind == .function && env.kindOf n == some .cell) = true
    · rw [if_pos hc]
      cases hx : x == n with
      | true =>
        simp only [List.lookup_cons, hx] at h
        have hk : k = .free := by
          simp only [Bool.and_eq_true] at hc
          exact eq_of_beq hc.1.1
        refine .inr ⟨by rw [← Option.some.inj h, hk], by simp [List.lookup_cons, hx]⟩
      | false =>
        simp only [List.lookup_cons, hx] at h ⊢
        exact ih h
    · rw [if_neg hc]
      cases hx : x == n with
      | true =>
        simp only [List.lookup_cons, hx] at h ⊢
        exact .inl h
      | false =>
        simp only [List.lookup_cons, hx] at h ⊢
        exact ih h
theorem vis_re {sc : Scope} {env : Env} {x : Str} (h : Vis sc x) : Vis (relabel sc env) x := by
  rcases h with h | h | h
  · rcases look_re (env := env) h with q | ⟨q, _⟩
    · exact .inl q
    · cases q
  · rcases look_re (env := env) h with q | ⟨q, _⟩
    · exact .inr (.inl q)
    · cases q
  · rcases look_re (env := env) h with q | ⟨_, q⟩
    · exact .inr (.inr q)
    · exact .inr (.inl q)
theorem blkOk_re {N : List Str} {sc scope : Scope} {own : List (Str × Nat)} {env : Env} (h : BlkOk N sc scope own) : BlkOk N (relabel sc env) scope own :=
  ⟨h.kind, h.uniq, h.ix, fun y hy e => by
    rcases h.free y hy e with q | q
    · rcases look_re (env := env) q with q | ⟨q, _⟩
      · exact .inl q
      · cases q
    · rcases look_re (env := env) q with q | ⟨_, q⟩
      · exact .inr q
      · exact .inl q, h.own⟩
section
variable {X : Cx}
/-- a name within a block -/
theorem pvB (i : Nat) {sc : Scope} {env : Env} {x : Str} {pos : Pos} (hN : X.N[i]? = some x := by rfl) (hv : Vis sc x := by first | exact Or.inl rfl | exact Or.inr (Or.inl rfl) | exact Or.inr (Or.inr rfl)) (hd : (x == ("__debug__" : Str)) = false := by decide)
    (hcd : (x == ("__classdict__" : Str)) = false := by decide) (hs : X.env.scope = relabel sc env := by rfl) : PE X (.Name x pos) (tVar i) := pe_var hN (hs ▸ vis_re hv) hd hcd
end
/-! ### masks -/
theorem bits_acc (f : Nat → Bool) (n : Nat) : bitsN (accTo f n) = (List.range n).filter f := by
  rw [← bits_eq (accTo_lt f n)]
  refine List.filter_congr fun a ha => ?_
  rw [accTo_bit, decide_eq_true (List.mem_range.mp ha)]; rfl
def insideN (f w : List Nat) : Bool := (List.range f.length).all fun i => subN (f.getD i 0) (w.getD i 0)
theorem insideN_iff {n : Nat} {f w : List Nat} (wf : Wf n f) : insideN f w = true ↔ ∀ a b, bitOf f a b = true → bitOf w a b = true := by
  unfold insideN
  rw [List.all_eq_true]
  constructor
  · intro h a b hb
    have ha := (wf.bit hb).1
    exact (subN_iff _ _).mp (h a (List.mem_range.mpr (by rw [wf.len]; exact ha))) b hb
  · intro h a _
    exact (subN_iff _ _).mpr fun b hb => h a b hb
theorem inside_behind {n : Nat} {F M W : List Nat} (wf : Wf n F) (wm : Wf n M) (ww : Wf n W) : insideN (prodN F M) W = insideN M (behindN F W) := by
  rw [Bool.eq_iff_iff, insideN_iff (prodN_wf wf wm), insideN_iff wm]
  constructor
  · intro h mid c hb
    obtain ⟨hm, hc⟩ := wm.bit hb
    exact (behindN_bit wf hm).mpr ⟨hc, fun j hj q => h j c ((prodN_bit wf wm hj).mpr ⟨mid, hm, q, hb⟩)⟩
  · intro h a c hb
    have ha := ((prodN_wf wf wm).bit hb).1
    obtain ⟨b, hb', q1, q2⟩ := (prodN_bit wf wm ha).mp hb
    exact ((behindN_bit wf hb').mp (h b c q2)).2 a ha q1
theorem inside_ahead {n : Nat} {F M W : List Nat} (wf : Wf n F) (wm : Wf n M) (ww : Wf n W) : insideN (prodN F M) W = insideN F (aheadN W M) := by
  rw [Bool.eq_iff_iff, insideN_iff (prodN_wf wf wm), insideN_iff wf]
  constructor
  · intro h a b hb
    obtain ⟨ha, hb'⟩ := wf.bit hb
    exact (aheadN_bit ww ha).mpr ⟨hb', fun c q => h a c ((prodN_bit wf wm ha).mpr ⟨b, hb', hb, q⟩)⟩
  · intro h a c hb
    have ha := ((prodN_wf wf wm).bit hb).1
    obtain ⟨b, hb', q1, q2⟩ := (prodN_bit wf wm ha).mp hb
    exact ((aheadN_bit ww ha).mp (h a b q1)).2 c q2
theorem inside_self {n : Nat} {F : List Nat} (wf : Wf n F) : insideN F F = true := (insideN_iff wf).mpr fun _ _ h => h
theorem mem_pairs {m : List Nat} {p : Nat × Nat} : p ∈ pairsN m ↔ p.1 < m.length ∧ bitOf m p.1 p.2 = true := by
  unfold pairsN
  rw [List.mem_flatMap]
  constructor
  · rintro ⟨a, ha, h⟩
    obtain ⟨b, hb, rfl⟩ := List.mem_map.mp h
    exact ⟨List.mem_range.mp ha, mem_bits.mp hb⟩
  · rintro ⟨h1, h2⟩
    exact ⟨p.1, List.mem_range.mpr h1, List.mem_map.mpr ⟨p.2, mem_bits.mpr h2, rfl⟩⟩
theorem due_inside {n : Nat} {J W : List Nat} (wj : Wf n J) (ww : Wf n W) : decide (((pairsN J).filter fun p => !decide (p ∈ pairsN W)).length = 0) = insideN J W := by
  rw [Bool.eq_iff_iff, decide_eq_true_iff, insideN_iff wj]
  constructor
  · intro h a b hb
    have h1 := List.filter_eq_nil_iff.mp (List.eq_nil_of_length_eq_zero h) (a, b) (mem_pairs.mpr ⟨by rw [wj.len]; exact (wj.bit hb).1, hb⟩)
    by_cases q : (a, b) ∈ pairsN W
    · exact (mem_pairs.mp q).2
    · exact absurd (by rw [decide_eq_false q]; rfl) h1
  · intro h
    rw [List.filter_eq_nil_iff.mpr fun p hp => ?_]
    · rfl
    · obtain ⟨h1, h2⟩ := mem_pairs.mp hp
      rw [decide_eq_true (mem_pairs.mpr ⟨by rw [ww.len, ← wj.len]; exact h1, h p.1 p.2 h2⟩)]
      simp
def pairsTo (m : List Nat) (i : Nat) : List (Nat × Nat) := (List.range i).flatMap fun a => (bitsN (m.getD a 0)).map fun b => (a, b)
theorem pairsTo_succ (m : List Nat) (i : Nat) : pairsTo m (i + 1) = pairsTo m i ++ (bitsN (m.getD i 0)).map fun b => (i, b) := by
  unfold pairsTo
  rw [List.range_succ, List.flatMap_append]
  simp
theorem pairsTo_len {m : List Nat} {n : Nat} (h : ∀ a, (m.getD a 0) < 2 ^ n) (i : Nat) : (pairsTo m i).length ≤ i * n := by
  induction i with
  | zero => simp [pairsTo]
  | succ i ih =>
    rw [pairsTo_succ, List.length_append, List.length_map, Nat.succ_mul]
    have := bits_len (h i)
    omega
theorem set_wf {n : Nat} {m : List Nat} (h : Wf n m) {x : Nat} (hx : x < 2 ^ n) (i : Nat) : Wf n (m.set i x) := ⟨by rw [List.length_set]; exact h.len, fun y hy => by
  rcases List.mem_or_eq_of_mem_set hy with q | q
  · exact h.lt y q
  · rw [q]; exact hx⟩
theorem prodN_take {F M : List Nat} {i fm : Nat} (h : F[i]? = some fm) : prodN (F.take (i + 1)) M = prodN (F.take i) M ++ [imageN M fm] := by
  unfold prodN
  rw [List.take_add_one, h, List.map_append]; rfl
theorem rows_tab (n : Nat) (c : Nat → Nat → Bool) : ∃ M, Wf n M ∧ M.map bitsN = (List.range n).map fun a => (List.range n).filter (c a) := ⟨tabOf n c, tabOf_wf n c, tabOf_bits⟩
end Mu

namespace Mu
open PySem PySem.Spec PyProof.Rows L2 Evl
/-! ### the slots by what they stand for -/
abbrev Ctx := List (Option Rp)
def Sl (G : Hp) (o : Option V) (r : Option Rp) : Prop := ∀ q, r = some q → ∃ v, o = some v ∧ q.p v G
abbrev En (σ : L2.St) (G : Hp) (Γ : Ctx) : Prop := Paired (fun o r => Sl G o r) σ Γ
section
variable {σ : L2.St} {G G' : Hp} {Γ Γ' : Ctx} {r : Rp} {v : V} {i : Nat}
theorem Sl.mono (e : Ex G G') {o : Option V} {q : Option Rp} (h : Sl G o q) : Sl G' o q := fun x hx => by
  obtain ⟨v, h1, h2⟩ := h x hx
  exact ⟨v, h1, x.mono e h2⟩
theorem En.mono (e : Ex G G') (h : En σ G Γ) : En σ G' Γ := Paired.mono (fun _ _ z => Sl.mono e z) h
theorem En.get : ∀ {σ : L2.St} {Γ : Ctx} {i : Nat}, En σ G Γ → Γ[i]? = some (some r) → ∃ v, σ[i]? = some (some v) ∧ r.p v G
  | _, _, _, .nil, h => by simp at h
  | _, _, 0, .cons h _, e => by
    simp at e
    obtain ⟨v, h1, h2⟩ := h r e
    exact ⟨v, by simp [h1], h2⟩
  | _, _, i + 1, .cons _ t, e => by
    obtain ⟨v, h1, h2⟩ := En.get (i := i) t (by simpa using e)
    exact ⟨v, by simpa using h1, h2⟩
theorem En.set (q : r.p v G) : ∀ {σ : L2.St} {Γ : Ctx} (i : Nat), En σ G Γ → En (σ.set i (some v)) G (Γ.set i (some r))
  | _, _, _, .nil => .nil
  | _, _, 0, .cons _ t => .cons (fun x hx => ⟨v, rfl, by cases hx; exact q⟩) t
  | _, _, i + 1, .cons h t => .cons h (En.set q i t)
theorem En.wipe1 : ∀ {σ : L2.St} {Γ : Ctx} (i : Nat), En σ G Γ → En (σ.set i none) G (Γ.set i none)
  | _, _, _, .nil => .nil
  | _, _, 0, .cons _ t => .cons (fun x hx => nomatch hx) t
  | _, _, i + 1, .cons h t => .cons h (En.wipe1 i t)
def wipeC (Γ : Ctx) : List Nat → Ctx
  | [] => Γ
  | v :: vs => (wipeC Γ vs).set v none
theorem En.wipe (h : En σ G Γ) : ∀ vs : List Nat, En (wipe σ vs) G (wipeC Γ vs)
  | [] => h
  | v :: vs => (En.wipe h vs).wipe1 v
/-- Γ knows at least what Γ' knows -/
abbrev Sub (Γ Γ' : Ctx) : Prop := Paired (fun (a b : Option Rp) => b = none ∨ a = b) Γ Γ'
theorem En.weak : ∀ {σ : L2.St} {Γ Γ' : Ctx}, En σ G Γ → Sub Γ Γ' → En σ G Γ'
  | _, _, _, .nil, .nil => .nil
  | _, _, _, .cons h t, .cons q u => .cons (fun x hx => by
      rcases q with q | q
      · rw [q] at hx; cases hx
      · exact h x (q.trans hx)) (En.weak t u)
theorem En.start (N : List Str) {vs : List V} {rs : List Rp} (h : RA G vs rs) (hn : N.length - vs.length = k) : En (L2.start N vs) G (rs.map some ++ List.replicate k none) := by
  unfold L2.start
  rw [hn]
  have h2 : En (List.replicate k none) G (List.replicate k none) := by
    clear hn
    induction k with
    | zero => exact .nil
    | succ k ih => exact .cons (fun x hx => nomatch hx) ih
  clear hn
  induction h with
  | nil => exact h2
  | cons a t ih => exact .cons (fun x hx => ⟨_, rfl, by cases hx; exact a⟩) ih
theorem wipe_in {x : V} {j : Nat} : ∀ {vs : List Nat} (τ : L2.St), j ∈ vs → wipe (τ.set j (some x)) vs = wipe τ vs
  | [], _, h => nomatch h
  | u :: vs, τ, h => by
    unfold wipe
    by_cases c : j ∈ vs
    · rw [wipe_in τ c]
    · have e : j = u := by
        rcases List.mem_cons.mp h with q | q
        · exact q
        · exact absurd q c
      subst e
      rw [show ∀ (vs : List Nat), j ∉ vs → wipe (τ.set j (some x)) vs = (wipe τ vs).set j (some x) from fun vs => by
        induction vs with
        | nil => intro _; rfl
        | cons w ws ih =>
          intro hn
          unfold wipe
          rw [ih fun z => hn (List.mem_cons_of_mem _ z), List.set_comm _ _ (fun z => hn (by rw [z]; exact List.mem_cons_self))]]
      · rw [List.set_set]
      · exact c
theorem wipe_idem (σ : L2.St) : ∀ vs : List Nat, wipe (wipe σ vs) vs = wipe σ vs := by
  have key : ∀ (vs : List Nat) (τ : L2.St), (∀ i ∈ vs, ∀ x, τ[i]? ≠ some (some x)) → wipe τ vs = τ := fun vs => by
    induction vs with
    | nil => intro τ _; rfl
    | cons u vs ih =>
      intro τ h
      unfold wipe
      rw [ih τ fun i hi => h i (List.mem_cons_of_mem _ hi)]
      apply List.ext_getElem?
      intro i
      by_cases c : u = i
      · subst c
        rw [List.getElem?_set_self']
        cases q : τ[u]? with
        | none => rfl
        | some o =>
          cases o with
          | none => rfl
          | some x => exact absurd q (h u List.mem_cons_self x)
      · rw [List.getElem?_set_ne c]
  intro vs
  exact key vs _ fun i hi x hx => (wipe_some hx).2 hi
theorem wipe_turn (σ : L2.St) {vs : List Nat} {j : Nat} (h : j ∈ vs) (x : V) : wipe ((wipe σ vs).set j (some x)) vs = wipe σ vs := by rw [wipe_in _ h, wipe_idem]
end
/-! ### things that may change -/
structure Re where
  own : Bool
  ft : List Addr
  p : Hp → Hp → Prop
  mono : ∀ {G G' H : Hp}, Ex G G' → p G H → p G' H
  loc : ∀ {G H H' : Hp}, (∀ a ∈ ft, ∀ o, H a = some o → H' a = some o) → p G H → p G H'
  at_ : ∀ {G H : Hp}, p G H → ∀ a ∈ ft, ∃ o, H a = some o
def feet (M : List Re) : List Addr := M.flatMap Re.ft
theorem mem_feet {M : List Re} {r : Re} {a : Addr} (h : r ∈ M) (ha : a ∈ r.ft) : a ∈ feet M := List.mem_flatMap.mpr ⟨r, h, ha⟩
/-- a list of our own -/
def lstR (p : Addr) (rs : List Rp) : Re where
  own := true
  ft := [p]
  p := fun G H => ∃ ws, H p = some (.lst ws) ∧ RA G ws rs
  mono := fun e ⟨ws, h1, h2⟩ => ⟨ws, h1, h2.mono e⟩
  loc := fun k ⟨ws, h1, h2⟩ => ⟨ws, k p (List.mem_singleton.mpr rfl) _ h1, h2⟩
  at_ := fun ⟨ws, h1, _⟩ a ha => by rw [List.mem_singleton.mp ha]; exact ⟨_, h1⟩
def boxR (K : PySem.W.Frag) (b : Addr) : Re where
  own := false
  ft := [b]
  p := fun G H => Box K G H b
  mono := fun e h => h.mono e (Ex.refl _)
  loc := fun k h => h.mono' (Ex.refl _) fun o z => k b (List.mem_singleton.mpr rfl) o z
  at_ := fun h a ha => by rw [List.mem_singleton.mp ha]; exact h.at_
/-- where one came from: the footprint, the heap, what might be changed; Gl: a footprint on the way -/
structure Ba where
  G0 : Hp
  H0 : Hp
  F : List Addr
  Gl : Hp
structure Ok (B : Ba) (G H : Hp) (M : List Re) : Prop where
  g : Ex B.G0 G
  l : Ex B.Gl G
  h : ∀ a o, B.H0 a = some o → a ∉ B.F → H a = some o
  i : Ex G H
  n : ∀ a o, B.H0 a = some o → B.G0 a = none → G a = none
  k : ∀ a ∈ B.F, ∃ o, H a = some o
  m : ∀ r ∈ M, r.p G H
  z : ∀ a ∈ feet M, G a = none
  d : (feet M).Nodup
  f : ∀ r ∈ M, ∀ a ∈ r.ft, B.H0 a = none ∨ (r.own = false ∧ a ∈ B.F)
section
variable {B : Ba} {G H G2 H2 : Hp} {M : List Re} {R R' : Re} {k : Nat}
theorem Ok.gr (o : Ok B G H M) (g : Gr G H G2 H2) : Ok B G2 H2 M where
  g := o.g.trans g.g
  l := o.l.trans g.g
  h := fun a u z n => g.h a u (o.h a u z n)
  i := g.i
  n := fun a u z y => by
    by_cases c : a ∈ B.F
    · obtain ⟨u2, z2⟩ := o.k a c
      exact g.n a u2 z2 (o.n a u z y)
    · exact g.n a u (o.h a u z c) (o.n a u z y)
  k := fun a c => by
    obtain ⟨u, z⟩ := o.k a c
    exact ⟨u, g.h a u z⟩
  m := fun r hr => r.loc (fun a _ u z => g.h a u z) (r.mono g.g (o.m r hr))
  z := fun a ha => by
    obtain ⟨r, hr, hf⟩ := List.mem_flatMap.mp ha
    obtain ⟨u, z⟩ := r.at_ (o.m r hr) a hf
    exact g.n a u z (o.z a ha)
  d := o.d
  f := o.f
theorem Ok.ex (o : Ok B G H M) (e : Ex H H2) : Ok B G H2 M := o.gr ((Gr.refl o.i).more e)
theorem feet_set {M : List Re} {k : Nat} (hk : M[k]? = some R) (hf : R'.ft = R.ft) : feet (M.set k R') = feet M := by
  induction M generalizing k with
  | nil => rfl
  | cons a M ih =>
    cases k with
    | zero =>
      simp at hk
      subst hk
      show R'.ft ++ _ = a.ft ++ _
      rw [hf]
    | succ k =>
      show a.ft ++ feet (M.set k R') = a.ft ++ feet M
      rw [ih (by simpa using hk)]
theorem feet_apart {M : List Re} (hd : (feet M).Nodup) : ∀ {k : Nat} {R r : Re}, M[k]? = some R → r ∈ M.eraseIdx k → ∀ a ∈ r.ft, a ∉ R.ft := by
  induction M with
  | nil => intro k R r h; simp at h
  | cons b M ih =>
    intro k R r hk hr a ha hR
    have hd' : (b.ft ++ feet M).Nodup := hd
    have h3 := List.nodup_append.mp hd'
    cases k with
    | zero =>
      simp at hk hr
      subst hk
      exact h3.2.2 a hR a (mem_feet hr ha) rfl
    | succ k =>
      simp at hk hr
      have hRm : R ∈ M := List.mem_of_getElem? hk
      rcases hr with hr | hr
      · subst hr
        exact h3.2.2 a ha a (mem_feet hRm hR) rfl
      · exact ih h3.2.1 hk hr a ha hR
theorem mem_set_or {M : List Re} : ∀ {k : Nat} {R' r : Re}, r ∈ M.set k R' → r = R' ∨ r ∈ M.eraseIdx k := by
  induction M with
  | nil => intro k R' r h; simp at h
  | cons b M ih =>
    intro k R' r h
    cases k with
    | zero =>
      simp at h ⊢
      exact h
    | succ k =>
      simp at h ⊢
      rcases h with h | h
      · exact .inr (.inl h)
      · rcases ih h with q | q
        · exact .inl q
        · exact .inr (.inr q)
theorem mem_erase {M : List Re} {k : Nat} {r : Re} (h : r ∈ M.eraseIdx k) : r ∈ M := List.eraseIdx_subset h
/-- one of the things has changed -/
theorem Ok.chg (o : Ok B G H M) (hk : M[k]? = some R) (hf : R'.ft = R.ft) (ho : R'.own = R.own) (e : Ex G G2) (hh : ∀ a u, H a = some u → a ∉ R.ft → H2 a = some u) (i : Ex G2 H2) (n : ∀ a u, H a = some u → G a = none → G2 a = none) (m : R'.p G2 H2) : Ok B G2 H2 (M.set k R') where
  g := o.g.trans e
  l := o.l.trans e
  h := fun a u z c => hh a u (o.h a u z c) fun q => by
    rcases o.f R (List.mem_of_getElem? hk) a q with y | y
    · rw [y] at z; cases z
    · exact c y.2
  i := i
  n := fun a u z y => by
    by_cases c : a ∈ B.F
    · obtain ⟨u2, z2⟩ := o.k a c
      exact n a u2 z2 (o.n a u z y)
    · exact n a u (o.h a u z c) (o.n a u z y)
  k := fun a c => by
    obtain ⟨u, z⟩ := o.k a c
    by_cases q : a ∈ R.ft
    · exact R'.at_ m a (hf ▸ q)
    · exact ⟨u, hh a u z q⟩
  m := fun r hr => by
    rcases mem_set_or hr with q | q
    · rw [q]; exact m
    · exact r.loc (fun a ha u z => hh a u z (feet_apart o.d hk q a ha)) (r.mono e (o.m r (mem_erase q)))
  z := fun a ha => by
    rw [feet_set hk hf] at ha
    obtain ⟨r, hr, hf'⟩ := List.mem_flatMap.mp ha
    obtain ⟨u, z⟩ := r.at_ (o.m r hr) a hf'
    exact n a u z (o.z a ha)
  d := by rw [feet_set hk hf]; exact o.d
  f := fun r hr a ha => by
    rcases mem_set_or hr with q | q
    · subst q
      rw [ho]
      exact o.f R (List.mem_of_getElem? hk) a (hf ▸ ha)
    · exact o.f r (mem_erase q) a ha
theorem feet_snoc {M : List Re} : feet (M ++ [R]) = feet M ++ R.ft := by unfold feet; rw [List.flatMap_append]; simp
/-- a new thing of our own -/
theorem Ok.add (o : Ok B G H M) (g : Gr G H G2 H2) (hd : R.ft.Nodup) (hn : ∀ a ∈ R.ft, H a = none ∧ G2 a = none) (m : R.p G2 H2) : Ok B G2 H2 (M ++ [R]) := by
  have o2 := o.gr g
  refine ⟨o2.g, o2.l, o2.h, o2.i, o2.n, o2.k, fun r hr => ?_, fun a ha => ?_, ?_, fun r hr a ha => ?_⟩
  · rcases List.mem_append.mp hr with q | q
    · exact o2.m r q
    · rw [List.mem_singleton.mp q]; exact m
  · rw [feet_snoc] at ha
    rcases List.mem_append.mp ha with q | q
    · exact o2.z a q
    · exact (hn a q).2
  · rw [feet_snoc]
    refine List.nodup_append.mpr ⟨o.d, hd, fun a ha b hb e => ?_⟩
    subst e
    obtain ⟨r, hr, hf⟩ := List.mem_flatMap.mp ha
    obtain ⟨u, z⟩ := r.at_ (o.m r hr) a hf
    rw [(hn a hb).1] at z; cases z
  · rcases List.mem_append.mp hr with q | q
    · exact o.f r q a ha
    · rw [List.mem_singleton.mp q] at ha
      refine .inl ?_
      cases z : B.H0 a with
      | none => rfl
      | some u =>
        by_cases c : a ∈ B.F
        · obtain ⟨u2, z2⟩ := o.k a c
          rw [(hn a ha).1] at z2; cases z2
        · have := o.h a u z c
          rw [(hn a ha).1] at this; cases this
theorem feet_erase_sub {M : List Re} {k : Nat} {a : Addr} (h : a ∈ feet (M.eraseIdx k)) : a ∈ feet M := by
  obtain ⟨r, hr, hf⟩ := List.mem_flatMap.mp h
  exact mem_feet (mem_erase hr) hf
theorem feet_erase_nodup {M : List Re} : ∀ {k : Nat}, (feet M).Nodup → (feet (M.eraseIdx k)).Nodup := by
  induction M with
  | nil => intro k h; simpa using h
  | cons b M ih =>
    intro k h
    have h3 := List.nodup_append.mp (show (b.ft ++ feet M).Nodup from h)
    cases k with
    | zero => exact h3.2.1
    | succ k =>
      show (b.ft ++ feet (M.eraseIdx k)).Nodup
      exact List.nodup_append.mpr ⟨h3.1, ih h3.2.1, fun x hx y hy => h3.2.2 x hx y (feet_erase_sub hy)⟩
/-- a list of our own is not changed any more -/
theorem Ok.frz {p : Addr} {rs : List Rp} {K : PySem.W.Frag} (o : Ok B G H M) (hk : M[k]? = some (lstR p rs)) : ∃ G2, Ex G G2 ∧ Ok B G2 H (M.eraseIdx k) ∧ (rL K rs).p (.ref p) G2 := by
  have hm := List.mem_of_getElem? hk
  obtain ⟨ws, h1, h2⟩ := o.m _ hm
  have gp : G p = none := o.z p (mem_feet hm (List.mem_singleton.mpr rfl))
  have e : Ex G (upd G p (.lst ws)) := Ex.new gp
  refine ⟨upd G p (.lst ws), e, ⟨o.g.trans e, o.l.trans e, o.h, ex_add o.i h1, fun a u z y => ?_, o.k, fun r hr => r.mono e (o.m r (mem_erase hr)), fun a ha => ?_, feet_erase_nodup o.d, fun r hr => o.f r (mem_erase hr)⟩, ⟨p, ws, rfl, upd_same, h2.mono e⟩⟩
  · rcases o.f _ hm p (List.mem_singleton.mpr rfl) with q | q
    · rw [upd_ne (ne_of_none z q)]; exact o.n a u z y
    · exact absurd q.1 (show ¬ (true = false) by decide)
  · obtain ⟨r, hr, hf⟩ := List.mem_flatMap.mp ha
    have ne : a ≠ p := fun q => feet_apart o.d hk hr a hf (List.mem_singleton.mpr q)
    rw [upd_ne ne]
    exact o.z a (feet_erase_sub ha)
theorem Ok.drop (o : Ok B G H M) : Ok B G H (M.eraseIdx k) := ⟨o.g, o.l, o.h, o.i, o.n, o.k, fun r hr => o.m r (mem_erase hr), fun a ha => o.z a (feet_erase_sub ha), feet_erase_nodup o.d, fun r hr => o.f r (mem_erase hr)⟩
theorem Ok.nil (e : Ex G H) : Ok ⟨G, H, [], G⟩ G H [] := ⟨Ex.refl _, Ex.refl _, fun _ _ z _ => z, e, fun _ _ _ y => y, fun _ h => (nomatch h), fun _ h => (nomatch h), fun _ h => (nomatch h), List.nodup_nil, fun _ h => (nomatch h)⟩
theorem Ok.to {G0 H0 Gl : Hp} (o : Ok ⟨G0, H0, [], Gl⟩ G H M) : Gr G0 H0 G H := ⟨o.g, fun a u z => o.h a u z (fun q => nomatch q), o.i, o.n⟩
theorem Ok.box {K : PySem.W.Frag} {b : Addr} (e : Ex G H) (gb : G b = Option.none) (hb : Box K G H b) : Ok ⟨G, H, [b], G⟩ G H [boxR K b] :=
  ⟨Ex.refl _, Ex.refl _, fun _ _ z _ => z, e, fun _ _ _ y => y, fun a h => by rw [List.mem_singleton.mp h]; exact hb.at_, fun r h => by rw [List.mem_singleton.mp h]; exact hb, fun a h => by
    have : a ∈ [b] := by simpa [feet, boxR] using h
    rw [List.mem_singleton.mp this]; exact gb, by simp [feet, boxR], fun r h a ha => by
    rw [List.mem_singleton.mp h] at ha ⊢
    exact .inr ⟨rfl, ha⟩⟩
theorem Ok.toB {G0 H0 Gl : Hp} {b : Addr} (o : Ok ⟨G0, H0, [b], Gl⟩ G H M) : GrB b G0 H0 G H := ⟨o.g, fun a u z n => o.h a u z (fun q => n (List.mem_singleton.mp q)), o.i, o.n⟩
end
/-! ### readings -/
def EvX (Γ : Ctx) (te : TE) (r : Rp) : Prop := ∀ σ G, En σ G Γ → EvD te σ G r
def EvNX (Γ : Ctx) (te : TE) (rs : List Rp) : Prop := ∀ σ G, En σ G Γ → EvN te σ G rs
def EvTX (Γ : Ctx) (t : TT) (b : Bool) : Prop := ∀ σ G, En σ G Γ → EvT t σ G b
def EvAX (Γ : Ctx) (ta : TA) (rs : List Rp) : Prop := ∀ σ G, En σ G Γ → EvAD ta σ G rs
/-- with changes -/
def EX (Γ : Ctx) (M : List Re) (te : TE) (κ : Rp → List Re → Prop) : Prop := ∀ B G H σ, Ok B G H M → En σ G Γ → ∀ Q : VK, (∀ v G' H' r M', κ r M' → Ok B G' H' M' → Ex G G' → r.p v G' → Q v H') → te σ H Q
def EXT (Γ : Ctx) (M : List Re) (t : TT) (κ : Bool → List Re → Prop) : Prop := ∀ B G H σ, Ok B G H M → En σ G Γ → ∀ Q : Bool → Hp → Prop, (∀ c G' H' M', κ c M' → Ok B G' H' M' → Ex G G' → Q c H') → t σ H Q
section
variable {Γ : Ctx} {M : List Re} {te ta tb : TE} {t : TT} {r : Rp} {b : Addr} {K : PySem.W.Frag} {P : Rp → Prop} {k i : Nat}
theorem EX.of (h : EvX Γ te r) : EX Γ M te (fun r' M' => r' = r ∧ M' = M) := fun B G H σ o en Q q => h σ G en H o.i Q fun v G2 H2 g hv => q v G2 H2 r M ⟨rfl, rfl⟩ (o.gr g) g.g hv
theorem EXT.of {c : Bool} (h : EvTX Γ t c) : EXT Γ M t (fun c' M' => c' = c ∧ M' = M) := fun B G H σ o en Q q => h σ G en H o.i Q fun H2 e => q c G H2 M ⟨rfl, rfl⟩ (o.ex e) (Ex.refl _)
theorem EX.imp {κ κ' : Rp → List Re → Prop} (h : EX Γ M te κ) (hk : ∀ r M', κ r M' → κ' r M') : EX Γ M te κ' := fun B G H σ o en Q q => h B G H σ o en Q fun v G' H' r M' z => q v G' H' r M' (hk r M' z)
theorem set_same {M : List Re} {R : Re} (h : M[k]? = some R) : M.set k R = M := by
  apply List.ext_getElem?
  intro i
  by_cases c : k = i
  · subst c
    rw [List.getElem?_set_self', h]; rfl
  · rw [List.getElem?_set_ne c]
theorem Ok.grB {B : Ba} {G H G2 H2 : Hp} (o : Ok B G H M) (hk : M[k]? = some (boxR K b)) (g : GrB b G H G2 H2) (hb : Box K G2 H2 b) : Ok B G2 H2 M := by
  have := o.chg (R' := boxR K b) hk rfl rfl g.g (fun a u z n => g.h a u z fun q => n (List.mem_singleton.mpr q)) g.i g.n hb
  rwa [set_same hk] at this
theorem EX.ofB (hk : M[k]? = some (boxR K b)) (h : ∀ σ G, En σ G Γ → EvB K te σ b G P) : EX Γ M te (fun r M' => P r ∧ M' = M) := fun B G H σ o en Q q => by
  have hm := List.mem_of_getElem? hk
  have gb : G b = none := o.z b (mem_feet hm (List.mem_singleton.mpr rfl))
  exact h σ G en H o.i gb (o.m _ hm) Q fun r v G2 H2 p g hb hv => q v G2 H2 r M ⟨p, rfl⟩ (o.grB hk g hb) g.g hv
theorem EXT.ofB {P : Bool → Prop} (hk : M[k]? = some (boxR K b)) (h : ∀ σ G, En σ G Γ → EvTB K t σ b G P) : EXT Γ M t (fun c M' => P c ∧ M' = M) := fun B G H σ o en Q q => by
  have hm := List.mem_of_getElem? hk
  have gb : G b = none := o.z b (mem_feet hm (List.mem_singleton.mpr rfl))
  exact h σ G en H o.i gb (o.m _ hm) Q fun c G2 H2 p g hb => q c G2 H2 M ⟨p, rfl⟩ (o.grB hk g hb) g.g
/-- a list of our own is read -/
theorem Ok.rd {B : Ba} {G H : Hp} {p : Addr} {rs : List Rp} {σ : L2.St} (o : Ok B G H M) (hk : M[k]? = some (lstR p rs)) (hi : Γ[i]? = some (some (rV (.ref p)))) (en : En σ G Γ) : ∃ G2, Ex G2 H ∧ En σ G2 (Γ.set i (some (rL K rs))) := by
  have hm := List.mem_of_getElem? hk
  obtain ⟨ws, h1, h2⟩ := o.m _ hm
  have gp : G p = none := o.z p (mem_feet hm (List.mem_singleton.mpr rfl))
  have e : Ex G (upd G p (.lst ws)) := Ex.new gp
  obtain ⟨v, hv1, hv2⟩ := en.get hi
  obtain rfl : v = V.ref p := hv2
  refine ⟨upd G p (.lst ws), ex_add o.i h1, ?_⟩
  have z := En.set (r := rL K rs) (v := .ref p) ⟨p, ws, rfl, upd_same, h2.mono e⟩ i (en.mono e)
  have es : σ.set i (some (.ref p)) = σ := by
    apply List.ext_getElem?
    intro j
    by_cases c : i = j
    · subst c
      rw [List.getElem?_set_self', hv1]; rfl
    · rw [List.getElem?_set_ne c]
  rwa [es] at z
theorem EX.rd {p : Addr} {rs : List Rp} {v : V} (hk : M[k]? = some (lstR p rs)) (hi : Γ[i]? = some (some (rV (.ref p)))) (h : EvX (Γ.set i (some (rL K rs))) te (rV v)) : EX Γ M te (fun r M' => r = rV v ∧ M' = M) := fun B G H σ o en Q q => by
  obtain ⟨G2, e2, en2⟩ := o.rd (K := K) hk hi en
  exact h σ G2 en2 H e2 Q fun w G3 H3 g hw => q w G H3 (rV v) M ⟨rfl, rfl⟩ (o.ex g.h) (Ex.refl _) hw
theorem EXT.rd {p : Addr} {rs : List Rp} {c : Bool} (hk : M[k]? = some (lstR p rs)) (hi : Γ[i]? = some (some (rV (.ref p)))) (h : EvTX (Γ.set i (some (rL K rs))) t c) : EXT Γ M t (fun c' M' => c' = c ∧ M' = M) := fun B G H σ o en Q q => by
  obtain ⟨G2, e2, en2⟩ := o.rd (K := K) hk hi en
  exact h σ G2 en2 H e2 Q fun H3 e3 => q c G H3 M ⟨rfl, rfl⟩ (o.ex e3) (Ex.refl _)
end
/-! ### statements -/
structure Kn where
  nx : Ctx → List Re → Prop
  rt : Rp → List Re → Prop := fun _ _ => False
  bk : Ctx → List Re → Prop := fun _ _ => False
  ct : Ctx → List Re → Prop := fun _ _ => False
  /-- an exception: its class, its fields -/
  ex : Ctx → Value → List (Str × V) → List Re → Prop := fun _ _ _ _ => False
/-- an exception's dict -/
def XdOk (G : Hp) (fs : List (Str × V)) : Option Addr → Prop
  | some d => G d = some (.xd fs)
  | none => fs = []
theorem XdOk.mono {G G' : Hp} {fs : List (Str × V)} (e : Ex G G') : ∀ {d : Option Addr}, XdOk G fs d → XdOk G' fs d
  | some d, h => e d _ h
  | none, h => h
structure Dk (B : Ba) (W : WX) (D : Ends) (κ : Kn) : Prop where
  nx : ∀ σ G H Γ M, Ok B G H M → En σ G Γ → κ.nx Γ M → D.nx σ H
  rt : ∀ v G H r M, Ok B G H M → r.p v G → κ.rt r M → D.rt v H
  bk : ∀ σ G H Γ M, Ok B G H M → En σ G Γ → κ.bk Γ M → D.bk σ H
  ct : ∀ σ G H Γ M, Ok B G H M → En σ G Γ → κ.ct Γ M → D.ct σ H
  ex : ∀ σ G H Γ M cls d fs, Ok B G H M → En σ G Γ → XdOk G fs d → κ.ex Γ cls fs M → W cls d σ H
def WP (W : WX) (Γ : Ctx) (M : List Re) (t : TS) (κ : Kn) : Prop := ∀ B G H σ D, Ok B G H M → En σ G Γ → Dk B W D κ → t D σ H
section
variable {W : WX} {Γ Γ' : Ctx} {M : List Re} {te ta tb tl : TE} {t1 t2 tu tw : TS} {tt : TT} {κ : Kn} {r : Rp} {K : PySem.W.Frag} {i j k : Nat}
theorem w_seq (h : WP W Γ M t1 { κ with nx := fun Γ' M' => WP W Γ' M' t2 κ }) : WP W Γ M (tSeq t1 t2) κ := fun B G H σ D o en d =>
  h B G H σ _ o en ⟨fun σ' G' H' Γ' M' o' en' w => w B G' H' σ' D o' en' d, d.rt, d.bk, d.ct, d.ex⟩
theorem w_nx (h : κ.nx Γ M) : WP W Γ M tNext κ := fun B G H σ D o en d => d.nx σ G H Γ M o en h
theorem w_sub (hs : Sub Γ Γ') (h : WP W Γ' M t1 κ) : WP W Γ M t1 κ := fun B G H σ D o en d => h B G H σ D o (en.weak hs) d
theorem w_imp {κ' : Kn} (h : WP W Γ M t1 κ) (h1 : ∀ Γ M, κ.nx Γ M → κ'.nx Γ M) (h2 : ∀ r M, κ.rt r M → κ'.rt r M) (h3 : ∀ Γ M, κ.bk Γ M → κ'.bk Γ M) (h4 : ∀ Γ M, κ.ct Γ M → κ'.ct Γ M) (h5 : ∀ Γ c f M, κ.ex Γ c f M → κ'.ex Γ c f M) : WP W Γ M t1 κ' := fun B G H σ D o en d =>
  h B G H σ D o en ⟨fun σ G H Γ M o en z => d.nx σ G H Γ M o en (h1 Γ M z), fun v G H r M o hv z => d.rt v G H r M o hv (h2 r M z), fun σ G H Γ M o en z => d.bk σ G H Γ M o en (h3 Γ M z), fun σ G H Γ M o en z => d.ct σ G H Γ M o en (h4 Γ M z), fun σ G H Γ M c dd fs o en x z => d.ex σ G H Γ M c dd fs o en x (h5 Γ c fs M z)⟩
theorem w_set (h : EvX Γ te r) (hn : κ.nx (Γ.set i (some r)) M) : WP W Γ M (tAsg te (gName i)) κ := fun B G H σ D o en d =>
  h σ G en H o.i _ fun v G2 H2 g hv => d.nx _ G2 H2 _ M (o.gr g) ((en.mono g.g).set hv i) hn
theorem w_setE {κ1 : Rp → List Re → Prop} (h : EX Γ M te κ1) (hn : ∀ r M', κ1 r M' → κ.nx (Γ.set i (some r)) M') : WP W Γ M (tAsg te (gName i)) κ := fun B G H σ D o en d =>
  h B G H σ o en _ fun v G2 H2 r M' z o2 e hv => d.nx _ G2 H2 _ M' o2 ((en.mono e).set hv i) (hn r M' z)
/-- a new list of our own -/
theorem w_setN {rs : List Rp} (h : EvNX Γ te rs) (hn : ∀ p, κ.nx (Γ.set i (some (rV (.ref p)))) (M ++ [lstR p rs])) : WP W Γ M (tAsg te (gName i)) κ := fun B G H σ D o en d =>
  h σ G en H o.i _ fun p vs G2 H2 g hp gp h2 ra => d.nx _ G2 H2 _ _ (o.add (R := lstR p rs) g (show [p].Nodup by simp) (fun a ha => by rw [List.mem_singleton.mp ha]; exact ⟨hp, gp⟩) ⟨vs, h2, ra⟩) ((en.mono g.g).set (r := rV (.ref p)) rfl i) (hn p)
theorem w_ret (h : EvX Γ te r) (hn : κ.rt r M) : WP W Γ M (tRet te) κ := fun B G H σ D o en d => h σ G en H o.i _ fun v G2 H2 g hv => d.rt v G2 H2 r M (o.gr g) hv hn
theorem w_retE {κ1 : Rp → List Re → Prop} (h : EX Γ M te κ1) (hn : ∀ r M', κ1 r M' → κ.rt r M') : WP W Γ M (tRet te) κ := fun B G H σ D o en d =>
  h B G H σ o en _ fun v G2 H2 r M' z o2 e hv => d.rt v G2 H2 r M' o2 hv (hn r M' z)
theorem w_retN {rs : List Rp} (h : EvNX Γ te rs) (hn : ∀ p, κ.rt (rV (.ref p)) (M ++ [lstR p rs])) : WP W Γ M (tRet te) κ := fun B G H σ D o en d =>
  h σ G en H o.i _ fun p vs G2 H2 g hp gp h2 ra => d.rt _ G2 H2 (rV (.ref p)) _ (o.add (R := lstR p rs) g (show [p].Nodup by simp) (fun a ha => by rw [List.mem_singleton.mp ha]; exact ⟨hp, gp⟩) ⟨vs, h2, ra⟩) rfl (hn p)
theorem w_ret0 (hn : κ.rt (rV .non) M) : WP W Γ M tRetN κ := fun B G H σ D o en d => d.rt _ G H (rV .non) M o rfl hn
theorem w_if {b : Bool} (h : EvTX Γ tt b) (h1 : b = true → WP W Γ M tu κ) (h2 : b = false → WP W Γ M tw κ) : WP W Γ M (tIfS tt tu tw) κ := fun B G H σ D o en d =>
  h σ G en H o.i _ fun H2 e => by
    cases b with
    | true =>
      show tu D σ H2
      exact h1 rfl B G H2 σ D (o.ex e) en d
    | false =>
      show tw D σ H2
      exact h2 rfl B G H2 σ D (o.ex e) en d
theorem w_ifE {κ1 : Bool → List Re → Prop} (h : EXT Γ M tt κ1) (h1 : ∀ M', κ1 true M' → WP W Γ M' tu κ) (h2 : ∀ M', κ1 false M' → WP W Γ M' tw κ) : WP W Γ M (tIfS tt tu tw) κ := fun B G H σ D o en d =>
  h B G H σ o en _ fun b G2 H2 M' z o2 e => by
    cases b with
    | true =>
      show tu D σ H2
      exact h1 M' z B G2 H2 σ D o2 (en.mono e) d
    | false =>
      show tw D σ H2
      exact h2 M' z B G2 H2 σ D o2 (en.mono e) d
/-- a test whose answer is no -/
theorem w_no (h : EvTX Γ tt false) (h2 : WP W Γ M tw κ) : WP W Γ M (tIfS tt tu tw) κ := w_if h (fun z => nomatch z) fun _ => h2
theorem w_yes (h : EvTX Γ tt true) (h2 : WP W Γ M tu κ) : WP W Γ M (tIfS tt tu tw) κ := w_if h (fun _ => h2) fun z => nomatch z
theorem w_do (h : EvX Γ te r) (hn : κ.nx Γ M) : WP W Γ M (tDrop te) κ := fun B G H σ D o en d => h σ G en H o.i _ fun v G2 H2 g hv => d.nx _ G2 H2 _ M (o.gr g) (en.mono g.g) hn
theorem w_doE {κ1 : Rp → List Re → Prop} (h : EX Γ M te κ1) (hn : ∀ r M', κ1 r M' → κ.nx Γ M') : WP W Γ M (tDrop te) κ := fun B G H σ D o en d =>
  h B G H σ o en _ fun v G2 H2 r M' z o2 e hv => d.nx _ G2 H2 _ M' o2 (en.mono e) (hn r M' z)
/-- a list of our own stays from here on -/
theorem w_frz {p : Addr} {rs : List Rp} (K : PySem.W.Frag) (k i : Nat) (hk : M[k]? = some (lstR p rs)) (hi : Γ[i]? = some (some (rV (.ref p)))) (h : WP W (Γ.set i (some (rL K rs))) (M.eraseIdx k) t1 κ) : WP W Γ M t1 κ := fun B G H σ D o en d => by
  obtain ⟨G2, e, o2, hr⟩ := o.frz (K := K) hk
  obtain ⟨v, hv1, hv2⟩ := en.get hi
  obtain rfl : v = V.ref p := hv2
  have z := En.set (r := rL K rs) (v := .ref p) hr i (en.mono e)
  have es : σ.set i (some (.ref p)) = σ := by
    apply List.ext_getElem?
    intro j
    by_cases c : i = j
    · subst c
      rw [List.getElem?_set_self', hv1]; rfl
    · rw [List.getElem?_set_ne c]
  rw [es] at z
  exact h B G2 H σ D o2 z d
/-- xs.append(e) -/
theorem w_appE {p : Addr} {rs : List Rp} {κ1 : Rp → List Re → Prop} (k : Nat) (hi : Γ[i]? = some (some (rV (.ref p)))) (h : EX Γ M te κ1) (hz : rs.length < 50000) (hn : ∀ r M', κ1 r M' → M'[k]? = some (lstR p rs) ∧ κ.nx Γ (M'.set k (lstR p (rs ++ [r])))) (hk : M[k]? = some (lstR p rs)) :
    WP W Γ M (tDrop (tBM K "list" rAppend (tVar i) (tCons te tNil))) κ := fun B G H σ D o en d => by
  obtain ⟨v, hv1, hv2⟩ := en.get hi
  obtain rfl : v = V.ref p := hv2
  obtain ⟨ws0, hp0, ra0⟩ := o.m _ (List.mem_of_getElem? hk)
  refine ⟨.ref p, hv1, Or.inl ⟨rfl, ws0, sq_of hp0⟩, h B G H σ o en _ fun v G2 H2 r M' z o2 e hv => ?_⟩
  obtain ⟨hk2, hq⟩ := hn r M' z
  obtain ⟨ws, hp, ra⟩ := o2.m _ (List.mem_of_getElem? hk2)
  have gp : G2 p = none := o2.z p (mem_feet (List.mem_of_getElem? hk2) (List.mem_singleton.mpr rfl))
  refine ⟨p, ws, v, rfl, rfl, hp, sz_lt (by rw [ra.len]; omega), d.nx _ G2 _ _ _ (o2.chg (R' := lstR p (rs ++ [r])) hk2 rfl rfl (Ex.refl _) (fun a u z n => ?_) (Ex.mut o2.i gp) (fun _ _ _ y => y) ⟨ws ++ [v], upd_same, ra.snoc hv⟩) (en.mono e) hq⟩
  rw [upd_ne fun q => n (List.mem_singleton.mpr q)]
  exact z
theorem w_app {p : Addr} {rs : List Rp} (k : Nat) (hi : Γ[i]? = some (some (rV (.ref p)))) (h : EvX Γ te r) (hz : rs.length < 50000) (hk : M[k]? = some (lstR p rs)) (hn : κ.nx Γ (M.set k (lstR p (rs ++ [r])))) : WP W Γ M (tDrop (tBM K "list" rAppend (tVar i) (tCons te tNil))) κ :=
  w_appE k hi (EX.of h) hz (fun r' M' z => by obtain ⟨rfl, rfl⟩ := z; exact ⟨hk, hn⟩) hk
/-! loops: the data a : α that hold between two turns, by P, the slots and things then -/
variable {α β : Type}
def LI (P : Nat → α → Prop) (Γi : Nat → α → Ctx) (Mi : Nat → α → List Re) (n : Nat) : Ctx → List Re → Prop := fun Γ' M' => ∃ a, P n a ∧ Sub Γ' (Γi n a) ∧ M' = Mi n a
def kLoop (I : Ctx → List Re → Prop) (κ : Kn) : Kn := { nx := I, ct := I, bk := κ.nx, rt := κ.rt, ex := κ.ex }
def Pv (B : Ba) (I : Ctx → List Re → Prop) : L2.St → Hp → Prop := fun σ H => ∃ G Γ M, Ok B G H M ∧ En σ G Γ ∧ I Γ M
theorem Dk.loop {B : Ba} {D : Ends} {I : Ctx → List Re → Prop} (d : Dk B W D κ) : Dk B W { D with nx := Pv B I, ct := Pv B I, bk := D.nx } (kLoop I κ) :=
  ⟨fun σ G H Γ M o en z => ⟨G, Γ, M, o, en, z⟩, d.rt, d.nx, fun σ G H Γ M o en z => ⟨G, Γ, M, o, en, z⟩, d.ex⟩
theorem w_forR (n : Nat) (P : Nat → α → Prop) (Γi : Nat → α → Ctx) (Mi : Nat → α → List Re) (h : EvX Γ ta (nI n)) (hn : n ≤ 100000) (a0 : α) (p0 : P 0 a0) (s0 : Sub Γ (Γi 0 a0)) (m0 : M = Mi 0 a0)
    (hs : ∀ i a, i < n → P i a → WP W ((Γi i a).set j (some (nI i))) (Mi i a) tu (kLoop (LI P Γi Mi (i + 1)) κ)) (hd : ∀ a, P n a → κ.nx (Γi n a) (Mi n a)) : WP W Γ M (tFor (iRng1 (tCons ta tNil)) (gName j) tu) κ := fun B G H σ D o en d => by
  refine Mu.s_forR n o.i (ea_cons (EvD.ev (h σ G en)) ea_nil) hn (fun i σ' H' => ∃ G Γ M, Ok B G H' M ∧ En σ' G Γ ∧ LI P Γi Mi i Γ M) (fun H1 e => ⟨G, Γ, M, o.ex e, en, a0, p0, s0, m0⟩) (fun i σ' H' hi ⟨G1, Γ1, M1, o1, en1, a, pa, sa, ma⟩ => ?_) (fun σ' H' ⟨G1, Γ1, M1, o1, en1, a, pa, sa, ma⟩ => ?_)
  · subst ma
    exact hs i a hi pa B G1 H' _ _ o1 ((en1.weak sa).set (r := nI i) rfl j) d.loop
  · subst ma
    exact d.nx _ G1 H' _ _ o1 (en1.weak sa) (hd a pa)
/-- a footprint on the way is kept -/
def Ba.low (B : Ba) (G : Hp) : Ba := { B with Gl := G }
theorem Ok.low {B : Ba} {G H G1 : Hp} (o : Ok B G H M) (e : Ex G1 G) : Ok (B.low G1) G H M := ⟨o.g, e, o.h, o.i, o.n, o.k, o.m, o.z, o.d, o.f⟩
theorem Ok.up {B : Ba} {G H G1 : Hp} (o : Ok (B.low G1) G H M) (e : Ex B.Gl G1) : Ok B G H M := ⟨o.g, e.trans o.l, o.h, o.i, o.n, o.k, o.m, o.z, o.d, o.f⟩
theorem Dk.low {B : Ba} {D : Ends} {G1 : Hp} (d : Dk B W D κ) (e : Ex B.Gl G1) : Dk (B.low G1) W D κ := ⟨fun σ G H Γ M o en z => d.nx σ G H Γ M (o.up e) en z, fun v G H r M o hv z => d.rt v G H r M (o.up e) hv z, fun σ G H Γ M o en z => d.bk σ G H Γ M (o.up e) en z, fun σ G H Γ M o en z => d.ct σ G H Γ M (o.up e) en z, fun σ G H Γ M c dd fs o en x z => d.ex σ G H Γ M c dd fs (o.up e) en x z⟩
theorem w_forL (l : List β) (ρ : β → Rp) (P : Nat → α → Prop) (Γi : Nat → α → Ctx) (Mi : Nat → α → List Re) (h : EvX Γ tl (rL K (l.map ρ))) (a0 : α) (p0 : P 0 a0) (s0 : Sub Γ (Γi 0 a0)) (m0 : M = Mi 0 a0)
    (hs : ∀ i a x, l[i]? = some x → P i a → WP W ((Γi i a).set j (some (ρ x))) (Mi i a) tu (kLoop (LI P Γi Mi (i + 1)) κ)) (hd : ∀ a, P l.length a → κ.nx (Γi l.length a) (Mi l.length a)) : WP W Γ M (tFor (iList K tl) (gName j) tu) κ := fun B G H σ D o en d => by
  refine Mu.s_forL l ρ o.i (h σ G en) (fun G1 i σ' H' => Ex B.Gl G1 ∧ Pv (B.low G1) (LI P Γi Mi i) σ' H') (fun G1 H1 g => ⟨o.l.trans g.g, G1, Γ, M, (o.gr g).low (Ex.refl _), en.mono g.g, a0, p0, s0, m0⟩) (fun G1 i σ' H' ⟨_, G2, _, _, o2, _⟩ => o2.l.trans o2.i) (fun G1 i x y σ' H' e hi hy ⟨eb, G2, Γ1, M1, o1, en1, a, pa, sa, ma⟩ => ?_) (fun G1 σ' H' _ ⟨eb, G2, Γ1, M1, o1, en1, a, pa, sa, ma⟩ => ?_)
  · subst ma
    have d2 := (d.low eb).loop (I := LI P Γi Mi (i + 1))
    exact hs i a x hi pa (B.low G1) G2 H' _ _ o1 ((en1.weak sa).set ((ρ x).mono o1.l hy) j) ⟨fun σ G H Γ M o en z => ⟨eb, d2.nx σ G H Γ M o en z⟩, d2.rt, d2.bk, fun σ G H Γ M o en z => ⟨eb, d2.ct σ G H Γ M o en z⟩, d2.ex⟩
  · subst ma
    exact d.nx _ G2 H' _ _ (o1.up eb) (en1.weak sa) (hd a pa)
theorem w_forT (l : List β) (ρ : β → Rp) (P : Nat → α → Prop) (Γi : Nat → α → Ctx) (Mi : Nat → α → List Re) (h : EvX Γ tl (rT K (l.map ρ))) (a0 : α) (p0 : P 0 a0) (s0 : Sub Γ (Γi 0 a0)) (m0 : M = Mi 0 a0)
    (hs : ∀ i a x, l[i]? = some x → P i a → WP W ((Γi i a).set j (some (ρ x))) (Mi i a) tu (kLoop (LI P Γi Mi (i + 1)) κ)) (hd : ∀ a, P l.length a → κ.nx (Γi l.length a) (Mi l.length a)) : WP W Γ M (tFor (iTup K tl) (gName j) tu) κ := fun B G H σ D o en d => by
  refine Mu.s_forT l ρ o.i (h σ G en) (fun G1 i σ' H' => Ex B.Gl G1 ∧ Pv (B.low G1) (LI P Γi Mi i) σ' H') (fun G1 H1 g => ⟨o.l.trans g.g, G1, Γ, M, (o.gr g).low (Ex.refl _), en.mono g.g, a0, p0, s0, m0⟩) (fun G1 i σ' H' ⟨_, G2, _, _, o2, _⟩ => o2.l.trans o2.i) (fun G1 i x y σ' H' e hi hy ⟨eb, G2, Γ1, M1, o1, en1, a, pa, sa, ma⟩ => ?_) (fun G1 σ' H' _ ⟨eb, G2, Γ1, M1, o1, en1, a, pa, sa, ma⟩ => ?_)
  · subst ma
    have d2 := (d.low eb).loop (I := LI P Γi Mi (i + 1))
    exact hs i a x hi pa (B.low G1) G2 H' _ _ o1 ((en1.weak sa).set ((ρ x).mono o1.l hy) j) ⟨fun σ G H Γ M o en z => ⟨eb, d2.nx σ G H Γ M o en z⟩, d2.rt, d2.bk, fun σ G H Γ M o en z => ⟨eb, d2.ct σ G H Γ M o en z⟩, d2.ex⟩
  · subst ma
    exact d.nx _ G2 H' _ _ (o1.up eb) (en1.weak sa) (hd a pa)
/-- while -/
theorem w_while (P : Nat → α → Prop) (Γi : α → Ctx) (Mi : α → List Re) (m : Nat) (a0 : α) (p0 : P m a0) (s0 : Sub Γ (Γi a0)) (m0 : M = Mi a0)
    (hs : ∀ m a, P m a → ∃ b, EXT (Γi a) (Mi a) tt (fun c M' => c = b ∧ M' = Mi a) ∧ (b = true → WP W (Γi a) (Mi a) tu (kLoop (fun Γ' M' => ∃ m' a', m' < m ∧ P m' a' ∧ Sub Γ' (Γi a') ∧ M' = Mi a') κ)) ∧ (b = false → κ.nx (Γi a) (Mi a))) : WP W Γ M (tWhile tt tu) κ := fun B G H σ D o en d =>
  ⟨fun m σ' H' => Pv B (fun Γ' M' => ∃ a, P m a ∧ Sub Γ' (Γi a) ∧ M' = Mi a) σ' H', ⟨m, G, Γ, M, o, en, a0, p0, s0, m0⟩, fun m σ' H' ⟨G1, Γ1, M1, o1, en1, a, pa, sa, ma⟩ => by
    subst ma
    obtain ⟨b, hb, h1, h2⟩ := hs m a pa
    refine hb B G1 H' σ' o1 (en1.weak sa) _ fun c G2 H2 M2 z o2 e => ?_
    obtain ⟨rfl, rfl⟩ := z
    cases c with
    | true =>
      refine ⟨Pv B (fun Γ' M' => ∃ m' a', m' < m ∧ P m' a' ∧ Sub Γ' (Γi a') ∧ M' = Mi a'), fun σ2 H2 ⟨G3, Γ3, M3, o3, en3, m', a', hm, pa', sa', ma'⟩ => ⟨m', hm, G3, Γ3, M3, o3, en3, a', pa', sa', ma'⟩, ?_⟩
      exact h1 rfl B G2 H2 σ' _ o2 ((en1.weak sa).mono e) d.loop
    | false => exact d.nx _ G2 H2 _ _ o2 ((en1.weak sa).mono e) (h2 rfl)⟩
/-- enumerate -/
theorem w_forE {j' : Nat} {ta : TA} (l : List β) (ρ : β → Rp) (P : Nat → α → Prop) (Γi : Nat → α → Ctx) (Mi : Nat → α → List Re) (h : EvAX Γ ta [rL K (l.map ρ)]) (a0 : α) (p0 : P 0 a0) (s0 : Sub Γ (Γi 0 a0)) (m0 : M = Mi 0 a0)
    (hs : ∀ i a x, l[i]? = some x → P i a → WP W (((Γi i a).set j (some (nI i))).set j' (some (ρ x))) (Mi i a) tu (kLoop (LI P Γi Mi (i + 1)) κ)) (hd : ∀ a, P l.length a → κ.nx (Γi l.length a) (Mi l.length a)) : WP W Γ M (tFor (iEnum K ta) (gTup K 2 (gCons (gName j) (gCons (gName j') gNil))) tu) κ := fun B G H σ D o en d => by
  refine Mu.s_forE l ρ o.i (h σ G en) (fun G1 i σ' H' => Ex B.Gl G1 ∧ Pv (B.low G1) (LI P Γi Mi i) σ' H') (fun G1 H1 g => ⟨o.l.trans g.g, G1, Γ, M, (o.gr g).low (Ex.refl _), en.mono g.g, a0, p0, s0, m0⟩) (fun G1 i σ' H' ⟨_, G2, _, _, o2, _⟩ => o2.l.trans o2.i) (fun G1 i σ' H' H'' ⟨eb, G2, Γ2, M2, o2, z⟩ e => ⟨eb, G2, Γ2, M2, o2.ex e, z⟩) (fun G1 i x y σ' H' e hi hy ⟨eb, G2, Γ1, M1, o1, en1, a, pa, sa, ma⟩ => ?_) (fun G1 σ' H' _ ⟨eb, G2, Γ1, M1, o1, en1, a, pa, sa, ma⟩ => ?_)
  · subst ma
    have d2 := (d.low eb).loop (I := LI P Γi Mi (i + 1))
    exact hs i a x hi pa (B.low G1) G2 H' _ _ o1 (((en1.weak sa).set (r := nI i) rfl j).set ((ρ x).mono o1.l hy) j') ⟨fun σ G H Γ M o en z => ⟨eb, d2.nx σ G H Γ M o en z⟩, d2.rt, d2.bk, fun σ G H Γ M o en z => ⟨eb, d2.ct σ G H Γ M o en z⟩, d2.ex⟩
  · subst ma
    exact d.nx _ G2 H' _ _ (o1.up eb) (en1.weak sa) (hd a pa)
end
end Mu

namespace Mu
open PySem PySem.Spec PyProof.Rows L2 Evl
section
variable {Γ : Ctx} {M : List Re} {te ta tb tc tl : TE} {t u : TT} {r r1 r2 r3 : Rp} {rs : List Rp} {K : PySem.W.Frag} {C : Addr} {i j : Nat} {v w x y : V} {a b : Int} {m n : Nat} {E : XK} {sp : Sp}
theorem x_v (h : Γ[i]? = some (some r)) : EvX Γ (tVar i) r := fun σ G en => by
  obtain ⟨v, h1, h2⟩ := en.get h
  exact ed_var h1 h2
theorem x_c : EvX Γ (tC v) (rV v) := fun σ G en => Ev.d ev_c
theorem x_is (h : EvX Γ te r) (e : r = r1) : EvX Γ te r1 := e ▸ h
theorem xn_is {ss : List Rp} (h : EvNX Γ te rs) (e : rs = ss) : EvNX Γ te ss := e ▸ h
theorem t_is {c d : Bool} (h : EvTX Γ t c) (e : c = d) : EvTX Γ t d := e ▸ h
theorem EvNX.d (h : EvNX Γ te rs) : EvX Γ te (rL K rs) := fun σ G en => EvN.d (h σ G en)
/-! arguments, calls -/
theorem xa_nil : EvAX Γ tNil [] := fun σ G en => ead_nil
theorem xa_cons {tr : TA} (h : EvX Γ te r) (hr : EvAX Γ tr rs) : EvAX Γ (tCons te tr) (r :: rs) := fun σ G en => ead_cons (h σ G en) (hr σ G en)
theorem x_call {ta : TA} (h : EvAX Γ ta rs) (hs : ∀ vs G, RA G vs rs → SpD sp vs G r) : EvX Γ (tCall sp [] E ta) r := fun σ G en => ed_call (h σ G en) fun vs G2 _ ra => hs vs G2 ra
theorem xn_call {ta : TA} {ss : List Rp} (h : EvAX Γ ta rs) (hs : ∀ vs G, RA G vs rs → SpN sp vs G ss) : EvNX Γ (tCall sp [] E ta) ss := fun σ G en => en_call (h σ G en) fun vs G2 _ ra => hs vs G2 ra
/-! ints -/
theorem x_I0 {g : Int → Int → V} (ha : EvX Γ ta (rI a)) (hb : EvX Γ tb (rI b)) : EvX Γ (tOp (rI0 g) ta tb) (rV (g a b)) := fun σ G en => Ev.d (ev_op (EvD.ev (ha σ G en)) (EvD.ev (hb σ G en)) rv_I0)
theorem x_I {c : Int → Int → Prop} {g : Int → Int → V} (ha : EvX Γ ta (rI a)) (hb : EvX Γ tb (rI b)) (hc : c a b) : EvX Γ (tOp (L2.rI c g) ta tb) (rV (g a b)) := fun σ G en => Ev.d (ev_op (EvD.ev (ha σ G en)) (EvD.ev (hb σ G en)) (rv_I hc))
theorem x_addN (ha : EvX Γ ta (nI m)) (hb : EvX Γ tb (nI n)) : EvX Γ (tOp (rI0 fun i j => .int (i + j)) ta tb) (nI (m + n)) := x_is (x_I0 ha hb) (by show rI _ = rI _; congr 1)
theorem x_subN (ha : EvX Γ ta (nI m)) (hb : EvX Γ tb (nI n)) (h : n ≤ m) : EvX Γ (tOp (rI0 fun i j => .int (i - j)) ta tb) (nI (m - n)) := x_is (x_I0 ha hb) (by show rI _ = rI _; congr 1; omega)
theorem x_int (h : EvX Γ te (rI a)) : EvX Γ (tCB (fun xs H Q => (∃ i, xs = [.int i] ∧ Q (.int i) H) ∨ ∃ k, xs = [.bl k] ∧ Q (.int (if k then 1 else 0)) H) (tCons te tNil)) (rI a) := fun σ G en => Ev.d (ev_int (EvD.ev (h σ G en)))
theorem x_cn (n : Nat) : EvX Γ (tC (.int (n : Int))) (nI n) := x_c
theorem x_and {c d : Bool} (h1 : EvX Γ ta (rB c)) (h2 : c = true → EvX Γ tb (rB d)) : EvX Γ (tAndV ta tb) (rB (c && d)) := fun σ G en => Ev.d (ev_andV (EvD.ev (h1 σ G en)) fun z => EvD.ev (h2 z σ G en))
theorem x_or {c d : Bool} (h1 : EvX Γ ta (rB c)) (h2 : c = false → EvX Γ tb (rB d)) : EvX Γ (tOrV ta tb) (rB (c || d)) := fun σ G en => Ev.d (ev_orV (EvD.ev (h1 σ G en)) fun z => EvD.ev (h2 z σ G en))
theorem x_not {c : Bool} (h1 : EvX Γ ta (rB c)) : EvX Γ (tNotV ta) (rB (!c)) := fun σ G en => Ev.d (ev_notV (EvD.ev (h1 σ G en)))
theorem x_eqV (ha : EvX Γ ta (rV x)) (hb : EvX Γ tb (rV y)) (hs : scal x y = true := by rfl) : EvX Γ (tOp rEq ta tb) (rB (decide (x = y))) := fun σ G en => Ev.d (ev_op (EvD.ev (ha σ G en)) (EvD.ev (hb σ G en)) (rv_eq hs))
theorem x_neV (ha : EvX Γ ta (rV x)) (hb : EvX Γ tb (rV y)) (hs : scal x y = true := by rfl) : EvX Γ (tOp rNe ta tb) (rB (!decide (x = y))) := fun σ G en => Ev.d (ev_op (EvD.ev (ha σ G en)) (EvD.ev (hb σ G en)) (rv_ne hs))
theorem dec_nat (p q : Nat) : decide (V.int (p : Int) = V.int (q : Int)) = decide (p = q) := by
  rw [Bool.eq_iff_iff, decide_eq_true_iff, decide_eq_true_iff]
  constructor
  · intro z; injection z with z; omega
  · intro z; rw [z]
theorem dec_int (p q : Int) : decide (V.int p = V.int q) = decide (p = q) := by
  rw [Bool.eq_iff_iff, decide_eq_true_iff, decide_eq_true_iff]
  constructor
  · intro z; injection z
  · intro z; rw [z]
theorem x_eqN (ha : EvX Γ ta (nI m)) (hb : EvX Γ tb (nI n)) : EvX Γ (tOp rEq ta tb) (rB (decide (m = n))) := x_is (x_eqV ha hb) (by rw [dec_nat])
theorem x_neN (ha : EvX Γ ta (nI m)) (hb : EvX Γ tb (nI n)) : EvX Γ (tOp rNe ta tb) (rB (!decide (m = n))) := x_is (x_neV ha hb) (by rw [dec_nat])
theorem x_bandN (ha : EvX Γ ta (nI m)) (hb : EvX Γ tb (nI n)) : EvX Γ (tOp (rI0 fun i j => .int (Builtin.bitAnd i j)) ta tb) (nI (m &&& n)) := x_is (x_I0 ha hb) (by rw [band_nat])
theorem x_borN (ha : EvX Γ ta (nI m)) (hb : EvX Γ tb (nI n)) : EvX Γ (tOp (rI0 fun i j => .int (Builtin.bitOr i j)) ta tb) (nI (m ||| n)) := x_is (x_I0 ha hb) (by rw [bor_nat])
theorem x_shrN (ha : EvX Γ ta (nI m)) (hb : EvX Γ tb (nI n)) : EvX Γ (tOp (L2.rI (fun _ j => 0 ≤ j) fun i j => .int (i / 2 ^ j.toNat)) ta tb) (nI (m / 2 ^ n)) := x_is (x_I ha hb (by omega)) (by rw [shr_nat])
/-! items, len -/
theorem x_ixT (ha : EvX Γ ta (rT K rs)) (hb : EvX Γ tb (nI n)) (hi : rs[n]? = some r) : EvX Γ (tOp (rIxT K) ta tb) r := fun σ G en => ed_ixT (ha σ G en) (EvD.ev (hb σ G en)) hi
theorem x_ixL (ha : EvX Γ ta (rL K rs)) (hb : EvX Γ tb (nI n)) (hi : rs[n]? = some r) : EvX Γ (tOp (rIxL K) ta tb) r := fun σ G en => ed_ixL (ha σ G en) (EvD.ev (hb σ G en)) hi
theorem get_map {α : Type} {ρ : α → Rp} {l : List α} {d : α} (h : n < l.length) : (l.map ρ)[n]? = some (ρ (l.getD n d)) := by
  rw [List.getElem?_map, List.getD_eq_getElem?_getD, List.getElem?_eq_getElem h]; rfl
theorem x_ixLm {α : Type} {ρ : α → Rp} {l : List α} (d : α) (ha : EvX Γ ta (rL K (l.map ρ))) (hb : EvX Γ tb (nI n)) (h : n < l.length) : EvX Γ (tOp (rIxL K) ta tb) (ρ (l.getD n d)) := x_ixL ha hb (get_map h)
theorem x_ixTm {α : Type} {ρ : α → Rp} {l : List α} (d : α) (ha : EvX Γ ta (rT K (l.map ρ))) (hb : EvX Γ tb (nI n)) (h : n < l.length) : EvX Γ (tOp (rIxT K) ta tb) (ρ (l.getD n d)) := x_ixT ha hb (get_map h)
theorem x_ixLn {l : List Nat} (ha : EvX Γ ta (rLn K l)) (hb : EvX Γ tb (nI n)) (h : n < l.length) : EvX Γ (tOp (rIxL K) ta tb) (nI (l.getD n 0)) := x_ixLm 0 ha hb h
theorem x_ixTn {l : List Nat} (ha : EvX Γ ta (rTn K l)) (hb : EvX Γ tb (nI n)) (h : n < l.length) : EvX Γ (tOp (rIxT K) ta tb) (nI (l.getD n 0)) := x_ixTm 0 ha hb h
/-- a row of the rows of masks -/
theorem x_ixB {l : List Nat} (ha : EvX Γ ta (rLL K (l.map bitsN))) (hb : EvX Γ tb (nI n)) (h : n < l.length) : EvX Γ (tOp (rIxL K) ta tb) (rLn K (bitsN (l.getD n 0))) := x_ixL ha hb (by
  rw [List.map_map, List.getElem?_map, List.getD_eq_getElem?_getD, List.getElem?_eq_getElem h]; rfl)
theorem x_lenL (h : EvX Γ te (rL K rs)) : EvX Γ (tCB (rLenS K) (tCons te tNil)) (nI rs.length) := fun σ G en => Ev.d (ev_lenL (h σ G en) rfl)
theorem x_lenT (h : EvX Γ te (rT K rs)) : EvX Γ (tCB (rLenS K) (tCons te tNil)) (nI rs.length) := fun σ G en => Ev.d (ev_lenT (h σ G en) rfl)
theorem x_lenLm {α : Type} {ρ : α → Rp} {l : List α} (h : EvX Γ te (rL K (l.map ρ))) : EvX Γ (tCB (rLenS K) (tCons te tNil)) (nI l.length) := x_is (x_lenL h) (by rw [List.length_map])
theorem x_lenTm {α : Type} {ρ : α → Rp} {l : List α} (h : EvX Γ te (rT K (l.map ρ))) : EvX Γ (tCB (rLenS K) (tCons te tNil)) (nI l.length) := x_is (x_lenT h) (by rw [List.length_map])
theorem x_lenLn {l : List Nat} (h : EvX Γ te (rLn K l)) : EvX Γ (tCB (rLenS K) (tCons te tNil)) (nI l.length) := x_lenLm h
theorem x_lenTn {l : List Nat} (h : EvX Γ te (rTn K l)) : EvX Γ (tCB (rLenS K) (tCons te tNil)) (nI l.length) := x_lenTm h
theorem x_lenLL {l : List (List Nat)} (h : EvX Γ te (rLL K l)) : EvX Γ (tCB (rLenS K) (tCons te tNil)) (nI l.length) := x_lenLm h
theorem x_lenB {l : List Nat} (h : EvX Γ te (rLL K (l.map bitsN))) : EvX Γ (tCB (rLenS K) (tCons te tNil)) (nI l.length) := x_is (x_lenLL h) (by rw [List.length_map])
theorem xn_list (h : EvX Γ te (rL K rs)) : EvNX Γ (tCB (rListS K) (tCons te tNil)) rs := fun σ G en => en_listL (h σ G en)
theorem xn_listT (h : EvX Γ te (rT K rs)) : EvNX Γ (tCB (rListS K) (tCons te tNil)) rs := fun σ G en => en_listT (h σ G en)
theorem xn_listRg (h : EvX Γ te (nI n)) (hn : n ≤ 1000000) : EvNX Γ (tLstRg (tRg1 te)) ((List.range n).map nI) := fun σ G en => en_listR (EvD.ev (h σ G en)) hn
theorem x_tupL (h : EvX Γ te (rL K rs)) : EvX Γ (tCB (rTupO K) (tCons te tNil)) (rT K rs) := fun σ G en => ed_tupL (h σ G en)
theorem x_tup {ta : TA} (h : EvAX Γ ta rs) (hl : rs.length ≤ 100000 := by decide) : EvX Γ (tTup ta) (rT K rs) := fun σ G en => ed_tup (h σ G en) hl
theorem xn_lst {ta : TA} (h : EvAX Γ ta rs) (hl : rs.length ≤ 100000 := by decide) : EvNX Γ (tLst ta) rs := fun σ G en => en_lst (h σ G en) hl
theorem x_lst {ta : TA} (h : EvAX Γ ta rs) (hl : rs.length ≤ 100000 := by decide) : EvX Γ (tLst ta) (rL K rs) := (xn_lst h hl).d
theorem x_pair (ha : EvX Γ ta (nI m)) (hb : EvX Γ tb (nI n)) : EvX Γ (tTup (tCons ta (tCons tb tNil))) (rP K (m, n)) := x_tup (xa_cons ha (xa_cons hb xa_nil)) (by show 2 ≤ 100000; decide)
theorem xn_cat {ss : List Rp} (ha : EvX Γ ta (rL K rs)) (hb : EvX Γ tb (rL K ss)) (hz : rs.length + ss.length ≤ 100000) : EvNX Γ (tOp rCat ta tb) (rs ++ ss) := fun σ G en => en_cat (ha σ G en) (hb σ G en) hz
theorem x_catm {α : Type} {ρ : α → Rp} {l l' : List α} (ha : EvX Γ ta (rL K (l.map ρ))) (hb : EvX Γ tb (rL K (l'.map ρ))) (hz : l.length + l'.length ≤ 100000) : EvX Γ (tOp rCat ta tb) (rL K ((l ++ l').map ρ)) := x_is (EvNX.d (K := K) (xn_cat (K := K) ha hb (by rw [List.length_map, List.length_map]; exact hz))) (by rw [List.map_append])
/-! comprehensions -/
theorem en_at {σ : L2.St} {G : Hp} (en : En σ G Γ) {vs : List Nat} (h : r.p v G) : En ((wipe σ vs).set j (some v)) G ((wipeC Γ vs).set j (some r)) := (en.wipe vs).set h j
theorem xn_lcL {α : Type} {vs : List Nat} (l : List α) (ρ : α → Rp) (f : α → Bool) (rr : α → Rp) (h : EvX Γ tl (rL K (l.map ρ))) (hz : l.length ≤ 40000) (ht : ∀ a, a ∈ l → EvTX ((wipeC Γ vs).set j (some (ρ a))) t (f a)) (he : ∀ a, a ∈ l → f a = true → EvX ((wipeC Γ vs).set j (some (ρ a))) te (rr a)) (hj : j ∈ vs := by simp) : EvNX Γ (tLc (iList K tl) (gName j) t te vs) ((l.filter f).map rr) := fun σ G en =>
  en_lcL l ρ f rr (h σ G en) hz (wipe_turn σ hj) (fun a x G1 ha e hx => ht a ha _ G1 (en_at (en.mono e) hx)) (fun a x G1 ha hf e hx => he a ha hf _ G1 (en_at (en.mono e) hx))
theorem xn_lcT {α : Type} {vs : List Nat} (l : List α) (ρ : α → Rp) (f : α → Bool) (rr : α → Rp) (h : EvX Γ tl (rT K (l.map ρ))) (hz : l.length ≤ 40000) (ht : ∀ a, a ∈ l → EvTX ((wipeC Γ vs).set j (some (ρ a))) t (f a)) (he : ∀ a, a ∈ l → f a = true → EvX ((wipeC Γ vs).set j (some (ρ a))) te (rr a)) (hj : j ∈ vs := by simp) : EvNX Γ (tLc (iTup K tl) (gName j) t te vs) ((l.filter f).map rr) := fun σ G en =>
  en_lcT l ρ f rr (h σ G en) hz (wipe_turn σ hj) (fun a x G1 ha e hx => ht a ha _ G1 (en_at (en.mono e) hx)) (fun a x G1 ha hf e hx => he a ha hf _ G1 (en_at (en.mono e) hx))
theorem xn_lcR {vs : List Nat} (n : Nat) (f : Nat → Bool) (rr : Nat → Rp) (h : EvX Γ ta (nI n)) (hz : n ≤ 40000) (ht : ∀ a, a < n → EvTX ((wipeC Γ vs).set j (some (nI a))) t (f a)) (he : ∀ a, a < n → f a = true → EvX ((wipeC Γ vs).set j (some (nI a))) te (rr a)) (hj : j ∈ vs := by simp) : EvNX Γ (tLc (iRng1 (tCons ta tNil)) (gName j) t te vs) (((List.range n).filter f).map rr) := fun σ G en =>
  en_lcR n f rr (ea_cons (EvD.ev (h σ G en)) ea_nil) hz (wipe_turn σ hj) (fun a G1 ha e => ht a ha _ G1 (en_at (r := nI a) (en.mono e) rfl)) (fun a G1 ha hf e => he a ha hf _ G1 (en_at (r := nI a) (en.mono e) rfl))
theorem t_yes : EvTX Γ tYes true := fun σ G en => yes_T rfl
theorem xn_lcL0 {α : Type} {vs : List Nat} (l : List α) (ρ : α → Rp) (rr : α → Rp) (h : EvX Γ tl (rL K (l.map ρ))) (hz : l.length ≤ 40000) (he : ∀ a, a ∈ l → EvX ((wipeC Γ vs).set j (some (ρ a))) te (rr a)) (hj : j ∈ vs := by simp) : EvNX Γ (tLc (iList K tl) (gName j) tYes te vs) (l.map rr) :=
  xn_is (xn_lcL l ρ (fun _ => true) rr h hz (fun _ _ => t_yes) (fun a ha _ => he a ha) hj) filter_yes
theorem xn_lcT0 {α : Type} {vs : List Nat} (l : List α) (ρ : α → Rp) (rr : α → Rp) (h : EvX Γ tl (rT K (l.map ρ))) (hz : l.length ≤ 40000) (he : ∀ a, a ∈ l → EvX ((wipeC Γ vs).set j (some (ρ a))) te (rr a)) (hj : j ∈ vs := by simp) : EvNX Γ (tLc (iTup K tl) (gName j) tYes te vs) (l.map rr) :=
  xn_is (xn_lcT l ρ (fun _ => true) rr h hz (fun _ _ => t_yes) (fun a ha _ => he a ha) hj) filter_yes
theorem xn_lcR0 {vs : List Nat} (n : Nat) (rr : Nat → Rp) (h : EvX Γ ta (nI n)) (hz : n ≤ 40000) (he : ∀ a, a < n → EvX ((wipeC Γ vs).set j (some (nI a))) te (rr a)) (hj : j ∈ vs := by simp) : EvNX Γ (tLc (iRng1 (tCons ta tNil)) (gName j) tYes te vs) ((List.range n).map rr) :=
  xn_is (xn_lcR n (fun _ => true) rr h hz (fun _ _ => t_yes) (fun a ha _ => he a ha) hj) filter_yes
/-! tests -/
theorem t_cmp {p : Int → Int → Bool} (ha : EvX Γ ta (rI a)) (hb : EvX Γ tb (rI b)) : EvTX Γ (tTest (tOp (rI0 fun i j => .bl (p i j)) ta tb)) (p a b) := fun σ G en => et_cmp (EvD.ev (ha σ G en)) (EvD.ev (hb σ G en))
theorem t_eq (ha : EvX Γ ta (rV x)) (hb : EvX Γ tb (rV y)) (hs : scal x y = true := by rfl) : EvTX Γ (tTest (tOp rEq ta tb)) (decide (x = y)) := fun σ G en => et_eq (EvD.ev (ha σ G en)) (EvD.ev (hb σ G en)) hs
theorem t_ne (ha : EvX Γ ta (rV x)) (hb : EvX Γ tb (rV y)) (hs : scal x y = true := by rfl) : EvTX Γ (tTest (tOp rNe ta tb)) (!decide (x = y)) := fun σ G en => et_ne (EvD.ev (ha σ G en)) (EvD.ev (hb σ G en)) hs
theorem t_eqN (ha : EvX Γ ta (nI m)) (hb : EvX Γ tb (nI n)) : EvTX Γ (tTest (tOp rEq ta tb)) (decide (m = n)) := dec_nat m n ▸ t_eq ha hb
theorem t_neN (ha : EvX Γ ta (nI m)) (hb : EvX Γ tb (nI n)) : EvTX Γ (tTest (tOp rNe ta tb)) (!decide (m = n)) := dec_nat m n ▸ t_ne ha hb
theorem t_eqI (ha : EvX Γ ta (rI a)) (hb : EvX Γ tb (rI b)) : EvTX Γ (tTest (tOp rEq ta tb)) (decide (a = b)) := dec_int a b ▸ t_eq ha hb
theorem t_neI (ha : EvX Γ ta (rI a)) (hb : EvX Γ tb (rI b)) : EvTX Γ (tTest (tOp rNe ta tb)) (!decide (a = b)) := dec_int a b ▸ t_ne ha hb
theorem t_and {c d : Bool} (h1 : EvTX Γ t c) (h2 : c = true → EvTX Γ u d) : EvTX Γ (tAnd t u) (c && d) := fun σ G en => et_and (h1 σ G en) fun z => h2 z σ G en
theorem t_or {c d : Bool} (h1 : EvTX Γ t c) (h2 : c = false → EvTX Γ u d) : EvTX Γ (tOr t u) (c || d) := fun σ G en => et_or (h1 σ G en) fun z => h2 z σ G en
theorem t_not {c : Bool} (h1 : EvTX Γ t c) : EvTX Γ (tNot t) (!c) := fun σ G en => et_not (h1 σ G en)
theorem t_B {c : Bool} (h : EvX Γ te (rB c)) : EvTX Γ (tB te) c := fun σ G en => et_B (EvD.ev (h σ G en))
theorem t_T {c : Bool} (h : EvX Γ te (rB c)) : EvTX Γ (tTest te) c := fun σ G en => et_test (EvD.ev (h σ G en))
theorem EvTX.eqn {x y : Nat} {h : EvTX Γ t (decide (V.int (x : Int) = V.int (y : Int)))} : EvTX Γ t (decide (x = y)) := t_is h (by
  rw [Bool.eq_iff_iff, decide_eq_true_iff, decide_eq_true_iff]
  constructor
  · intro z; injection z with z; omega
  · intro z; rw [z])
/-! isinstance and == of data -/
theorem x_isInt (h : EvX Γ te (rI a)) : EvX Γ (tCB (rIsi K) (tCons te (tCons (tC (.ty "int")) tNil))) (rB true) := fun σ G en => Ev.d (is_int (EvD.ev (h σ G en)))
theorem x_isList (h : EvX Γ te (rL K rs)) : EvX Γ (tCB (rIsi K) (tCons te (tCons (tC (.ty "list")) tNil))) (rB true) := fun σ G en => Ev.d (is_list (h σ G en))
theorem x_isTup (h : EvX Γ te (rT K rs)) : EvX Γ (tCB (rIsi K) (tCons te (tCons (tC (.ty "tuple")) tNil))) (rB true) := fun σ G en => Ev.d (is_tup (h σ G en))
theorem x_isTab {m : List Nat} (c : IsC K C) (h : EvX Γ te (rTab K C m)) : EvX Γ (tCB (rIsi K) (tCons te (tCons (tC (.ref C)) tNil))) (rB true) := fun σ G en => Ev.d (is_tab c (h σ G en))
theorem x_eqD {d1 d2 : PyData} (ha : EvX Γ ta r1) (hb : EvX Γ tb r2) (a1 : AsD K r1 d1) (a2 : AsD K r2 d2) (s1 : SeqAt.shaped d1 = true) (s2 : SeqAt.shaped d2 = true) : EvX Γ (tOp (rEqD K) ta tb) (rB (PyData.eqv d1 d2)) := fun σ G en => Ev.d (ev_eqD (ha σ G en) (hb σ G en) a1 a2 s1 s2)
theorem x_neD {d1 d2 : PyData} (ha : EvX Γ ta r1) (hb : EvX Γ tb r2) (a1 : AsD K r1 d1) (a2 : AsD K r2 d2) (s1 : SeqAt.shaped d1 = true) (s2 : SeqAt.shaped d2 = true) : EvX Γ (tOp (rNeD K) ta tb) (rB (!PyData.eqv d1 d2)) := fun σ G en => Ev.d (ev_neD (ha σ G en) (hb σ G en) a1 a2 s1 s2)
theorem x_neLn {l m : List Nat} (ha : EvX Γ ta (rLn K l)) (hb : EvX Γ tb (rLn K m)) : EvX Γ (tOp (rNeD K) ta tb) (rB (!decide (l = m))) := x_is (x_neD ha hb (asd_ln l) (asd_ln m) ((sh_ln l).ok (by decide)) ((sh_ln m).ok (by decide))) (by rw [eqv_ln])
theorem x_eqLn {l m : List Nat} (ha : EvX Γ ta (rLn K l)) (hb : EvX Γ tb (rLn K m)) : EvX Γ (tOp (rEqD K) ta tb) (rB (decide (l = m))) := x_is (x_eqD ha hb (asd_ln l) (asd_ln m) ((sh_ln l).ok (by decide)) ((sh_ln m).ok (by decide))) (by rw [eqv_ln])
theorem x_eqTn {l m : List Nat} (ha : EvX Γ ta (rTn K l)) (hb : EvX Γ tb (rTn K m)) : EvX Γ (tOp (rEqD K) ta tb) (rB (decide (l = m))) := x_is (x_eqD ha hb (asd_tn l) (asd_tn m) ((sh_tn l).ok (by decide)) ((sh_tn m).ok (by decide))) (by rw [eqv_tn])
theorem x_neTn {l m : List Nat} (ha : EvX Γ ta (rTn K l)) (hb : EvX Γ tb (rTn K m)) : EvX Γ (tOp (rNeD K) ta tb) (rB (!decide (l = m))) := x_is (x_neD ha hb (asd_tn l) (asd_tn m) ((sh_tn l).ok (by decide)) ((sh_tn m).ok (by decide))) (by rw [eqv_tn])
theorem x_neLL {l m : List (List Nat)} (ha : EvX Γ ta (rLL K l)) (hb : EvX Γ tb (rLL K m)) : EvX Γ (tOp (rNeD K) ta tb) (rB (!decide (l = m))) := x_is (x_neD ha hb (asd_ll l) (asd_ll m) ((sh_ll l).ok (by decide)) ((sh_ll m).ok (by decide))) (by rw [eqv_ll])
theorem x_eqLL {l m : List (List Nat)} (ha : EvX Γ ta (rLL K l)) (hb : EvX Γ tb (rLL K m)) : EvX Γ (tOp (rEqD K) ta tb) (rB (decide (l = m))) := x_is (x_eqD ha hb (asd_ll l) (asd_ll m) ((sh_ll l).ok (by decide)) ((sh_ll m).ok (by decide))) (by rw [eqv_ll])
theorem x_neP {l m : Nat × Nat} (ha : EvX Γ ta (rP K l)) (hb : EvX Γ tb (rP K m)) : EvX Γ (tOp (rNeD K) ta tb) (rB (!decide (l = m))) := x_is (x_neD ha hb (asd_p l) (asd_p m) ((sh_p l).ok (by decide)) ((sh_p m).ok (by decide))) (by rw [eqv_p])
theorem x_inLn {l : List Nat} (ha : EvX Γ ta (nI n)) (hb : EvX Γ tb (rLn K l)) : EvX Γ (tOp (rIn K false) ta tb) (rB (decide (n ∈ l))) := fun σ G en => Ev.d (ev_inLn (neg := false) (EvD.ev (ha σ G en)) (hb σ G en))
theorem x_niLn {l : List Nat} (ha : EvX Γ ta (nI n)) (hb : EvX Γ tb (rLn K l)) : EvX Γ (tOp (rIn K true) ta tb) (rB (!decide (n ∈ l))) := fun σ G en => Ev.d (ev_inLn (neg := true) (EvD.ev (ha σ G en)) (hb σ G en))
theorem x_inP {p : Nat × Nat} {l : List (Nat × Nat)} (ha : EvX Γ ta (rP K p)) (hb : EvX Γ tb (rL K (l.map (rP K)))) : EvX Γ (tOp (rInD K) ta tb) (rB (decide (p ∈ l))) := fun σ G en => Ev.d (ev_inP (ha σ G en) (hb σ G en))
theorem x_niP {p : Nat × Nat} {l : List (Nat × Nat)} (ha : EvX Γ ta (rP K p)) (hb : EvX Γ tb (rL K (l.map (rP K)))) : EvX Γ (tOp (rNotInD K) ta tb) (rB (!decide (p ∈ l))) := fun σ G en => Ev.d (ev_notInP (ha σ G en) (hb σ G en))
theorem x_isB {c d : Bool} (ha : EvX Γ ta (rB c)) (hb : EvX Γ tb (rB d)) : EvX Γ (tOp rIsB ta tb) (rB (decide (c = d))) := fun σ G en => Ev.d (ev_isB (EvD.ev (ha σ G en)) (EvD.ev (hb σ G en)))
theorem x_isNB {c d : Bool} (ha : EvX Γ ta (rB c)) (hb : EvX Γ tb (rB d)) : EvX Γ (tOp rNotB ta tb) (rB (!decide (c = d))) := fun σ G en => Ev.d (ev_isNB (EvD.ev (ha σ G en)) (EvD.ev (hb σ G en)))
/-! tables -/
theorem x_size {m : List Nat} (h : EvX Γ ta (rTab K C m)) (hc : Cls K C) (hn : NoAttr K C "size") : EvX Γ (tFld K ta "size") (nI m.length) := fun σ G en => Ev.d (ev_size (h σ G en) hc hn)
theorem x_masks {m : List Nat} (h : EvX Γ ta (rTab K C m)) (hc : Cls K C) (hn : NoAttr K C "masks") : EvX Γ (tFld K ta "masks") (rTn K m) := fun σ G en => ed_masks (h σ G en) hc hn
theorem x_cells {m : List Nat} (h : EvX Γ ta (rTab K C m)) (hc : Cls K C) (hn : NoAttr K C "cells") : EvX Γ (tFld K ta "cells") (rT K ((pairsN m).map (rP K))) := fun σ G en => ed_cells (h σ G en) hc hn
theorem x_tabRows {m : List Nat} (h : EvX Γ te (rLL K (m.map bitsN))) (w : Wf n m) (h1 : 1 ≤ n) (h6 : n ≤ 6) : EvX Γ (tMake C (spTab K C) [] E (tCons te tNil)) (rTab K C m) := fun σ G en => ed_tabRows (h σ G en) w h1 h6
theorem x_own2 {m m' : List Nat} (ha : EvX Γ ta (rTab K C m)) (hb : EvX Γ tb (rTab K C m')) (hs : ∀ x y G, (rTab K C m).p x G → (rTab K C m').p y G → SpD sp [x, y] G r) : EvX Γ (tOp (rOwn2 C sp E) ta tb) r := fun σ G en => ed_own2 (ha σ G en) (hb σ G en) fun x y G2 _ hx hy => hs x y G2 hx hy
theorem x_own1 {m : List Nat} (ha : EvX Γ ta (rTab K C m)) (hs : ∀ x G, (rTab K C m).p x G → SpD sp [x] G r) : EvX Γ (tUn (rOwn1 C sp E) ta) r := fun σ G en => ed_own1 (ha σ G en) fun x G2 _ hx => hs x G2 hx
theorem xn_meth {m : List Nat} {f : Str} (h : EvX Γ ta (rTab K C m)) (hf : (f == "size" || (f == "masks" || f == "cells")) = false) (hs : ∀ v G, (rTab K C m).p v G → SpN sp [v] G rs) : EvNX Γ (tMeth C f sp [] E ta tNil) rs := fun σ G en => en_meth (h σ G en) hf fun v G2 _ hv => hs v G2 hv
/-! draws -/
theorem e_take {k : Nat} {b : Addr} (hk : M[k]? = some (boxR K b)) (hv : Γ[i]? = some (some (rV (.ref b)))) (h : EvX Γ te (nI m)) (h0 : 0 < m) (h1 : m < 2 ^ 30) : EX Γ M (tCall (spT K) [] E (tCons (tVar i) (tCons te tNil))) (fun r M' => (∃ d, d < m ∧ r = nI d) ∧ M' = M) := EX.imp (EX.ofB (P := PN m) hk fun σ G en => by
  obtain ⟨v, hv1, hv2⟩ := en.get hv
  obtain rfl : v = V.ref b := hv2
  exact eb_take hv1 (EvD.ev (h σ G en)) h0 h1) fun r M' z => z
end
/-! ### from a def's promise to its walk -/
section
variable {W : WX} {Γ : Ctx} {t : TS} {r : Rp} {rs : List Rp} {G H : Hp} {σ : L2.St} {Q : VK} {K : PySem.W.Frag} {b : Addr}
theorem run_D (w : WP W Γ [] t { nx := fun _ _ => r = rV .non, rt := fun r' _ => r' = r }) (e : Ex G H) (en : En σ G Γ) (k : ∀ v G2 H2, Gr G H G2 H2 → r.p v G2 → Q v H2) : t { nx := fun _ H' => Q .non H', rt := Q } σ H :=
  w _ G H σ _ (Ok.nil e) en ⟨fun σ' G' H' Γ' M' o en' z => k _ G' H' o.to (by rw [z]; rfl), fun v G' H' r' M' o hv z => k v G' H' o.to (by rw [← z]; exact hv), fun _ _ _ _ _ _ _ z => z.elim, fun _ _ _ _ _ _ _ z => z.elim, fun _ _ _ _ _ _ _ _ _ _ _ z => z.elim⟩
/-- the answer a new list of our own -/
theorem run_N (w : WP W Γ [] t { nx := fun _ _ => False, rt := fun r' M' => ∃ p, r' = rV (.ref p) ∧ M' = [lstR p rs] }) (e : Ex G H) (en : En σ G Γ) (k : ∀ p ws G2 H2, Gr G H G2 H2 → H p = none → G2 p = none → H2 p = some (.lst ws) → RA G2 ws rs → Q (.ref p) H2) : t { nx := fun _ H' => Q .non H', rt := Q } σ H :=
  w _ G H σ _ (Ok.nil e) en ⟨fun _ _ _ _ _ _ _ z => z.elim, fun v G' H' r' M' o hv z => by
    obtain ⟨p, rfl, rfl⟩ := z
    obtain rfl : v = V.ref p := hv
    obtain ⟨ws, h1, h2⟩ := o.m (lstR p rs) List.mem_cons_self
    have hp : H p = none := by
      rcases o.f (lstR p rs) List.mem_cons_self p (List.mem_singleton.mpr rfl) with q | q
      · exact q
      · exact nomatch q.2
    exact k p ws G' H' o.to hp (o.z p (List.mem_cons_self)) h1 h2, fun _ _ _ _ _ _ _ z => z.elim, fun _ _ _ _ _ _ _ z => z.elim, fun _ _ _ _ _ _ _ _ _ _ _ z => z.elim⟩
theorem run_B {P : Rp → Prop} (w : WP W Γ [boxR K b] t { nx := fun _ _ => False, rt := fun r' M' => P r' ∧ M' = [boxR K b] }) (e : Ex G H) (gb : G b = none) (hb : Box K G H b) (en : En σ G Γ) (k : ∀ r v G2 H2, P r → GrB b G H G2 H2 → Box K G2 H2 b → r.p v G2 → Q v H2) : t { nx := fun _ H' => Q .non H', rt := Q } σ H :=
  w _ G H σ _ (Ok.box e gb hb) en ⟨fun _ _ _ _ _ _ _ z => z.elim, fun v G' H' r' M' o hv z => by
    obtain ⟨p, rfl⟩ := z
    exact k r' v G' H' p o.toB (o.m (boxR K b) List.mem_cons_self) hv, fun _ _ _ _ _ _ _ z => z.elim, fun _ _ _ _ _ _ _ z => z.elim, fun _ _ _ _ _ _ _ _ _ _ _ z => z.elim⟩
/-- the law itself: it gives True -/
theorem run_law {a : Addr} {ns : List Int} {i : Nat} {E : XK} (hS : SqL K H a (ns.map V.int)) (hl : ns.length ≤ 63) (hv : σ[0]? = some (some (.ref a))) (hσ : σ.length = n + 1) (hi : i < n + 1) (k : ∀ H', Q (.bl true) H')
    (w : ∀ b, WP W ((List.replicate (n + 1) none).set i (some (rV (.ref b)))) [boxR K b] t { nx := fun _ _ => False, rt := fun r _ => r = rB true }) : tSeq (tAsg (tCall (spBoxMk K) [] E (tCons (tVar 0) tNil)) (gName i)) t { nx := fun _ H' => Q .non H', rt := Q } σ H := by
  refine sq (s_box hv hS hl fun b G2 H2 e1 e2 hb gb hbox => ?_)
  refine w b _ G2 H2 _ _ (Ok.box e2 gb hbox) ?_ ⟨fun _ _ _ _ _ _ _ z => z.elim, fun v G' H' r' M' o hv z => ?_, fun _ _ _ _ _ _ _ z => z.elim, fun _ _ _ _ _ _ _ z => z.elim, fun _ _ _ _ _ _ _ _ _ _ _ z => z.elim⟩
  · have e0 : ∀ (σ : L2.St) (n : Nat), σ.length = n → En σ G2 (List.replicate n none) := fun σ => by
      induction σ with
      | nil => intro n h; subst h; exact .nil
      | cons a s ih =>
        intro n h
        cases n with
        | zero => cases h
        | succ n => exact .cons (fun x hx => nomatch hx) (ih n (by simpa using h))
    exact En.set (r := rV (.ref b)) rfl i (e0 σ _ hσ)
  · subst z
    obtain rfl : v = V.bl true := hv
    exact k H'
end
end Mu

namespace Mu
open PySem PySem.Spec PyProof.Rows L2 Evl
/-! ### a method that says super() -/
structure FunS (K : PySem.W.Frag) (x qual : Str) (params : Arguments) (body : List Stmt) (scope : Scope) (file : Str) (D : Addr) (f : Addr) (fd : FuncData) (cda cc : Addr) : Prop where
  fn : ∃ (oc : Value) (od : Option Addr) (kV doc pm : Value) (an : Option Addr) (ct : Value) (osl : Array (Option Value)), fd = PySem.W.ksFn x qual params body scope .none kV doc pm an (.ref cda) ct cc ∧ K.lookup f = some ⟨oc, od, .func fd, osl⟩
  co : PySem.W.codeIn K (.ref cda) qual = true
  cell : ∃ (cl : Value) (cld : Option Addr) (csl : Array (Option Value)), K.lookup cc = some ⟨cl, cld, .cell (some (.ref D)), csl⟩
  code : ∃ (ccl : Value) (cdd : Option Addr) (vs : Array Value) (ccs : Array (Option Value)) (tf : Tok), K.lookup cda = some ⟨ccl, cdd, .fields vs, ccs⟩ ∧ vs[2]? = some (.str file tf)
  cls : (PySem.W.clsIn K D).isSome = true
  kp : PySem.W.keepIn K (.ref f) = true
  op : PySem.W.nsIn K cStatics "thirdparty.any" = some none
structure FsScope (N ps : List Str) (sc : Scope) : Prop where
  kind : sc.kind = .function
  co : sc.isCoroutine = false
  gen : sc.isGenerator = false
  nd : N.Nodup
  pre : N.take ps.length = ps
  par : ∀ x ∈ ps, sc.names.lookup x = some .local
  nocell : ∀ y ∈ sc.names, y.2 ≠ .cell
  free : ∀ y ∈ sc.names, y.2 = .free → y.1 = ("__class__" : Str)
  sup : sc.names.lookup ("super" : Str) = some .globalImplicit
  cls : sc.names.lookup ("__class__" : Str) = some .free
/-- the program's facts that super() asks -/
structure PF (P : Program) (file : Str) : Prop where
  file : ((P.main.file : Str) == file) = true
  top : (P.main.scope.names.lookup ("super" : Str)).isSome = false
abbrev cxS (CX : CXT) (P : Program) (w : World) (K : PySem.W.Frag) (mg : Str → Option Value) (base : Heap) (N : List Str) (qual : Str) (scope : Scope) (f cda cc : Addr) (A : Around) (outer : List Env) (s : Shared) (H : Hp) (E : XK) : Cx where
  prog := P
  w := w
  K := K
  mg := mg
  base := base
  A := A.deeper (PySem.W.ksEnv qual scope s.heap.objs.size f (.ref cda) cc)
  N := N
  s_0 := s
  H_0 := H
  env := PySem.W.ksEnv qual scope s.heap.objs.size f (.ref cda) cc
  outer := outer
  stack := PySem.W.ksEnv qual scope s.heap.objs.size f (.ref cda) cc :: outer
  ex := []
  calm := true
  fn := fun _ => false
  pn := []
  xe := fun e s' => wpAny (model P w) (A.deeper (PySem.W.ksEnv qual scope s.heap.objs.size f (.ref cda) cc)) (leaving (PySem.W.ksEnv qual scope s.heap.objs.size f (.ref cda) cc) e) (fun _ s'' => CX outer H s E e s'') (fun e' s'' => CX outer H s E e' s'') s'
theorem lookup_mem {l : List (Str × Value)} (hn : (l.map (·.1)).Nodup) {x : Str} {u : Value} (h : (x, u) ∈ l) : l.lookup x = some u := by
  induction l with
  | nil => cases h
  | cons p l ih =>
    obtain ⟨y, v⟩ := p
    obtain ⟨h1, h2⟩ := List.nodup_cons.mp (show (y :: l.map (·.1)).Nodup from hn)
    rcases List.mem_cons.mp h with q | q
    · cases q
      simp [List.lookup]
    · have ne : x ≠ y := fun e => h1 (List.mem_map.mpr ⟨(x, u), q, e⟩)
      rw [List.lookup_cons, show (x == y) = false by simpa using ne]
      exact ih h2 q
theorem zip_fst : ∀ {ps : List Str} {us : List Value}, ps.length = us.length → (ps.zip us).map (·.1) = ps
  | [], [], _ => rfl
  | _ :: _, [], h => by cases h
  | [], _ :: _, h => by cases h
  | p :: ps, u :: us, h => by
    show p :: (ps.zip us).map (·.1) = p :: ps
    rw [zip_fst (by simpa using h)]
theorem lookup_rev_zip {ps : List Str} {us : List Value} {i : Nat} {x : Str} {u : Value} (hn : ps.Nodup) (hl : ps.length = us.length) (h1 : ps[i]? = some x) (h2 : us[i]? = some u) : (ps.zip us).reverse.lookup x = some u := by
  refine lookup_mem (by rw [List.map_reverse, zip_fst hl]; exact List.pairwise_reverse.mpr (hn.imp fun h => Ne.symm h)) (List.mem_reverse.mpr ?_)
  refine List.mem_of_getElem? (i := i) ?_
  rw [List.getElem?_zip_eq_some]
  exact ⟨h1, h2⟩
theorem inv_startS {CX : CXT} {P : Program} {w : World} {K : PySem.W.Frag} {mg : Str → Option Value} {base : Heap} {N ps : List Str} {x qual : Str} {params : Arguments} {body : List Stmt} {scope : Scope} {file : Str} {D f : Addr} {fd : FuncData} {cda cc : Addr} {A : Around} {outer : List Env} {s : Shared} {h₀ : Heap} {H : Hp} {E : XK} {us : List Value} {vs : List V}
    (F : FunS K x qual params body scope file D f fd cda cc) (S : FsScope N ps scope) (hd : A.handled = none) (e0 : Env0 P w K mg base A outer s H) (hl : vs.length = ps.length) (r : Vals vs us)
    (hns : h₀.Ns s.heap.objs.size (fun y => (ps.zip us).reverse.lookup y)) (keep : ∀ b o, s.heap.get? b = some o → h₀.get? b = some o) (tk : Nat) :
    Inv (cxS CX P w K mg base N qual scope f cda cc A outer s H E) [] (L2.start N vs) H { s with heap := h₀, toks := tk } := by
  have hpl : ps.length ≤ N.length := by have := congrArg List.length S.pre; rw [List.length_take] at this; omega
  obtain ⟨cl, cld, csl, hcell⟩ := F.cell
  have hccb := e0.mod.kin _ _ hcell
  have kfr : ∀ x c, List.lookup x [(("__class__" : Str), cc)] = some c → x = ("__class__" : Str) ∧ c = cc := fun x c h => by
    rw [List.lookup_cons] at h
    cases q : x == ("__class__" : Str) with
    | true => rw [q] at h; exact ⟨by simpa using q, (Option.some.inj h).symm⟩
    | false => rw [q] at h; cases h
  have noA : ∀ b : Addr, b ∉ (cxS CX P w K mg base N qual scope f cda cc A outer s H E).ex := fun b z => absurd (show b ∈ ([] : List Addr) from z) (by simp)
  refine ⟨⟨e0.mod, S.kind, rfl, rfl, Nat.le_refl _, fun y z c h1 h2 => ?_, fun y hy => ?_, fun y c h _ => ?_, fun _ => hd, Around.frames_deeper e0.frames, .inr ⟨rfl, rfl⟩, fun b z => absurd z (noA b), e0.bs, e0.bsz, fun b _ _ => noA b, fun b z => absurd z (noA b), e0.funs, e0.frf⟩,
    rfl, e0.bare, Un.kept keep, ⟨_, hns, fun i y v h1 h2 h3 => ?_⟩, fun y c h => ?_, e0.hok.fresh (Nat.le_refl _), fun y c h => ?_, fun p hp => absurd (show p ∈ ([] : List (Addr × Obj)) from hp) (by simp), e0.hok.kept keep, ?_⟩
  · exact (kfr y c h1).1.trans (kfr z c h2).1.symm
  · have hy : scope.names.lookup y = some .cell ∨ scope.names.lookup y = some .free := hy
    rcases hy with hy | hy
    · exact absurd rfl (S.nocell _ (PySem.mem_of_lookup hy))
    · have e := S.free _ (PySem.mem_of_lookup hy) rfl
      have e' : y = ("__class__" : Str) := e
      subst e'
      exact ⟨cc, by show List.lookup _ [(("__class__" : Str), cc)] = _; simp [List.lookup]⟩
  · exact Bool.noConfusion h
  · have hi : i < vs.length := by
      unfold L2.start at h2
      by_cases hi : i < vs.length
      · exact hi
      · rw [List.getElem?_append_right (by simpa using hi)] at h2
        rw [List.getElem?_replicate] at h2
        split at h2 <;> cases h2
    have ha : vs[i]? = some v := by
      unfold L2.start at h2
      rw [List.getElem?_append_left (by simpa using hi), List.getElem?_map] at h2
      cases e : vs[i]? with
      | none => rw [e] at h2; cases h2
      | some a => rw [e] at h2; cases h2; rfl
    obtain ⟨u, hu, rv⟩ := r.get ha
    have hp : ps[i]? = some y := by
      rw [← S.pre, List.getElem?_take_of_lt (by omega)]; exact h1
    have ndP : ps.Nodup := by rw [← S.pre]; exact S.nd.sublist (List.take_sublist _ _)
    exact ⟨u, rv, .inl ⟨S.par y (List.mem_of_getElem? hp), lookup_rev_zip ndP (by rw [← hl, r.length]) hp hu⟩⟩
  · obtain ⟨_, rfl⟩ := kfr y c h
    exact ⟨_, _, keep _ _ ((e0.bs _ _ hccb).1), rfl⟩
  · obtain ⟨_, rfl⟩ := kfr y c h
    exact (e0.bs _ _ hccb).2
  · unfold L2.start
    show _ = N.length
    rw [List.length_append, List.length_map, List.length_replicate]
    omega
/-! ### judgements at a known activation -/
structure PSA (X : Cx) (fb st : List Stmt) (t : TS) : Prop where
  run : ∀ (pins : List (Addr × Obj)) (s : Shared) (σ : L2.St) (H : Hp) (D : Ends), Inv X pins σ H s → t D σ H → _root_.PySem.wpAt (model X.prog X.w) X.A (.func fb X.env) (execs st X.env) (SP X pins D) X.xe s
structure PEA (X : Cx) (fb : List Stmt) (e : Expr) (t : TE) : Prop where
  run : ∀ (pins : List (Addr × Obj)) (s : Shared) (σ : L2.St) (H : Hp) (Q : VK), Inv X pins σ H s → t σ H Q → _root_.PySem.wpAt (model X.prog X.w) X.A (.func fb X.env) (eval e X.env) (EP X pins σ Q) X.xe s
section
variable {X : Cx} {fb rest : List Stmt} {e : Expr} {te : TE} {u : TS} {pos : Pos}
theorem psa_expr (h1 : PEA X fb e te) (h2 : PSs X rest u) (hi : interactive X.env = false := by rfl) (hs : swapsWith e none pos.line X.env = pure false := by rfl) : PSA X fb (.Expr e pos :: rest) (tSeq (tDrop te) u) := by
  refine ⟨fun pins s σ H D I h => ?_⟩
  refine ks_wpAt_execs_cons (ks_wpAt_Expr_any (_root_.PySem.wpAt_mono (h1.run pins s σ H _ I h) (fun v s' ⟨x, H', I', _, q⟩ => ?_) fun _ _ z => z) hi hs)
  exact _root_.PySem.wpAt_of_wpAny (h2.run pins s' σ H' D I' q)
theorem psa_ret (h1 : PEA X fb e te) : PSA X fb [.Return (some e) pos] (tRet te) := by
  refine ⟨fun pins s σ H D I h => ?_⟩
  refine ks_wpAt_execs_cons (ks_wpAt_Return_some (_root_.PySem.wpAt_mono (h1.run pins s σ H _ I h) (fun v s' ⟨x, H', I', r, q⟩ => ?_) fun _ _ z => z))
  exact ⟨x, σ, H', I', r, q⟩
theorem psa_set {x : Str} {p' : Pos} {i : Nat} (hN : X.N.Nodup) (hi : X.N[i]? = some x) (hl : X.env.scope.names.lookup x = some .local) (h1 : PEA X fb e te) (h2 : PSs X rest u) (hs : swapsWith e (some (.Name x p')) pos.line X.env = pure false := by rfl) : PSA X fb (.Assign [.Name x p'] e pos :: rest) (tSeq (tAsg te (gName i)) u) := by
  refine ⟨fun pins s σ H D I h => ?_⟩
  refine ks_wpAt_execs_cons (ks_wpAt_Assign_Name (_root_.PySem.wpAt_mono (h1.run pins s σ H _ I h) (fun v s' ⟨y, H', I', r, q⟩ => ?_) fun _ _ z => z) hs)
  refine store_ok (v := y) I' hN hi (.inl hl) r (fun s2 I2 => ?_) (.inr hl)
  exact _root_.PySem.wpAt_of_wpAny (h2.run pins s2 _ H' D I2 q)
end
theorem FunS.ok {P : Program} {w : World} {K : PySem.W.Frag} {mg : Str → Option Value} {base : Heap} {x qual : Str} {params : Arguments} {body : List Stmt} {scope : Scope} {file : Str} {D f : Addr} {fd : FuncData} {cda cc : Addr} {CX : CXT} {N ps : List Str} {k : Nat} {sp : Sp}
    (F : FunS K x qual params body scope file D f fd cda cc) (S : FsScope N ps scope) (len : ∀ vs H Q E, sp vs H Q E → vs.length = ps.length)
    (hbody : ∀ (A : Around) (outer : List Env) (s : Shared) (H : Hp) (vs : List V) (Q : VK) (E : XK), Room k (A.deeper (PySem.W.ksEnv qual scope s.heap.objs.size f (.ref cda) cc)) → sp vs H Q E →
      ∃ t, PSA (cxS CX P w K mg base N qual scope f cda cc A outer s H E) body body t ∧ t { nx := fun _ H' => Q .non H', rt := Q } (L2.start N vs) H) : FnOk P w K mg base CX (k + 1) f fd ps sp := by
  obtain ⟨oc, od, kV, doc, pm, an, ct, osl, rfl, lk⟩ := F.fn
  refine ⟨len, fun A outer s H args us vs Q E hr e0 hb r hsp => ?_⟩
  have hl := len _ _ _ _ hsp
  have KX : K.In s.heap := e0.mod.kin.keeps fun b o e => (e0.bs b o e).1
  have lim : s.heap.NoLimit := e0.mod.nolimit.keeps fun b o e => (e0.bs b o e).1
  refine ks_codeAny_call_defAt (fd := PySem.W.ksFn x qual params body scope .none kV doc pm an (.ref cda) ct cc) (body := body) (binds := ps.zip us) hr.depth (KX _ _ lk) rfl lim (PySem.W.codeRec_of KX F.co) rfl hb S.nocell (fun y hy => S.par y.1 (List.of_mem_zip hy).1) (fun h₀ hns keep => ?_) S.co S.gen S.kind
  obtain ⟨t, ht, hq⟩ := hbody A outer s H vs Q E (hr.deeper _) hsp
  have I := inv_startS (CX := CX) (E := E) F S hr.hd e0 hl r hns keep (s.toks + (ps.zip us).length)
  refine _root_.PySem.wpAt_mono (ht.run [] _ (L2.start N vs) H _ I hq) (fun fl s' hs => ?_) fun e s' hs => hs
  have fin : ∀ {σ' : L2.St} {H' : Hp} {v : V} {u : Value}, Inv (cxS CX P w K mg base N qual scope f cda cc A outer s H E) [] σ' H' s' → RelV v u → Q v H' → CE outer P w H s Q u s' :=
    fun {σ' H' v u} J rv q => ⟨v, H', J.os, J.bare, J.base, J.hok, rv, q⟩
  cases fl with
  | ret u =>
    obtain ⟨v, σ', H', J, rv, q⟩ := hs
    exact fin J rv q
  | next =>
    obtain ⟨σ', H', J, q⟩ := hs
    exact fin (v := V.non) (u := Value.none) J rfl q
  | brk =>
    obtain ⟨_, _, _, q⟩ := hs
    exact False.elim q
  | cont =>
    obtain ⟨_, _, _, q⟩ := hs
    exact False.elim q
/-! ### super() -/
section
variable {CX : CXT} {P : Program} {w : World} {K : PySem.W.Frag} {mg : Str → Option Value} {base : Heap} {N ps : List Str} {x qual : Str} {params : Arguments} {body : List Stmt} {scope : Scope} {file : Str} {D f : Addr} {fd : FuncData} {cda cc : Addr} {A : Around} {outer : List Env} {s0 : Shared} {H0 : Hp} {E0 : XK}
  {pins : List (Addr × Obj)} {σ : L2.St} {H : Hp} {s : Shared} {fb : List Stmt} {E : Value → Shared → Prop}
theorem sup_base {p0 p1 : Pos} {attr : Str} {whole : Sem Value} {a C : Addr} {ox : Obj} {Q : Value → Shared → Prop} {self : Str} (F : FunS K x qual params body scope file D f fd cda cc) (S : FsScope N ps scope) (pf : PF P file) (hm : mg "super" = none)
    (hp : (params.posonlyargs ++ params.args).head?.map (·.arg) = some self) (hN : N[0]? = some self) (hself : scope.names.lookup self = some .local) (hat : (attr == ("__class__" : Str)) = false)
    (I : Inv (cxS CX P w K mg base N qual scope f cda cc A outer s0 H0 E0) pins σ H s) (hσ : σ[0]? = some (some (.ref a))) (hx : s.heap.get? a = some ox) (hxc : ox.cls = .ref C) (hnc : ∀ c, ox.data ≠ .cls c) (hsub : PySem.W.mroIn K C (.ref D) = some true)
    (h : ∀ h', h'.get? s.heap.objs.size = some { cls := .type "super", dict := none, data := .fields #[.ref D, .ref a, .ref C], slots := #[] } → (∀ y o, s.heap.get? y = some o → h'.get? y = some o) → Q (.ref s.heap.objs.size) { s with heap := h' }) :
    _root_.PySem.wpAt (model P w) (A.deeper (PySem.W.ksEnv qual scope s0.heap.objs.size f (.ref cda) cc)) (.func fb (PySem.W.ksEnv qual scope s0.heap.objs.size f (.ref cda) cc)) (attributeBase (.Call (.Name "super" p0) [] [] p1) attr (PySem.W.ksEnv qual scope s0.heap.objs.size f (.ref cda) cc) whole) Q E s := by
  obtain ⟨oc, od, kV, doc, pm, an, ct, osl, rfl, lk⟩ := F.fn
  obtain ⟨cl, cld, csl, hcell⟩ := F.cell
  obtain ⟨ccl, cdd, vs, ccs, tf, hcode, hvs⟩ := F.code
  obtain ⟨cdD, hD⟩ := Option.isSome_iff_exists.mp F.cls
  have kin : K.In s.heap := I.kIn
  obtain ⟨ar, har, hara⟩ : ∃ ar, (params.posonlyargs ++ params.args).head? = some ar ∧ ar.arg = self := by
    cases q : (params.posonlyargs ++ params.args).head? with
    | none => rw [q] at hp; cases hp
    | some ar => rw [q] at hp; exact ⟨ar, rfl, Option.some.inj hp⟩
  obtain ⟨oD, hD1, hD2⟩ : ∃ oD, s.heap.get? D = some oD ∧ oD.data = .cls cdD := by
    unfold PySem.W.clsIn at hD
    split at hD
    · rename_i c d cd' sl ho
      cases hD
      exact ⟨_, kin _ _ ho, rfl⟩
    · cases hD
  refine ks_wpAt_super_base (env := PySem.W.ksEnv qual scope s0.heap.objs.size f (.ref cda) cc) S.sup S.cls hat rfl (kin _ _ lk) rfl har rfl (kin _ _ hcode) rfl hvs pf.file pf.top ?_
  obtain ⟨mb, b1, b2⟩ := I.mod.blt
  refine PySem.W.ks_loadName_global S.kind S.sup (Calls.loadGlobal_builtin (env := PySem.W.ksEnv qual scope s0.heap.objs.size f (.ref cda) cc) (I.mod.glob.keeps I.bk) hm (b1.keeps I.bk) ((b2 _ (by decide +kernel)).trans (show bootBuiltins ("super" : Str) = some (.type "super") by decide +kernel)) ⟨rfl, ?_⟩)
  refine wpAny_loadName_free S.kind S.cls (show List.lookup ("__class__" : Str) [(("__class__" : Str), cc)] = some cc by simp [List.lookup]) ⟨_, kin _ _ hcell, rfl⟩ ?_
  obtain ⟨m, hns, hlk⟩ := I.loc
  obtain ⟨u, ru, look⟩ := hlk 0 self (.ref a) hN hσ (.inl hself)
  obtain rfl : u = Value.ref a := ru
  have hmv : m ar.arg = some (.ref a) := by
    rw [hara]
    rcases look with ⟨_, q⟩ | ⟨q | q, _⟩
    · exact q
    · have q' : scope.names.lookup self = some .cell := q
      rw [hself] at q'; cases q'
    · have q' : scope.names.lookup self = some .free := q
      rw [hself] at q'; cases q'
  refine wpAny_loadName_local S.kind (show scope.names.lookup ar.arg = some .local by rw [hara]; exact hself) hns hmv ?_
  obtain ⟨hh, g, d, t, os⟩ := s
  refine ks_wpAny_isType_cls hD1 hD2 ⟨rfl, ?_⟩
  exact ks_wpAny_call_super hD1 hD2 hx hxc hnc (PySem.W.looks_mroIn kin hsub) fun h' e k => h h' e k
/-- an object that is not tracked, held through a reading -/
theorem Inv.pin1 {X : Cx} {a : Addr} {o : Obj} (I : Inv X pins σ H s) (ho : s.heap.get? a = some o) (hn : X.base.get? a = none ∨ True) (hH : H a = none) (hL : a ≠ X.env.locals) (hf : a ∉ X.fs) (hc : ∀ v, o.data ≠ .cell v) : Inv X ((a, o) :: pins) σ H s :=
  I.pins_of fun p hp => by
    rcases List.mem_cons.mp hp with q | q
    · rw [q]; exact ⟨ho, hH, hL, hf, hc⟩
    · exact I.pin p (List.mem_append_right _ q)
/-- super().__init__(..) of an exception over ValueError -/
def tVeS (K : PySem.W.Frag) (D : Addr) (ta : TA) : TE := fun σ H Q => ∃ a C, σ[0]? = some (some (.ref a)) ∧ H a = some (exo a C none) ∧ OexC K C ∧ PySem.W.mroIn K C (.ref D) = some true ∧ PySem.W.ks_superIn K C D "__init__" = some (some (.builtin "ValueError.__init__")) ∧ PySem.W.subIn K (.ref C) (.type "ValueError") = some true ∧
  ta σ H fun vs H1 => vs.length ≤ 1000 ∧ H1 a = some (exo a C none) ∧ Q .non H1
theorem pea_supInit {p0 p1 p2 pos : Pos} {e : Expr} {es : List Expr} {ta : TA} {self : Str} {pl : Sem Bool} (F : FunS K x qual params body scope file D f fd cda cc) (S : FsScope N ps scope) (pf : PF P file) (hm : mg "super" = none)
    (hp : (params.posonlyargs ++ params.args).head?.map (·.arg) = some self) (hN : N[0]? = some self) (hself : scope.names.lookup self = some .local)
    (ha : PA (cxS CX P w K mg base N qual scope f cda cc A outer s0 H0 E0) (e :: es) ta)
    (hev : eval (.Call (.Attribute (.Call (.Name "super" p0) [] [] p1) "__init__" p2) (e :: es) [] pos) (PySem.W.ksEnv qual scope s0.heap.objs.size f (.ref cda) cc) = (do
      let ov ← attributeBase (.Call (.Name "super" p0) [] [] p1) "__init__" (PySem.W.ksEnv qual scope s0.heap.objs.size f (.ref cda) cc) (eval (.Call (.Name "super" p0) [] [] p1) (PySem.W.ksEnv qual scope s0.heap.objs.size f (.ref cda) cc))
      standAt p2.atName
      let (fn1, first) ← holding [ov] (getMethod ov "__init__" pl)
      callWith pos fn1 first (backTo pos (starEach (e :: es) (PySem.W.ksEnv qual scope s0.heap.objs.size f (.ref cda) cc))) []) := by rfl)
    (he : starEach (e :: es) (PySem.W.ksEnv qual scope s0.heap.objs.size f (.ref cda) cc) = (false, eval e (PySem.W.ksEnv qual scope s0.heap.objs.size f (.ref cda) cc)) :: starEach es (PySem.W.ksEnv qual scope s0.heap.objs.size f (.ref cda) cc) := by rfl) (hpl : (backTo pos (starEach es (PySem.W.ksEnv qual scope s0.heap.objs.size f (.ref cda) cc))).any (·.1) = false := by rfl) :
    PEA (cxS CX P w K mg base N qual scope f cda cc A outer s0 H0 E0) fb (.Call (.Attribute (.Call (.Name "super" p0) [] [] p1) "__init__" p2) (e :: es) [] pos) (tVeS K D ta) := by
  refine ⟨fun pins s σ H Q I h => ?_⟩
  obtain ⟨a, C, hσ, hH, T, hsub, hsup, hVE, h⟩ := h
  obtain ⟨t1, hx⟩ := exo_at I.hok hH
  refine ks_wpAt_MethodCall (sup_base F S pf hm hp hN hself (by decide +kernel) I hσ hx rfl (fun c z => nomatch z) hsub fun h' hso k => ?_) hev
  have I1 := I.kept (h' := h') (t' := s.toks) k
  have kin : K.In h' := I1.kIn
  have hx' := k _ _ hx
  obtain ⟨nm, qn, Nn, bs, bm, sn, sub, ab, col, dd, k0, k1, k2, k3, k5, hC, hbm⟩ := T.cls
  have hcl : PySem.W.clsIn K C = some { name := nm, bases := bs, mro := .ref C :: bm, ns := Nn, qualname := qn, hasDict := true, slotNames := sn, subclasses := sub, abstract := ab, collection := col, hasDel := false } := by unfold PySem.W.clsIn; rw [hC] <;> rfl
  have ins : PySem.W.InstAt h' a { cls := .ref C, dict := none, data := .fields #[.ref t1, .none, .none, .none, .bool false, .none] } C none := ⟨hx', rfl, rfl, trivial⟩
  have hI : PySem.W.Looks (model P w) h' (isInstance (.ref a) (.type "ValueError")) true := ins.type.andThen (PySem.W.looks_subIn kin hVE)
  unfold PySem.W.ks_superIn at hsup
  rw [hcl] at hsup
  obtain ⟨hh, g, d, tk, os⟩ := s
  have I1' : Inv (cxS CX P w K mg base N qual scope f cda cc A outer s0 H0 E0) pins σ H ⟨h', g, d, tk, os⟩ := I1
  refine PySem.W.kxs_getMethod PySem.W.kxs_ValueError hso (PySem.W.looks_opaque kin F.op) (l₀ := .ref C :: bm) ?_ rfl kin hsup hI (PySem.W.ks_ne kin ins hcl) (by decide +kernel) ?_
  · exact fun A Q E s k q => wpAny_bind ((PySem.W.looks_clsIn kin hcl) A _ E s k (wpAny_pure q))
  have I2 := I1'.kept (h' := h'.push (PySem.W.kxs_mw "ValueError.__init__" a)) (t' := tk + 1) fun b o z => Heap.get?_push_of_some _ z
  have hq0 : (h'.push (PySem.W.kxs_mw "ValueError.__init__" a)).get? h'.objs.size = some (PySem.W.kxs_mw "ValueError.__init__" a) := Heap.get?_push_at rfl rfl
  have I3 := Inv.pin1 I2 hq0 (.inr trivial) (I1'.hok.fresh (Nat.le_refl _)) (Ne.symm (Nat.ne_of_lt I1'.lt)) (I1'.nofs (Nat.le_refl _)) (fun v z => nomatch z)
  show wpAny _ _ (callWith pos (.ref h'.objs.size) [] (backTo pos (starEach (e :: es) _)) []) _ _ _
  rw [he]
  refine PySem.W.kxs_callWith (i := "ValueError.__init__") (x := a) (by show (false || (backTo pos (starEach es _)).any (·.1)) = false; rw [hpl]; rfl) ?_
  have ra := ha.run pos _ _ σ H _ I3 h
  rw [he] at ra
  refine PySem.Calls.evalArgs_plain (thn ra fun us s3 ⟨vs, H3, J, rv, hl, hH3, q⟩ => ?_)
  obtain ⟨hu, _⟩ := J.pin (h'.objs.size, PySem.W.kxs_mw "ValueError.__init__" a) (List.mem_append_right _ List.mem_cons_self)
  refine ⟨hu, ?_⟩
  obtain ⟨t3, hx3⟩ := exo_at J.hok hH3
  have kin3 : K.In s3.heap := J.kIn
  obtain ⟨hp3, g3, d3, t3', os3⟩ := s3
  show wpAny _ _ (call (.ref h'.objs.size) us) _ _ _
  refine wpAny_call (codeAny_of_tree ?_)
  show wpAny _ _ (callAny (.ref h'.objs.size) ⟨us, []⟩) _ _ _
  simp only [callAny]
  refine wpAny_bind (wpAny_load hu ?_)
  simp only [PySem.W.kxs_mw, show (Value.type "method-wrapper" == Value.type "method" || Value.type "method-wrapper" == Value.type "builtin_function_or_method" || Value.type "method-wrapper" == Value.type "method-wrapper") = true by decide, if_true]
  refine PySem.W.KFB.if_so (by decide) ?_
  refine wpAny_bind (PySem.W.check_bound_init PySem.F.excBase_ValueError.toExcCallFacts (kin3 _ _ hC) hx3 rfl ?_)
  refine wpAny_bind (wpAny_pure (wpAny_pure ?_))
  refine ⟨plainId_quiet PySem.F.excBase_ValueError.init.plain _, codeAny_builtin PySem.F.excBase_ValueError.initEntry ?_⟩
  have hus : us.length ≤ sizeLine := by
    rw [← Paired.length rv, sizeLine_eq]
    omega
  refine PySem.W.exc_init_tree (cls := .ref C) (t0 := t3) (dv := none) (c2 := .none) (c3 := .none) (b4 := .bool false) hx3 hus fun h4 k4 e4 _ => ?_
  have W := J.write (t' := t3') (x := a) (e := a) (o := exo a C none) (by rw [hH3]; exact True.intro) (.inl rfl) k4 ⟨_, e4⟩ (exo_ok e4)
  have eu : upd H3 a (exo a C none) = H3 := by
    funext b
    by_cases hb : b = a
    · rw [hb, upd_same, hH3]
    · rw [upd_ne hb]
  rw [eu] at W
  exact ⟨.non, H3, W.pins_of fun p hp => W.pin p (List.mem_append_right _ (List.mem_cons_of_mem _ hp)), rfl, q⟩
end
end Mu

namespace Mu
open PySem PySem.Spec PyProof.Rows L2 He
/-! ### the head's facts, with the methods that say super() -/
theorem cellB_ok {K : PySem.W.Frag} {cc D : Addr} (h : cellB K cc D = true) : ∃ (cl : Value) (cld : Option Addr) (csl : Array (Option Value)), K.lookup cc = some ⟨cl, cld, .cell (some (.ref D)), csl⟩ := by
  unfold cellB at h
  split at h
  · rename_i a b d sl e
    have z : d = D := by simpa using h
    subst z
    exact ⟨_, _, _, e⟩
  · cases h
theorem fileB_ok {K : PySem.W.Frag} {cda : Addr} {file : Str} (h : fileB K cda file = true) : ∃ (ccl : Value) (cdd : Option Addr) (vs : Array Value) (ccs : Array (Option Value)) (tf : Tok), K.lookup cda = some ⟨ccl, cdd, .fields vs, ccs⟩ ∧ vs[2]? = some (.str file tf) := by
  unfold fileB at h
  split at h
  · rename_i a b vs sl e
    split at h
    · rename_i x t e2
      have z : x = file := by simpa using h
      subst z
      exact ⟨_, _, _, _, _, e, e2⟩
    · cases h
  · cases h
theorem DefS.funS {K : PySem.W.Frag} {d : DefS} (e : fnS K d.at_ = d.val) (c : d.ok K = true) : ∃ fd cda cc, FunS K d.name d.qual d.params d.body d.scope d.file (ga K d.cls) (fAd K d.at_) fd cda cc := by
  obtain ⟨kp, c1⟩ := ba c
  obtain ⟨cl, c1⟩ := ba c1
  obtain ⟨op, c2⟩ := ba c1
  unfold fnS at e
  cases q : K.lookup (fAd K d.at_) with
  | none =>
    rw [q] at c2
    cases c2
  | some o =>
    obtain ⟨oc, od, dt, osl⟩ := o
    rw [q] at c2 e
    cases dt with
    | func fd =>
      obtain ⟨n1, n2, n3, n4, n5, n6, n7, n8, n9, n10, n11, n12, n13, n14, n15⟩ := fd
      have e2 : (some (n1, n2, n3, n4, n5, n6, n7.map (fun z => z.1), n15) : FnS) = some (d.name, d.qual, d.params, FuncBody.stmts d.body, d.scope, mainGlobals, [("__class__" : Str)], builtinsNs) := e
      simp only [Option.some.injEq, Prod.mk.injEq] at e2
      obtain ⟨h1, h2, h3, h4, h5, h6, h7, h8⟩ := e2
      have c4 : (decide (n8 = Value.none) && supB K d.qual (ga K d.cls) d.file n7 n13) = true := c2
      obtain ⟨k8, c3⟩ := ba c4
      have e8 := of_decide_eq_true k8
      subst e8
      unfold supB at c3
      split at c3
      · rename_i y cc cda
        obtain ⟨k1, k2⟩ := ba c3
        obtain ⟨k3, k4⟩ := ba k2
        have hy : y = ("__class__" : Str) := by simpa using h7
        subst h1 h2 h3 h4 h5 h6 h8 hy
        exact ⟨_, cda, cc, ⟨oc, od, n9, n10, n11, n12, n14, osl, rfl, q⟩, k1, cellB_ok k3, fileB_ok k4, cl, kp, of_decide_eq_true op⟩
      · cases c3
    | _ => cases c2
section
variable {fa : List Fa} {ex : List FactB} {fn : List DefD} {sn : List DefS} {K : PySem.W.Frag}
theorem SaysS.all (c : SaysS fa ex fn sn K) : ((((fa.all fun f => f.ok K) && ex.all fun f => f K) && fn.all fun d => d.ok K) && sn.all fun d => d.ok K) = true := congrArg (fun z : AlS => z.1) c
theorem SaysS.fact (c : SaysS fa ex fn sn K) (i : Nat) {f : Fa} (h : fa[i]? = some f := by rfl) : f.ok K = true := List.all_eq_true.mp (ba (ba (ba c.all).1).1).1 f (List.mem_of_getElem? h)
theorem SaysS.exf (c : SaysS fa ex fn sn K) (i : Nat) {f : FactB} (h : ex[i]? = some f := by rfl) : f K = true := List.all_eq_true.mp (ba (ba (ba c.all).1).1).2 f (List.mem_of_getElem? h)
theorem SaysS.def_ (c : SaysS fa ex fn sn K) (i : Nat) {d : DefD} (h : fn[i]? = some d := by rfl) : ∃ fd, FunD K d.name d.qual d.params d.body d.scope (d.dvs K) (d.kws K) (fAd K d.at_) fd := by
  have c2 := (ba (ba c.all).1).2
  have e : fn.map (fun d => fnW K d.at_) = fn.map DefD.val := congrArg (fun z : AlS => z.2.1) c
  have e2 : (fn.map fun d => fnW K d.at_)[i]? = (fn.map DefD.val)[i]? := by rw [e]
  rw [List.getElem?_map, List.getElem?_map, h] at e2
  exact DefD.funD (Option.some.inj e2) (List.all_eq_true.mp c2 d (List.mem_of_getElem? h))
theorem SaysS.sup_ (c : SaysS fa ex fn sn K) (i : Nat) {d : DefS} (h : sn[i]? = some d := by rfl) : ∃ fd cda cc, FunS K d.name d.qual d.params d.body d.scope d.file (ga K d.cls) (fAd K d.at_) fd cda cc := by
  have c2 := (ba c.all).2
  have e : sn.map (fun d => fnS K d.at_) = sn.map DefS.val := congrArg (fun z : AlS => z.2.2) c
  have e2 : (sn.map fun d => fnS K d.at_)[i]? = (sn.map DefS.val)[i]? := by rw [e]
  rw [List.getElem?_map, List.getElem?_map, h] at e2
  exact DefS.funS (Option.some.inj e2) (List.all_eq_true.mp c2 d (List.mem_of_getElem? h))
end
end Mu

namespace Mu
open PySem PySem.Spec PyProof.Rows L2 Evl
/-! ### within an except suite: the end of a list's iterator, comprehensions over lists -/
section
variable {prog : Program} {w : World} {A : Around} {E : Value → Shared → Prop} {s : Shared}
theorem next_list_hot {it l x1 : Addr} {i : Nat} {items : Array Value} {Q : Option Value → Shared → Prop} (hot : HotX.HotAt A x1 s.heap) (hne : x1 ≠ it) (hit : s.heap.IsListIter it l i) (hl : s.heap.IsList l items) (hx : items[i]? = none)
    (hQ : ∀ h', (∀ b o, b ≠ it → s.heap.get? b = some o → h'.get? b = some o) → Q none { s with heap := h' }) : wpAny (model prog w) A (pyNext (.ref it)) Q E s := by
  obtain ⟨o, ho, hc, hd⟩ := id hit
  obtain ⟨ol, hol, _, nl, hdl⟩ := hl
  obtain ⟨hh, o1, vs1, h1, d1, c1⟩ := hot
  unfold pyNext
  refine wpAny_bind (wpAny_attempt (wpAny_callSpecial?_slot (name := Str.ofString "__next__") hit.typeIs slot_listiter_next (wpAny_call_entry slot_listiter_next hit.typeIs entry_listiter_next ?_ (args_listiter_next _))))
  show wpAny _ _ (field (.ref it) 0 >>= _) _ _ s
  refine wpAny_bind (wpAny_field ho hd (x := .ref l) rfl ?_)
  show wpAny _ _ (if (Value.ref l == Value.none) = true then _ else _) _ _ s
  rw [if_neg (show ¬ ((Value.ref l == Value.none) = true) by simp)]
  show wpAny _ _ (field (.ref it) 1 >>= _) _ _ s
  refine wpAny_bind (wpAny_field ho hd (x := .int i 0) rfl ?_)
  show wpAny _ _ (seqItems? (.ref l) >>= _) _ _ s
  refine wpAny_bind (wpAny_seqItems hol hdl ?_)
  simp only [Int.toNat_natCast, hx]
  refine wpAny_bind (wpAny_rule (wpAny_bind (wpAny_setField ho hd (by simp) ?_)))
  show wpAny _ _ (newExc (.type "StopIteration") [] >>= _) _ _ _
  refine wpAny_bind ?_
  simp only [newExc, newTuple]
  refine wpAny_bind (wpAny_newObj_type ?_ (by size_fits))
  refine wpAny_bind (m := firstArgMember _ _) (wpAny_of_eq (a := Value.none) (by first | rfl | (simp only [firstArgMember]; rfl)) ?_)
  refine wpAny_newObj_type ?_ (by size_fits)
  have h1' : ∀ {k : Obj → Obj}, (s.heap.update it k).get? x1 = some o1 := (Heap.get?_update_other _ _ (Ne.symm hne)).trans h1
  refine HotX.raiseNew_hot ⟨hh, o1, vs1, Heap.get?_push_of_some _ (Heap.get?_push_of_some _ h1'), d1, c1⟩ (Nat.ne_of_lt (Heap.lt_size (Heap.get?_push_of_some _ h1'))) (Heap.get?_push_size _ rfl) rfl (by first | (simp; done) | (simp; omega) | (simp only [Array.size_append]; simp; omega)) ?_
  refine wpAny_bind (wpAny_isInstance (T := "StopIteration") (b := true) ⟨_, Heap.get?_update_self _ (Heap.get?_push_size _ rfl) rfl, rfl⟩ isSubtype_stop ?_)
  refine wpAny_pure (hQ _ fun b u hb e => ?_)
  have e2 : ∀ {k : Obj → Obj}, (s.heap.update it k).get? b = some u := (Heap.get?_update_other _ _ (Ne.symm hb)).trans e
  rw [Heap.get?_update_other _ _ (Nat.ne_of_gt (Heap.lt_size (Heap.get?_push_of_some _ e2)))]
  exact Heap.get?_push_of_some _ (Heap.get?_push_of_some _ e2)
end
section
variable {X : Cx}
theorem pe_lcH {elt tg iter : Expr} {ifs : List Expr} {scope : Scope} {own : List (Str × Nat)} {pos : Pos} {tl : TE} {g : TG} {tt : TT} {te : TE} (hot : L2H.HotC X) (hN : X.N.Nodup) (hl : PE X iter tl) (ok : BlkOk X.N X.env.scope scope own)
    (hg : ∀ (s : Shared) (H : Hp) (C : Addr) (cl : List (Str × Addr)) (fp : List Addr), PG (X.blk s H scope (compEnvC scope cl C X.env) fp) tg g) (ht : ∀ (s : Shared) (H : Hp) (C : Addr) (cl : List (Str × Addr)) (fp : List Addr), PTs (X.blk s H scope (compEnvC scope cl C X.env) fp) ifs tt)
    (he : ∀ (s : Shared) (H : Hp) (C : Addr) (cl : List (Str × Addr)) (fp : List Addr), PE (X.blk s H scope (compEnvC scope cl C X.env) fp) elt te) (hs : ∀ x, foldedSetIterable iter X.env x = pure x := by intro _; rfl) :
    PE X (.ListComp elt [⟨tg, iter, ifs, 0⟩] scope pos) (tLc (iList X.K tl) g tt te (own.map (·.2))) := by
  obtain ⟨pp, ⟨hh, v1, e1, c1⟩, hpp⟩ := hot
  refine ⟨fun pins s σ H Q I h => ?_⟩
  rw [eval_ListComp]
  have hfree : ∀ y ∈ scope.names, y.2 = .free → ∃ c, X.env.cells.lookup y.1 = some c := fun y hy e => (ok.free y hy e).elim (fun k => I.ok.has _ (.inl k)) (fun k => I.ok.has _ (.inr k))
  refine wpAny_comprehension_free rfl hs (closure_ok hfree) ok.kind (fun y hy e => by rw [ok.uniq y hy, e]) (thn (hl.run pins s σ H _ I h) fun xv s1 hx => ?_)
  obtain ⟨x, H2, I1, rx, a, ex, ⟨xs, hq⟩, q⟩ := hx
  subst ex
  cases rx
  obtain ⟨its, rv, p1, hz⟩ := I1.list hq
  refine wpAny_pyIter_list p1.isList ?_
  -- the iterator at n, the new list behind it
  obtain ⟨n, hn⟩ : ∃ n, n = s1.heap.objs.size := ⟨_, rfl⟩
  have T := turn_list (P := X.prog) (w := X.w) (K := X.K) (tg := tg) a n
  have I2 := I1.kept (t' := s1.toks) (h' := s1.heap.push { cls := .type "list_iterator", data := .fields #[.ref a, .int 0 0] }) fun b o e => Heap.get?_push_of_some _ e
  have st2 : (s1.heap.push { cls := .type "list_iterator", data := .fields #[.ref a, .int 0 0] }).IsListIter n a 0 := ⟨_, by rw [hn]; exact Heap.get?_push_size _ rfl, rfl, rfl⟩
  have f2 : FpOk X pins H2 n := I1.fpOk (Nat.le_of_eq hn.symm) (I1.hok.fresh (Nat.le_of_eq hn.symm))
  rw [← hn]
  obtain ⟨s2, hs2⟩ : ∃ s2 : Shared, s2 = { s1 with heap := s1.heap.push { cls := .type "list_iterator", data := .fields #[.ref a, .int 0 0] } } := ⟨_, rfl⟩
  replace I2 : Inv X pins σ H2 s2 := by rw [hs2]; exact I2
  replace st2 : s2.heap.IsListIter n a 0 := by rw [hs2]; exact st2
  rw [← hs2]
  have lt2 : n < s2.heap.objs.size := by
    obtain ⟨o, e, _⟩ := st2
    exact Heap.lt_size e
  refine wpAny_newObj_type (newEnv_comp ?_) (by show 0 ≤ sizeLine; decide)
  obtain ⟨D, hD⟩ : ∃ D, D = s2.heap.objs.size := ⟨_, rfl⟩
  rw [← hD]
  have hDn : H2 D = none := I2.hok.fresh (Nat.le_of_eq hD.symm)
  obtain ⟨W, ⟨m0, w0⟩, turn⟩ := q D hDn
  have I3 := I2.laid (a := D) (o := .lst []) (t' := s2.toks) (h' := s2.heap.push { cls := .type "list", data := .seq ([] : List Value).toArray }) (fun b o e => Heap.get?_push_of_some _ e) (Nat.le_of_eq hD.symm) ⟨Nat.zero_le _, [], 0, .nil, by rw [hD]; exact Heap.get?_push_size _ rfl⟩
  have st3 : (s2.heap.push { cls := .type "list", data := .seq ([] : List Value).toArray }).IsListIter n a 0 := T.keep _ _ _ st2 fun b _ o e => Heap.get?_push_of_some _ e
  have f3 : ∀ b ∈ [n], FpOk X pins (upd H2 D (.lst [])) b ∧ b < (s2.heap.push { cls := .type "list", data := .seq ([] : List Value).toArray }).objs.size := fun b hb => by
    have e : b = n := by simpa using hb
    subst e
    refine ⟨⟨?_, f2.2⟩, by rw [Heap.size_push]; omega⟩
    rw [upd_ne (by rw [hD]; exact Nat.ne_of_lt lt2)]
    exact f2.1
  obtain ⟨s3, hs3⟩ : ∃ s3 : Shared, s3 = { s2 with heap := s2.heap.push { cls := .type "list", data := .seq ([] : List Value).toArray } } := ⟨_, rfl⟩
  replace I3 : Inv X pins σ (upd H2 D (.lst [])) s3 := by rw [hs3]; exact I3
  replace st3 : s3.heap.IsListIter n a 0 := by rw [hs3]; exact st3
  replace f3 : ∀ b ∈ [n], FpOk X pins (upd H2 D (.lst [])) b ∧ b < s3.heap.objs.size := by rw [hs3]; exact f3
  rw [← hs3]
  obtain ⟨H3, hH3⟩ : ∃ H3, H3 = upd H2 D (.lst []) := ⟨_, rfl⟩
  rw [← hH3] at I3 f3 w0
  have I4 := block_start I3 ok hN f3
  have pg := hg s3 H3 s3.heap.objs.size (cellsFrom (s3.heap.objs.size + 1) scope.names (cloFrom X.env.cells scope.names [])) [n]
  have pt := ht s3 H3 s3.heap.objs.size (cellsFrom (s3.heap.objs.size + 1) scope.names (cloFrom X.env.cells scope.names [])) [n]
  have pe := he s3 H3 s3.heap.objs.size (cellsFrom (s3.heap.objs.size + 1) scope.names (cloFrom X.env.cells scope.names [])) [n]
  have pin3 := I3.pin pp (List.mem_append_left _ hpp)
  have pne : pp.1 ≠ n := (f3 n (by simp)).1.2.2.2.2.2 pp (List.mem_append_left _ hpp)
  have pstk : pp.1 ∉ frs X.stack := fun hm => (List.mem_cons.mp (I3.stkSub pp.1 hm)).elim pin3.2.2.1 pin3.2.2.2.1
  obtain ⟨ce, hce⟩ : ∃ ce, ce = compEnvC scope (cellsFrom (s3.heap.objs.size + 1) scope.names (cloFrom X.env.cells scope.names [])) s3.heap.objs.size X.env := ⟨_, rfl⟩
  have cL : ce.locals = s3.heap.objs.size := by rw [hce]; rfl
  show codeAny _ _ (.compStart (.ListComp elt [⟨tg, iter, ifs, 0⟩] scope pos) 0 (.ref n) (.ref D) (compEnvC scope (cellsFrom (s3.heap.objs.size + 1) scope.names (cloFrom X.env.cells scope.names [])) s3.heap.objs.size X.env)) (compPost (model X.prog X.w) X.A X.xe none (EP X pins σ Q) (.ref D) s3.heap.objs.size) { s3 with heap := pushCells (s3.heap.push { cls := .type "dict", data := .dict #[] }) scope.names }
  rw [← hce] at I4 pg pt pe ⊢
  obtain ⟨s4, hs4⟩ : ∃ s4 : Shared, s4 = { s3 with heap := pushCells (s3.heap.push { cls := .type "dict", data := .dict #[] }) scope.names } := ⟨_, rfl⟩
  rw [← hs4] at I4 ⊢
  have st4 : s4.heap.IsListIter n a 0 := T.keep _ _ _ st3 fun b _ o e => by rw [hs4]; exact pushCells_keeps _ _ _ _ (Heap.get?_push_of_some _ e)
  have stat : ∀ {σ' : L2.St} {H' : Hp} {s' : Shared}, Inv (X.blk s3 H3 scope ce [n]) [] σ' H' s' → H' n = none → FpOk (X.blk s3 H3 scope ce [n]) [] H' n := fun {σ' H' s'} I' z =>
    ⟨z, (I'.ok.exf n (by simp)).1, I'.ok.exfs n (by simp), .inl (by simp), fun x c e => (I'.ok.exf n (by simp)).2 x c e, fun p hp => nomatch hp⟩
  have loop : codeAny (model X.prog X.w) X.A (.compLoop (.ListComp elt [⟨tg, iter, ifs, 0⟩] scope pos) 0 (.ref n) (.ref D) ce) (compPost (model X.prog X.w) X.A X.xe none (EP X pins σ Q) (.ref D) s3.heap.objs.size) s4 := by
    refine compLoop_any (fun m s' => ∃ i H', Inv (X.blk s3 H3 scope ce [n]) [] (wipe σ (own.map (·.2))) H' s' ∧ s'.heap.IsListIter n a i ∧ H' n = none ∧ W i m H') ?_ m0 ⟨0, H3, I4, st4, (f3 n (by simp)).1.1, w0⟩
    rintro m s5 ⟨i, H5, I5, st5, n5, w5⟩
    obtain ⟨f0, f1, f2', f3', f4, f5⟩ := stat I5 n5
    rcases turn i m H5 w5 with ⟨stop, qq⟩ | ⟨go, Nx, hNx, step⟩
    · obtain ⟨ys, hq5, hx5⟩ := stop
      obtain ⟨its5, rv5, p5, _⟩ := I5.list hq5
      have hl5 := rv5.length
      have hot5 : HotX.HotAt X.A pp.1 s5.heap := ⟨hh, pp.2, v1, I5.base.keep _ _ pin3.1 pin3.2.1 pstk (fun z => pne (by simpa using z)), e1, c1⟩
      refine next_list_hot hot5 pne st5 p5.isList (by simp; omega) fun h' eb => ?_
      have I6 : Inv (X.blk s3 H3 scope ce [n]) [] (wipe σ (own.map (·.2))) H5 { s5 with heap := h' } := I5.turned (t' := s5.toks) (fun b o hb e => eb b o hb e) f0 f1 f3' f4 f5
      have I7 : Inv X pins σ H5 { s5 with heap := h' } := I3.call' (ch := [n]) I6.os I6.base I6.hok I6.bare fun b hb => ⟨(f3 b hb).1.2.2.2.1, (f3 b hb).1.2.1, (f3 b hb).1.2.2.2.2.1, (f3 b hb).1.2.2.2.2.2⟩
      have nC : H5 s3.heap.objs.size = none := by
        have z : H5 ce.locals = none := I6.free
        rwa [cL] at z
      obtain ⟨mm, hnn, _⟩ := I6.loc
      have hnn : (⟨h', s5.gens, s5.drawn, s5.toks, s5.os⟩ : Shared).heap.Ns ce.locals mm := hnn
      rw [cL] at hnn
      obtain ⟨g0, g1, g2, g3, g4, g5⟩ := I3.fpOk (Nat.le_refl _) nC
      exact ⟨mm, hnn, fun h'' sb => ⟨.ref D, H5, I7.turned (t' := s5.toks) (fun b o hb e => (sb.2 b hb).trans e) g0 g1 g3 g4 g5, rfl, qq⟩⟩
    · obtain ⟨ys, y, hq5, hy⟩ := go
      obtain ⟨its5, rv5, p5, _⟩ := I5.list hq5
      obtain ⟨u, hu, ru⟩ := rv5.get hy
      refine wpAny_pyNext_list_item st5 p5.isList (x := u) (by simpa using hu) fun h' st6 sb => ?_
      have I6 : Inv (X.blk s3 H3 scope ce [n]) [] (wipe σ (own.map (·.2))) H5 { s5 with heap := h' } := I5.turned (t' := s5.toks) (fun b o hb e => (sb.2 b hb).trans e) f0 f1 f3' f4 f5
      obtain ⟨o6, e6, c6, d6⟩ := id st6
      refine go_of (s := { s5 with heap := h' }) e6 c6 d6 (by decide) ?_
      have I7 := I6.pinned (fp := [n]) (fun b hb => by rw [show b = n by simpa using hb]; exact stat I6 n5) (T.obj _ _ st6)
      have y7 : (Itl X.K a).yld i H5 y H5 := ⟨rfl, fun zs hz => by rw [I5.list_inj hz hq5]; exact hy⟩
      refine thnF (pg.run _ _ _ H5 y u _ I7 ru (step y H5 y7)) fun _ s8 ⟨σ8, H8, I8, hw8, q8⟩ => ?_
      refine thnF (pt.run _ s8 σ8 H8 _ I8 q8) fun b s9 ⟨H9, I9, q9⟩ => ?_
      have fin : ∀ {s' : Shared} {H' : Hp}, Inv (X.blk s3 H3 scope ce [n]) ([] ++ pinsAt [n] h') σ8 H' s' → Nx H' → ∃ m', m' < m ∧ ∃ i H', Inv (X.blk s3 H3 scope ce [n]) [] (wipe σ (own.map (·.2))) H' s' ∧ s'.heap.IsListIter n a i ∧ H' n = none ∧ W i m' H' := fun {s' H'} I' nx => by
        obtain ⟨m', hm, w'⟩ := hNx H' nx
        have z := I'.pin (n, o6) (List.mem_append_right _ (List.mem_append_right _ (mem_pinsAt (by simp) e6)))
        have hl : (wipe σ (own.map (·.2))).length = σ8.length := by rw [← hw8, wipe_length]
        refine ⟨m', hm, i + 1, H', (I'.unpinned (pins := [])).weak hl (fun j v e => ?_), T.keep _ _ _ st6 fun b hb o e => ?_, z.2.1, w'⟩
        · rw [← hw8] at e
          exact (wipe_some e).1
        · have eb : b = n := by simpa using hb
          subst eb
          have e7 : h'.get? b = some o := e
          rw [show h'.get? b = some o6 from e6] at e7
          rw [← e7]
          exact z.1
      cases b with
      | false =>
        simp only [Bool.false_eq_true, if_false] at q9 ⊢
        exact fin I9 q9
      | true =>
        simp only [if_true] at q9 ⊢
        refine thnF (pe.run _ s9 σ8 H9 _ I9 q9) fun z s10 ⟨yv, H10, I10, r10, acc, hD10, hz10, nx⟩ => ?_
        exact app_ok (X := X.blk s3 H3 scope ce [n]) I10 hD10 hz10 r10 fun s11 I11 => fin I11 nx
  exact codeAny_compStart_list loop (T.self X.A 0 _ _ _ st4 loop)
end
end Mu

namespace Mu
open PySem PySem.Spec PyProof.Rows L2 Evl
/-! ### the program's errors: over ValueError, with an __init__ that says super().__init__(text) and stores fields -/
theorem oexB_ok {K : PySem.W.Frag} {C : Addr} (h : oexB K C = true) : OexC K C := by
  obtain ⟨h0, h⟩ := He.ba h
  obtain ⟨h1, h⟩ := He.ba h
  obtain ⟨h2, h⟩ := He.ba h
  obtain ⟨h3, h4⟩ := He.ba h
  refine ⟨?_, He.eqO_ok h1, of_decide_eq_true h2, of_decide_eq_true h3, h4⟩
  split at h0
  · rename_i od cd sl e
    split at h0
    · rename_i C' bm k0 k1 k2 k3 n k5 em es
      obtain ⟨a1, h0⟩ := He.ba h0
      obtain ⟨a2, h0⟩ := He.ba h0
      obtain ⟨a3, h0⟩ := He.ba h0
      obtain ⟨a4, a5⟩ := He.ba h0
      have e1 : C' = C := by simpa using a1
      have e2 : n = "ValueError.__new__" := by simpa using a2
      subst e1 e2
      obtain ⟨nm, bs, mro, ns, qn, hd, sn, sb, ab, col, del⟩ := cd
      have e3 : mro = .ref C' :: bm := em
      have e4 : del = false := by simpa using a3
      have e5 : hd = true := a4
      subst e3 e4 e5
      have e6 : sl = #[k0, k1, k2, k3, some (.builtin "ValueError.__new__"), k5] := by
        apply Array.ext'
        rw [es]
      subst e6
      exact ⟨nm, qn, ns, bs, bm, sn, sb, ab, col, od, k0, k1, k2, k3, k5, e, a5⟩
    · cases h0
  · cases h0
/-- an error class C, its __init__ at fI -/
structure ErrC (K : PySem.W.Frag) (C fI : Addr) : Prop where
  oex : OexC K C
  iC : PySem.W.findIn K (.ref C) "__init__" = some (some (.ref fI))
  tI : PySem.W.typeIn K (.ref fI) = some (.type "function")
  me : PySem.W.mroIn K C (.ref C) = some true
  sup : PySem.W.ks_superIn K C C "__init__" = some (some (.builtin "ValueError.__init__"))
  ve : PySem.W.subIn K (.ref C) (.type "ValueError") = some true
  xf : XfC K C
  is : ExcC K C
theorem errB_ok {K : PySem.W.Frag} {C fI : Addr} (h : errB K C fI = true) : ErrC K C fI := by
  obtain ⟨h0, h⟩ := He.ba h
  obtain ⟨h1, h⟩ := He.ba h
  obtain ⟨h2, h⟩ := He.ba h
  obtain ⟨h3, h⟩ := He.ba h
  obtain ⟨h4, h⟩ := He.ba h
  obtain ⟨h5, h⟩ := He.ba h
  obtain ⟨h6, h⟩ := He.ba h
  obtain ⟨h7, h⟩ := He.ba h
  obtain ⟨h8, h⟩ := He.ba h
  obtain ⟨h9, h10⟩ := He.ba h
  have x := xfB_ok h6
  exact ⟨oexB_ok h0, He.eqO_ok h1, of_decide_eq_true h2, of_decide_eq_true h3, He.eqO_ok h4, of_decide_eq_true h5, x, ⟨x.ga, x.gg, x.exC, x.hdC, He.eqO_ok h7, He.eqO_ok h8, of_decide_eq_true h9, of_decide_eq_true h10⟩⟩
/-- what such an __init__ does: the fields ns get the arguments -/
def spErr (C : Addr) (ns : List Str) : Sp := fun vs H Q _ => ∃ (a : Addr) (xs : List V), vs = .ref a :: xs ∧ xs.length = ns.length ∧ H a = some (exo a C none) ∧ ∀ d, H d = none → d ≠ a → Q .non (upd (upd H d (exd d (ns.zip xs).reverse)) a (exo a C (some d)))
theorem upd_swap {H : Hp} {a d : Addr} {o u v : HO} (h : d ≠ a) : upd (upd (upd H d o) a u) d v = upd (upd H d v) a u := by
  funext b
  by_cases c : b = d
  · subst c
    rw [upd_same, upd_ne h, upd_same]
  · rw [upd_ne c]
    by_cases c2 : b = a
    · subst c2
      rw [upd_same, upd_same]
    · rw [upd_ne c2, upd_ne c2, upd_ne c, upd_ne c]
/-! ### raising such an error (where nothing is handled) -/
theorem pmk_err {X : Cx} {CX : CXT} {x : Str} {e : Expr} {es : List Expr} {ta : TA} {p pos : Pos} {C fI : Addr} {k : Nat} {fd : FuncData} {ps : List Str} {sp : Sp} (T : ErrC X.K C fI)
    (F1 : FnOk X.prog X.w X.K X.mg X.base CX k fI fd ps sp) (hr : Room (k + 1) X.A) (hb : Binds X.K fd ps []) (hx : Passes CX X (fun _ _ _ => False)) (hg : Gl X x) (hm : X.mg x = some (.ref C)) (ha : PA X (e :: es) ta)
    (hdb : (x == ("__debug__" : Str)) = false := by decide) (he : starEach (e :: es) X.env = (false, eval e X.env) :: starEach es X.env := by rfl) (hpl : (backTo pos (starEach es X.env)).any (·.1) = false := by rfl) :
    L2N.PMk X (.Call (.Name x p) (e :: es) [] pos) (tMkO C sp [] ta) := by
  intro pins s σ H Q I h
  obtain ⟨nm, q, N, bs, bm, sn, sub, ab, col, dd, k0, k1, k2, k3, k5, hC, hbm⟩ := T.oex.cls
  refine wpAny_Call_Name_kw (ld_glob I hg hm ?_ hdb)
  refine PySem.W.callWith_K (h₀ := X.base) I.ok.mod.kin T.oex.kC (thn (ha.run pos pins s σ H _ I h) fun us s1 ⟨vs, H1, I1, r1, hz, q1⟩ => ⟨I1.kIn, ?_⟩) he hpl
  show wpAny _ _ (call (.ref C) us) _ _ _
  obtain ⟨hp, g, dr, tk, os⟩ := s1
  have hsz : hp.objs.size ≤ hp.objs.size + 1 := Nat.le_succ _
  have hq := q1 (hp.objs.size + 1) (I1.hok.fresh hsz)
  rw [List.append_nil] at hq
  have kk : ∀ b o, hp.get? b = some o → ((hp.push (PySem.W.kdv_tup us)).push (PySem.HandSPX.excO C hp.objs.size)).get? b = some o := fun b o e => Heap.get?_push_of_some _ (Heap.get?_push_of_some _ e)
  have I2 := I1.laid (t' := tk) (a := hp.objs.size + 1) (o := exo (hp.objs.size + 1) C none) (h' := (hp.push (PySem.W.kdv_tup us)).push (PySem.HandSPX.excO C hp.objs.size)) kk hsz (exo_ok (by heap_get))
  have r2 : Vals (V.ref (hp.objs.size + 1) :: vs) (Value.ref (hp.objs.size + 1) :: us) := .cons rfl r1
  have hl : (Value.ref (hp.objs.size + 1) :: us ++ []).length = ps.length := by
    rw [List.append_nil, ← r2.length]
    exact F1.len _ _ _ _ hq
  have hus : us.length ≤ sizeLine := by
    rw [← Paired.length r1, sizeLine_eq]
    omega
  have b2 := hb _ (Value.ref (hp.objs.size + 1) :: us) I2.kIn hl
  rw [List.append_nil] at b2
  refine wpAny_call (PySem.HandSPX.call_own F.excBase_ValueError (fun Y => PySem.HandSPX.refsVE_contains Y bm hbm) (I1.kIn _ _ hC) (PySem.W.looks_findIn I1.kIn T.iC) (fun self => PySem.W.bind_fn I1.kIn self T.tI) hus
    (codeAny_mono (F1.run _ X.stack _ _ ⟨Value.ref (hp.objs.size + 1) :: us, []⟩ (Value.ref (hp.objs.size + 1) :: us) _ _ (fun _ _ _ => False) (hr.make C us []) (I2.env0.make C us []) b2 r2 hq) fun r s' hq' => ?_))
  cases r with
  | error er => exact hx pins σ _ _ er s' I2 hq'
  | ok fl =>
    cases fl with
    | ret u =>
      obtain ⟨v, H2, os2, bare2, un2, hok2, rv, ev, d, fs, ea, ed, hd1, q2⟩ := hq'
      subst ev
      obtain ⟨h2, g2, d2, t2, os'⟩ := s'
      obtain ⟨t0, G, J, kG, ge, hoe, na⟩ := mk_end0 (d2 := d2) (t2 := t2) I1 hsz kk un2 hok2 os2 bare2 ea ed hd1
      exact ⟨rv, hp.objs.size + 1, _, _, ⟨G, g2, d2, t2, os'⟩, _, .ref C, some d, rfl, J, kG, ge, hoe, ⟨rfl, rfl, fun vs hv => by cases hv; rfl⟩, rfl, rfl, na, rfl, bare2, raises_own T.oex.exC T.oex.tyC, q2⟩
    | next => exact False.elim hq'
    | brk => exact False.elim hq'
    | cont => exact False.elim hq'
/-! ### a def that is called with the caught error -/
structure FnE (P : Program) (w : World) (K : PySem.W.Frag) (mg : Str → Option Value) (base : Heap) (CX : CXT) (k : Nat) (f : Addr) (fd : FuncData) (ps : List Str) (sp : Addr × Obj → Sp) : Prop where
  len : ∀ p vs H Q E, sp p vs H Q E → vs.length = ps.length
  run : ∀ (A : Around) (outer : List Env) (s : Shared) (H : Hp) (args : Args) (us : List Value) (vs : List V) (Q : VK) (E : XK) (p : Addr × Obj), L2H.RoomH k A → L2H.Hot1 A p → L2H.PinOk outer H s p → Env0 P w K mg base A outer s H → BindsTo s fd args (ps.zip us) → Vals vs us → sp p vs H Q E →
    codeAny (model P w) A (.call (.ref f) args) (CR CX outer P w H s Q E) s
theorem fn_ofE {CX : CXT} {P : Program} {w : World} {K : PySem.W.Frag} {mg : Str → Option Value} {base : Heap} {k : Nat} {x qual : Str} {params : Arguments} {body : List Stmt} {scope : Scope} {dvs : List V} {kws : List (Str × V)} {f : Addr} {fd : FuncData} {N ps : List Str} {sp : Addr × Obj → Sp} (F : FunD K x qual params body scope dvs kws f fd) (S : FnScope N ps scope)
    (len : ∀ p vs H Q E, sp p vs H Q E → vs.length = ps.length)
    (hbody : ∀ (cdv : Value) (A : Around) (outer : List Env) (s : Shared) (H : Hp) (vs : List V) (Q : VK) (E : XK) (p : Addr × Obj), L2H.Hot1 A p → L2H.RoomH k (A.deeper (envOfC qual scope s.heap.objs.size f cdv)) → sp p vs H Q E →
      ∃ t, PSs (L2H.cxH CX P w K mg base N qual scope f cdv A outer s H E p) body t ∧ t { nx := fun _ H' => Q .non H', rt := Q } (L2.start N vs) H) : FnE P w K mg base CX (k + 1) f fd ps sp := by
  obtain ⟨oc, od, dV, kV, doc, pm, an, cdv, ct, osl, rfl, lk, hcd, _, _⟩ := F.ex
  refine ⟨len, fun A outer s H args us vs Q E p hr hot hpin e0 hb r hsp => ?_⟩
  have KX : K.In s.heap := e0.mod.kin.keeps fun b o e => (e0.bs b o e).1
  have lim : s.heap.NoLimit := e0.mod.nolimit.keeps fun b o e => (e0.bs b o e).1
  refine codeAny_call_function hr.depth (KX _ _ lk) rfl S.co S.gen rfl (PySem.W.codeRec_of KX hcd) (hb _ _ _ _ ?_)
  refine wpAny_newFunctionEnv_cells S.kind (fun y hy => (S.par y.1 (List.of_mem_zip hy).1).imp id fun q => ⟨q, PySem.W.cellsFrom_some _ _ _ (.inl q)⟩) fun env he s1 x => ?_
  subst he
  refine ⟨lim.keeps x.toInCall.keep, codeAny_func ?_⟩
  obtain ⟨t, ht, hq⟩ := hbody cdv A outer s H vs Q E p hot (hr.deeper _) hsp
  have I := L2H.inv_startH (CX := CX) (E := E) S hpin e0 (len p vs H Q E hsp) r x
  refine wpAny_mono (ht.run [] s1 (L2.start N vs) H _ I hq) (fun fl s' hs => ?_) fun e s' hs => hs
  cases fl with
  | ret u =>
    obtain ⟨v, σ', H', J, rv, q⟩ := hs
    exact ⟨v, H', J.os, J.bare, J.base, J.hok, rv, q⟩
  | next =>
    obtain ⟨σ', H', J, q⟩ := hs
    exact ⟨V.non, H', J.os, J.bare, J.base, J.hok, rfl, q⟩
  | brk =>
    obtain ⟨_, _, _, q⟩ := hs
    exact q.elim
  | cont =>
    obtain ⟨_, _, _, q⟩ := hs
    exact q.elim
section
variable {X : Cx} {CX : CXT} {k : Nat} {f : Addr} {fd : FuncData} {ps : List Str} {sp : Addr × Obj → Sp} {E : L2.St → XK} {x : Str} {q pos : Pos} {e : Expr} {es : List Expr} {t : TA} {p : Addr × Obj}
theorem pe_callE (F : FnE X.prog X.w X.K X.mg X.base CX k f fd ps sp) (hr : L2H.RoomH k X.A) (hot : L2H.Hot1 X.A p) (hp : p ∈ X.pn) (hg : Gl X x) (hm : X.mg x = some (.ref f)) (hk : PySem.W.keepIn X.K (.ref f) = true) (hb : Binds X.K fd ps []) (hx : ∀ σ, PassesAt CX X σ (E σ))
    (ha : PA X (e :: es) t) (hdb : (x == ("__debug__" : Str)) = false := by decide) (he : starEach (e :: es) X.env = (false, eval e X.env) :: starEach es X.env := by rfl) (hpl : (backTo pos (starEach es X.env)).any (·.1) = false := by rfl) :
    PE X (.Call (.Name x q) (e :: es) [] pos) (tCallS (sp p) E t) := by
  refine ⟨fun pins s σ H Q I h => ?_⟩
  refine wpAny_Call_Name_kw (ld_glob I hg hm ?_ hdb)
  refine PySem.W.callWith_K (h₀ := X.base) I.ok.mod.kin hk (thn (ha.run pos pins s σ H _ I h) fun us s1 ⟨vs, H1, I1, r, q⟩ => ⟨I1.kIn, ?_⟩) he hpl
  have hl : us.length = ps.length := by rw [← r.length]; exact F.len _ _ _ _ _ q
  have b := hb s1 us I1.kIn (by rw [List.append_nil]; exact hl)
  rw [List.append_nil] at b
  have P1 := I1.pin p (List.mem_append_left _ hp)
  have hpin : L2H.PinOk X.stack H1 s1 p := ⟨P1.1, P1.2.1, fun hm => (List.mem_cons.mp (I1.stkSub p.1 hm)).elim P1.2.2.1 P1.2.2.2.1, P1.2.2.2.2⟩
  refine wpAny_call (codeAny_mono (F.run X.A X.stack s1 H1 ⟨us, []⟩ us vs Q (E σ) p hr hot hpin I1.env0 b r q) fun r s' hq => ?_)
  cases r with
  | error e => exact hx σ pins H1 s1 e s' I1 hq
  | ok fl =>
    cases fl with
    | ret u => exact I1.after hq
    | next => exact False.elim hq
    | brk => exact False.elim hq
    | cont => exact False.elim hq
end
/-- isinstance(e, c), e the error that is handled -/
def rIsP (K : PySem.W.Frag) (D a : Addr) (d : Option Addr) : List V → Hp → VK → Prop := fun xs H Q => ∃ (c : V) (cv : Value) (b : Bool), xs = [.ref a, c] ∧ (∀ u, RelV c u → u = cv) ∧ PySem.W.kitOne K (.ref D) cv = some b ∧ (∀ dd, d = some dd → ∃ fs, H dd = some (.xd fs)) ∧ Q (.bl b) H
theorem call_isP {X : Cx} {a D : Addr} {d : Option Addr} {oe : Obj} (C : ExcC X.K D) (hp : (a, oe) ∈ X.pn) (hz : Zc (.ref D) d oe) (hf : ∃ vs, oe.data = .fields vs) : CallR X (.builtin "isinstance") (rIsP X.K D a d) := by
  intro pins s σ H xs us Q I r h
  obtain ⟨c, cv, b, rfl, hcv, e, hd, q⟩ := h
  cases r with
  | cons rx rr =>
    cases rr with
    | cons rt rr =>
      cases rr
      cases rx
      have ec := hcv _ rt
      subst ec
      obtain ⟨hget, _⟩ := I.pin (a, oe) (List.mem_append_left _ hp)
      obtain ⟨vs, hv⟩ := hf
      have hcl : (PySem.W.clsIn X.K D).isSome = true := by
        obtain ⟨cd, hc, _⟩ := PySem.W.any_some C.hd
        rw [hc]; rfl
      have J : ∃ od, PySem.W.InstAt s.heap a oe D od := by
        cases d with
        | none => exact ⟨none, hget, hz.1, by unfold PySem.W.notCls; rw [hv] <;> rfl, by rw [hz.2]; trivial⟩
        | some dd =>
          obtain ⟨fs, hfs⟩ := hd dd rfl
          obtain ⟨mA, hns, _⟩ := (show ObjOk X.prog X.w H s.heap dd (.xd fs) from I.hok dd _ hfs)
          obtain ⟨od, _, _, hod, _⟩ := hns
          exact ⟨some od, hget, hz.1, by unfold PySem.W.notCls; rw [hv] <;> rfl, by rw [hz.2]; exact hod⟩
      obtain ⟨od, J⟩ := J
      exact PySem.W.kia_one (PySem.W.kitx_exc hcl C.hg C.hk C.hs C.ha C.hn C.ht C.hm) I.kIn J e (fun z => nomatch z) fun tk => ⟨.bl b, H, I.kept (t' := tk) fun _ _ z => z, rfl, q⟩
/-! ### readings within the suite -/
/-- a caught error: its fields -/
def rE (a : Addr) (fs : List (Str × V)) (d : Option Addr) : Rp := ⟨fun v G => v = .ref a ∧ XdOk G fs d, fun e h => ⟨h.1, h.2.mono e⟩⟩
section
variable {Γ : Ctx} {M : List Re} {te : TE} {K : PySem.W.Frag} {a C D : Addr} {fs : List (Str × V)} {d : Option Addr} {v c : V} {cv : Value} {b : Bool} {f : Str}
theorem x_xf (h : EvX Γ te (rE a fs d)) (hd : d.isSome = true) (hf : fs.lookup f = some v) : EvX Γ (tXf a (.ref C) d C f te) (rV v) := fun σ G en H e Q q => h σ G en H e _ fun x G2 H2 g hx => by
  obtain ⟨rfl, hx⟩ := hx
  obtain ⟨dd, rfl⟩ := Option.isSome_iff_exists.mp hd
  exact ⟨rfl, rfl, dd, fs, v, rfl, g.i _ _ hx, hf, q v G2 H2 g rfl⟩
theorem x_isP (h : EvX Γ te (rE a fs d)) (hc : ClsV c cv) (e : PySem.W.kitOne K (.ref D) cv = some b) : EvX Γ (tCB (rIsP K D a d) (tCons te (tCons (tC c) tNil))) (rB b) := fun σ G en H e' Q q => h σ G en H e' _ fun x G2 H2 g hx => by
  obtain ⟨rfl, hx⟩ := hx
  refine ⟨c, cv, b, rfl, fun u hu => ?_, e, fun dd hd => ?_, q _ G2 H2 g rfl⟩
  · cases hc with
    | ty n => exact hu
    | own a => exact hu
  · subst hd
    exact ⟨fs, g.i _ _ hx⟩
end
/-! ### what may be raised -/
abbrev Out := Rp ⊕ (Value × List (Str × V))
def spO (R : List V → Hp → Out → Prop) : Sp := fun vs H Q E => ∃ G o, Ex G H ∧ R vs G o ∧ (∀ r, o = .inl r → ∀ v G2 H2, Gr G H G2 H2 → r.p v G2 → Q v H2) ∧ (∀ cls fs, o = .inr (cls, fs) → ∀ d G2 H2, Gr G H G2 H2 → XdOk G2 fs d → E cls d H2)
def EXX (W : WX) (Γ : Ctx) (M : List Re) (te : TE) (o : Out) : Prop := ∀ B G H σ, Ok B G H M → En σ G Γ → ∀ Q : VK, (∀ r, o = .inl r → ∀ v G' H', Ok B G' H' M → Ex G G' → r.p v G' → Q v H') → (∀ cls fs, o = .inr (cls, fs) → ∀ d G' H', Ok B G' H' M → Ex G G' → XdOk G' fs d → W cls d σ H') → te σ H Q
section
variable {W : WX} {Γ : Ctx} {M : List Re} {te : TE} {ta : TA} {o : Out} {rs : List Rp} {κ : Kn} {i : Nat} {R : List V → Hp → Out → Prop} {K : PySem.W.Frag}
theorem x_callX (h : EvAX Γ ta rs) (hs : ∀ vs G, RA G vs rs → R vs G o) : EXX W Γ M (tCallS (spO R) (WE W) ta) o := fun B G H σ ok en Q q1 q2 => h σ G en H ok.i _ fun vs G2 H2 g ra =>
  ⟨G2, o, g.i, hs vs G2 ra, fun r e v G3 H3 g3 hv => q1 r e v G3 H3 (ok.gr (g.trans g3)) (g.g.trans g3.g) hv, fun cls fs e d G3 H3 g3 hx => q2 cls fs e d G3 H3 (ok.gr (g.trans g3)) (g.g.trans g3.g) hx⟩
theorem w_doX (h : EXX W Γ M te o) (hn : ∀ r, o = .inl r → κ.nx Γ M) (hx : ∀ cls fs, o = .inr (cls, fs) → κ.ex Γ cls fs M) : WP W Γ M (tDrop te) κ := fun B G H σ D ok en d =>
  h B G H σ ok en _ (fun r e v G2 H2 o2 e2 hv => d.nx _ G2 H2 _ M o2 (en.mono e2) (hn r e)) fun cls fs e dd G2 H2 o2 e2 xd => d.ex _ G2 H2 _ M cls dd fs o2 (en.mono e2) xd (hx cls fs e)
theorem w_setX (h : EXX W Γ M te o) (hn : ∀ r, o = .inl r → κ.nx (Γ.set i (some r)) M) (hx : ∀ cls fs, o = .inr (cls, fs) → κ.ex Γ cls fs M) : WP W Γ M (tAsg te (gName i)) κ := fun B G H σ D ok en d =>
  h B G H σ ok en _ (fun r e v G2 H2 o2 e2 hv => d.nx _ G2 H2 _ M o2 ((en.mono e2).set hv i) (hn r e)) fun cls fs e dd G2 H2 o2 e2 xd => d.ex _ G2 H2 _ M cls dd fs o2 (en.mono e2) xd (hx cls fs e)
theorem w_retX (h : EXX W Γ M te o) (hn : ∀ r, o = .inl r → κ.rt r M) (hx : ∀ cls fs, o = .inr (cls, fs) → κ.ex Γ cls fs M) : WP W Γ M (tRet te) κ := fun B G H σ D ok en d =>
  h B G H σ ok en _ (fun r e v G2 H2 o2 e2 hv => d.rt _ G2 H2 r M o2 hv (hn r e)) fun cls fs e dd G2 H2 o2 e2 xd => d.ex _ G2 H2 _ M cls dd fs o2 (en.mono e2) xd (hx cls fs e)
theorem ra_vals_eq {H : Hp} : ∀ {l vs : List V}, RA H vs (l.map rV) → vs = l
  | [], _, .nil => rfl
  | n :: r, _, .cons h t => by
    have e1 := ra_vals_eq (l := r) t
    have e2 : _ = n := h
    rw [e1, e2]
/-- raise C(..) -/
theorem w_raise {C : Addr} {ns : List Str} {xs : List V} (h : EvAX Γ ta (xs.map rV)) (hl : xs.length = ns.length) (hz : ns.length ≤ 1000) (hx : κ.ex Γ (.ref C) (ns.zip xs).reverse M) : WP W Γ M (fun _ σ H => tMkO C (spErr C ns) [] ta σ H fun cls d H' => W cls d σ H') κ := fun B G H σ D ok en d =>
  h σ G en H ok.i _ fun vs G2 H2 g ra => by
    have ev := ra_vals_eq ra
    subst ev
    refine ⟨by rw [hl]; exact hz, fun a ha => ?_⟩
    rw [List.append_nil]
    refine ⟨a, vs, rfl, hl, upd_same, fun dd hd hda => ⟨rfl, dd, _, upd_same, by rw [upd_ne hda]; exact upd_same, ?_, ?_⟩⟩
    · rwa [upd_ne hda] at hd
    · have hd2 : H2 dd = none := by rwa [upd_ne hda] at hd
      have e : upd (del (upd (upd (upd H2 a (exo a C none)) dd (exd dd (ns.zip vs).reverse)) a (exo a C (some dd))) a) dd (.xd (ns.zip vs).reverse) = upd H2 dd (.xd (ns.zip vs).reverse) := by
        funext b
        by_cases c : b = dd
        · subst c; rw [upd_same, upd_same]
        · rw [upd_ne c, upd_ne c]
          by_cases c2 : b = a
          · subst c2; rw [del_same, ha]
          · rw [del_ne c2, upd_ne c2, upd_ne c, upd_ne c2]
      rw [e]
      have g3 := Gr.new (o := .xd (ns.zip vs).reverse) g.i hd2
      exact d.ex _ _ _ Γ M (.ref C) (some dd) _ (ok.gr (g.trans g3)) (en.mono (g.g.trans g3.g)) upd_same hx
/-- try: .. except c as n: .. -/
theorem w_try {c : Value} {tb : WX → TS} {ts : Addr → Value → Option Addr → TS} (h : ∀ W', WP W' Γ M (tb W') { κ with ex := fun Γ' cls fs M' => ∃ b, PySem.W.exmOne K cls c = some b ∧
      (b = true → ∀ a d, (fs ≠ [] → d.isSome = true) → WP (fun _ _ _ _ => False) (Γ'.set i (some (rE a fs d))) M' (ts a cls d) { nx := fun Γ2 M2 => κ.nx (Γ2.set i none) M2, rt := κ.rt, bk := fun Γ2 M2 => κ.bk (Γ2.set i none) M2, ct := fun Γ2 M2 => κ.ct (Γ2.set i none) M2 }) ∧ (b = false → κ.ex Γ' cls fs M') }) :
    WP W Γ M (fun D σ H => tb (wAs K c i ts W D) D σ H) κ := fun B G H σ D ok en d =>
  h _ B G H σ D ok en ⟨d.nx, d.rt, d.bk, d.ct, fun σ' G' H' Γ' M' cls dd fs o' en' xd z => by
    obtain ⟨b, h1, h2, h3⟩ := z
    refine ⟨b, h1, fun hb a ha => ?_, fun hb => d.ex σ' G' H' Γ' M' cls dd fs o' en' xd (h3 hb)⟩
    refine h2 hb a dd (fun hf => ?_) B G' H' _ _ o' (en'.set (r := rE a fs dd) ⟨rfl, xd⟩ i) ⟨fun σ2 G2 H2 Γ2 M2 o2 en2 q => d.nx _ G2 H2 _ M2 o2 (en2.wipe1 i) q, d.rt, fun σ2 G2 H2 Γ2 M2 o2 en2 q => d.bk _ G2 H2 _ M2 o2 (en2.wipe1 i) q, fun σ2 G2 H2 Γ2 M2 o2 en2 q => d.ct _ G2 H2 _ M2 o2 (en2.wipe1 i) q, fun _ _ _ _ _ _ _ _ _ _ _ q => q.elim⟩
    cases dd with
    | none => exact absurd xd hf
    | some _ => rfl⟩
/-- from a def's promise to its walk, errors told -/
theorem run_O {t : TS} {G H : Hp} {σ : L2.St} {Q : VK} {E : XK} (w : WP (fun cls d _ H => E cls d H) Γ [] t { nx := fun _ _ => o = .inl (rV .non), rt := fun r' _ => o = .inl r', ex := fun _ cls fs _ => o = .inr (cls, fs) }) (e : Ex G H) (en : En σ G Γ) (k1 : ∀ r, o = .inl r → ∀ v G2 H2, Gr G H G2 H2 → r.p v G2 → Q v H2) (k2 : ∀ cls fs, o = .inr (cls, fs) → ∀ d G2 H2, Gr G H G2 H2 → XdOk G2 fs d → E cls d H2) : t { nx := fun _ H' => Q .non H', rt := Q } σ H :=
  w _ G H σ _ (Ok.nil e) en ⟨fun σ' G' H' Γ' M' o en' z => k1 _ z _ G' H' o.to rfl, fun v G' H' r' M' o hv z => k1 r' z v G' H' o.to hv, fun _ _ _ _ _ _ _ z => z.elim, fun _ _ _ _ _ _ _ z => z.elim, fun σ' G' H' Γ' M' cls d fs o en' xd z => k2 cls fs z d G' H' o.to xd⟩
end
theorem takesN0 {X : Cx} : L2N.Takes X (fun _ _ _ _ => False) := fun _ _ x => by
  obtain ⟨_, _, _, _, _, _, _, _, _, _, _, _, _, _, _, _, z⟩ := x
  exact z.elim
theorem passF {X : Cx} : Passes (L2N.CX X.prog X.w) X (fun _ _ _ => False) := fun _ _ _ _ _ _ _ h => by
  obtain ⟨_, _, _, _, _, _, _, _, _, _, _, _, z⟩ := h
  exact z.elim
theorem SpD.ofO {R : List V → Hp → Out → Prop} {vs : List V} {G : Hp} {r : Rp} (h : R vs G (.inl r)) : SpD (spO R) vs G r := fun H e Q q E => ⟨G, .inl r, e, h, fun r' e' => by cases e'; exact q, fun _ _ z => nomatch z⟩
theorem pe_imp {X : Cx} {e : Expr} {t t' : TE} (h : PE X e t) (hi : ∀ σ H Q, t' σ H Q → t σ H Q) : PE X e t' := ⟨fun pins s σ H Q I z => h.run pins s σ H Q I (hi σ H Q z)⟩
/-! ### the law's look at an error: of one class alone -/
structure Sg (K : PySem.W.Frag) (cs : List Addr) (mu D : Addr) : Prop where
  is : ExcC K D
  kb : ∀ c ∈ cs, PySem.W.kitOne K (.ref D) (.ref c) = some (decide (PySem.W.kitOne K (.ref D) (.ref c) = some true))
  one : (cs.filter fun c => decide (PySem.W.kitOne K (.ref D) (.ref c) = some true)).length = 1
  mu : PySem.W.kitOne K (.ref D) (.ref mu) = some true
  ve : PySem.W.kitOne K (.ref D) (.type "ValueError") = some true
theorem isB_ok {K : PySem.W.Frag} {C : Addr} (h : isB K C = true) : ExcC K C := by
  obtain ⟨h6, h⟩ := He.ba h
  obtain ⟨h7, h⟩ := He.ba h
  obtain ⟨h8, h⟩ := He.ba h
  obtain ⟨h9, h10⟩ := He.ba h
  have x := xfB_ok h6
  exact ⟨x.ga, x.gg, x.exC, x.hdC, He.eqO_ok h7, He.eqO_ok h8, of_decide_eq_true h9, of_decide_eq_true h10⟩
theorem sgB_ok {K : PySem.W.Frag} {cs : List Addr} {mu D : Addr} (h : sgB K cs mu D = true) : Sg K cs mu D := by
  obtain ⟨h0, h⟩ := He.ba h
  obtain ⟨h1, h⟩ := He.ba h
  obtain ⟨h2, h⟩ := He.ba h
  obtain ⟨h3, h4⟩ := He.ba h
  refine ⟨isB_ok h0, fun c hc => ?_, of_decide_eq_true h2, of_decide_eq_true h3, of_decide_eq_true h4⟩
  have z := List.all_eq_true.mp h1 c hc
  rcases Bool.or_eq_true_iff.mp z with q | q
  · rw [of_decide_eq_true q]; rfl
  · rw [of_decide_eq_true q]; rfl
def spSingle (K : PySem.W.Frag) (cs : List Addr) (mu : Addr) : Addr × Obj → Sp := fun p vs H Q _ => ∃ D d fs G, vs = [.ref p.1] ∧ Zc (.ref D) d p.2 ∧ (∃ ws, p.2.data = .fields ws) ∧ Sg K cs mu D ∧ Ex G H ∧ XdOk G fs d ∧ ∀ v G2 H2, Gr G H G2 H2 → (rB true).p v G2 → Q v H2
/-- the reading of that look, within the suite -/
def tSg (K : PySem.W.Frag) (cs : List Addr) (mu a : Addr) (cls : Value) (d : Option Addr) (t : TA) : TE := fun σ H Q => t σ H fun vs H1 => ∃ D fs G, vs = [.ref a] ∧ cls = .ref D ∧ Sg K cs mu D ∧ Ex G H1 ∧ XdOk G fs d ∧ ∀ v G2 H2, Gr G H1 G2 H2 → (rB true).p v G2 → Q v H2
theorem x_single {Γ : Ctx} {te : TE} {K : PySem.W.Frag} {cs : List Addr} {mu a D : Addr} {fs : List (Str × V)} {d : Option Addr} (h : EvX Γ te (rE a fs d)) (sg : Sg K cs mu D) : EvX Γ (tSg K cs mu a (.ref D) d (tCons te tNil)) (rB true) := fun σ G en H e Q q => h σ G en H e _ fun x G2 H2 g hx => by
  obtain ⟨rfl, hx⟩ := hx
  exact ⟨D, fs, G2, rfl, rfl, sg, g.i, hx, fun v G3 H3 g3 hv => q v G3 H3 (g.trans g3) hv⟩
end Mu

namespace Mu
open PySem PySem.Spec PyProof.Rows L2 Evl
/-! ### readings with a draw in them: the answer by what was drawn -/
def EXD {α : Type} (Γ : Ctx) (M : List Re) (te : TE) (D : α → Prop) (f : α → Rp) : Prop := EX Γ M te (fun r M' => (∃ a, D a ∧ r = f a) ∧ M' = M)
def EXTD {α : Type} (Γ : Ctx) (M : List Re) (t : TT) (D : α → Prop) (c : α → Bool) : Prop := EXT Γ M t (fun b M' => (∃ a, D a ∧ b = c a) ∧ M' = M)
section
variable {α : Type} {D : α → Prop} {W : WX} {Γ : Ctx} {M : List Re} {te ta tb tl : TE} {t u : TT} {r r1 : Rp} {rs : List Rp} {K : PySem.W.Frag} {C b : Addr} {i j k m n : Nat} {x : V} {E : XK} {κ : Kn} {tu tw : TS}
theorem d_of (h : EvX Γ te r) : EXD (α := Unit) Γ M te (fun _ => True) (fun _ => r) := EX.imp (EX.of h) fun r' M' z => ⟨⟨(), trivial, z.1⟩, z.2⟩
theorem d_take (hk : M[k]? = some (boxR K b)) (hv : Γ[i]? = some (some (rV (.ref b)))) (h : EvX Γ te (nI m)) (h0 : 0 < m) (h1 : m < 2 ^ 30) : EXD Γ M (tCall (spT K) [] E (tCons (tVar i) (tCons te tNil))) (fun d : Nat => d < m) nI := e_take hk hv h h0 h1
theorem d_map {β : Type} {D' : β → Prop} {f : α → Rp} {g : β → Rp} (h : EXD Γ M te D f) (hm : ∀ a, D a → ∃ b, D' b ∧ f a = g b) : EXD Γ M te D' g := EX.imp h fun r M' z => by
  obtain ⟨⟨a, ha, hr⟩, hM⟩ := z
  obtain ⟨b, hb, e⟩ := hm a ha
  exact ⟨⟨b, hb, hr.trans e⟩, hM⟩
theorem d_opR {rr : R2} {y f : α → V} (ha : EvX Γ ta (rV x)) (hb : EXD Γ M tb D (fun a => rV (y a))) (hs : ∀ a, D a → ∀ H (Q : VK), Q (f a) H → rr x (y a) H Q) : EXD Γ M (tOp rr ta tb) D (fun a => rV (f a)) := fun B G H σ o en Q q =>
  ha σ G en H o.i _ fun v G2 H2 g hv => by
    obtain rfl : v = x := hv
    exact hb B G2 H2 σ (o.gr g) (en.mono g.g) _ fun w G3 H3 r M' z o3 e3 hw => by
      obtain ⟨⟨a, ha, rfl⟩, rfl⟩ := z
      obtain rfl : w = y a := hw
      exact hs a ha H3 Q (q _ G3 H3 _ _ ⟨⟨a, ha, rfl⟩, rfl⟩ o3 (g.g.trans e3) rfl)
theorem d_opL {rr : R2} {y f : α → V} {x' : V} (ha : EXD Γ M ta D (fun a => rV (y a))) (hb : EvX Γ tb (rV x')) (hs : ∀ a, D a → ∀ H (Q : VK), Q (f a) H → rr (y a) x' H Q) : EXD Γ M (tOp rr ta tb) D (fun a => rV (f a)) := fun B G H σ o en Q q =>
  ha B G H σ o en _ fun w G3 H3 r M' z o3 e3 hw => by
    obtain ⟨⟨a, hd, rfl⟩, rfl⟩ := z
    obtain rfl : w = y a := hw
    exact hb σ G3 (en.mono e3) H3 o3.i _ fun v G4 H4 g hv => by
      obtain rfl : v = x' := hv
      exact hs a hd H4 Q (q _ G4 H4 _ _ ⟨⟨a, hd, rfl⟩, rfl⟩ (o3.gr g) (e3.trans g.g) rfl)
theorem d_int {f : α → Int} (h : EXD Γ M te D (fun a => rI (f a))) : EXD Γ M (tCB (fun xs H Q => (∃ i, xs = [.int i] ∧ Q (.int i) H) ∨ ∃ k, xs = [.bl k] ∧ Q (.int (if k then 1 else 0)) H) (tCons te tNil)) D (fun a => rI (f a)) := fun B G H σ o en Q q =>
  h B G H σ o en _ fun w G3 H3 r M' z o3 e3 hw => by
    obtain ⟨⟨a, ha, rfl⟩, rfl⟩ := z
    exact .inl ⟨f a, by rw [show w = V.int (f a) from hw], q _ G3 H3 _ _ ⟨⟨a, ha, rfl⟩, rfl⟩ o3 e3 rfl⟩
/-- xs[a drawn place] -/
theorem d_ixL {f : α → Nat} {g : α → Rp} (hl : EvX Γ tl (rL K rs)) (hb : EXD Γ M tb D (fun a => nI (f a))) (hs : ∀ a, D a → rs[f a]? = some (g a)) : EXD Γ M (tOp (rIxL K) tl tb) D g := fun B G H σ o en Q q =>
  hl σ G en H o.i _ fun v G2 H2 gr hv => hb B G2 H2 σ (o.gr gr) (en.mono gr.g) _ fun w G3 H3 r M' z o3 e3 hw => by
    obtain ⟨⟨a, ha, rfl⟩, rfl⟩ := z
    obtain rfl : w = V.int ((f a : Nat) : Int) := hw
    obtain ⟨p, vs, rfl, h1, h2⟩ := (rL K rs).mono e3 hv
    obtain ⟨y, hy1, hy2⟩ := h2.get (hs a ha)
    exact ⟨p, vs, _, y, rfl, rfl, sq_of (o3.i _ _ h1), atI_nat hy1, q y G3 H3 _ _ ⟨⟨a, ha, rfl⟩, rfl⟩ o3 (gr.g.trans e3) hy2⟩
theorem d_T {c : α → Bool} (h : EXD Γ M te D (fun a => rB (c a))) : EXTD Γ M (tTest te) D c := fun B G H σ o en Q q =>
  h B G H σ o en _ fun w G3 H3 r M' z o3 e3 hw => by
    obtain ⟨⟨a, ha, rfl⟩, rfl⟩ := z
    exact ⟨c a, hw, q _ G3 H3 _ ⟨⟨a, ha, rfl⟩, rfl⟩ o3 e3⟩
theorem d_and {c : Bool} {f : α → Bool} (h1 : EvTX Γ t c) (h2 : c = true → EXTD Γ M u D f) : EXT Γ M (tAnd t u) (fun d M' => ((c = false ∧ d = false) ∨ (c = true ∧ ∃ a, D a ∧ d = f a)) ∧ M' = M) := fun B G H σ o en Q q => h1 σ G en H o.i _ fun H1 e1 => by
  cases c with
  | true =>
    show u σ H1 Q
    exact h2 rfl B G H1 σ (o.ex e1) en Q fun d G2 H2 M' z o2 e2 => q d G2 H2 M' ⟨.inr ⟨rfl, z.1⟩, z.2⟩ o2 e2
  | false =>
    show Q false H1
    exact q false G H1 M ⟨.inl ⟨rfl, rfl⟩, rfl⟩ (o.ex e1) (Ex.refl _)
/-- statements -/
theorem w_setD {f : α → Rp} (h : EXD Γ M te D f) (hn : ∀ a, D a → κ.nx (Γ.set i (some (f a))) M) : WP W Γ M (tAsg te (gName i)) κ := w_setE h fun r M' z => by
  obtain ⟨⟨a, ha, rfl⟩, rfl⟩ := z
  exact hn a ha
theorem w_retD {f : α → Rp} (h : EXD Γ M te D f) (hn : ∀ a, D a → κ.rt (f a) M) : WP W Γ M (tRet te) κ := w_retE h fun r M' z => by
  obtain ⟨⟨a, ha, rfl⟩, rfl⟩ := z
  exact hn a ha
theorem w_ifD {c : α → Bool} (h : EXTD Γ M t D c) (h1 : ∀ a, D a → c a = true → WP W Γ M tu κ) (h2 : ∀ a, D a → c a = false → WP W Γ M tw κ) : WP W Γ M (tIfS t tu tw) κ := w_ifE h (fun M' z => by
  obtain ⟨⟨a, ha, e⟩, rfl⟩ := z
  exact h1 a ha e.symm) (fun M' z => by
  obtain ⟨⟨a, ha, e⟩, rfl⟩ := z
  exact h2 a ha e.symm)
theorem w_appD {p : Addr} {f : α → Rp} (k : Nat) (hi : Γ[i]? = some (some (rV (.ref p)))) (h : EXD Γ M te D f) (hz : rs.length < 50000) (hk : M[k]? = some (lstR p rs)) (hn : ∀ a, D a → κ.nx Γ (M.set k (lstR p (rs ++ [f a])))) : WP W Γ M (tDrop (tBM K "list" rAppend (tVar i) (tCons te tNil))) κ := w_appE k hi h hz (fun r M' z => by
  obtain ⟨⟨a, ha, rfl⟩, rfl⟩ := z
  exact ⟨hk, hn a ha⟩) hk
/-- f(box, ..), f a helper of the law with draws of its own; the answer a new list (which stays) -/
theorem d_callN {ta : TA} {R : List V → Hp → (List Rp → Prop) → Prop} {f : α → List Rp} (hk : M[k]? = some (boxR K b)) (hv : Γ[i]? = some (some (rV (.ref b)))) (h : EvAX Γ ta rs) (hs : ∀ ws G, RA G ws rs → R ws G (fun ss => ∃ a, D a ∧ ss = f a)) : EXD Γ M (tCall (spBN K R) [] E (tCons (tVar i) ta)) D (fun a => rL K (f a)) := EX.imp (EX.ofB (P := fun r => ∃ a, D a ∧ r = rL K (f a)) hk fun σ G en => by
  obtain ⟨v, hv1, hv2⟩ := en.get hv
  obtain rfl : v = V.ref b := hv2
  exact EvB.imp (EvBN.d (ebn_call (P := fun ss => ∃ a, D a ∧ ss = f a) hv1 (h σ G en) fun ws G2 _ ra => hs ws G2 ra)) fun r hP => by
    obtain ⟨rs', ⟨a, ha, rfl⟩, rfl⟩ := hP
    exact ⟨a, ha, rfl⟩) fun r M' z => z
/-- Table(rows that are drawn) -/
theorem d_tab {f : α → List Nat} (h : EXD Γ M te D (fun a => rLL K ((f a).map bitsN))) (hw : ∀ a, D a → Wf n (f a)) (h1 : 1 ≤ n) (h6 : n ≤ 6) : EXD Γ M (tMake C (spTab K C) [] E (tCons te tNil)) D (fun a => rTab K C (f a)) := fun B G H σ o en Q q =>
  h B G H σ o en _ fun w G3 H3 r M' z o3 e3 hw3 => by
    obtain ⟨⟨a, ha, rfl⟩, rfl⟩ := z
    have z2 : EvD (tMake C (spTab K C) [] E (tCons (tC w) tNil)) σ G3 (rTab K C (f a)) := ed_tabRows (fun H e Q q => q w G3 H (Gr.refl e) hw3) (hw a ha) h1 h6
    exact z2 H3 o3.i Q fun v G4 H4 g hv => q v G4 H4 _ _ ⟨⟨a, ha, rfl⟩, rfl⟩ (o3.gr g) (e3.trans g.g) hv
end
end Mu

namespace Mu
open PySem PySem.Spec PyProof.Rows L2 Evl
/-! ### pairs in a tuple -/
def rInTD (K : PySem.W.Frag) : R2 := fun x y H Q => ∃ d ds, Dp K H x d ∧ Dp K H y (.tuple ds) ∧ SeqAt.shaped d = true ∧ SeqAt.shaped (.tuple ds) = true ∧ Q (.bl (ds.any fun z => PyData.eqv z d)) H
theorem op_inTD {X : Cx} (hu : X.A.units + 65 < cLine) : OpR X (compareOp .In) (rInTD X.K) := by
  intro pins s σ H x y v u Q I rx ry h
  obtain ⟨d, ds, hd, he, sd, se, q⟩ := h
  obtain ⟨as, r1⟩ := Dp.reads I d x v hd rx
  obtain ⟨bs, r2⟩ := Dp.reads I (.tuple ds) y u he ry
  exact SeqAt.in_tuple_reads r2 r1 (SeqAt.canLay_of_shaped se) (SeqAt.canLay_of_shaped sd) (room_in_shaped sd hu) ⟨.bl _, H, I, rfl, q⟩
theorem op_inTDK {X : Cx} (K : PySem.W.Frag) (hu : X.A.units + 65 < cLine) (hK : X.K = K := by rfl) : OpR X (compareOp .In) (rInTD K) := hK ▸ op_inTD hu
section
variable {Γ : Ctx} {M : List Re} {te ta tb tc tl : TE} {r r1 r2 : Rp} {rs : List Rp} {K : PySem.W.Frag} {C b : Addr} {i j k m n : Nat} {v w x y : V} {E : XK} {sp : Sp} {α : Type} {D : α → Prop}
theorem x_inTP {p : Nat × Nat} {l : List (Nat × Nat)} (ha : EvX Γ ta (rP K p)) (hb : EvX Γ tb (rT K (l.map (rP K)))) : EvX Γ (tOp (rInTD K) ta tb) (rB (decide (p ∈ l))) := fun σ G en =>
  Ev.d (ev_op2 (ha σ G en) (hb σ G en) fun x y H hx hy Q q => ⟨dP p, l.map dP, asd_p p x H hx, asd_tup asd_p l y H hy, (sh_p p).ok (by decide), (sh_tup sh_p l).ok (by decide), by rw [any_p]; exact q⟩)
/-! ### None -/
theorem x_isN {c : Bool} (h : EvX Γ ta r) (hr : ∀ v G, r.p v G → decide (v = V.non) = c) : EvX Γ (tOp (fun x y H Q => y = V.non ∧ Q (.bl (decide (x = .non))) H) ta (tC .non)) (rB c) := fun σ G en =>
  Ev.d (ev_op2 (h σ G en) (Ev.d (ev_c (v := .non))) fun x y H hx hy Q q => ⟨hy, by rw [hr x H hx]; exact q⟩)
theorem x_notN {c : Bool} (h : EvX Γ ta r) (hr : ∀ v G, r.p v G → decide (v = V.non) = c) : EvX Γ (tOp (fun x y H Q => y = V.non ∧ Q (.bl (!decide (x = .non))) H) ta (tC .non)) (rB (!c)) := fun σ G en =>
  Ev.d (ev_op2 (h σ G en) (Ev.d (ev_c (v := .non))) fun x y H hx hy Q q => ⟨hy, by rw [hr x H hx]; exact q⟩)
theorem non_tab {m : List Nat} (v : V) (G : Hp) (h : (rTab K C m).p v G) : decide (v = V.non) = false := by
  obtain ⟨a, _, _, _, rfl, _⟩ := h
  rfl
theorem non_non (v : V) (G : Hp) (h : (rV .non).p v G) : decide (v = V.non) = true := by
  obtain rfl : v = V.non := h
  rfl
/-- something, or None -/
def rSome (c : Bool) : Rp := ⟨fun v _ => (c = true → ∃ a, v = .ref a) ∧ (c = false → v = .non), fun _ h => h⟩
theorem non_some (c : Bool) (v : V) (G : Hp) (h : (rSome c).p v G) : decide (v = V.non) = !c := by
  cases c with
  | true => obtain ⟨a, rfl⟩ := h.1 rfl; rfl
  | false => rw [h.2 rfl]; rfl
/-! ### o[i], v in o -/
theorem xn_ixOwn {m : List Nat} (ha : EvX Γ ta (rTab K C m)) (hb : EvX Γ tb (rV y)) (hs : ∀ x G, (rTab K C m).p x G → SpN sp [x, y] G rs) : EvNX Γ (tOp (rOwnIx C sp E) ta tb) rs := fun σ G en =>
  en_op (ha σ G en) (hb σ G en) fun x y' G2 H e1 e2 hx hy Q q => by
    obtain rfl : y' = y := hy
    obtain ⟨a, dx, t, c, rfl, h2, _⟩ := id hx
    exact ⟨a, dx, _, rfl, e2 _ _ h2, hs _ G2 hx H e2 Q q E⟩
theorem x_inOwn {m : List Nat} {c : Bool} (ha : EvX Γ ta r) (hb : EvX Γ tb (rTab K C m)) (hs : ∀ x y G, r.p x G → (rTab K C m).p y G → SpD sp [y, x] G (rB c)) : EvX Γ (tOp (rOwnIn C false sp E) ta tb) (rB c) := fun σ G en =>
  ed_op (ha σ G en) (hb σ G en) fun x y G2 H e1 e2 hx hy Q q => by
    obtain ⟨a, dx, t, c', rfl, h2, _⟩ := id hy
    refine ⟨a, dx, _, rfl, e2 _ _ h2, hs _ _ G2 hx hy H e2 _ (fun v G3 H3 g hv => ?_) E⟩
    obtain rfl : v = V.bl c := hv
    exact ⟨c, rfl, q (.bl c) G3 H3 g rfl⟩
/-! ### slices -/
theorem o_no {σ : L2.St} {G : Hp} : EvO tNoPart σ G none := fun H e Q q => q H (Ex.refl _)
theorem o_at {σ : L2.St} {G : Hp} (h : EvX Γ te (nI n)) (en : En σ G Γ) : EvO (tPart te) σ G (some (n : Int)) := fun H e Q q => h σ G en H e _ fun v G2 H2 g hv => by
  obtain rfl : v = V.int (n : Int) := hv
  exact ⟨_, rfl, q H2 g.h⟩
theorem EvX.s (h : EvX Γ te (rL K rs)) : EvX Γ te (rLs K rs) := fun σ G en H e Q q => h σ G en H e Q fun v G2 H2 g hv => q v G2 H2 g (by
  obtain ⟨a, vs, rfl, h1, h2⟩ := hv
  exact ⟨a, vs, rfl, sq_of h1, h2⟩)
theorem xn_slTo (h : EvX Γ te (rL K rs)) (h2 : EvX Γ tb (nI n)) (hn : n ≤ rs.length) : EvNX Γ (tSl (rSlL K) te tNoPart (tPart tb)) (rs.take n) := fun σ G en => by
  have z := en_slL (EvX.s h σ G en) (lo := none) (hi := some (n : Int)) (fun G' _ => o_no) (fun G' e => o_at h2 (en.mono e))
  have e : cutR rs none (some (n : Int)) = rs.take n := by
    unfold cutR
    rw [HT.sIx_none, HT.sIx_nat, Nat.min_eq_left hn, List.drop_zero, Nat.sub_zero]
  rw [e] at z
  exact z
theorem xn_slFrom (h : EvX Γ te (rL K rs)) (h2 : EvX Γ tb (nI n)) (hn : n ≤ rs.length) : EvNX Γ (tSl (rSlL K) te (tPart tb) tNoPart) (rs.drop n) := fun σ G en => by
  have z := en_slL (EvX.s h σ G en) (lo := some (n : Int)) (hi := none) (fun G' e => o_at h2 (en.mono e)) (fun G' _ => o_no)
  have e : cutR rs (some (n : Int)) none = rs.drop n := by
    unfold cutR
    rw [HT.sIx_none, HT.sIx_nat, Nat.min_eq_left hn]
    apply List.take_of_length_le
    rw [List.length_drop]
    exact Nat.le_refl _
  rw [e] at z
  exact z
/-! ### calls with draws -/
theorem d_callB {ta : TA} {R : List V → Hp → (Rp → Prop) → Prop} {f : α → Rp} {PP : Rp → Prop} (hk : M[k]? = some (boxR K b)) (hv : Γ[i]? = some (some (rV (.ref b)))) (h : EvAX Γ ta rs) (hs : ∀ ws G, RA G ws rs → R ws G PP) (hP : ∀ r, PP r → ∃ a, D a ∧ r = f a) : EXD Γ M (tCall (spB K R) [] E (tCons (tVar i) ta)) D f := EX.ofB (P := fun r => ∃ a, D a ∧ r = f a) hk fun σ G en => by
  obtain ⟨v, hv1, hv2⟩ := en.get hv
  obtain rfl : v = V.ref b := hv2
  exact EvB.imp (eb_call hv1 (h σ G en) fun ws G2 _ ra => hs ws G2 ra) hP
theorem d_callNw {ta : TA} {R : List V → Hp → (List Rp → Prop) → Prop} {f : α → List Rp} {PP : List Rp → Prop} (hk : M[k]? = some (boxR K b)) (hv : Γ[i]? = some (some (rV (.ref b)))) (h : EvAX Γ ta rs) (hs : ∀ ws G, RA G ws rs → R ws G PP) (hP : ∀ ss, PP ss → ∃ a, D a ∧ ss = f a) : EXD Γ M (tCall (spBN K R) [] E (tCons (tVar i) ta)) D (fun a => rL K (f a)) := EX.ofB (P := fun r => ∃ a, D a ∧ r = rL K (f a)) hk fun σ G en => by
  obtain ⟨v, hv1, hv2⟩ := en.get hv
  obtain rfl : v = V.ref b := hv2
  exact EvB.imp (EvBN.d (ebn_call (P := PP) hv1 (h σ G en) fun ws G2 _ ra => hs ws G2 ra)) fun r hp => by
    obtain ⟨rs', h2, rfl⟩ := hp
    obtain ⟨a, ha, rfl⟩ := hP _ h2
    exact ⟨a, ha, rfl⟩
/-- f(box, x, a draw) -/
theorem d_callN2 {β : Type} {D0 : β → Prop} {yy : β → V} {R : List V → Hp → (List Rp → Prop) → Prop} {f : α → List Rp} {PP : β → List Rp → Prop} (hk : M[k]? = some (boxR K b)) (hv : Γ[i]? = some (some (rV (.ref b)))) (h1 : EvX Γ ta (rV x)) (h2 : EXD Γ M tb D0 (fun c => rV (yy c))) (hs : ∀ c, D0 c → ∀ G, R [x, yy c] G (PP c)) (hP : ∀ c ss, D0 c → PP c ss → ∃ a, D a ∧ ss = f a) : EXD Γ M (tCall (spBN K R) [] E (tCons (tVar i) (tCons ta (tCons tb tNil)))) D (fun a => rL K (f a)) := fun B G H σ o en Q q => by
  obtain ⟨v, hv1, hv2⟩ := en.get hv
  obtain rfl : v = V.ref b := hv2
  refine ⟨.ref b, hv1, h1 σ G en H o.i _ fun v1 G1 H1 g1 e1 => h2 B G1 H1 σ (o.gr g1) (en.mono g1.g) _ fun v2 G2 H2 r2 M2 z o2 e2 hr2 => ?_⟩
  obtain rfl : v1 = x := e1
  obtain ⟨⟨c, hc, rfl⟩, rfl⟩ := z
  obtain rfl : v2 = yy c := hr2
  have z2 : EXD Γ M2 (tCall (spBN K R) [] E (tCons (tVar i) (tCons (tC v1) (tCons (tC (yy c)) tNil)))) D (fun a => rL K (f a)) := d_callNw (PP := PP c) hk hv (xa_cons x_c (xa_cons x_c xa_nil)) (fun ws G' ra => by
    obtain ⟨p, q', rfl, hp, hq⟩ := ra2 ra
    obtain rfl : p = v1 := hp
    obtain rfl : q' = yy c := hq
    exact hs c hc G') (fun ss h => hP c ss hc h)
  obtain ⟨v, hv3, z3⟩ := z2 B G2 H2 σ o2 (en.mono (g1.g.trans e2)) Q fun v G' H' r M' k1 k2 k3 k4 => q v G' H' r M' k1 k2 ((g1.g.trans e2).trans k3) k4
  rw [hv1] at hv3
  cases hv3
  exact z3
end
section
variable {Γ : Ctx} {te ta tb : TE} {r r1 : Rp} {K : PySem.W.Frag} {n : Nat} {a : Int}
theorem x_weak (h : EvX Γ te r) (hi : ∀ v G, r.p v G → r1.p v G) : EvX Γ te r1 := fun σ G en H e Q q => h σ G en H e Q fun v G2 H2 g hv => q v G2 H2 g (hi v G2 hv)
theorem x_shl1 (h : EvX Γ tb (nI n)) (hn : n ≤ 64) : EvX Γ (tOp (L2.rI CPow fun i j => .int (i * 2 ^ j.toNat)) (tC (.int 1)) tb) (nI (2 ^ n)) := x_is (x_I x_c h ⟨by omega, by omega, by decide⟩) (by rw [shl_nat])
theorem x_neg (h : EvX Γ te (rI a)) : EvX Γ (tUn (rU fun i => .int (-i)) te) (rI (-a)) := fun σ G en H e Q q => h σ G en H e _ fun v G2 H2 g hv => by
  obtain rfl : v = V.int a := hv
  exact ⟨a, rfl, q _ G2 H2 g rfl⟩
end
/-! ### try, its parts kept apart -/
def tTry (K : PySem.W.Frag) (c : Value) (i : Nat) (tb : WX → TS) (ts : Addr → Value → Option Addr → TS) (W : WX) : TS := fun D σ H => tb (wAs K c i ts W D) D σ H
theorem to_try {X : Cx} {st : Stmt} {K : PySem.W.Frag} {c : Value} {i : Nat} {tb : WX → TS} {ts : Addr → Value → Option Addr → TS} {W : WX} (h : PS X st (fun D σ H => tb (wAs K c i ts W D) D σ H)) : PS X st (tTry K c i tb ts W) := h
theorem w_tryK {W : WX} {Γ : Ctx} {M : List Re} {K : PySem.W.Frag} {c : Value} {i : Nat} {tb : WX → TS} {ts : Addr → Value → Option Addr → TS} {κ : Kn} (h : ∀ W', WP W' Γ M (tb W') { κ with ex := fun Γ' cls fs M' => ∃ b, PySem.W.exmOne K cls c = some b ∧
      (b = true → ∀ a d, (fs ≠ [] → d.isSome = true) → WP (fun _ _ _ _ => False) (Γ'.set i (some (rE a fs d))) M' (ts a cls d) { nx := fun Γ2 M2 => κ.nx (Γ2.set i none) M2, rt := κ.rt, bk := fun Γ2 M2 => κ.bk (Γ2.set i none) M2, ct := fun Γ2 M2 => κ.ct (Γ2.set i none) M2 }) ∧ (b = false → κ.ex Γ' cls fs M') }) : WP W Γ M (tTry K c i tb ts W) κ := w_try h
/-! ### lists of scalars of any kind, compared with themselves -/
inductive Sc where
  | i (n : Int)
  | b (c : Bool)
  | s (z : Str) (h : PyData.strOk z = true)
def rSc : Sc → Rp
  | .i n => rI n
  | .b c => rB c
  | .s z _ => rS z
def dSc : Sc → PyData
  | .i n => .int n
  | .b c => .bool c
  | .s z _ => .str z
theorem asd_sc {K : PySem.W.Frag} : ∀ a : Sc, AsD K (rSc a) (dSc a)
  | .i n => asd_int n
  | .b c => asd_bl c
  | .s z _ => asd_str z
theorem sh_sc : ∀ a : Sc, Sh 1 (dSc a)
  | .i n => sh_int n
  | .b c => ⟨by show PyData.canLay0 (.bool c) = true; unfold PyData.canLay0; rfl, by show PyData.depth (.bool c) ≤ 1; unfold PyData.depth; omega⟩
  | .s z h => ⟨by show PyData.canLay0 (.str z) = true; unfold PyData.canLay0; exact h, by show PyData.depth (.str z) ≤ 1; unfold PyData.depth; omega⟩
theorem eqv_sc : ∀ a : Sc, PyData.eqv (dSc a) (dSc a) = true
  | .i n => by simp [dSc, PyData.eqv]
  | .b c => by simp [dSc, PyData.eqv]
  | .s z _ => by simp [dSc, PyData.eqv]
theorem eqv_scs : ∀ l : List Sc, PyData.eqvAll (l.map dSc) (l.map dSc) = true
  | [] => by simp [PyData.eqvAll]
  | a :: l => by rw [List.map_cons, PyData.eqvAll, eqv_sc a, eqv_scs l]; rfl
theorem x_eqSelf {Γ : Ctx} {ta tb : TE} {K : PySem.W.Frag} (l : List Sc) (ha : EvX Γ ta (rL K (l.map rSc))) (hb : EvX Γ tb (rL K (l.map rSc))) : EvX Γ (tOp (rEqD K) ta tb) (rB true) := x_is (x_eqD ha hb (asd_list asd_sc l) (asd_list asd_sc l) ((sh_list sh_sc l).ok (by decide)) ((sh_list sh_sc l).ok (by decide))) (by rw [PyData.eqv, eqv_scs])
theorem x_neSelf {Γ : Ctx} {ta tb : TE} {K : PySem.W.Frag} (l : List Sc) (ha : EvX Γ ta (rL K (l.map rSc))) (hb : EvX Γ tb (rL K (l.map rSc))) : EvX Γ (tOp (rNeD K) ta tb) (rB false) := x_is (x_neD ha hb (asd_list asd_sc l) (asd_list asd_sc l) ((sh_list sh_sc l).ok (by decide)) ((sh_list sh_sc l).ok (by decide))) (by rw [PyData.eqv, eqv_scs]; rfl)
end Mu

namespace Mu
open PySem PySem.Spec PyProof.Rows L2 Evl
/-! ### operators of one's own that may raise, within a try -/
section
variable {X : Cx} {CX : CXT} {k : Nat} {f C : Addr} {fd : FuncData} {ps : List Str} {sp : Sp} {E : L2.St → XK} {a b : Expr} {ta tb : TE} {pos : Pos}
theorem run_fnAt {E : XK} {A : Around} {pins : List (Addr × Obj)} {σ : L2.St} {H : Hp} {s : Shared} {Q : VK} {us : List Value} {vs : List V} (hA : A.frames = X.A.frames) (F : FnOk X.prog X.w X.K X.mg X.base CX k f fd ps sp) (hr : Room k A) (hb : Binds X.K fd ps []) (hx : PassesAt CX X σ E)
    (I : Inv X pins σ H s) (r : Vals vs us) (h : sp vs H Q E) : wpAny (model X.prog X.w) A (call (.ref f) us) (EP X pins σ Q) X.xe s := by
  have hl : (us ++ []).length = ps.length := by rw [List.append_nil, ← r.length]; exact F.len _ _ _ _ h
  have e := I.env0
  have e0 : Env0 X.prog X.w X.K X.mg X.base A X.stack s H := ⟨by rw [hA]; exact e.frames, e.mod, e.bs, e.bsz, e.funs, e.frf, e.hok, e.bare⟩
  have hbb := hb s us I.kIn hl
  rw [List.append_nil] at hbb
  refine wpAny_call (codeAny_mono (F.run A X.stack s H ⟨us, []⟩ us vs Q E hr e0 hbb r h) fun r s' hq => ?_)
  cases r with
  | error e => exact hx pins H s e s' I hq
  | ok fl =>
    cases fl with
    | ret u => exact I.after hq
    | next => exact False.elim hq
    | brk => exact False.elim hq
    | cont => exact False.elim hq
def tOwn2S (C : Addr) (sp : Sp) (E : L2.St → XK) (ta tb : TE) : TE := fun σ H Q => tOp (rOwn2 C sp (E σ)) ta tb σ H Q
theorem pe_opOwnS {op : Operator} {m : Str} (hm : PySem.dunder op.info.2 = m) (d : Dun X.K C m f) (hc : PySem.W.selfFirst X.K C = true) (F : FnOk X.prog X.w X.K X.mg X.base CX k f fd ps sp) (hr : Room k X.A) (hb : Binds X.K fd ps []) (hx : ∀ σ, PassesAt CX X σ (E σ)) (ha : PE X a ta) (hbe : PE X b tb) : PE X (.BinOp a op b pos) (tOwn2S C sp E ta tb) := by
  refine ⟨fun pins s σ H Q I h => ?_⟩
  refine wpAny_BinOp (binT ha hbe I h fun v u s2 x y H2 I rx ry q => ?_)
  obtain ⟨a, b, dx, fs, dy, gs, rfl, rfl, ha, hb', q⟩ := q
  cases rx
  cases ry
  obtain ⟨mA, J, _⟩ := ins_get I.hok ha
  obtain ⟨mB, J', _⟩ := ins_get I.hok hb'
  obtain ⟨od, J, _⟩ := J.look
  obtain ⟨od', J', _⟩ := J'.look
  obtain ⟨m0, hF⟩ := I.fr
  subst hm
  refine PySem.W.binop_K hF I.ok.mod.kin J J'.type hc d.at_ d.fn ?_
  exact wpAny_mono (run_fnAt (vs := [.ref a, .ref b]) rfl F hr hb (hx σ) I (.cons rfl (.cons rfl .nil)) q) (fun u s' h => ep_back h) (fun _ _ z => z)
theorem pe_cmpOwnS {op : CmpOp} {m : Str} (hm : (cmpInfo op).2.1 = m) (hop : ∀ a b, compareOp op a b = richCompare op a b) (d : Dun X.K C m f) (F : FnOk X.prog X.w X.K X.mg X.base CX k f fd ps sp) (hr : Room k X.A) (hb : Binds X.K fd ps []) (hx : ∀ σ, PassesAt CX X σ (E σ)) (ha : PE X a ta) (hbe : PE X b tb) (hmk : behindInMarks op b = false) : PE X (.Compare a [op] [b] pos) (tOwn2S C sp E ta tb) := by
  refine ⟨fun pins s σ H Q I h => ?_⟩
  refine wpAny_Compare1 (binT ha hbe I h fun v u s2 x y H2 I rx ry q => ?_) hmk
  obtain ⟨a, b, dx, fs, dy, gs, rfl, rfl, ha, hb', q⟩ := q
  cases rx
  cases ry
  obtain ⟨mA, J, _⟩ := ins_get I.hok ha
  obtain ⟨mB, J', _⟩ := ins_get I.hok hb'
  obtain ⟨od, J, _⟩ := J.look
  obtain ⟨od', J', _⟩ := J'.look
  obtain ⟨m0, hF⟩ := I.fr
  subst hm
  rw [hop]
  refine PySem.W.cmp_K (tb := .ref C) hr.units0 hF I.ok.mod.kin J J'.type (by simp [PySem.W.notFirst]) d.at_ d.fn ?_
  exact wpAny_mono (run_fnAt (vs := [.ref a, .ref b]) rfl F hr hb (hx σ) I (.cons rfl (.cons rfl .nil)) q) (fun u s' h => ep_back h) (fun _ _ z => z)
end
section
variable {W : WX} {Γ : Ctx} {M : List Re} {ta tb : TE} {t1 t2 : TS} {o : Out} {κ : Kn} {R : List V → Hp → Out → Prop} {K : PySem.W.Frag} {C : Addr} {m m' : List Nat}
theorem x_own2X (ha : EvX Γ ta (rTab K C m)) (hb : EvX Γ tb (rTab K C m')) (hs : ∀ x y G, (rTab K C m).p x G → (rTab K C m').p y G → R [x, y] G o) : EXX W Γ M (tOwn2S C (spO R) (WE W) ta tb) o := fun B G H σ ok en Q q1 q2 => ha σ G en H ok.i _ fun x G2 H2 g hx => hb σ G2 (en.mono g.g) H2 g.i _ fun y G3 H3 g3 hy => by
  have hx3 := (rTab K C m).mono g3.g hx
  obtain ⟨a, dx, t, c, rfl, h2, _⟩ := id hx3
  obtain ⟨a', dx', t', c', rfl, h2', _⟩ := id hy
  exact ⟨a, a', dx, _, dx', _, rfl, rfl, g3.i _ _ h2, g3.i _ _ h2', G3, o, g3.i, hs _ _ G3 hx3 hy, fun r e v G4 H4 g4 hv => q1 r e v G4 H4 (ok.gr ((g.trans g3).trans g4)) ((g.g.trans g3.g).trans g4.g) hv, fun cls fs e d G4 H4 g4 hx => q2 cls fs e d G4 H4 (ok.gr ((g.trans g3).trans g4)) ((g.g.trans g3.g).trans g4.g) hx⟩
/-- after a statement: what holds, by data -/
theorem w_cut {α : Type} (P : α → Prop) (Γf : α → Ctx) (h : WP W Γ M t1 { κ with nx := fun Γ' M' => ∃ a, P a ∧ Sub Γ' (Γf a) ∧ M' = M }) (hn : ∀ a, P a → WP W (Γf a) M t2 κ) : WP W Γ M (tSeq t1 t2) κ :=
  w_seq (w_imp h (fun Γ' M' ⟨a, pa, s, e⟩ => by subst e; exact w_sub s (hn a pa)) (fun _ _ z => z) (fun _ _ z => z) (fun _ _ z => z) (fun _ _ _ _ z => z))
end
end Mu

namespace Mu
open PySem PySem.Spec PyProof.Rows L2 Evl
/-! ### new lists of our own, their items -/
section
variable {B : Ba} {G H G2 H2 : Hp} {M : List Re} {R : Re}
theorem Ok.add2 (o : Ok B G H M) (o2 : Ok B G2 H2 M) (hd : R.ft.Nodup) (hn : ∀ a ∈ R.ft, H a = none ∧ G2 a = none) (m : R.p G2 H2) : Ok B G2 H2 (M ++ [R]) := by
  refine ⟨o2.g, o2.l, o2.h, o2.i, o2.n, o2.k, fun r hr => ?_, fun a ha => ?_, ?_, fun r hr a ha => ?_⟩
  · rcases List.mem_append.mp hr with q | q
    · exact o2.m r q
    · rw [List.mem_singleton.mp q]; exact m
  · rw [feet_snoc] at ha
    rcases List.mem_append.mp ha with q | q
    · exact o2.z a q
    · exact (hn a q).2
  · rw [feet_snoc]
    refine List.nodup_append.mpr ⟨o.d, hd, fun a ha b hb e => ?_⟩
    subst e
    obtain ⟨r, hr, hf⟩ := List.mem_flatMap.mp ha
    obtain ⟨u, z⟩ := r.at_ (o.m r hr) a hf
    rw [(hn a hb).1] at z; cases z
  · rcases List.mem_append.mp hr with q | q
    · exact o.f r q a ha
    · rw [List.mem_singleton.mp q] at ha
      refine .inl ?_
      cases z : B.H0 a with
      | none => rfl
      | some u =>
        by_cases c : a ∈ B.F
        · obtain ⟨u2, z2⟩ := o.k a c
          rw [(hn a ha).1] at z2; cases z2
        · have := o.h a u z c
          rw [(hn a ha).1] at this; cases this
end
section
variable {α : Type} {D : α → Prop} {W : WX} {Γ : Ctx} {M : List Re} {te ta tb tl : TE} {rs : List Rp} {K : PySem.W.Frag} {b : Addr} {i j k m n : Nat} {E : XK} {κ : Kn} {p : Addr}
/-- xs[j] = a new list of ints, made of what stands, xs itself among it -/
theorem w_setNI {l : List Nat} (k : Nat) (hk : M[k]? = some (lstR p rs)) (hi : Γ[i]? = some (some (rV (.ref p)))) (h : EvNX (Γ.set i (some (rL K rs))) te (l.map nI)) (hb : EvX Γ tb (nI j)) (hj : j < rs.length) (hn : κ.nx Γ (M.set k (lstR p (rs.set j (rLn K l))))) : WP W Γ M (tAsg te (gSub (tVar i) tb rSetL)) κ := fun B G H σ D o en d => by
  have hm := List.mem_of_getElem? hk
  obtain ⟨ws, h1, h2⟩ := o.m _ hm
  have gp : G p = none := o.z p (mem_feet hm (List.mem_singleton.mpr rfl))
  have e : Ex G (upd G p (.lst ws)) := Ex.new gp
  obtain ⟨v, hv1, hv2⟩ := en.get hi
  obtain rfl : v = V.ref p := hv2
  have z := En.set (r := rL K rs) (v := .ref p) ⟨p, ws, rfl, upd_same, h2.mono e⟩ i (en.mono e)
  have es : σ.set i (some (.ref p)) = σ := by
    apply List.ext_getElem?
    intro j
    by_cases c : i = j
    · subst c
      rw [List.getElem?_set_self', hv1]; rfl
    · rw [List.getElem?_set_ne c]
  rw [es] at z
  refine s_setNI (K := K) o.i h1 gp h2 (h σ _ z) (ev_var hv1) (EvD.ev (hb σ G en)) hj fun ws' G3 H3 e3 hh i3 n3 gp3 hp3 ra3 => ?_
  exact d.nx σ G3 H3 _ _ (o.chg hk (R' := lstR p (rs.set j (rLn K l))) rfl rfl e3 (fun a u z n => hh a u z (fun q => n (List.mem_singleton.mpr q))) i3 n3 ⟨ws', hp3, ra3⟩) (en.mono e3) hn
/-- the answer is a new list of our own, by data -/
def EXL (Γ : Ctx) (M : List Re) (te : TE) (D : α → Prop) (f : α → List Rp) : Prop := EX Γ M te (fun r M' => ∃ a p, D a ∧ r = rV (.ref p) ∧ M' = M ++ [lstR p (f a)])
theorem l_of (h : EvNX Γ te rs) : EXL (α := Unit) Γ M te (fun _ => True) (fun _ => rs) := fun B G H σ o en Q q => h σ G en H o.i _ fun p vs G2 H2 g hp gp h2 ra => q _ G2 H2 _ _ ⟨(), p, trivial, rfl, rfl⟩ (o.add2 (o.gr g) (R := lstR p rs) (by show [_].Nodup; simp) (fun a ha => by rw [List.mem_singleton.mp ha]; exact ⟨hp, gp⟩) ⟨vs, h2, ra⟩) g.g rfl
theorem w_setL {f : α → List Rp} (h : EXL Γ M te D f) (hn : ∀ a p, D a → κ.nx (Γ.set i (some (rV (.ref p)))) (M ++ [lstR p (f a)])) : WP W Γ M (tAsg te (gName i)) κ := w_setE h fun r M' z => by
  obtain ⟨a, p, ha, rfl, rfl⟩ := z
  exact hn a p ha
theorem w_retL {f : α → List Rp} (h : EXL Γ M te D f) (hn : ∀ a p, D a → κ.rt (rV (.ref p)) (M ++ [lstR p (f a)])) : WP W Γ M (tRet te) κ := w_retE h fun r M' z => by
  obtain ⟨a, p, ha, rfl, rfl⟩ := z
  exact hn a p ha
theorem Ok.bx {B : Ba} {G H G2 H2 : Hp} (o : Ok B G H M) (hk : M[k]? = some (boxR K b)) (g : GrB b G H G2 H2) (hb : Box K G2 H2 b) : Ok B G2 H2 M := o.grB hk g hb
theorem l_callN {ta : TA} {R : List V → Hp → (List Rp → Prop) → Prop} {f : α → List Rp} {PP : List Rp → Prop} (hk : M[k]? = some (boxR K b)) (hv : Γ[i]? = some (some (rV (.ref b)))) (h : EvAX Γ ta rs) (hs : ∀ ws G, RA G ws rs → R ws G PP) (hP : ∀ ss, PP ss → ∃ a, D a ∧ ss = f a) : EXL Γ M (tCall (spBN K R) [] E (tCons (tVar i) ta)) D f := fun B G H σ o en Q q => by
  obtain ⟨v, hv1, hv2⟩ := en.get hv
  obtain rfl : v = V.ref b := hv2
  have hm := List.mem_of_getElem? hk
  have gb : G b = none := o.z b (mem_feet hm (List.mem_singleton.mpr rfl))
  refine (ebn_call (P := PP) hv1 (h σ G en) fun ws G2 _ ra => hs ws G2 ra) H o.i gb (o.m _ hm) _ fun ss p vs G2 H2 hp g hb2 hpn gp h2 ra => ?_
  obtain ⟨a, ha, rfl⟩ := hP _ hp
  exact q _ G2 H2 _ _ ⟨a, p, ha, rfl, rfl⟩ (o.add2 (o.grB hk g hb2) (R := lstR p (f a)) (by show [_].Nodup; simp) (fun x hx => by rw [List.mem_singleton.mp hx]; exact ⟨hpn, gp⟩) ⟨vs, h2, ra⟩) g.g rfl
/-! arguments that are new lists -/
def NL (H G' H' : Hp) (v : V) (rs : List Rp) : Prop := ∃ p ws, v = .ref p ∧ H p = none ∧ G' p = none ∧ H' p = some (.lst ws) ∧ RA G' ws rs
def EXAN (Γ : Ctx) (M : List Re) (ta : TA) (D : α → Prop) (F : α → List (List Rp)) : Prop := ∀ B G H σ, Ok B G H M → En σ G Γ → ∀ Q : List V → Hp → Prop, (∀ vs G' H' a, D a → Ok B G' H' M → Ex G G' → (∀ x o, H x = some o → x ∉ feet M → H' x = some o) → (∀ x o, H x = some o → G x = none → G' x = none) → Paired (NL H G' H') vs (F a) → Q vs H') → ta σ H Q
theorem an_nil : EXAN (α := Unit) Γ M tNil (fun _ => True) (fun _ => []) := fun B G H σ o en Q q => q [] G H () trivial o (Ex.refl _) (fun _ _ z _ => z) (fun _ _ _ y => y) .nil
theorem feet_at {B : Ba} {G H : Hp} (o : Ok B G H M) {x : Addr} (h : x ∈ feet M) : ∃ u, H x = some u := by
  obtain ⟨r, hr, hf⟩ := List.mem_flatMap.mp h
  exact r.at_ (o.m r hr) x hf
theorem an_cons {tr : TA} {F : α → List (List Rp)} (h : EvNX Γ te rs) (hr : EXAN Γ M tr D F) : EXAN Γ M (tCons te tr) D (fun a => rs :: F a) := fun B G H σ o en Q q =>
  h σ G en H o.i _ fun p vs G2 H2 g hp gp h2 ra => hr B G2 H2 σ (o.gr g) (en.mono g.g) _ fun ws G3 H3 a ha o3 e3 k3 n3 pr => by
    have hpf : p ∉ feet M := fun z => by
      obtain ⟨u, hu⟩ := feet_at o z
      rw [hp] at hu; cases hu
    refine q _ G3 H3 a ha o3 (g.g.trans e3) (fun x u z n => k3 x u (g.h x u z) n) (fun x u z y => n3 x u (g.h x u z) (g.n x u z y)) (.cons ⟨p, vs, rfl, hp, n3 p _ h2 gp, k3 p _ h2 hpf, ra.mono e3⟩ (Paired.mono (fun v r z => ?_) pr))
    obtain ⟨p', ws', e1, e2, e4, e5, e6⟩ := z
    exact ⟨p', ws', e1, fresh_back g.h e2, e4, e5, e6⟩
/-- the last one with draws -/
theorem an_callN {ta : TA} {R : List V → Hp → (List Rp → Prop) → Prop} {f : α → List Rp} {PP : List Rp → Prop} (hk : M[k]? = some (boxR K b)) (hv : Γ[i]? = some (some (rV (.ref b)))) (h : EvAX Γ ta rs) (hs : ∀ ws G, RA G ws rs → R ws G PP) (hP : ∀ ss, PP ss → ∃ a, D a ∧ ss = f a) : EXAN Γ M (tCons (tCall (spBN K R) [] E (tCons (tVar i) ta)) tNil) D (fun a => [f a]) := fun B G H σ o en Q q => by
  obtain ⟨v, hv1, hv2⟩ := en.get hv
  obtain rfl : v = V.ref b := hv2
  have hm := List.mem_of_getElem? hk
  have gb : G b = none := o.z b (mem_feet hm (List.mem_singleton.mpr rfl))
  refine (ebn_call (P := PP) hv1 (h σ G en) fun ws G2 _ ra => hs ws G2 ra) H o.i gb (o.m _ hm) _ fun ss p vs G2 H2 hp g hb2 hpn gp h2 ra => ?_
  obtain ⟨a, ha, rfl⟩ := hP _ hp
  exact q _ G2 H2 a ha (o.grB hk g hb2) g.g (fun x u z n => g.h x u z (fun e => n (by rw [e]; exact mem_feet hm (List.mem_singleton.mpr rfl)))) g.n (.cons ⟨p, vs, rfl, hpn, gp, h2, ra⟩ .nil)
theorem paired_get {α β : Type} {P : α → β → Prop} : ∀ {l : List α} {m : List β} {k : Nat} {y : β}, Paired P l m → m[k]? = some y → ∃ x, l[k]? = some x ∧ P x y
  | _, _, k, y, .nil, h => by simp at h
  | _, _, 0, y, .cons h1 _, h => by
    obtain rfl : _ = y := by simpa using h
    exact ⟨_, rfl, h1⟩
  | _, _, k + 1, y, .cons _ t, h => by
    obtain ⟨x, h2, h3⟩ := paired_get t (by simpa using h)
    exact ⟨x, by simpa using h2, h3⟩
theorem paired_len {α β : Type} {P : α → β → Prop} : ∀ {l : List α} {m : List β}, Paired P l m → l.length = m.length
  | _, _, .nil => rfl
  | _, _, .cons _ t => by rw [List.length_cons, List.length_cons, paired_len t]
/-- [a new list, ..][j] -/
theorem l_ix {ta : TA} {F : α → List (List Rp)} {f : α → List Rp} (h : EXAN Γ M ta D F) (hb : EvX Γ tb (nI j)) (hf : ∀ a, D a → (F a)[j]? = some (f a)) (hl : ∀ a, D a → (F a).length ≤ 100000) : EXL Γ M (tOp (rIxL K) (tLst ta) tb) D f := fun B G H σ o en Q q => h B G H σ o en _ fun vs G2 H2 a ha o2 e2 k2 n2 pr => ⟨sz_of (by rw [paired_len pr]; exact hl a ha), fun q0 hq => hb σ G2 (en.mono e2) _ (o2.i.trans (Ex.new hq)) _ fun y G4 H4 g4 hy => by
  obtain rfl : y = V.int (j : Int) := hy
  obtain ⟨v, hv, p, ws, rfl, e3, e4, e5, e6⟩ := paired_get pr (hf a ha)
  have pq : p ≠ q0 := fun e => by rw [e, hq] at e5; cases e5
  have hp4 : upd H2 q0 (.lst vs) p = some (.lst ws) := by rw [upd_ne pq]; exact e5
  refine ⟨q0, vs, (j : Int), .ref p, rfl, rfl, sq_of (g4.h _ _ upd_same), atI_nat hv, ?_⟩
  exact q _ G4 H4 _ _ ⟨a, p, ha, rfl, rfl⟩ (o.add2 ((o2.ex (Ex.new hq)).gr g4) (R := lstR p (f a)) (by show [_].Nodup; simp) (fun x hx => by rw [List.mem_singleton.mp hx]; exact ⟨e3, g4.n p _ hp4 e4⟩) ⟨ws, g4.h _ _ hp4, e6.mono g4.g⟩) (e2.trans g4.g) rfl⟩
/-- after a statement: what holds, by data, things that may change too -/
theorem w_cutM {t1 t2 : TS} (P : α → Prop) (Γf : α → Ctx) (Mf : α → List Re) (h : WP W Γ M t1 { κ with nx := fun Γ' M' => ∃ a, P a ∧ Sub Γ' (Γf a) ∧ M' = Mf a }) (hn : ∀ a, P a → WP W (Γf a) (Mf a) t2 κ) : WP W Γ M (tSeq t1 t2) κ :=
  w_seq (w_imp h (fun Γ' M' ⟨a, pa, s, e⟩ => by subst e; exact w_sub s (hn a pa)) (fun _ _ z => z) (fun _ _ z => z) (fun _ _ z => z) (fun _ _ _ _ z => z))
end
end Mu

namespace Mu
open PySem PySem.Spec PyProof.Rows L2 Evl
/-! ### pairs taken apart: for x, y in .. -/
abbrev gP (K : PySem.W.Frag) (j1 j2 : Nat) : TG := gTup K 2 (gCons (gName j1) (gCons (gName j2) gNil))
theorem gP_run {K : PySem.W.Frag} {j1 j2 : Nat} {r1 r2 : Rp} {v : V} {G H : Hp} {σ : L2.St} {Q : L2.St → Hp → Prop} (h : (rT K [r1, r2]).p v G) (e : Ex G H) (k : ∀ x y, r1.p x G → r2.p y G → Q ((σ.set j1 (some x)).set j2 (some y)) H) : gP K j1 j2 v σ H Q := by
  obtain ⟨a, vs, rfl, h1, h2⟩ := h
  obtain ⟨x, y, rfl, hx, hy⟩ := ra2 h2
  exact ⟨a, [x, y], rfl, ex_t e h1, rfl, x, [y], rfl, y, [], rfl, rfl, k x y hx hy⟩
section
variable {α β : Type} {K : PySem.W.Frag} {σ : L2.St} {G H : Hp} {te tl : TE} {t : TT} {D : Ends} {tu : TS} {vs : List Nat} {j1 j2 : Nat}
theorem s_forLP (l : List α) (r1 r2 : α → Rp) (e : Ex G H) (h : EvD tl σ G (rL K (l.map fun a => rT K [r1 a, r2 a]))) (Pv : Hp → Nat → L2.St → Hp → Prop) (h0 : ∀ G1 H1, Gr G H G1 H1 → Pv G1 0 σ H1) (hk : ∀ G1 i σ' H', Pv G1 i σ' H' → Ex G1 H')
    (hs : ∀ G1 i a x y σ' H', Ex G G1 → l[i]? = some a → (r1 a).p x G1 → (r2 a).p y G1 → Pv G1 i σ' H' → tu { D with nx := Pv G1 (i + 1), ct := Pv G1 (i + 1), bk := D.nx } ((σ'.set j1 (some x)).set j2 (some y)) H') (hd : ∀ G1 σ' H', Ex G G1 → Pv G1 l.length σ' H' → D.nx σ' H') :
    tFor (iList K tl) (gP K j1 j2) tu D σ H := h H e _ fun v G1 H1 g1 ⟨a, vs, hv, h1, h2⟩ => by
  subst hv
  have el : vs.length = l.length := by rw [h2.len, List.length_map]
  refine ⟨a, rfl, ⟨vs, sq_of (g1.i _ _ h1)⟩, for_list (xs := vs) (Pv G1) (h0 G1 H1 g1) (fun i σ' H' _ p => sq_of ((hk G1 i σ' H' p) _ _ h1)) (fun i x σ' H' hi p => ?_) (fun σ' H' p => hd G1 σ' H' g1.g (el ▸ p))⟩
  obtain ⟨r, hr, hx⟩ := h2.getV hi
  rw [List.getElem?_map] at hr
  cases q2 : l[i]? with
  | none => rw [q2] at hr; cases hr
  | some b =>
    rw [q2] at hr
    have hr' : rT K [r1 b, r2 b] = r := Option.some.inj hr
    subst hr'
    exact gP_run hx (hk G1 i σ' H' p) fun x y h3 h4 => hs G1 i b x y σ' H' g1.g q2 h3 h4 p
theorem en_lcLP (l : List α) (r1 r2 : α → Rp) (f : α → Bool) (rr : α → Rp) (h : EvD tl σ G (rL K (l.map fun a => rT K [r1 a, r2 a]))) (hz : l.length ≤ 40000) (hw : ∀ x y, wipe (((wipe σ vs).set j1 (some x)).set j2 (some y)) vs = wipe σ vs)
    (ht : ∀ a x y G1, a ∈ l → Ex G G1 → (r1 a).p x G1 → (r2 a).p y G1 → EvT t (((wipe σ vs).set j1 (some x)).set j2 (some y)) G1 (f a)) (he : ∀ a x y G1, a ∈ l → f a = true → Ex G G1 → (r1 a).p x G1 → (r2 a).p y G1 → EvD te (((wipe σ vs).set j1 (some x)).set j2 (some y)) G1 (rr a)) :
    EvN (tLc (iList K tl) (gP K j1 j2) t te vs) σ G ((l.filter f).map rr) := fun H0 e Q q => h H0 e _ fun v G1 H1 g1 ⟨a, xs, hv, h1, h2⟩ => by
  subst hv
  refine ⟨a, rfl, ⟨xs, sq_of (g1.i _ _ h1)⟩, fun Dl hD => lc_list (xs := xs) (fun i H' => Cm G1 H1 Dl (((l.take i).filter f).map rr) H') (cm_start g1.i hD) (fun i H' _ p => ?_) (fun i x H' hi p => ?_) (fun H' p => ?_)⟩
  · obtain ⟨_, G', ws, g, _, _, _⟩ := p
    exact sq_of ((g.g.trans g.i) _ _ h1)
  · obtain ⟨r, hr, hx⟩ := h2.getV hi
    rw [List.getElem?_map] at hr
    cases q2 : l[i]? with
    | none => rw [q2] at hr; cases hr
    | some b =>
      rw [q2] at hr
      have hr' : rT K [r1 b, r2 b] = r := Option.some.inj hr
      subst hr'
      have hm : b ∈ l := List.mem_of_getElem? q2
      have eH : Ex G1 H' := by
        obtain ⟨_, G', ws, g, _, _, _⟩ := id p
        exact g.g.trans g.i
      exact gP_run hx eH fun x y h3 h4 => ⟨hw x y, cm_step q2 hz p (fun G2 e1 e2 => ht b x y G2 hm (g1.g.trans e1) ((r1 b).mono e1 h3) ((r2 b).mono e1 h4)) (fun hf G2 e1 e2 => he b x y G2 hm hf (g1.g.trans e1) ((r1 b).mono e1 h3) ((r2 b).mono e1 h4))⟩
  · obtain ⟨p1, G', ws, g, hG, hD', ra⟩ := p
    have el : xs.length = l.length := by rw [h2.len, List.length_map]
    rw [el, List.take_length] at ra
    exact q Dl ws G' H' (g1.trans g) (fresh_back g1.h p1) hG hD' ra
end
section
variable {W : WX} {Γ : Ctx} {M : List Re} {te tl : TE} {t : TT} {tu : TS} {κ : Kn} {K : PySem.W.Frag} {α β : Type} {j1 j2 j3 : Nat} {r1 r2 r3 : Rp}
theorem wipe_turn2 (σ : L2.St) {vs : List Nat} (h1 : j1 ∈ vs) (h2 : j2 ∈ vs) (x y : V) : wipe (((wipe σ vs).set j1 (some x)).set j2 (some y)) vs = wipe σ vs := by rw [wipe_in _ h2, wipe_in _ h1, wipe_idem]
theorem xn_lcLP {vs : List Nat} (l : List α) (r1 r2 : α → Rp) (f : α → Bool) (rr : α → Rp) (h : EvX Γ tl (rL K (l.map fun a => rT K [r1 a, r2 a]))) (hz : l.length ≤ 40000) (ht : ∀ a, a ∈ l → EvTX (((wipeC Γ vs).set j1 (some (r1 a))).set j2 (some (r2 a))) t (f a)) (he : ∀ a, a ∈ l → f a = true → EvX (((wipeC Γ vs).set j1 (some (r1 a))).set j2 (some (r2 a))) te (rr a)) (h1 : j1 ∈ vs := by simp) (h2 : j2 ∈ vs := by simp) : EvNX Γ (tLc (iList K tl) (gP K j1 j2) t te vs) ((l.filter f).map rr) := fun σ G en =>
  en_lcLP l r1 r2 f rr (h σ G en) hz (wipe_turn2 σ h1 h2) (fun a x y G1 ha e hx hy => ht a ha _ G1 ((en_at (en.mono e) hx).set hy j2)) (fun a x y G1 ha hf e hx hy => he a ha hf _ G1 ((en_at (en.mono e) hx).set hy j2))
theorem xn_lcLP0 {vs : List Nat} (l : List α) (r1 r2 : α → Rp) (rr : α → Rp) (h : EvX Γ tl (rL K (l.map fun a => rT K [r1 a, r2 a]))) (hz : l.length ≤ 40000) (he : ∀ a, a ∈ l → EvX (((wipeC Γ vs).set j1 (some (r1 a))).set j2 (some (r2 a))) te (rr a)) (h1 : j1 ∈ vs := by simp) (h2 : j2 ∈ vs := by simp) : EvNX Γ (tLc (iList K tl) (gP K j1 j2) tYes te vs) (l.map rr) :=
  xn_is (xn_lcLP l r1 r2 (fun _ => true) rr h hz (fun _ _ => t_yes) (fun a ha _ => he a ha) h1 h2) filter_yes
theorem w_forLP (l : List β) (r1 r2 : β → Rp) (P : Nat → α → Prop) (Γi : Nat → α → Ctx) (Mi : Nat → α → List Re) (h : EvX Γ tl (rL K (l.map fun a => rT K [r1 a, r2 a]))) (a0 : α) (p0 : P 0 a0) (s0 : Sub Γ (Γi 0 a0)) (m0 : M = Mi 0 a0)
    (hs : ∀ i a x, l[i]? = some x → P i a → WP W (((Γi i a).set j1 (some (r1 x))).set j2 (some (r2 x))) (Mi i a) tu (kLoop (LI P Γi Mi (i + 1)) κ)) (hd : ∀ a, P l.length a → κ.nx (Γi l.length a) (Mi l.length a)) : WP W Γ M (tFor (iList K tl) (gP K j1 j2) tu) κ := fun B G H σ D o en d => by
  refine Mu.s_forLP l r1 r2 o.i (h σ G en) (fun G1 i σ' H' => Ex B.Gl G1 ∧ Pv (B.low G1) (LI P Γi Mi i) σ' H') (fun G1 H1 g => ⟨o.l.trans g.g, G1, Γ, M, (o.gr g).low (Ex.refl _), en.mono g.g, a0, p0, s0, m0⟩) (fun G1 i σ' H' ⟨_, G2, _, _, o2, _⟩ => o2.l.trans o2.i) (fun G1 i x y z σ' H' e hi hy hz ⟨eb, G2, Γ1, M1, o1, en1, a, pa, sa, ma⟩ => ?_) (fun G1 σ' H' _ ⟨eb, G2, Γ1, M1, o1, en1, a, pa, sa, ma⟩ => ?_)
  · subst ma
    have d2 := (d.low eb).loop (I := LI P Γi Mi (i + 1))
    exact hs i a x hi pa (B.low G1) G2 H' _ _ o1 (((en1.weak sa).set ((r1 x).mono o1.l hy) j1).set ((r2 x).mono o1.l hz) j2) ⟨fun σ G H Γ M o en z => ⟨eb, d2.nx σ G H Γ M o en z⟩, d2.rt, d2.bk, fun σ G H Γ M o en z => ⟨eb, d2.ct σ G H Γ M o en z⟩, d2.ex⟩
  · subst ma
    exact d.nx _ G2 H' _ _ (o1.up eb) (en1.weak sa) (hd a pa)
/-- a, b, c = e -/
theorem w_un3 (h : EvX Γ te (rT K [r1, r2, r3])) (hn : κ.nx (((Γ.set j1 (some r1)).set j2 (some r2)).set j3 (some r3)) M) : WP W Γ M (tAsg te (gTup K 3 (gCons (gName j1) (gCons (gName j2) (gCons (gName j3) gNil))))) κ := fun B G H σ D o en d =>
  h σ G en H o.i _ fun v G2 H2 g hv => by
    obtain ⟨a, vs, rfl, h1, h2⟩ := hv
    cases h2 with
    | cons hx h2 =>
      obtain ⟨y, z, rfl, hy, hz⟩ := ra2 h2
      exact ⟨a, _, rfl, ex_t g.i h1, rfl, _, _, rfl, y, _, rfl, z, [], rfl, rfl, d.nx _ G2 H2 _ M (o.gr g) ((((en.mono g.g).set hx j1).set hy j2).set hz j3) hn⟩
end
end Mu

namespace Mu
open PySem PySem.Spec PyProof.Rows L2 Evl
/-! ### comprehensions with draws in their items -/
section
variable {α : Type} {D : α → Prop} {W : WX} {Γ : Ctx} {M : List Re} {te ta tb tl : TE} {K : PySem.W.Frag} {b : Addr} {i j k m n : Nat} {κ : Kn} {vs : List Nat} {f : α → Rp}
/-- between two turns: l has been drawn -/
def Dc (B : Ba) (G : Hp) (M : List Re) (Dl : Addr) (D : α → Prop) (f : α → Rp) (i : Nat) (H' : Hp) : Prop := ∃ (G' : Hp) (l : List α), Ex G G' ∧ l.length = i ∧ (∀ a ∈ l, D a) ∧ Ok B G' H' (M ++ [lstR Dl (l.map f)])
theorem dc_start {B : Ba} {G H : Hp} {Dl : Addr} (o : Ok B G H M) (hD : H Dl = none) : Dc B G M Dl D f 0 (upd H Dl (.lst [])) :=
  ⟨G, [], Ex.refl _, rfl, fun a ha => (nomatch ha), o.add2 (o.ex (Ex.new hD)) (R := lstR Dl []) (by show [_].Nodup; simp) (fun x hx => by rw [List.mem_singleton.mp hx]; exact ⟨hD, fresh_back o.i hD⟩) ⟨[], upd_same, .nil⟩⟩
theorem dc_step {B : Ba} {G H' : Hp} {Dl : Addr} {σ2 : L2.St} {Γ2 : Ctx} (hz : i < 40000) (p : Dc B G M Dl D f i H') (en : ∀ G', Ex G G' → En σ2 G' Γ2) (he : ∀ R, EXD Γ2 (M ++ [R]) te D f) :
    te σ2 H' fun y H4 => ∃ acc, H4 Dl = some (.lst acc) ∧ acc.length < sizeLine ∧ Dc B G M Dl D f (i + 1) (upd H4 Dl (.lst (acc ++ [y]))) := by
  obtain ⟨G', l, e, hl, hD, o⟩ := p
  refine he (lstR Dl (l.map f)) B G' H' σ2 o (en G' e) _ fun v G2 H2 r M' z o2 e2 hr => ?_
  obtain ⟨⟨a, ha, rfl⟩, rfl⟩ := z
  have hk : (M ++ [lstR Dl (l.map f)])[M.length]? = some (lstR Dl (l.map f)) := by simp
  have hm := List.mem_of_getElem? hk
  obtain ⟨ws, h1, h2⟩ := o2.m _ hm
  have gD : G2 Dl = none := o2.z Dl (mem_feet hm (List.mem_singleton.mpr rfl))
  have hlen : ws.length = i := by rw [h2.len, List.length_map, hl]
  refine ⟨ws, h1, sz_lt (by omega), G2, l ++ [a], e.trans e2, by rw [List.length_append, hl]; rfl, fun x hx => ?_, ?_⟩
  · rcases List.mem_append.mp hx with q | q
    · exact hD x q
    · rw [List.mem_singleton.mp q]; exact ha
  · have o3 := o2.chg hk (R' := lstR Dl ((l ++ [a]).map f)) rfl rfl (Ex.refl G2) (H2 := upd H2 Dl (.lst (ws ++ [v]))) (fun x u z n => by rw [upd_ne (fun q => n (List.mem_singleton.mpr q))]; exact z) (Ex.mut o2.i gD) (fun _ _ _ y => y) ⟨ws ++ [v], upd_same, by rw [List.map_append]; exact h2.append (.cons hr .nil)⟩
    have es : (M ++ [lstR Dl (l.map f)]).set M.length (lstR Dl ((l ++ [a]).map f)) = M ++ [lstR Dl ((l ++ [a]).map f)] := by
      rw [List.set_append_right _ _ (Nat.le_refl _), Nat.sub_self]; rfl
    rw [es] at o3
    exact o3
theorem l_lcR' {ta : TA} (n : Nat) (h : ∀ σ G, En σ G Γ → EvA ta σ G [.int (n : Int)]) (hz : n ≤ 40000) (he : ∀ i R, i < n → EXD ((wipeC Γ vs).set j (some (nI i))) (M ++ [R]) te D f) (hj : j ∈ vs := by simp) : EXL Γ M (tLc (iRng1 ta) (gName j) tYes te vs) (fun l : List α => l.length = n ∧ ∀ a ∈ l, D a) (fun l => l.map f) := fun B G H σ o en Q q => h σ G en H o.i _ fun H1 e1 => by
  refine ⟨(n : Int), rfl, by omega, by omega, fun Dl hD => ?_⟩
  rw [Int.toNat_natCast]
  refine lc_range (lo := 0) (n := n) (fun i H' => Dc B G M Dl D f i H') (dc_start (o.ex e1) hD) (fun i H' hi p => ?_) (fun H' p => ?_)
  · have e0 : (0 : Int) + (i : Int) = (i : Int) := Int.zero_add _
    rw [e0]
    refine ⟨wipe_turn σ hj _, ?_⟩
    dsimp only [tYes]
    rw [if_pos rfl]
    exact dc_step (by omega) p (fun G' e => en_at (r := nI i) (en.mono e) rfl) (fun R => he i R hi)
  · obtain ⟨G', l, e, hl, hDl, o2⟩ := p
    exact q (.ref Dl) G' H' _ _ ⟨l, Dl, ⟨hl, hDl⟩, rfl, rfl⟩ o2 e rfl
theorem l_lcR (n : Nat) (h : EvX Γ ta (nI n)) (hz : n ≤ 40000) (he : ∀ i R, i < n → EXD ((wipeC Γ vs).set j (some (nI i))) (M ++ [R]) te D f) (hj : j ∈ vs := by simp) : EXL Γ M (tLc (iRng1 (tCons ta tNil)) (gName j) tYes te vs) (fun l : List α => l.length = n ∧ ∀ a ∈ l, D a) (fun l => l.map f) :=
  l_lcR' n (fun σ G en => ea_cons (EvD.ev (h σ G en)) ea_nil) hz he hj
end
end Mu

namespace Mu
open PySem PySem.Spec PyProof.Rows L2 Evl
/-! ### more of one's own lists: reverse, pop, items; lists of ints of any sign; chains -/
section
variable {α : Type} {D : α → Prop} {W : WX} {Γ : Ctx} {M : List Re} {te ta tb tc tl : TE} {rs : List Rp} {K : PySem.W.Frag} {b p : Addr} {i j k m n : Nat} {κ : Kn} {a c : Int}
theorem RA.rev {H : Hp} : ∀ {vs : List V} {rs : List Rp}, RA H vs rs → RA H vs.reverse rs.reverse
  | _, _, .nil => .nil
  | _, _, .cons h t => by
    rw [List.reverse_cons, List.reverse_cons]
    exact (RA.rev t).append (.cons h .nil)
theorem w_rev (k : Nat) (hk : M[k]? = some (lstR p rs)) (hi : Γ[i]? = some (some (rV (.ref p)))) (hn : κ.nx Γ (M.set k (lstR p rs.reverse))) : WP W Γ M (tDrop (tBM0 K "list" rReverse (tVar i))) κ := fun B G H σ D o en d => by
  obtain ⟨v, hv1, hv2⟩ := en.get hi
  obtain rfl : v = V.ref p := hv2
  have hm := List.mem_of_getElem? hk
  obtain ⟨ws, hp, ra⟩ := o.m _ hm
  have gp : G p = none := o.z p (mem_feet hm (List.mem_singleton.mpr rfl))
  refine ⟨.ref p, hv1, Or.inl ⟨rfl, ws, sq_of hp⟩, p, ws, rfl, rfl, hp, ?_⟩
  refine d.nx _ G _ _ _ (o.chg (R' := lstR p rs.reverse) hk rfl rfl (Ex.refl _) (fun a u z n => ?_) (Ex.mut o.i gp) (fun _ _ _ y => y) ⟨ws.reverse, upd_same, ra.rev⟩) en hn
  rw [upd_ne fun q => n (List.mem_singleton.mpr q)]
  exact z
theorem RA.erase {H : Hp} : ∀ {vs : List V} {rs : List Rp} (n : Nat), RA H vs rs → RA H (vs.eraseIdx n) (rs.eraseIdx n)
  | _, _, _, .nil => .nil
  | _, _, 0, .cons _ t => t
  | _, _, n + 1, .cons h t => .cons h (RA.erase n t)
/-- xs.pop(a drawn place) -/
theorem w_popD {g : α → Nat} (k : Nat) (hk : M[k]? = some (lstR p rs)) (hi : Γ[i]? = some (some (rV (.ref p)))) (h : EXD Γ M te D (fun x => nI (g x))) (hg : ∀ x, D x → g x < rs.length) (hz : rs.length < 50000) (hn : ∀ x, D x → κ.nx Γ (M.set k (lstR p (rs.eraseIdx (g x))))) : WP W Γ M (tDrop (tBM K "list" rPopAt (tVar i) (tCons te tNil))) κ := fun B G H σ D o en d => by
  obtain ⟨v, hv1, hv2⟩ := en.get hi
  obtain rfl : v = V.ref p := hv2
  obtain ⟨ws0, hp0, ra0⟩ := o.m _ (List.mem_of_getElem? hk)
  refine ⟨.ref p, hv1, Or.inl ⟨rfl, ws0, sq_of hp0⟩, h B G H σ o en _ fun v G2 H2 r M' z o2 e hv => ?_⟩
  obtain ⟨⟨x, hx, rfl⟩, rfl⟩ := z
  obtain rfl : v = V.int ((g x : Nat) : Int) := hv
  have hm := List.mem_of_getElem? hk
  obtain ⟨ws, hp, ra⟩ := o2.m _ hm
  have gp : G2 p = none := o2.z p (mem_feet hm (List.mem_singleton.mpr rfl))
  have hlt : g x < ws.length := by rw [ra.len]; exact hg x hx
  have hz2 : ws.length < 50000 := by rw [ra.len]; exact hz
  refine ⟨p, ws, ((g x : Nat) : Int), g x, ws[g x], rfl, rfl, hp, by omega, by omega, ?_, List.getElem?_eq_getElem hlt, ?_⟩
  · unfold seqIndex?
    have e1 : ¬ ((g x : Nat) : Int) < 0 := by omega
    simp only [e1, if_false]
    rw [if_pos (by simp; omega), Int.toNat_natCast]
  · refine d.nx _ G2 _ _ _ (o2.chg (R' := lstR p (rs.eraseIdx (g x))) hk rfl rfl (Ex.refl _) (fun a u z n => ?_) (Ex.mut o2.i gp) (fun _ _ _ y => y) ⟨ws.eraseIdx (g x), upd_same, ra.erase (g x)⟩) (en.mono e) (hn x hx)
    rw [upd_ne fun q => n (List.mem_singleton.mpr q)]
    exact z
/-- xs[a drawn place], xs our own -/
theorem d_ixOwn {g : α → Nat} {f : α → Rp} (k : Nat) (hk : M[k]? = some (lstR p rs)) (hi : Γ[i]? = some (some (rV (.ref p)))) (h : EXD Γ M tb D (fun x => nI (g x))) (hf : ∀ x, D x → rs[g x]? = some (f x)) : EXD Γ M (tOp (rIxL K) (tVar i) tb) D f := fun B G H σ o en Q q => by
  obtain ⟨v, hv1, hv2⟩ := en.get hi
  obtain rfl : v = V.ref p := hv2
  refine ⟨.ref p, hv1, h B G H σ o en _ fun v G2 H2 r M' z o2 e hv => ?_⟩
  obtain ⟨⟨x, hx, rfl⟩, rfl⟩ := z
  obtain rfl : v = V.int ((g x : Nat) : Int) := hv
  obtain ⟨ws, hp, ra⟩ := o2.m _ (List.mem_of_getElem? hk)
  obtain ⟨w, h3, h4⟩ := ra.get (hf x hx)
  exact ⟨p, ws, _, w, rfl, rfl, sq_of hp, atI_nat h3, q w G2 H2 _ _ ⟨⟨x, hx, rfl⟩, rfl⟩ o2 e h4⟩
/-! ints of any sign -/
theorem ints_flatI (l : List Int) : (l.map V.int).all flatV = true := by
  rw [List.all_map]
  exact List.all_eq_true.mpr fun _ _ => rfl
theorem inV_int (w : Int) (l : List Int) : inV (.int w) (l.map V.int) = decide (w ∈ l) := by
  unfold inV
  rw [List.any_map, Bool.eq_iff_iff, List.any_eq_true, decide_eq_true_iff]
  constructor
  · rintro ⟨x, hx, h⟩
    have : x = w := by
      have h2 : eqV (.int x) (.int w) = true := h
      simpa [eqV] using h2
    rw [← this]; exact hx
  · intro h
    exact ⟨w, h, by simp [eqV]⟩
theorem x_inLi {l : List Int} (neg : Bool) (ha : EvX Γ ta (rI a)) (hb : EvX Γ tb (rL K (l.map rI))) : EvX Γ (tOp (rIn K neg) ta tb) (rB (if neg then !decide (a ∈ l) else decide (a ∈ l))) := fun σ G en =>
  Ev.d (ev_op2 (ha σ G en) (hb σ G en) fun x y H hx hy Q q => by
    obtain rfl : x = V.int a := hx
    obtain ⟨p, vs, rfl, h1, h2⟩ := hy
    have e := ra_ints_eq h2
    subst e
    exact ⟨p, _, rfl, .inl (sq_of h1), rfl, ints_flatI l, by rw [inV_int]; exact q⟩)
/-! a op b op c -/
theorem t_chain {p p' : Int → Int → Bool} {a b c : Int} (ha : EvX Γ ta (rI a)) (hb : EvX Γ tb (rI b)) (hc : EvX Γ tc (rI c)) : EvTX Γ (tTest (tChain (rI0 fun i j => .bl (p i j)) (rI0 fun i j => .bl (p' i j)) ta tb tc)) (p a b && p' b c) := fun σ G en H e Q q =>
  ha σ G en H e _ fun x G2 H2 g2 hx => hb σ G2 (en.mono g2.g) H2 g2.i _ fun y G3 H3 g3 hy => by
    obtain rfl : x = V.int a := hx
    obtain rfl : y = V.int b := hy
    refine ⟨a, b, rfl, rfl, p a b, rfl, ?_⟩
    cases z : p a b with
    | false =>
      rw [if_neg (by decide)]
      refine ⟨false, rfl, ?_⟩
      have := q H3 (g2.h.trans g3.h)
      rwa [z] at this
    | true =>
      rw [if_pos rfl]
      refine hc σ G3 (en.mono (g2.g.trans g3.g)) H3 g3.i _ fun w G4 H4 g4 hw => ?_
      obtain rfl : w = V.int c := hw
      refine ⟨b, c, rfl, rfl, p' b c, rfl, ?_⟩
      have := q H4 ((g2.h.trans g3.h).trans g4.h)
      rwa [z, Bool.true_and] at this
end
/-! ### a pair of names as a target, within a comprehension's block -/
theorem pg_pair {X : Cx} {x1 x2 : Str} {p1 p2 pos : Pos} {kk i1 i2 : Nat} (K : PySem.W.Frag) (hc : X.calm = true) (hN : X.N.Nodup) (h1 : X.N[i1]? = some x1) (h2 : X.N[i2]? = some x2) (l1 : X.env.scope.names.lookup x1 = some .local) (l2 : X.env.scope.names.lookup x2 = some .local) (hK : X.K = K) : PG X (.Tuple [.Name x1 p1, .Name x2 p2] kk pos) (gP K i1 i2) := by
  subst hK
  exact pg_tup hc (pgs_cons (pg_name hN h1 (.inl l1) (.inr l1)) (pgs_cons (pg_name hN h2 (.inl l2) (.inr l2)) pgs_nil))
/-! ### a helper of the law that draws and gives a new list -/
section
variable {α : Type} {D : α → Prop} {W : WX} {Γ : Ctx} {M : List Re} {t : TS} {tt u : TT} {te : TE} {G H : Hp} {σ : L2.St} {Q : VK} {K : PySem.W.Frag} {b : Addr} {i k m : Nat} {E : XK}
theorem run_BN {P : List Rp → Prop} (w : WP W Γ [boxR K b] t { nx := fun _ _ => False, rt := fun r' M' => ∃ rs p, P rs ∧ r' = rV (.ref p) ∧ M' = [boxR K b, lstR p rs] }) (e : Ex G H) (gb : G b = none) (hb : Box K G H b) (en : En σ G Γ) (k : ∀ rs p vs G2 H2, P rs → GrB b G H G2 H2 → Box K G2 H2 b → H p = none → G2 p = none → H2 p = some (.lst vs) → RA G2 vs rs → Q (.ref p) H2) : t { nx := fun _ H' => Q .non H', rt := Q } σ H :=
  w _ G H σ _ (Ok.box e gb hb) en ⟨fun _ _ _ _ _ _ _ z => z.elim, fun v G' H' r' M' o hv z => by
    obtain ⟨rs, p, hP, rfl, rfl⟩ := z
    obtain rfl : v = V.ref p := hv
    have hm : lstR p rs ∈ [boxR K b, lstR p rs] := by simp
    obtain ⟨ws, h1, h2⟩ := o.m (lstR p rs) hm
    have hp : H p = none := by
      rcases o.f (lstR p rs) hm p (List.mem_singleton.mpr rfl) with q | q
      · exact q
      · exact nomatch q.1
    exact k rs p ws G' H' hP o.toB (o.m (boxR K b) List.mem_cons_self) hp (o.z p (mem_feet hm (List.mem_singleton.mpr rfl))) h1 h2, fun _ _ _ _ _ _ _ z => z.elim, fun _ _ _ _ _ _ _ z => z.elim, fun _ _ _ _ _ _ _ _ _ _ _ z => z.elim⟩
/-- a draw from as many as a reading tells that may look at our own lists -/
theorem d_takeE (hk : M[k]? = some (boxR K b)) (hv : Γ[i]? = some (some (rV (.ref b)))) (h : EX Γ M te (fun r M' => r = rV (.int (m : Int)) ∧ M' = M)) (h0 : 0 < m) (h1 : m < 2 ^ 30) : EXD Γ M (tCall (spT K) [] E (tCons (tVar i) (tCons te tNil))) (fun d : Nat => d < m) nI := fun B G H σ o en Q q => by
  obtain ⟨v, hv1, hv2⟩ := en.get hv
  obtain rfl : v = V.ref b := hv2
  refine ⟨.ref b, hv1, h B G H σ o en _ fun v G2 H2 r M' z o2 e2 hr => ?_⟩
  obtain ⟨rfl, rfl⟩ := z
  obtain rfl : v = V.int (m : Int) := hr
  have z2 : EXD Γ M' (tCall (spT K) [] E (tCons (tVar i) (tCons (tC (.int (m : Int))) tNil))) (fun d : Nat => d < m) nI := d_take hk hv (x_cn m) h0 h1
  obtain ⟨w, hw, z3⟩ := z2 B G2 H2 σ o2 (en.mono e2) Q fun v G' H' r M' k1 k2 k3 k4 => q v G' H' r M' k1 k2 (e2.trans k3) k4
  rw [hv1] at hw
  cases hw
  exact z3
theorem d_andO {c : Bool} {f : α → Bool} (h1 : EXT Γ M tt (fun c' M' => c' = c ∧ M' = M)) (h2 : c = true → EXTD Γ M u D f) : EXT Γ M (tAnd tt u) (fun d M' => ((c = false ∧ d = false) ∨ (c = true ∧ ∃ a, D a ∧ d = f a)) ∧ M' = M) := fun B G H σ o en Q q => h1 B G H σ o en _ fun c' G1 H1 M1 z o1 e1 => by
  obtain ⟨rfl, rfl⟩ := z
  cases c' with
  | false => exact q false G1 H1 _ ⟨.inl ⟨rfl, rfl⟩, rfl⟩ o1 e1
  | true => exact h2 rfl B G1 H1 σ o1 (en.mono e1) _ fun d G2 H2 M2 z o2 e2 => q d G2 H2 M2 ⟨.inr ⟨rfl, z.1⟩, z.2⟩ o2 (e1.trans e2)
end
end Mu

namespace Mu
open PySem PySem.Spec PyProof.Rows L2 Evl
/-! ### readings by what follows: κ of the answer and the things, ε of an error -/
abbrev KV := Rp → List Re → Prop
abbrev KX := Value → List (Str × V) → List Re → Prop
def Go (B : Ba) (G : Hp) (κ : KV) (Q : VK) : Prop := ∀ v G' H' r M', κ r M' → Ok B G' H' M' → Ex G G' → r.p v G' → Q v H'
def GoX (B : Ba) (G : Hp) (ε : KX) (W : WX) (σ : L2.St) : Prop := ∀ cls fs d G' H' M', ε cls fs M' → Ok B G' H' M' → Ex G G' → XdOk G' fs d → W cls d σ H'
def EW (W : WX) (Γ : Ctx) (M : List Re) (te : TE) (κ : KV) (ε : KX) : Prop := ∀ B G H σ, Ok B G H M → En σ G Γ → ∀ Q : VK, Go B G κ Q → GoX B G ε W σ → te σ H Q
def EA (W : WX) (Γ : Ctx) (M : List Re) (ta : TA) (κ : List Rp → List Re → Prop) (ε : KX) : Prop := ∀ B G H σ, Ok B G H M → En σ G Γ → ∀ Q : List V → Hp → Prop, (∀ vs G' H' rs M', κ rs M' → Ok B G' H' M' → Ex G G' → RA G' vs rs → Q vs H') → GoX B G ε W σ → ta σ H Q
def ET (W : WX) (Γ : Ctx) (M : List Re) (t : TT) (κ : Bool → List Re → Prop) (ε : KX) : Prop := ∀ B G H σ, Ok B G H M → En σ G Γ → ∀ Q : Bool → Hp → Prop, (∀ c G' H' M', κ c M' → Ok B G' H' M' → Ex G G' → Q c H') → GoX B G ε W σ → t σ H Q
/-! the leaves: an operation on values that stand for .. -/
def OM (rr : R2) (r1 r2 : Rp) (M : List Re) (κ : KV) : Prop := ∀ B G H x y, Ok B G H M → r1.p x G → r2.p y G → ∀ Q : VK, Go B G κ Q → rr x y H Q
def UM (rr : V → Hp → VK → Prop) (r1 : Rp) (M : List Re) (κ : KV) : Prop := ∀ B G H x, Ok B G H M → r1.p x G → ∀ Q : VK, Go B G κ Q → rr x H Q
def AM (rr : List V → Hp → VK → Prop) (rs : List Rp) (M : List Re) (κ : KV) : Prop := ∀ B G H vs, Ok B G H M → RA G vs rs → ∀ Q : VK, Go B G κ Q → rr vs H Q
def CM (sp : Sp) (rs : List Rp) (M : List Re) (κ : KV) : Prop := ∀ E, AM (fun vs H Q => sp vs H Q E) rs M κ
/-- .. that may raise -/
def XM (sp : Sp) (rs : List Rp) (M : List Re) (κ : KV) (ε : KX) : Prop := ∀ B G H vs W σ, Ok B G H M → RA G vs rs → ∀ Q : VK, Go B G κ Q → GoX B G ε W σ → sp vs H Q (fun cls d H' => W cls d σ H')
section
variable {W : WX} {Γ : Ctx} {M : List Re} {te ta tb tc tl : TE} {t u : TT} {r r1 r2 r3 : Rp} {rs ss : List Rp} {K : PySem.W.Frag} {C : Addr} {i j : Nat} {v w x y : V} {m n : Nat} {E : XK} {sp : Sp} {κ : KV} {ε : KX} {B : Ba} {G G1 H : Hp} {Q : VK} {σ : L2.St} {rr : R2}
theorem Go.up (q : Go B G κ Q) (e : Ex G G1) : Go B G1 κ Q := fun v G' H' r M' k o e' hv => q v G' H' r M' k o (e.trans e') hv
theorem GoX.up (q : GoX B G ε W σ) (e : Ex G G1) : GoX B G1 ε W σ := fun c f d G' H' M' k o e' hv => q c f d G' H' M' k o (e.trans e') hv
theorem e_v (h : Γ[i]? = some (some r)) (k : κ r M) : EW W Γ M (tVar i) κ ε := fun B G H σ o en Q q _ => by
  obtain ⟨v, h1, h2⟩ := en.get h
  exact ⟨v, h1, q v G H r M k o (Ex.refl _) h2⟩
theorem e_c (k : κ (rV v) M) : EW W Γ M (tC v) κ ε := fun B G H σ o en Q q _ => q v G H (rV v) M k o (Ex.refl _) rfl
theorem e_x (h : EvX Γ te r) (k : κ r M) : EW W Γ M te κ ε := fun B G H σ o en Q q _ => h σ G en H o.i Q fun v G2 H2 g hv => q v G2 H2 r M k (o.gr g) g.g hv
theorem e_xn (K : PySem.W.Frag) (h : EvNX Γ te rs) (k : κ (rL K rs) M) : EW W Γ M te κ ε := e_x (EvNX.d (K := K) h) k
/-- a new list of our own -/
theorem e_n (h : EvNX Γ te rs) (k : ∀ p, κ (rV (.ref p)) (M ++ [lstR p rs])) : EW W Γ M te κ ε := fun B G H σ o en Q q _ => h σ G en H o.i Q fun p vs G2 H2 g hp gp h2 ra =>
  q _ G2 H2 _ _ (k p) (o.add (R := lstR p rs) g (show [p].Nodup by simp) (fun a ha => by rw [List.mem_singleton.mp ha]; exact ⟨hp, gp⟩) ⟨vs, h2, ra⟩) g.g rfl
theorem EvX.by (h : ∀ W ε, EW W Γ [] te (fun r' M' => r' = r ∧ M' = []) ε) : EvX Γ te r := fun σ G en H e Q q => h (fun _ _ _ _ => True) (fun _ _ _ => False) ⟨G, H, [], G⟩ G H σ (Ok.nil e) en Q (fun v G' H' r' M' z o _ hv => by
    obtain ⟨rfl, rfl⟩ := z
    exact q v G' H' o.to hv) (fun _ _ _ _ _ _ z => z.elim)
theorem e_op (h : EW W Γ M ta (fun r1 M1 => EW W Γ M1 tb (fun r2 M2 => OM rr r1 r2 M2 κ) ε) ε) : EW W Γ M (tOp rr ta tb) κ ε := fun B G H σ o en Q q x =>
  h B G H σ o en _ (fun v1 G1 H1 r1 M1 h1 o1 e1 hv1 => h1 B G1 H1 σ o1 (en.mono e1) _ (fun v2 G2 H2 r2 M2 h2 o2 e2 hv2 => h2 B G2 H2 v1 v2 o2 (r1.mono e2 hv1) hv2 Q (q.up (e1.trans e2))) (x.up e1)) x
theorem e_un {rr : V → Hp → VK → Prop} (h : EW W Γ M ta (fun r1 M1 => UM rr r1 M1 κ) ε) : EW W Γ M (tUn rr ta) κ ε := fun B G H σ o en Q q x =>
  h B G H σ o en _ (fun v1 G1 H1 r1 M1 h1 o1 e1 hv1 => h1 B G1 H1 v1 o1 hv1 Q (q.up e1)) x
theorem a_nil {κ : List Rp → List Re → Prop} (k : κ [] M) : EA W Γ M tNil κ ε := fun B G H σ o en Q q _ => q [] G H [] M k o (Ex.refl _) .nil
theorem a_cons {κ : List Rp → List Re → Prop} {tr : TA} (h : EW W Γ M ta (fun r1 M1 => EA W Γ M1 tr (fun rs M2 => κ (r1 :: rs) M2) ε) ε) : EA W Γ M (tCons ta tr) κ ε := fun B G H σ o en Q q x =>
  h B G H σ o en _ (fun v1 G1 H1 r1 M1 h1 o1 e1 hv1 => h1 B G1 H1 σ o1 (en.mono e1) _ (fun vs G2 H2 rs M2 h2 o2 e2 ra => q (v1 :: vs) G2 H2 (r1 :: rs) M2 h2 o2 (e1.trans e2) (.cons (r1.mono e2 hv1) ra)) (x.up e1)) x
theorem e_call {ta : TA} (h : EA W Γ M ta (fun rs M1 => CM sp rs M1 κ) ε) : EW W Γ M (tCall sp [] E ta) κ ε := fun B G H σ o en Q q x =>
  h B G H σ o en _ (fun vs G1 H1 rs M1 h1 o1 e1 ra => by
    rw [List.append_nil]
    exact h1 E B G1 H1 vs o1 ra Q (q.up e1)) x
theorem e_callS {ta : TA} (h : EA W Γ M ta (fun rs M1 => XM sp rs M1 κ ε) ε) : EW W Γ M (tCallS sp (WE W) ta) κ ε := fun B G H σ o en Q q x =>
  h B G H σ o en _ (fun vs G1 H1 rs M1 h1 o1 e1 ra => h1 B G1 H1 vs W σ o1 ra Q (q.up e1) (x.up e1)) x
theorem e_cb {ta : TA} {rr : List V → Hp → VK → Prop} (h : EA W Γ M ta (fun rs M1 => AM rr rs M1 κ) ε) : EW W Γ M (tCB rr ta) κ ε := fun B G H σ o en Q q x =>
  h B G H σ o en _ (fun vs G1 H1 rs M1 h1 o1 e1 ra => h1 B G1 H1 vs o1 ra Q (q.up e1)) x
theorem e_tup (K : PySem.W.Frag) {ta : TA} (h : EA W Γ M ta (fun rs M1 => rs.length ≤ 100000 ∧ κ (rT K rs) M1) ε) : EW W Γ M (tTup ta) κ ε := fun B G H σ o en Q q x =>
  h B G H σ o en _ (fun vs G1 H1 rs M1 h1 o1 e1 ra => ⟨sz_of (by rw [ra.len]; exact h1.1), fun p hp => by
    have g3 := Gr.new (o := .tup vs) o1.i hp
    exact q (.ref p) _ _ (rT K rs) M1 h1.2 (o1.gr g3) (e1.trans g3.g) ⟨p, vs, rfl, st_of upd_same, ra.mono g3.g⟩⟩) x
theorem e_lst (K : PySem.W.Frag) {ta : TA} (h : EA W Γ M ta (fun rs M1 => rs.length ≤ 100000 ∧ κ (rL K rs) M1) ε) : EW W Γ M (tLst ta) κ ε := fun B G H σ o en Q q x =>
  h B G H σ o en _ (fun vs G1 H1 rs M1 h1 o1 e1 ra => ⟨sz_of (by rw [ra.len]; exact h1.1), fun p hp => by
    have g3 := Gr.new (o := .lst vs) o1.i hp
    exact q (.ref p) _ _ (rL K rs) M1 h1.2 (o1.gr g3) (e1.trans g3.g) ⟨p, vs, rfl, upd_same, ra.mono g3.g⟩⟩) x
theorem e_lstN {ta : TA} (h : EA W Γ M ta (fun rs M1 => rs.length ≤ 100000 ∧ ∀ p, κ (rV (.ref p)) (M1 ++ [lstR p rs])) ε) : EW W Γ M (tLst ta) κ ε := fun B G H σ o en Q q x =>
  h B G H σ o en _ (fun vs G1 H1 rs M1 h1 o1 e1 ra => ⟨sz_of (by rw [ra.len]; exact h1.1), fun p hp => by
    have gp := fresh_back o1.i hp
    have g3 := Gr.out (o := .lst vs) o1.i hp
    exact q (.ref p) _ _ (rV (.ref p)) _ (h1.2 p) (o1.add (R := lstR p rs) g3 (show [p].Nodup by simp) (fun a ha => by rw [List.mem_singleton.mp ha]; exact ⟨hp, gp⟩) ⟨vs, upd_same, ra⟩) e1 rfl⟩) x
theorem e_fld (f : Str) (h : EW W Γ M ta (fun r1 M1 => UM (fun x H1 Q => ∃ a C dx fs v, x = .ref a ∧ H1 a = some (.ins C dx fs) ∧ Cls K C ∧ NoAttr K C f ∧ fs.lookup f = some v ∧ Q v H1) r1 M1 κ) ε) : EW W Γ M (tFld K ta f) κ ε := fun B G H σ o en Q q x =>
  h B G H σ o en _ (fun v1 G1 H1 r1 M1 h1 o1 e1 hv1 => h1 B G1 H1 v1 o1 hv1 Q (q.up e1)) x
/-- C(..), the instance then of another reading -/
theorem e_make {ta : TA} (h : EA W Γ M ta (fun rs M1 => AM (fun vs H1 Q => ∀ x dx, H1 x = none → H1 dx = none → dx ≠ x → sp (.ref x :: (vs ++ [])) (upd (upd H1 dx (.own x)) x (.ins C dx [])) (fun v H2 => v = .non ∧ Q (.ref x) H2) E) rs M1 κ) ε) : EW W Γ M (tMake C sp [] E ta) κ ε := fun B G H σ o en Q q x =>
  h B G H σ o en _ (fun vs G1 H1 rs M1 h1 o1 e1 ra => h1 B G1 H1 vs o1 ra Q (q.up e1)) x
/-- an instance that stays -/
def InsR (C : Addr) (f : Str) (r : Rp) : Prop := ∀ v G, r.p v G → ∃ a dx fs, v = .ref a ∧ G a = some (.ins C dx fs) ∧ fs.lookup f = none
theorem e_meth {ta : TA} {f : Str} (h : EW W Γ M te (fun r0 M0 => InsR C f r0 ∧ EA W Γ M0 ta (fun rs M1 => CM sp (r0 :: rs) M1 κ) ε) ε) : EW W Γ M (tMeth C f sp [] E te ta) κ ε := fun B G H σ o en Q q x =>
  h B G H σ o en _ (fun v0 G0 H0 r0 M0 h0 o0 e0 hv0 => by
    obtain ⟨hi, h1⟩ := h0
    obtain ⟨a, dx, fs, rfl, h2, h3⟩ := hi _ _ hv0
    refine ⟨a, dx, fs, rfl, o0.i _ _ h2, h3, h1 B G0 H0 σ o0 (en.mono e0) _ (fun vs G1 H1 rs M1 k1 o1 e1 ra => ?_) (x.up e0)⟩
    rw [List.append_nil]
    exact k1 E B G1 H1 _ o1 (.cons (r0.mono e1 hv0) ra) Q (q.up (e0.trans e1))) x
theorem ins_tab {m : List Nat} {f : Str} (hf : (f == "size" || (f == "masks" || f == "cells")) = false) : InsR C f (rTab K C m) := fun v G hv => by
  obtain ⟨a, dx, t, c, rfl, h2, _⟩ := hv
  refine ⟨a, dx, _, rfl, h2, ?_⟩
  have hf2 := hf
  simp only [Bool.or_eq_false_iff] at hf2
  obtain ⟨h1, h3, h4⟩ := hf2
  unfold tabF
  simp [List.lookup, h1, h3, h4]
/-- tests -/
theorem w_t {κ : Bool → List Re → Prop} (h : EW W Γ M te (fun r M' => ∃ c, r = rB c ∧ κ c M') ε) : ET W Γ M (tTest te) κ ε := fun B G H σ o en Q q x =>
  h B G H σ o en _ (fun v G' H' r M' z o' e' hv => by
    obtain ⟨c, rfl, k⟩ := z
    exact ⟨c, hv, q c G' H' M' k o' e'⟩) x
theorem w_tB {κ : Bool → List Re → Prop} (h : EW W Γ M te (fun r M' => ∃ c, r = rB c ∧ κ c M') ε) : ET W Γ M (tB te) κ ε := fun B G H σ o en Q q x =>
  h B G H σ o en _ (fun v G' H' r M' z o' e' hv => by
    obtain ⟨c, rfl, k⟩ := z
    exact ⟨c, hv, q c G' H' M' k o' e'⟩) x
theorem w_tx {κ : Bool → List Re → Prop} {c : Bool} (h : EvTX Γ t c) (k : κ c M) : ET W Γ M t κ ε := fun B G H σ o en Q q x => h σ G en H o.i Q fun H2 e => q c G H2 M k (o.ex e) (Ex.refl _)
theorem w_tAnd {κ : Bool → List Re → Prop} (h : ET W Γ M t (fun c M' => (c = true → ET W Γ M' u κ ε) ∧ (c = false → κ false M')) ε) : ET W Γ M (tAnd t u) κ ε := fun B G H σ o en Q q x =>
  h B G H σ o en _ (fun c G' H' M' z o' e' => by
    cases c with
    | true =>
      show u σ H' Q
      exact z.1 rfl B G' H' σ o' (en.mono e') Q (fun c2 G2 H2 M2 k o2 e2 => q c2 G2 H2 M2 k o2 (e'.trans e2)) (x.up e')
    | false =>
      show Q false H'
      exact q false G' H' M' (z.2 rfl) o' e') x
theorem w_tOr {κ : Bool → List Re → Prop} (h : ET W Γ M t (fun c M' => (c = false → ET W Γ M' u κ ε) ∧ (c = true → κ true M')) ε) : ET W Γ M (tOr t u) κ ε := fun B G H σ o en Q q x =>
  h B G H σ o en _ (fun c G' H' M' z o' e' => by
    cases c with
    | false =>
      show u σ H' Q
      exact z.1 rfl B G' H' σ o' (en.mono e') Q (fun c2 G2 H2 M2 k o2 e2 => q c2 G2 H2 M2 k o2 (e'.trans e2)) (x.up e')
    | true =>
      show Q true H'
      exact q true G' H' M' (z.2 rfl) o' e') x
theorem w_tNot {κ : Bool → List Re → Prop} (h : ET W Γ M t (fun c M' => κ (!c) M') ε) : ET W Γ M (tNot t) κ ε := fun B G H σ o en Q q x =>
  h B G H σ o en _ (fun c G' H' M' z o' e' => q (!c) G' H' M' z o' e') x
end
/-! statements -/
section
variable {W : WX} {Γ : Ctx} {M : List Re} {te ta tb tc tl : TE} {t u : TT} {r r1 r2 r3 : Rp} {rs ss : List Rp} {K : PySem.W.Frag} {C : Addr} {i j : Nat} {κ : Kn} {tu tw : TS}
theorem ws_set (h : EW W Γ M te (fun r M' => κ.nx (Γ.set i (some r)) M') (κ.ex Γ)) : WP W Γ M (tAsg te (gName i)) κ := fun B G H σ D o en d =>
  h B G H σ o en _ (fun v G' H' r M' k o' e' hv => d.nx _ G' H' _ M' o' ((en.mono e').set hv i) k) (fun cls fs dd G' H' M' k o' e' xd => d.ex σ G' H' Γ M' cls dd fs o' (en.mono e') xd k)
theorem ws_ret (h : EW W Γ M te κ.rt (κ.ex Γ)) : WP W Γ M (tRet te) κ := fun B G H σ D o en d =>
  h B G H σ o en _ (fun v G' H' r M' k o' e' hv => d.rt v G' H' r M' o' hv k) (fun cls fs dd G' H' M' k o' e' xd => d.ex σ G' H' Γ M' cls dd fs o' (en.mono e') xd k)
theorem ws_do (h : EW W Γ M te (fun _ M' => κ.nx Γ M') (κ.ex Γ)) : WP W Γ M (tDrop te) κ := fun B G H σ D o en d =>
  h B G H σ o en _ (fun v G' H' r M' k o' e' hv => d.nx σ G' H' _ M' o' (en.mono e') k) (fun cls fs dd G' H' M' k o' e' xd => d.ex σ G' H' Γ M' cls dd fs o' (en.mono e') xd k)
theorem ws_if (h : ET W Γ M t (fun c M' => (c = true → WP W Γ M' tu κ) ∧ (c = false → WP W Γ M' tw κ)) (κ.ex Γ)) : WP W Γ M (tIfS t tu tw) κ := fun B G H σ D o en d =>
  h B G H σ o en _ (fun c G' H' M' k o' e' => by
    cases c with
    | true =>
      show tu D σ H'
      exact k.1 rfl B G' H' σ D o' (en.mono e') d
    | false =>
      show tw D σ H'
      exact k.2 rfl B G' H' σ D o' (en.mono e') d) (fun cls fs dd G' H' M' k o' e' xd => d.ex σ G' H' Γ M' cls dd fs o' (en.mono e') xd k)
end
/-! leaves -/
section
variable {W : WX} {Γ : Ctx} {M : List Re} {te ta tb tc tl : TE} {r r1 r2 r3 : Rp} {rs ss : List Rp} {K : PySem.W.Frag} {C b p : Addr} {i j k : Nat} {v w x y : V} {m n : Nat} {a c : Int} {sp : Sp} {κ : KV} {ε : KX} {rr : R2}
theorem en2 {G : Hp} (h1 : r1.p x G) (h2 : r2.p y G) : En [some x, some y] G [some r1, some r2] := .cons (fun q hq => ⟨x, rfl, by cases hq; exact h1⟩) (.cons (fun q hq => ⟨y, rfl, by cases hq; exact h2⟩) .nil)
theorem en1 {G : Hp} (h1 : r1.p x G) : En [some x] G [some r1] := .cons (fun q hq => ⟨x, rfl, by cases hq; exact h1⟩) .nil
theorem om (h : EvX [some r1, some r2] (tOp rr (tVar 0) (tVar 1)) r) (k : κ r M) : OM rr r1 r2 M κ := fun B G H x y o hx hy Q q => by
  obtain ⟨v1, e1, v2, e2, z⟩ := h _ G (en2 hx hy) H o.i Q fun v G2 H2 g hv => q v G2 H2 r M k (o.gr g) g.g hv
  cases e1; cases e2
  exact z
theorem omn (h : EvNX [some r1, some r2] (tOp rr (tVar 0) (tVar 1)) rs) (k : κ (rL K rs) M) : OM rr r1 r2 M κ := om (EvNX.d (K := K) h) k
theorem um {rr : V → Hp → VK → Prop} (h : EvX [some r1] (tUn rr (tVar 0)) r) (k : κ r M) : UM rr r1 M κ := fun B G H x o hx Q q => by
  obtain ⟨v1, e1, z⟩ := h _ G (en1 hx) H o.i Q fun v G2 H2 g hv => q v G2 H2 r M k (o.gr g) g.g hv
  cases e1
  exact z
theorem am1 {rr : List V → Hp → VK → Prop} (h : EvX [some r1] (tCB rr (tCons (tVar 0) tNil)) r) (k : κ r M) : AM rr [r1] M κ := fun B G H vs o ra Q q => by
  obtain ⟨x, rfl, hx⟩ := ra1 ra
  obtain ⟨v1, e1, z⟩ := h _ G (en1 hx) H o.i Q fun v G2 H2 g hv => q v G2 H2 r M k (o.gr g) g.g hv
  cases e1
  exact z
theorem am1n {rr : List V → Hp → VK → Prop} (h : EvNX [some r1] (tCB rr (tCons (tVar 0) tNil)) rs) (k : κ (rL K rs) M) : AM rr [r1] M κ := am1 (EvNX.d (K := K) h) k
theorem am2c {rr : List V → Hp → VK → Prop} {c : V} (h : EvX [some r1] (tCB rr (tCons (tVar 0) (tCons (tC c) tNil))) r) (k : κ r M) : AM rr [r1, rV c] M κ := fun B G H vs o ra Q q => by
  obtain ⟨x, y, rfl, hx, hy⟩ := ra2 ra
  obtain rfl : y = c := hy
  obtain ⟨v1, e1, z⟩ := h _ G (en1 hx) H o.i Q fun v G2 H2 g hv => q v G2 H2 r M k (o.gr g) g.g hv
  cases e1
  exact z
theorem cm (h : ∀ vs G, RA G vs rs → SpD sp vs G r) (k : κ r M) : CM sp rs M κ := fun E B G H vs o ra Q q => h vs G ra H o.i Q (fun v G2 H2 g hv => q v G2 H2 r M k (o.gr g) g.g hv) E
theorem cmn (h : ∀ vs G, RA G vs rs → SpN sp vs G ss) (k : κ (rL K ss) M) : CM sp rs M κ := cm (fun vs G ra => by
  intro H e Q q E
  exact h vs G ra H e Q (fun p ws G2 H2 g hp gp h2 ra => by
    have e2 : Ex (upd G2 p (.lst ws)) H2 := fun a u z => by
      by_cases c : a = p
      · subst c
        rw [upd_same] at z
        rw [h2]; exact z
      · rw [upd_ne c] at z
        exact g.i a u z
    refine q (.ref p) (upd G2 p (.lst ws)) H2 ⟨g.g.trans (Ex.new gp), g.h, e2, fun a u z y => ?_⟩ ⟨p, ws, rfl, upd_same, ra.mono (Ex.new gp)⟩
    rw [upd_ne (ne_of_none z hp)]
    exact g.n a u z y) E) k
/-- the answer stays our own -/
theorem cmo (h : ∀ vs G, RA G vs rs → SpN sp vs G ss) (k : ∀ p, κ (rV (.ref p)) (M ++ [lstR p ss])) : CM sp rs M κ := fun E B G H vs o ra Q q => h vs G ra H o.i Q (fun p ws G2 H2 g hp gp h2 ra => q _ G2 H2 _ _ (k p) (o.add (R := lstR p ss) g (show [p].Nodup by simp) (fun a ha => by rw [List.mem_singleton.mp ha]; exact ⟨hp, gp⟩) ⟨ws, h2, ra⟩) g.g rfl) E
theorem xm {R : List V → Hp → Out → Prop} (h : ∀ vs G, RA G vs rs → R vs G (.inl r)) (k : κ r M) : XM (spO R) rs M κ ε := fun B G H vs W σ o ra Q q x => by
  refine ⟨G, .inl r, o.i, h vs G ra, fun r' e' v G2 H2 g hv => ?_, fun _ _ z => nomatch z⟩
  cases e'
  exact q v G2 H2 r M k (o.gr g) g.g hv
theorem xmx {R : List V → Hp → Out → Prop} {cls : Value} {fs : List (Str × V)} (h : ∀ vs G, RA G vs rs → R vs G (.inr (cls, fs))) (k : ε cls fs M) : XM (spO R) rs M κ ε := fun B G H vs W σ o ra Q q x => by
  refine ⟨G, .inr (cls, fs), o.i, h vs G ra, fun _ z => (nomatch z), fun c f e' d G2 H2 g xd => ?_⟩
  cases e'
  exact x cls fs d G2 H2 M k (o.gr g) g.g xd
theorem cmO {R : List V → Hp → Out → Prop} (h : ∀ vs G, RA G vs rs → R vs G (.inl r)) (k : κ r M) : CM (spO R) rs M κ := cm (fun vs G ra => SpD.ofO (h vs G ra)) k
/-! draws -/
theorem c_take (k : Nat) (hk : M[k]? = some (boxR K b)) (h0 : 0 < m) (h1 : m < 2 ^ 30) (kk : ∀ d, d < m → κ (nI d) M) : CM (spT K) [rV (.ref b), nI m] M κ := fun E B G H vs o ra Q q => by
  obtain ⟨x, y, rfl, hx, hy⟩ := ra2 ra
  obtain rfl : x = V.ref b := hx
  obtain rfl : y = V.int (m : Int) := hy
  have z : EXD [some (rV (.ref b))] M (tCall (spT K) [] E (tCons (tVar 0) (tCons (tC (.int (m : Int))) tNil))) (fun d : Nat => d < m) nI := d_take hk rfl (x_cn m) h0 h1
  obtain ⟨w, hw, z3⟩ := z B G H [some (.ref b)] o (en1 rfl) Q fun v G' H' r M' k1 k2 k3 k4 => by
    obtain ⟨⟨d, hd, rfl⟩, rfl⟩ := k1
    exact q v G' H' _ _ (kk d hd) k2 k3 k4
  cases hw
  exact z3
theorem c_B {R : List V → Hp → (Rp → Prop) → Prop} {PP : Rp → Prop} (k : Nat) (hk : M[k]? = some (boxR K b)) (hs : ∀ ws G, RA G ws rs → R ws G PP) (kk : ∀ r, PP r → κ r M) : CM (spB K R) (rV (.ref b) :: rs) M κ := fun E B G H vs o ra Q q => by
  cases ra with
  | cons hx ra =>
    obtain rfl := hx
    have hm := List.mem_of_getElem? hk
    exact ⟨G, b, _, PP, rfl, o.i, o.z b (mem_feet hm (List.mem_singleton.mpr rfl)), o.m _ hm, hs _ G ra, fun r v G2 H2 p g hb hv => q v G2 H2 r M (kk r p) (o.grB hk g hb) g.g hv⟩
/-- .. a new list of our own -/
theorem c_BN {R : List V → Hp → (List Rp → Prop) → Prop} {PP : List Rp → Prop} (k : Nat) (hk : M[k]? = some (boxR K b)) (hs : ∀ ws G, RA G ws rs → R ws G PP) (kk : ∀ ss, PP ss → ∀ p, κ (rV (.ref p)) (M ++ [lstR p ss])) : CM (spBN K R) (rV (.ref b) :: rs) M κ := fun E B G H vs o ra Q q => by
  cases ra with
  | cons hx ra =>
    obtain rfl := hx
    have hm := List.mem_of_getElem? hk
    refine ⟨G, b, _, PP, rfl, o.i, o.z b (mem_feet hm (List.mem_singleton.mpr rfl)), o.m _ hm, hs _ G ra, fun ss p vs G2 H2 hP g hb2 hp gp h2 ra2 => q _ G2 H2 _ _ (kk ss hP p) (o.add2 (o.grB hk g hb2) (R := lstR p ss) (by show [_].Nodup; simp) (fun x hx => by rw [List.mem_singleton.mp hx]; exact ⟨hp, gp⟩) ⟨vs, h2, ra2⟩) g.g rfl⟩
theorem Go.frz {B : Ba} {G : Hp} {Q : VK} (q : Go B G κ Q) : Go B G (fun r M' => ∃ p ss M, r = rV (.ref p) ∧ M' = M ++ [lstR p ss] ∧ κ (rL K ss) M) Q := fun v G' H' r M' z o e hv => by
  obtain ⟨p, ss, M, rfl, rfl, k⟩ := z
  obtain rfl : v = V.ref p := hv
  have hk : (M ++ [lstR p ss])[M.length]? = some (lstR p ss) := by simp
  obtain ⟨G2, e2, o2, h2⟩ := o.frz (K := K) hk
  have es : (M ++ [lstR p ss]).eraseIdx M.length = M := by simp [List.eraseIdx_append_of_length_le]
  rw [es] at o2
  exact q _ G2 H' _ M k o2 (e.trans e2) h2
/-- .. a new list that stays -/
theorem c_BNf (K' : PySem.W.Frag) {R : List V → Hp → (List Rp → Prop) → Prop} {PP : List Rp → Prop} (k : Nat) (hk : M[k]? = some (boxR K b)) (hs : ∀ ws G, RA G ws rs → R ws G PP) (kk : ∀ ss, PP ss → κ (rL K' ss) M) : CM (spBN K R) (rV (.ref b) :: rs) M κ := fun E B G H vs o ra Q q =>
  c_BN (κ := fun r M' => ∃ p ss M, r = rV (.ref p) ∧ M' = M ++ [lstR p ss] ∧ κ (rL K' ss) M) k hk hs (fun ss h p => ⟨p, ss, M, rfl, rfl, kk ss h⟩) E B G H vs o ra Q q.frz
/-! our own lists are read -/
theorem Ok.rdv {B : Ba} {G H : Hp} (o : Ok B G H M) (hk : M[k]? = some (lstR p rs)) : ∃ G2, Ex G G2 ∧ Ex G2 H ∧ (rL K rs).p (.ref p) G2 := by
  have hm := List.mem_of_getElem? hk
  obtain ⟨ws, h1, h2⟩ := o.m _ hm
  have gp : G p = none := o.z p (mem_feet hm (List.mem_singleton.mpr rfl))
  have e : Ex G (upd G p (.lst ws)) := Ex.new gp
  exact ⟨upd G p (.lst ws), e, ex_add o.i h1, p, ws, rfl, upd_same, h2.mono e⟩
theorem om_ownL (k : Nat) (hk : M[k]? = some (lstR p rs)) (h : EvX [some (rL K rs), some r2] (tOp rr (tVar 0) (tVar 1)) (rV v)) (kk : κ (rV v) M) : OM rr (rV (.ref p)) r2 M κ := fun B G H x y o hx hy Q q => by
  obtain rfl : x = V.ref p := hx
  obtain ⟨G2, e, e2, hl⟩ := o.rdv (K := K) hk
  obtain ⟨v1, e1, v2, e3, z⟩ := h _ G2 (en2 hl (r2.mono e hy)) H e2 Q fun w G3 H3 g hw => q w G H3 (rV v) M kk (o.ex g.h) (Ex.refl _) hw
  cases e1; cases e3
  exact z
theorem om_ownR (k : Nat) (hk : M[k]? = some (lstR p rs)) (h : EvX [some r1, some (rL K rs)] (tOp rr (tVar 0) (tVar 1)) (rV v)) (kk : κ (rV v) M) : OM rr r1 (rV (.ref p)) M κ := fun B G H x y o hx hy Q q => by
  obtain rfl : y = V.ref p := hy
  obtain ⟨G2, e, e2, hl⟩ := o.rdv (K := K) hk
  obtain ⟨v1, e1, v2, e3, z⟩ := h _ G2 (en2 (r1.mono e hx) hl) H e2 Q fun w G3 H3 g hw => q w G H3 (rV v) M kk (o.ex g.h) (Ex.refl _) hw
  cases e1; cases e3
  exact z
theorem om_ixOwn (k : Nat) (hk : M[k]? = some (lstR p rs)) (hi : rs[n]? = some r) (kk : κ r M) : OM (rIxL K) (rV (.ref p)) (nI n) M κ := fun B G H x y o hx hy Q q => by
  obtain rfl : x = V.ref p := hx
  obtain rfl : y = V.int (n : Int) := hy
  obtain ⟨ws, hp, ra⟩ := o.m _ (List.mem_of_getElem? hk)
  obtain ⟨w, h3, h4⟩ := ra.get hi
  exact ⟨p, ws, _, w, rfl, rfl, sq_of hp, atI_nat h3, q w G H r M kk o (Ex.refl _) h4⟩
theorem am_own {rr : List V → Hp → VK → Prop} (k : Nat) (hk : M[k]? = some (lstR p rs)) (h : EvX [some (rL K rs)] (tCB rr (tCons (tVar 0) tNil)) (rV v)) (kk : κ (rV v) M) : AM rr [rV (.ref p)] M κ := fun B G H vs o ra Q q => by
  obtain ⟨x, rfl, hx⟩ := ra1 ra
  obtain rfl : x = V.ref p := hx
  obtain ⟨G2, e, e2, hl⟩ := o.rdv (K := K) hk
  obtain ⟨v1, e1, z⟩ := h _ G2 (en1 hl) H e2 Q fun w G3 H3 g hw => q w G H3 (rV v) M kk (o.ex g.h) (Ex.refl _) hw
  cases e1
  exact z
/-- xs.append(e) -/
theorem e_app (k : Nat) (hi : Γ[i]? = some (some (rV (.ref p)))) (h : EW W Γ M te (fun r M' => ∃ rs, M'[k]? = some (lstR p rs) ∧ rs.length < 50000 ∧ κ (rV .non) (M'.set k (lstR p (rs ++ [r])))) ε) (hk : M[k]? = some (lstR p rs)) : EW W Γ M (tBM K "list" rAppend (tVar i) (tCons te tNil)) κ ε := fun B G H σ o en Q q x => by
  obtain ⟨v, hv1, hv2⟩ := en.get hi
  obtain rfl : v = V.ref p := hv2
  obtain ⟨ws0, hp0, ra0⟩ := o.m _ (List.mem_of_getElem? hk)
  refine ⟨.ref p, hv1, Or.inl ⟨rfl, ws0, sq_of hp0⟩, h B G H σ o en _ (fun v G2 H2 r M' z o2 e hv => ?_) x⟩
  obtain ⟨rs, hk2, hz, hq⟩ := z
  obtain ⟨ws, hp, ra⟩ := o2.m _ (List.mem_of_getElem? hk2)
  have gp : G2 p = none := o2.z p (mem_feet (List.mem_of_getElem? hk2) (List.mem_singleton.mpr rfl))
  refine ⟨p, ws, v, rfl, rfl, hp, sz_lt (by rw [ra.len]; omega), q .non G2 _ (rV .non) _ hq (o2.chg (R' := lstR p (rs ++ [r])) hk2 rfl rfl (Ex.refl _) (fun a u z n => ?_) (Ex.mut o2.i gp) (fun _ _ _ y => y) ⟨ws ++ [v], upd_same, ra.snoc hv⟩) e rfl⟩
  rw [upd_ne fun q => n (List.mem_singleton.mpr q)]
  exact z
/-! fields of tables -/
theorem f_tab {m : List Nat} {f : Str} (h : EvX [some (rTab K C m)] (tFld K (tVar 0) f) r) (k : κ r M) : UM (fun x H1 Q => ∃ a C dx fs v, x = .ref a ∧ H1 a = some (.ins C dx fs) ∧ Cls K C ∧ NoAttr K C f ∧ fs.lookup f = some v ∧ Q v H1) (rTab K C m) M κ := fun B G H x o hx Q q => by
  obtain ⟨v1, e1, z⟩ := h _ G (en1 hx) H o.i Q fun v G2 H2 g hv => q v G2 H2 r M k (o.gr g) g.g hv
  cases e1
  exact z
theorem mk_tab {m : List Nat} (w : Wf n m) (h1 : 1 ≤ n) (h6 : n ≤ 6) {E : XK} (k : κ (rTab K C m) M) : AM (fun vs H1 Q => ∀ x dx, H1 x = none → H1 dx = none → dx ≠ x → spTab K C (.ref x :: (vs ++ [])) (upd (upd H1 dx (.own x)) x (.ins C dx [])) (fun v H2 => v = .non ∧ Q (.ref x) H2) E) [rLL K (m.map bitsN)] M κ := fun B G H vs o ra Q q => by
  obtain ⟨x, rfl, hx⟩ := ra1 ra
  have z : EvX [some (rLL K (m.map bitsN))] (tMake C (spTab K C) [] E (tCons (tVar 0) tNil)) (rTab K C m) := x_tabRows (x_v rfl) w h1 h6
  obtain ⟨v1, e1, z2⟩ := z _ G (en1 hx) H o.i Q fun v G2 H2 g hv => q v G2 H2 _ M k (o.gr g) g.g hv
  cases e1
  exact z2
end
/-! more readings -/
section
variable {Γ : Ctx} {M : List Re} {ta tb : TE} {r r1 r2 : Rp} {K : PySem.W.Frag} {C : Addr} {m n : Nat} {a b : Int} {κ : KV}
theorem x_eqI (ha : EvX Γ ta (rI a)) (hb : EvX Γ tb (rI b)) : EvX Γ (tOp rEq ta tb) (rB (decide (a = b))) := x_is (x_eqV ha hb) (by rw [dec_int])
theorem x_neI (ha : EvX Γ ta (rI a)) (hb : EvX Γ tb (rI b)) : EvX Γ (tOp rNe ta tb) (rB (!decide (a = b))) := x_is (x_neV ha hb) (by rw [dec_int])
theorem x_shlN1 (ha : EvX Γ ta (rV (.int 1))) (h : EvX Γ tb (nI n)) (hn : n ≤ 64) : EvX Γ (tOp (L2.rI CPow fun i j => .int (i * 2 ^ j.toNat)) ta tb) (nI (2 ^ n)) := x_is (x_I ha h ⟨by omega, by omega, by decide⟩) (by rw [shl_nat])
theorem x_ixLL {l : List (List Nat)} (ha : EvX Γ ta (rLL K l)) (hb : EvX Γ tb (nI n)) (h : n < l.length) : EvX Γ (tOp (rIxL K) ta tb) (rLn K (l.getD n [])) := x_ixLm [] ha hb h
theorem x_eqLn0 {l : List Nat} (ha : EvX Γ ta (rLn K l)) (hb : EvX Γ tb (rL K [])) : EvX Γ (tOp (rEqD K) ta tb) (rB (decide (l = []))) := x_eqLn (m := []) ha hb
theorem x_neLn0 {l : List Nat} (ha : EvX Γ ta (rLn K l)) (hb : EvX Γ tb (rL K [])) : EvX Γ (tOp (rNeD K) ta tb) (rB (!decide (l = []))) := x_neLn (m := []) ha hb
def NN (r : Rp) : Prop := ∀ v G, r.p v G → v ≠ V.non
theorem nn_tab {m : List Nat} : NN (rTab K C m) := fun v G h e => by
  obtain ⟨a, _, _, _, rfl, _⟩ := h
  cases e
theorem nn_L {rs : List Rp} : NN (rL K rs) := fun v G h e => by
  obtain ⟨a, _, rfl, _⟩ := h
  cases e
theorem nn_T {rs : List Rp} : NN (rT K rs) := fun v G h e => by
  obtain ⟨a, _, rfl, _⟩ := h
  cases e
theorem nn_I : NN (rI a) := fun v G h e => by
  obtain rfl : v = V.int a := h
  cases e
theorem om_isN0 (k : κ (rB true) M) : OM (fun x y H Q => y = V.non ∧ Q (.bl (decide (x = .non))) H) (rV .non) (rV .non) M κ := fun B G H x y o hx hy Q q => by
  obtain rfl : x = V.non := hx
  obtain rfl : y = V.non := hy
  exact ⟨rfl, q _ G H _ M k o (Ex.refl _) rfl⟩
theorem om_notN0 (k : κ (rB false) M) : OM (fun x y H Q => y = V.non ∧ Q (.bl (!decide (x = .non))) H) (rV .non) (rV .non) M κ := fun B G H x y o hx hy Q q => by
  obtain rfl : x = V.non := hx
  obtain rfl : y = V.non := hy
  exact ⟨rfl, q _ G H _ M k o (Ex.refl _) rfl⟩
theorem om_isN1 (hr : NN r) (k : κ (rB false) M) : OM (fun x y H Q => y = V.non ∧ Q (.bl (decide (x = .non))) H) r (rV .non) M κ := fun B G H x y o hx hy Q q => by
  obtain rfl : y = V.non := hy
  exact ⟨rfl, q _ G H _ M k o (Ex.refl _) (by rw [decide_eq_false (hr x G hx)]; rfl)⟩
theorem om_notN1 (hr : NN r) (k : κ (rB true) M) : OM (fun x y H Q => y = V.non ∧ Q (.bl (!decide (x = .non))) H) r (rV .non) M κ := fun B G H x y o hx hy Q q => by
  obtain rfl : y = V.non := hy
  exact ⟨rfl, q _ G H _ M k o (Ex.refl _) (by rw [decide_eq_false (hr x G hx)]; rfl)⟩
end
/-! comprehensions, their answers found by the walk -/
section
variable {α : Type} {W : WX} {Γ : Ctx} {M : List Re} {te ta tl : TE} {t : TT} {K : PySem.W.Frag} {j n : Nat} {κ : KV} {ε : KX} {vs : List Nat} {l : List α} {ρ rr : α → Rp} {f : α → Bool}
theorem e_lcL0 (h : EvX Γ tl (rL K (l.map ρ))) (hz : l.length ≤ 40000) (he : ∀ a, a ∈ l → EvX ((wipeC Γ vs).set j (some (ρ a))) te (rr a)) (hj : j ∈ vs) (k : κ (rL K (l.map rr)) M) : EW W Γ M (tLc (iList K tl) (gName j) tYes te vs) κ ε := e_xn K (xn_lcL0 l ρ rr h hz he hj) k
theorem e_lcL (h : EvX Γ tl (rL K (l.map ρ))) (hz : l.length ≤ 40000) (ht : ∀ a, a ∈ l → EvTX ((wipeC Γ vs).set j (some (ρ a))) t (f a)) (he : ∀ a, a ∈ l → f a = true → EvX ((wipeC Γ vs).set j (some (ρ a))) te (rr a)) (hj : j ∈ vs) (k : κ (rL K ((l.filter f).map rr)) M) : EW W Γ M (tLc (iList K tl) (gName j) t te vs) κ ε := e_xn K (xn_lcL l ρ f rr h hz ht he hj) k
theorem e_lcT0 (h : EvX Γ tl (rT K (l.map ρ))) (hz : l.length ≤ 40000) (he : ∀ a, a ∈ l → EvX ((wipeC Γ vs).set j (some (ρ a))) te (rr a)) (hj : j ∈ vs) (k : κ (rL K (l.map rr)) M) : EW W Γ M (tLc (iTup K tl) (gName j) tYes te vs) κ ε := e_xn K (xn_lcT0 l ρ rr h hz he hj) k
theorem e_lcT (h : EvX Γ tl (rT K (l.map ρ))) (hz : l.length ≤ 40000) (ht : ∀ a, a ∈ l → EvTX ((wipeC Γ vs).set j (some (ρ a))) t (f a)) (he : ∀ a, a ∈ l → f a = true → EvX ((wipeC Γ vs).set j (some (ρ a))) te (rr a)) (hj : j ∈ vs) (k : κ (rL K ((l.filter f).map rr)) M) : EW W Γ M (tLc (iTup K tl) (gName j) t te vs) κ ε := e_xn K (xn_lcT l ρ f rr h hz ht he hj) k
theorem e_lcR0 {rr : Nat → Rp} (K : PySem.W.Frag) (h : EvX Γ ta (nI n)) (hz : n ≤ 40000) (he : ∀ a, a < n → EvX ((wipeC Γ vs).set j (some (nI a))) te (rr a)) (hj : j ∈ vs) (k : κ (rL K ((List.range n).map rr)) M) : EW W Γ M (tLc (iRng1 (tCons ta tNil)) (gName j) tYes te vs) κ ε := e_xn K (xn_lcR0 n rr h hz he hj) k
theorem e_lcR {rr : Nat → Rp} {f : Nat → Bool} (K : PySem.W.Frag) (h : EvX Γ ta (nI n)) (hz : n ≤ 40000) (ht : ∀ a, a < n → EvTX ((wipeC Γ vs).set j (some (nI a))) t (f a)) (he : ∀ a, a < n → f a = true → EvX ((wipeC Γ vs).set j (some (nI a))) te (rr a)) (hj : j ∈ vs) (k : κ (rL K (((List.range n).filter f).map rr)) M) : EW W Γ M (tLc (iRng1 (tCons ta tNil)) (gName j) t te vs) κ ε := e_xn K (xn_lcR n f rr h hz ht he hj) k
end
/-! tests in the middle of values -/
section
variable {W : WX} {Γ : Ctx} {M : List Re} {ta tb : TE} {t : TT} {κ : KV} {ε : KX} {c d : Bool}
theorem e_and (h1 : EvX Γ ta (rB c)) (h2 : c = true → EvX Γ tb (rB d)) (k : κ (rB (c && d)) M) : EW W Γ M (tAndV ta tb) κ ε := e_x (x_and h1 h2) k
theorem e_or (h1 : EvX Γ ta (rB c)) (h2 : c = false → EvX Γ tb (rB d)) (k : κ (rB (c || d)) M) : EW W Γ M (tOrV ta tb) κ ε := e_x (x_or h1 h2) k
theorem e_not (h1 : EvX Γ ta (rB c)) (k : κ (rB (!c)) M) : EW W Γ M (tNotV ta) κ ε := e_x (x_not h1) k
end
/-- a list of our own is given back -/
theorem w_retF {W : WX} {Γ : Ctx} {M : List Re} {κ : Kn} {p : Addr} {rs : List Rp} {i : Nat} (K : PySem.W.Frag) (k : Nat) (hk : M[k]? = some (lstR p rs)) (hi : Γ[i]? = some (some (rV (.ref p)))) (h : κ.rt (rL K rs) (M.eraseIdx k)) : WP W Γ M (tRet (tVar i)) κ := w_frz K k i hk hi (w_ret (x_v (by
  rw [List.getElem?_set_self']
  have : Γ[i]? = some (some (rV (.ref p))) := hi
  rw [this]; rfl)) h)
theorem t_and0 {Γ : Ctx} {t u : TT} {c : Bool} (h1 : EvTX Γ t c) (hc : c = false) : EvTX Γ (tAnd t u) false := fun σ G en H e Q q => h1 σ G en H e _ fun H1 e1 => by
  subst hc
  show Q false H1
  exact q H1 e1
theorem t_or1 {Γ : Ctx} {t u : TT} {c : Bool} (h1 : EvTX Γ t c) (hc : c = true) : EvTX Γ (tOr t u) true := fun σ G en H e Q q => h1 σ G en H e _ fun H1 e1 => by
  subst hc
  show Q true H1
  exact q H1 e1
theorem x_and0 {Γ : Ctx} {ta tb : TE} {c : Bool} (h1 : EvX Γ ta (rB c)) (hc : c = false) : EvX Γ (tAndV ta tb) (rB false) := fun σ G en H e Q q => h1 σ G en H e _ fun v G1 H1 g hv => by
  subst hc
  obtain rfl : v = V.bl false := hv
  exact ⟨false, rfl, q _ G1 H1 g rfl⟩
theorem x_or1 {Γ : Ctx} {ta tb : TE} {c : Bool} (h1 : EvX Γ ta (rB c)) (hc : c = true) : EvX Γ (tOrV ta tb) (rB true) := fun σ G en H e Q q => h1 σ G en H e _ fun v G1 H1 g hv => by
  subst hc
  obtain rfl : v = V.bl true := hv
  exact ⟨true, rfl, q _ G1 H1 g rfl⟩
/-- a written number -/
theorem e_cn {W : WX} {Γ : Ctx} {M : List Re} {κ : KV} {ε : KX} {n : Nat} (k : κ (nI (OfNat.ofNat n)) M) : EW W Γ M (tC (.int (@OfNat.ofNat Int n _))) κ ε := e_c k
theorem am_listL {M : List Re} {κ : KV} {K : PySem.W.Frag} {rs : List Rp} (k : κ (rL K rs) M) : AM (rListS K) [rL K rs] M κ := am1n (K := K) (xn_list (x_v rfl)) k
theorem am_listT {M : List Re} {κ : KV} {K : PySem.W.Frag} {rs : List Rp} (k : κ (rL K rs) M) : AM (rListS K) [rT K rs] M κ := am1n (K := K) (xn_listT (x_v rfl)) k
end Mu

namespace Mu
open PySem PySem.Spec PyProof.Rows L2 Evl
/-! ### C(..) and o.m(..) that may raise -/
section
variable {X : Cx} {CX : CXT} {k : Nat} {f C : Addr} {fd : FuncData} {ps : List Str} {sp : Sp} {x : Str} {p pos apos : Pos} {e o : Expr} {es : List Expr} {t : TA} {te : TE}
theorem run_makeS {E : XK} {pins : List (Addr × Obj)} {σ : L2.St} {H : Hp} {s : Shared} {Q : VK} {us : List Value} {vs : List V} (M : Mk X.K C f) (F : FnOk X.prog X.w X.K X.mg X.base CX k f fd ps sp) (hr : Room (k + 1) X.A) (hb : Binds X.K fd ps [])
    (hx : PassesAt CX X σ E) (I : Inv X pins σ H s) (r : Vals vs us)
    (h : ∀ x dx, H x = none → H dx = none → dx ≠ x → sp (.ref x :: vs) (upd (upd H dx (.own x)) x (.ins C dx [])) (fun v H2 => v = .non ∧ Q (.ref x) H2) E) :
    wpAny (model X.prog X.w) X.A (call (.ref C) us) (EP X pins σ Q) X.xe s := by
  have hq := h (s.heap.objs.size + 1) s.heap.objs.size (I.hok.fresh (Nat.le_succ _)) (I.hok.fresh (Nat.le_refl _)) (Nat.ne_of_lt (Nat.lt_succ_self _))
  have I2 := Inv.made (C := C) I
  have r2 : Vals (V.ref (s.heap.objs.size + 1) :: vs) (Value.ref (s.heap.objs.size + 1) :: us) := .cons rfl r
  have hl : (Value.ref (s.heap.objs.size + 1) :: us ++ []).length = ps.length := by
    rw [List.append_nil]
    have e := r2.length
    rw [F.len _ _ _ _ hq] at e
    exact e.symm
  have b2 := hb _ (Value.ref (s.heap.objs.size + 1) :: us) I2.kIn hl
  rw [List.append_nil] at b2
  refine wpAny_call (make_map (f := f) I.kIn M.makes M.init (beq_iff_eq.mp M.fn) (codeAny_mono (F.run _ X.stack _ _ ⟨Value.ref (s.heap.objs.size + 1) :: us, []⟩ (Value.ref (s.heap.objs.size + 1) :: us) _ _ E (hr.make C us [])
    (I2.env0.make C us []) b2 r2 hq) fun r s' hq' => ?_))
  cases r with
  | error e => exact hx pins _ _ e s' I2 hq'
  | ok fl =>
    cases fl with
    | ret u =>
      obtain ⟨v, H', I3, rv, ev, q3⟩ := I2.after hq'
      subst ev
      exact ⟨rv, ⟨V.ref (s.heap.objs.size + 1), H', I3, rfl, q3⟩⟩
    | next => exact False.elim hq'
    | brk => exact False.elim hq'
    | cont => exact False.elim hq'
def tMakeS (C : Addr) (sp : Sp) (E : L2.St → XK) (t : TA) : TE := fun σ H Q => t σ H fun vs H1 => ∀ x dx, H1 x = none → H1 dx = none → dx ≠ x → sp (.ref x :: vs) (upd (upd H1 dx (.own x)) x (.ins C dx [])) (fun v H2 => v = .non ∧ Q (.ref x) H2) (E σ)
theorem pe_makeS {E : L2.St → XK} (M : Mk X.K C f) (F : FnOk X.prog X.w X.K X.mg X.base CX k f fd ps sp) (hr : Room (k + 1) X.A) (hg : Gl X x) (hm : X.mg x = some (.ref C)) (hb : Binds X.K fd ps []) (hx : ∀ σ, PassesAt CX X σ (E σ))
    (ha : PA X (e :: es) t) (hdb : (x == ("__debug__" : Str)) = false := by decide) (he : starEach (e :: es) X.env = (false, eval e X.env) :: starEach es X.env := by rfl) (hpl : (backTo pos (starEach es X.env)).any (·.1) = false := by rfl) :
    PE X (.Call (.Name x p) (e :: es) [] pos) (tMakeS C sp E t) := by
  refine ⟨fun pins s σ H Q I h => ?_⟩
  refine wpAny_Call_Name_kw (ld_glob I hg hm ?_ hdb)
  refine PySem.W.callWith_K (h₀ := X.base) I.ok.mod.kin M.kp (thn (ha.run pos pins s σ H _ I h) fun us s1 ⟨vs, H1, I1, r, q⟩ => ⟨I1.kIn, ?_⟩) he hpl
  exact run_makeS M F hr hb (hx σ) I1 r q
end
/-! ### a bound method's call -/
theorem callWith_bound {M : Model} {A : Around} {E : Value → Shared → Prop} {s : Shared} {pos : Pos} {u f2 a : Addr} {args : List (Bool × Sem Value)} {Q : Value → Shared → Prop} (hplain : args.any (·.1) = false)
    (h : wpAny M A (evalArgs (.ref u) true args []) (fun ar s₁ => s₁.heap.get? u = some { cls := .type "method", dict := none, data := .fields #[.ref f2, .ref a], slots := #[] } ∧ (∃ o fd, s₁.heap.get? f2 = some o ∧ o.data = .func fd) ∧ wpAny M A (call (.ref u) ar.pos ar.kw) Q E s₁) E s) : wpAny M A (callWith pos (.ref u) [] args []) Q E s := by
  unfold callWith
  refine wpAny_bind (wpAny_holding (wpAny_mono h (fun ar s₁ h₁ => wpAny_bind (wpAny_standAt ?_)) fun _ _ y => y))
  obtain ⟨ho, ⟨o, fd, hf, hd⟩, hcall⟩ := h₁
  have tail : ∀ {t : Sem Value}, wpAny M A t Q E s₁ → wpAny M A (t >>= fun r => holding [r] point >>= fun _ => pure r) Q E s₁ :=
    fun ht => wpAny_bind (wpAny_mono ht (fun r s₂ hr => wpAny_bind (wpAny_holding (wpAny_point (wpAny_pure hr)))) fun _ _ x => x)
  simp only [hplain, List.any_nil, Bool.or_false]
  refine wpAny_bind (m := keeperOf (.ref u)) ?_
  unfold keeperOf
  refine wpAny_bind (wpAny_load ho ?_)
  simp only [show (Value.type "method" != Value.type "method") = false by decide, Bool.false_eq_true, if_false]
  show wpAny _ _ (load f2 >>= _) _ _ _
  refine wpAny_bind (wpAny_load hf ?_)
  rw [hd]
  refine wpAny_pure ?_
  first
    | refine wpAny_ite ?_
    | skip
  split <;> first
    | exact tail hcall
    | exact tail (by unfold callMarked; exact PySem.Calls.wpAny_keep hcall)

/-! ### super().m(..) of a class of one's own -/
section
variable {CX CX2 : CXT} {P : Program} {w : World} {K : PySem.W.Frag} {mg : Str → Option Value} {base : Heap} {N ps ps2 : List Str} {x qual : Str} {params : Arguments} {body : List Stmt} {scope : Scope} {file : Str} {D f f2 : Addr} {fd fd2 : FuncData} {cda cc : Addr} {A : Around} {outer : List Env} {s0 : Shared} {H0 : Hp} {E0 : XK}
  {pins : List (Addr × Obj)} {σ : L2.St} {H : Hp} {s : Shared} {fb : List Stmt} {k2 : Nat} {sp2 : Sp} {m : Str}
def tSup (K : PySem.W.Frag) (D : Addr) (m : Str) (f2 : Addr) (sp : Sp) (E : L2.St → XK) (ta : TA) : TE := fun σ H Q => ∃ a C dx fs, σ[0]? = some (some (.ref a)) ∧ H a = some (.ins C dx fs) ∧ PySem.W.mroIn K C (.ref D) = some true ∧ PySem.W.ks_superIn K C D m = some (some (.ref f2)) ∧ ta σ H fun vs H1 => sp (.ref a :: vs) H1 Q (E σ)
theorem pea_supMeth {p0 p1 p2 pos : Pos} {e : Expr} {es : List Expr} {ta : TA} {self : Str} {pl : Sem Bool} {E : L2.St → XK} (F : FunS K x qual params body scope file D f fd cda cc) (S : FsScope N ps scope) (pf : PF P file) (hm : mg "super" = none)
    (hp : (params.posonlyargs ++ params.args).head?.map (·.arg) = some self) (hN : N[0]? = some self) (hself : scope.names.lookup self = some .local)
    (hl2 : ∃ oc od osl, K.lookup f2 = some ⟨oc, od, .func fd2, osl⟩) (ht2 : PySem.W.typeIn K (.ref f2) = some (.type "function"))
    (F2 : FnOk P w K mg base CX2 k2 f2 fd2 ps2 sp2) (hr : Room k2 (A.deeper (PySem.W.ksEnv qual scope s0.heap.objs.size f (.ref cda) cc))) (hb : Binds K fd2 ps2 []) (hx : ∀ σ, PassesAt CX2 (cxS CX P w K mg base N qual scope f cda cc A outer s0 H0 E0) σ (E σ))
    (ha : PA (cxS CX P w K mg base N qual scope f cda cc A outer s0 H0 E0) (e :: es) ta) (hat : (m == ("__class__" : Str)) = false)
    (hev : eval (.Call (.Attribute (.Call (.Name "super" p0) [] [] p1) m p2) (e :: es) [] pos) (PySem.W.ksEnv qual scope s0.heap.objs.size f (.ref cda) cc) = (do
      let ov ← attributeBase (.Call (.Name "super" p0) [] [] p1) m (PySem.W.ksEnv qual scope s0.heap.objs.size f (.ref cda) cc) (eval (.Call (.Name "super" p0) [] [] p1) (PySem.W.ksEnv qual scope s0.heap.objs.size f (.ref cda) cc))
      standAt p2.atName
      let (fn1, first) ← holding [ov] (getMethod ov m pl)
      callWith pos fn1 first (backTo pos (starEach (e :: es) (PySem.W.ksEnv qual scope s0.heap.objs.size f (.ref cda) cc))) []) := by rfl)
    (he : starEach (e :: es) (PySem.W.ksEnv qual scope s0.heap.objs.size f (.ref cda) cc) = (false, eval e (PySem.W.ksEnv qual scope s0.heap.objs.size f (.ref cda) cc)) :: starEach es (PySem.W.ksEnv qual scope s0.heap.objs.size f (.ref cda) cc) := by rfl) (hpl : (backTo pos (starEach es (PySem.W.ksEnv qual scope s0.heap.objs.size f (.ref cda) cc))).any (·.1) = false := by rfl) :
    PEA (cxS CX P w K mg base N qual scope f cda cc A outer s0 H0 E0) fb (.Call (.Attribute (.Call (.Name "super" p0) [] [] p1) m p2) (e :: es) [] pos) (tSup K D m f2 sp2 E ta) := by
  refine ⟨fun pins s σ H Q I h => ?_⟩
  obtain ⟨a, C, dx, fs, hσ, hH, hsub, hsup, h⟩ := h
  obtain ⟨mA, J, _⟩ := ins_get I.hok hH
  obtain ⟨od, J, _⟩ := J.look
  refine ks_wpAt_MethodCall (sup_base F S pf hm hp hN hself hat I hσ J.at_ J.cls (fun c z => ?_) hsub fun h' hso k => ?_) hev
  · have := J.no
    unfold PySem.W.notCls at this
    rw [z] at this
    exact Bool.noConfusion this
  have I1 := I.kept (h' := h') (t' := s.toks) k
  have kin : K.In h' := I1.kIn
  obtain ⟨mA1, J1, _⟩ := ins_get I1.hok hH
  obtain ⟨od1, J1, _⟩ := J1.look
  obtain ⟨oc2, od2, osl2, lk2⟩ := hl2
  have hof := kin _ _ lk2
  have hofc : oc2 = .type "function" := by
    have ht' : (K.lookup f2).map (·.cls) = some (.type "function") := ht2
    rw [lk2] at ht'
    exact Option.some.inj ht'
  cases hc : PySem.W.clsIn K C with
  | none => unfold PySem.W.ks_superIn at hsup; rw [hc] at hsup; cases hsup
  | some cd =>
    unfold PySem.W.ks_superIn at hsup
    rw [hc] at hsup
    obtain ⟨hh, g, d, tk, os⟩ := s
    have I1' : Inv (cxS CX P w K mg base N qual scope f cda cc A outer s0 H0 E0) pins σ H ⟨h', g, d, tk, os⟩ := I1
    refine ks_wpAny_getMethod_super hso (PySem.W.looks_opaque kin F.op) (l₀ := cd.mro) ?_ rfl kin hsup hof hofc (PySem.W.ks_ne kin J1 hc) hat ?_
    · exact fun A Q E s k q => wpAny_bind ((PySem.W.looks_clsIn kin hc) A _ E s k (wpAny_pure q))
    have I2 := I1'.kept (h' := h'.push { cls := .type "method", data := .fields #[.ref f2, .ref a] }) (t' := tk + 1) fun b o z => Heap.get?_push_of_some _ z
    have hq0 : (h'.push { cls := .type "method", data := .fields #[.ref f2, .ref a] }).get? h'.objs.size = some { cls := .type "method", data := .fields #[.ref f2, .ref a] } := Heap.get?_push_at rfl rfl
    have I3 := Inv.pin1 I2 hq0 (.inr trivial) (I1'.hok.fresh (Nat.le_refl _)) (Ne.symm (Nat.ne_of_lt I1'.lt)) (I1'.nofs (Nat.le_refl _)) (fun v z => nomatch z)
    show wpAny _ _ (callWith pos (.ref h'.objs.size) [] (backTo pos (starEach (e :: es) _)) []) _ _ _
    rw [he]
    refine callWith_bound (f2 := f2) (a := a) (by show (false || (backTo pos (starEach es _)).any (·.1)) = false; rw [hpl]; rfl) ?_
    have ra := ha.run pos _ _ σ H _ I3 h
    rw [he] at ra
    refine PySem.Calls.evalArgs_plain (thn ra fun us s3 ⟨vs, H3, J3, rv, q⟩ => ?_)
    obtain ⟨hu, _⟩ := J3.pin (h'.objs.size, { cls := .type "method", data := .fields #[.ref f2, .ref a] }) (List.mem_append_right _ List.mem_cons_self)
    refine ⟨hu, ⟨_, _, J3.kIn _ _ lk2, rfl⟩, ?_⟩
    have r2 : Vals (V.ref a :: vs) (Value.ref a :: us) := .cons rfl rv
    have hl : (Value.ref a :: us ++ []).length = ps2.length := by
      rw [List.append_nil, ← r2.length]
      exact F2.len _ _ _ _ q
    have b2 := hb s3 (Value.ref a :: us) J3.kIn hl
    rw [List.append_nil] at b2
    refine wpAny_call (ks_codeAny_call_bound hu (codeAny_mono (F2.run _ _ s3 H3 ⟨Value.ref a :: us, []⟩ (Value.ref a :: us) (V.ref a :: vs) Q (E σ) hr J3.env0 b2 r2 q) fun r s' hq => ?_))
    cases r with
    | error er => exact hx σ _ H3 s3 er s' J3 hq
    | ok fl =>
      cases fl with
      | ret u =>
        obtain ⟨v, H', I', rv', q'⟩ := J3.after hq
        exact ⟨v, H', I'.pins_of fun p hp => I'.pin p (List.mem_append_right _ (List.mem_cons_of_mem _ hp)), rv', q'⟩
      | next => exact False.elim hq
      | brk => exact False.elim hq
      | cont => exact False.elim hq
end
end Mu

namespace Mu
open PySem PySem.Spec PyProof.Rows L2 Evl
/-! ### instances by their fields -/
abbrev FL := List (Str × Rp)
abbrev FsR (G : Hp) : List (Str × V) → FL → Prop := Paired fun a b => a.1 = b.1 ∧ b.2.p a.2 G
theorem FsR.mono {G G' : Hp} (e : Ex G G') : ∀ {fs : List (Str × V)} {rs : FL}, FsR G fs rs → FsR G' fs rs
  | _, _, .nil => .nil
  | _, _, .cons (b := b) h t => .cons ⟨h.1, b.2.mono e h.2⟩ (FsR.mono e t)
theorem FsR.len {G : Hp} {fs : List (Str × V)} {rs : FL} (h : FsR G fs rs) : fs.length = rs.length := Paired.length h
theorem FsR.get {G : Hp} {f : Str} {r : Rp} : ∀ {fs : List (Str × V)} {rs : FL}, FsR G fs rs → rs.lookup f = some r → ∃ v, fs.lookup f = some v ∧ r.p v G
  | _, _, .nil, h => by cases h
  | (g, v) :: fs, (g', r') :: rs, .cons h t, e => by
    obtain ⟨h1, h2⟩ := h
    have h1' : g = g' := h1
    subst h1'
    rw [List.lookup_cons] at e ⊢
    cases q : f == g with
    | true =>
      rw [q] at e
      obtain rfl : r' = r := Option.some.inj e
      exact ⟨v, rfl, h2⟩
    | false =>
      rw [q] at e
      exact FsR.get t e
theorem FsR.noget {G : Hp} {f : Str} : ∀ {fs : List (Str × V)} {rs : FL}, FsR G fs rs → rs.lookup f = none → fs.lookup f = none
  | _, _, .nil, h => rfl
  | (g, v) :: fs, (g', r') :: rs, .cons h t, e => by
    obtain ⟨h1, h2⟩ := h
    have h1' : g = g' := h1
    subst h1'
    rw [List.lookup_cons] at e ⊢
    cases q : f == g with
    | true => rw [q] at e; cases e
    | false => rw [q] at e; exact FsR.noget t e
theorem FsR.put {G : Hp} {f : Str} {r : Rp} {v : V} (hr : r.p v G) : ∀ {fs : List (Str × V)} {rs : FL}, FsR G fs rs → rs.lookup f = none → FsR G (putF f v fs) (rs ++ [(f, r)])
  | _, _, .nil, _ => .cons ⟨rfl, hr⟩ .nil
  | (g, x) :: fs, (g', r') :: rs, .cons h t, e => by
    obtain ⟨h1, h2⟩ := h
    have h1' : g = g' := h1
    subst h1'
    rw [List.lookup_cons] at e
    cases q : f == g with
    | true => rw [q] at e; cases e
    | false =>
      rw [q] at e
      have ne : ¬ g = f := fun z => by subst z; simp at q
      show FsR G (if g = f then (g, v) :: fs else (g, x) :: putF f v fs) ((g, r') :: (rs ++ [(f, r)]))
      rw [if_neg ne]
      exact .cons ⟨rfl, h2⟩ (FsR.put hr t e)
def setR (f : Str) (r : Rp) : FL → FL
  | [] => []
  | (g, x) :: rs => if g = f then (g, r) :: rs else (g, x) :: setR f r rs
theorem FsR.set {G : Hp} {f : Str} {r r0 : Rp} {v : V} (hr : r.p v G) : ∀ {fs : List (Str × V)} {rs : FL}, FsR G fs rs → rs.lookup f = some r0 → FsR G (putF f v fs) (setR f r rs)
  | _, _, .nil, h => by cases h
  | (g, x) :: fs, (g', r') :: rs, .cons h t, e => by
    obtain ⟨h1, h2⟩ := h
    have h1' : g = g' := h1
    subst h1'
    rw [List.lookup_cons] at e
    show FsR G (if g = f then (g, v) :: fs else (g, x) :: putF f v fs) (if g = f then (g, r) :: rs else (g, r') :: setR f r rs)
    by_cases c : g = f
    · rw [if_pos c, if_pos c]
      exact .cons ⟨rfl, hr⟩ t
    · have q : (f == g) = false := by simpa using fun z : f = g => c z.symm
      rw [q] at e
      rw [if_neg c, if_neg c]
      exact .cons ⟨rfl, h2⟩ (FsR.set hr t e)
/-- an instance that stays | of our own -/
def rIns (C : Addr) (fs : FL) : Rp := ⟨fun v G => ∃ a dx ws, v = .ref a ∧ G a = some (.ins C dx ws) ∧ FsR G ws fs, fun e ⟨a, dx, ws, h1, h2, h3⟩ => ⟨a, dx, ws, h1, e _ _ h2, h3.mono e⟩⟩
def insR (own : Bool) (p C : Addr) (fs : FL) : Re where
  own := own
  ft := [p]
  p := fun G H => ∃ dx ws, H p = some (.ins C dx ws) ∧ FsR G ws fs
  mono := fun e ⟨dx, ws, h1, h2⟩ => ⟨dx, ws, h1, h2.mono e⟩
  loc := fun k ⟨dx, ws, h1, h2⟩ => ⟨dx, ws, k p (List.mem_singleton.mpr rfl) _ h1, h2⟩
  at_ := fun ⟨dx, ws, h1, _⟩ a ha => by rw [List.mem_singleton.mp ha]; exact ⟨_, h1⟩
section
variable {W : WX} {Γ : Ctx} {M : List Re} {te ta tb tc tl : TE} {r r1 r2 r3 : Rp} {rs ss : List Rp} {K : PySem.W.Frag} {C D b p : Addr} {i j k : Nat} {v w x y : V} {m n : Nat} {sp : Sp} {κ : KV} {ε : KX} {own : Bool} {fs : FL} {f : Str} {B : Ba} {G H G2 H2 : Hp}
theorem nn_ins : NN (rIns C fs) := fun v G h e => by
  obtain ⟨a, _, _, rfl, _⟩ := h
  cases e
theorem ins_ins (hf : fs.lookup f = none) : InsR C f (rIns C fs) := fun v G hv => by
  obtain ⟨a, dx, ws, rfl, h2, h3⟩ := hv
  exact ⟨a, dx, ws, rfl, h2, h3.noget hf⟩
theorem f_ins (hc : Cls K C) (hn : NoAttr K C f) (hl : fs.lookup f = some r) (kk : κ r M) : UM (fun x H1 Q => ∃ a C dx fs v, x = .ref a ∧ H1 a = some (.ins C dx fs) ∧ Cls K C ∧ NoAttr K C f ∧ fs.lookup f = some v ∧ Q v H1) (rIns C fs) M κ := fun B G H x o hx Q q => by
  obtain ⟨a, dx, ws, rfl, h2, h3⟩ := hx
  obtain ⟨v, hv, hr⟩ := h3.get hl
  exact ⟨a, C, dx, ws, v, rfl, o.i _ _ h2, hc, hn, hv, q v G H r M kk o (Ex.refl _) hr⟩
theorem f_own (k : Nat) (hk : M[k]? = some (insR own p C fs)) (hc : Cls K C) (hn : NoAttr K C f) (hl : fs.lookup f = some r) (kk : κ r M) : UM (fun x H1 Q => ∃ a C dx fs v, x = .ref a ∧ H1 a = some (.ins C dx fs) ∧ Cls K C ∧ NoAttr K C f ∧ fs.lookup f = some v ∧ Q v H1) (rV (.ref p)) M κ := fun B G H x o hx Q q => by
  obtain rfl : x = V.ref p := hx
  obtain ⟨dx, ws, h2, h3⟩ := o.m _ (List.mem_of_getElem? hk)
  obtain ⟨v, hv, hr⟩ := h3.get hl
  exact ⟨p, C, dx, ws, v, rfl, h2, hc, hn, hv, q v G H r M kk o (Ex.refl _) hr⟩
/-- self.f = e, a new field | an elder one -/
theorem ws_fld {κ : Kn} {fs0 : FL} (k : Nat) (hi : Γ[i]? = some (some (rV (.ref p)))) (hk0 : M[k]? = some (insR own p C fs0)) (hc : Cls K C) (hn : NoAttr K C f) (h : EW W Γ M te (fun r M' => ∃ fs, M'[k]? = some (insR own p C fs) ∧ fs.lookup f = none ∧ fs.length < 900 ∧ κ.nx Γ (M'.set k (insR own p C (fs ++ [(f, r)])))) (κ.ex Γ)) : WP W Γ M (sFld K (tVar i) te f) κ := fun B G H σ D o en d =>
  h B G H σ o en _ (fun v G' H' r M' z o' e' hv => by
    obtain ⟨fs, hk, hl, hz, hq⟩ := z
    obtain ⟨u, hu1, hu2⟩ := en.get hi
    obtain rfl : u = V.ref p := hu2
    have hm := List.mem_of_getElem? hk
    obtain ⟨dx, ws, h2, h3⟩ := o'.m _ hm
    have gp : G' p = none := o'.z p (mem_feet hm (List.mem_singleton.mpr rfl))
    refine ⟨.ref p, hu1, p, C, dx, ws, rfl, h2, hc, hn, by rw [h3.len]; omega, d.nx σ G' _ Γ _ (o'.chg (R' := insR own p C (fs ++ [(f, r)])) hk rfl rfl (Ex.refl _) (fun a u z n => ?_) (Ex.mut o'.i gp) (fun _ _ _ y => y) ⟨dx, _, upd_same, h3.put hv hl⟩) (en.mono e') hq⟩
    rw [upd_ne fun q => n (List.mem_singleton.mpr q)]
    exact z) (fun cls fs dd G' H' M' k o' e' xd => d.ex σ G' H' Γ M' cls dd fs o' (en.mono e') xd k)
theorem ws_fldS {κ : Kn} {fs0 : FL} (k : Nat) (hi : Γ[i]? = some (some (rV (.ref p)))) (hk0 : M[k]? = some (insR own p C fs0)) (hc : Cls K C) (hn : NoAttr K C f) (h : EW W Γ M te (fun r M' => ∃ fs r0, M'[k]? = some (insR own p C fs) ∧ fs.lookup f = some r0 ∧ fs.length < 900 ∧ κ.nx Γ (M'.set k (insR own p C (setR f r fs)))) (κ.ex Γ)) : WP W Γ M (sFld K (tVar i) te f) κ := fun B G H σ D o en d =>
  h B G H σ o en _ (fun v G' H' r M' z o' e' hv => by
    obtain ⟨fs, r0, hk, hl, hz, hq⟩ := z
    obtain ⟨u, hu1, hu2⟩ := en.get hi
    obtain rfl : u = V.ref p := hu2
    have hm := List.mem_of_getElem? hk
    obtain ⟨dx, ws, h2, h3⟩ := o'.m _ hm
    have gp : G' p = none := o'.z p (mem_feet hm (List.mem_singleton.mpr rfl))
    refine ⟨.ref p, hu1, p, C, dx, ws, rfl, h2, hc, hn, by rw [h3.len]; omega, d.nx σ G' _ Γ _ (o'.chg (R' := insR own p C (setR f r fs)) hk rfl rfl (Ex.refl _) (fun a u z n => ?_) (Ex.mut o'.i gp) (fun _ _ _ y => y) ⟨dx, _, upd_same, h3.set hv hl⟩) (en.mono e') hq⟩
    rw [upd_ne fun q => n (List.mem_singleton.mpr q)]
    exact z) (fun cls fs dd G' H' M' k o' e' xd => d.ex σ G' H' Γ M' cls dd fs o' (en.mono e') xd k)
/-- an instance of our own is not changed any more -/
theorem Ok.frzI (o : Ok B G H M) (hk : M[k]? = some (insR true p C fs)) : ∃ G2, Ex G G2 ∧ Ok B G2 H (M.eraseIdx k) ∧ (rIns C fs).p (.ref p) G2 := by
  have hm := List.mem_of_getElem? hk
  obtain ⟨dx, ws, h1, h2⟩ := o.m _ hm
  have gp : G p = none := o.z p (mem_feet hm (List.mem_singleton.mpr rfl))
  have e : Ex G (upd G p (.ins C dx ws)) := Ex.new gp
  refine ⟨upd G p (.ins C dx ws), e, ⟨o.g.trans e, o.l.trans e, o.h, ex_add o.i h1, fun a u z y => ?_, o.k, fun r hr => r.mono e (o.m r (mem_erase hr)), fun a ha => ?_, feet_erase_nodup o.d, fun r hr => o.f r (mem_erase hr)⟩, ⟨p, dx, ws, rfl, upd_same, h2.mono e⟩⟩
  · rcases o.f _ hm p (List.mem_singleton.mpr rfl) with q | q
    · rw [upd_ne (ne_of_none z q)]; exact o.n a u z y
    · exact absurd q.1 (show ¬ (true = false) by decide)
  · obtain ⟨r, hr, hf⟩ := List.mem_flatMap.mp ha
    have ne : a ≠ p := fun q => feet_apart o.d hk hr a hf (List.mem_singleton.mpr q)
    rw [upd_ne ne]
    exact o.z a (feet_erase_sub ha)
/-! ### what an __init__ promises -/
abbrev IOut := FL ⊕ (Value × List (Str × V))
def spIni (OKC : Addr → Prop) (R : List V → Hp → IOut → Prop) : Sp := fun vs H Q E => ∃ p C dx ws G o, vs = .ref p :: ws ∧ OKC C ∧ H p = some (.ins C dx []) ∧ Ex G H ∧ G p = none ∧ R ws G o ∧
  (∀ fs, o = .inl fs → ∀ G2 H2, GrB p G H G2 H2 → (insR false p C fs).p G2 H2 → Q .non H2) ∧ (∀ cls xs, o = .inr (cls, xs) → ∀ d G2 H2, GrB p G H G2 H2 → (∃ u, H2 p = some u) → XdOk G2 xs d → E cls d H2)
theorem Ok.ins {dx : Addr} (e : Ex G H) (gp : G p = none) (hp : H p = some (.ins C dx [])) : Ok ⟨G, H, [p], G⟩ G H [insR false p C []] :=
  ⟨Ex.refl _, Ex.refl _, fun _ _ z _ => z, e, fun _ _ _ y => y, fun a h => by rw [List.mem_singleton.mp h]; exact ⟨_, hp⟩, fun r h => by rw [List.mem_singleton.mp h]; exact ⟨dx, [], hp, .nil⟩, fun a h => by
    have : a ∈ [p] := by simpa [feet, insR] using h
    rw [List.mem_singleton.mp this]; exact gp, by simp [feet, insR], fun r h a ha => by
    rw [List.mem_singleton.mp h] at ha ⊢
    exact .inr ⟨rfl, ha⟩⟩
theorem run_I {t : TS} {σ : L2.St} {Q : VK} {E : XK} {dx : Addr} {o : IOut} (w : WP (fun cls d _ H => E cls d H) Γ [insR false p C []] t { nx := fun _ M' => ∃ fs, o = .inl fs ∧ M' = [insR false p C fs], rt := fun _ _ => False, ex := fun _ cls xs M' => o = .inr (cls, xs) }) (e : Ex G H) (gp : G p = none) (hp : H p = some (.ins C dx [])) (en : En σ G Γ)
    (k1 : ∀ fs, o = .inl fs → ∀ G2 H2, GrB p G H G2 H2 → (insR false p C fs).p G2 H2 → Q .non H2) (k2 : ∀ cls xs, o = .inr (cls, xs) → ∀ d G2 H2, GrB p G H G2 H2 → (∃ u, H2 p = some u) → XdOk G2 xs d → E cls d H2) : t { nx := fun _ H' => Q .non H', rt := Q } σ H :=
  w _ G H σ _ (Ok.ins e gp hp) en ⟨fun σ' G' H' Γ' M' o' en' z => by
    obtain ⟨fs, h1, rfl⟩ := z
    exact k1 fs h1 G' H' o'.toB (o'.m _ List.mem_cons_self), fun _ _ _ _ _ _ _ z => z.elim, fun _ _ _ _ _ _ _ z => z.elim, fun _ _ _ _ _ _ _ z => z.elim, fun σ' G' H' Γ' M' cls d xs o' en' xd z => k2 cls xs z d G' H' o'.toB (o'.k p (List.mem_singleton.mpr rfl)) xd⟩
/-! ### C(..) -/
def MkM (C : Addr) (sp : Sp) (rs : List Rp) (M : List Re) (κ : KV) (ε : KX) : Prop := ∀ B G H vs W σ, Ok B G H M → RA G vs rs → ∀ Q : VK, Go B G κ Q → GoX B G ε W σ → ∀ x dx, H x = none → H dx = none → dx ≠ x → sp (.ref x :: vs) (upd (upd H dx (.own x)) x (.ins C dx [])) (fun v H2 => v = .non ∧ Q (.ref x) H2) (fun cls d H' => W cls d σ H')
theorem e_makeS {ta : TA} (h : EA W Γ M ta (fun rs M1 => MkM C sp rs M1 κ ε) ε) : EW W Γ M (tMakeS C sp (WE W) ta) κ ε := fun B G H σ o en Q q x =>
  h B G H σ o en _ (fun vs G1 H1 rs M1 h1 o1 e1 ra => h1 B G1 H1 vs W σ o1 ra Q (q.up e1) (x.up e1)) x
theorem e_makeI {ta : TA} {E : XK} (h : EA W Γ M ta (fun rs M1 => MkM C sp rs M1 κ (fun _ _ _ => False)) ε) (hE : ∀ vs H Q E', sp vs H Q E' → ∀ E2 : XK, (∀ c d H', E' c d H' → E2 c d H') → sp vs H Q E2) : EW W Γ M (tMake C sp [] E ta) κ ε := fun B G H σ o en Q q x =>
  h B G H σ o en _ (fun vs G1 H1 rs M1 h1 o1 e1 ra => fun y dy hy hdy ne => by
    rw [List.append_nil]
    exact hE _ _ _ _ (h1 B G1 H1 vs (fun _ _ _ _ => False) σ o1 ra Q (q.up e1) (fun _ _ _ _ _ _ z => z.elim) y dy hy hdy ne) E (fun _ _ _ z => z.elim)) x
theorem spIni_E {OKC : Addr → Prop} {R : List V → Hp → IOut → Prop} : ∀ vs H Q E', spIni OKC R vs H Q E' → ∀ E2 : XK, (∀ c d H', E' c d H' → E2 c d H') → spIni OKC R vs H Q E2 := fun vs H Q E' h E2 hi => by
  obtain ⟨p, C, dx, ws, G, o, h1, h2, h3, h4, h5, h6, h7, h8⟩ := h
  exact ⟨p, C, dx, ws, G, o, h1, h2, h3, h4, h5, h6, h7, fun cls xs e d G2 H2 g hu x => hi _ _ _ (h8 cls xs e d G2 H2 g hu x)⟩
/-- the instance stays our own | stays as it is | an error -/
theorem mk_own {OKC : Addr → Prop} {R : List V → Hp → IOut → Prop} (hC : OKC C) (hR : ∀ ws G, RA G ws rs → R ws G (.inl fs)) (kk : ∀ p, κ (rV (.ref p)) (M ++ [insR true p C fs])) : MkM C (spIni OKC R) rs M κ ε := fun B G H vs W σ o ra Q q x p dx hp hdx ne => by
  have hp1 : upd H dx (.own p) p = none := by rw [upd_ne (Ne.symm ne)]; exact hp
  have g1 := Gr.out (o := .own p) o.i hdx
  have g2 : Gr G (upd H dx (.own p)) G (upd (upd H dx (.own p)) p (.ins C dx [])) := Gr.out g1.i hp1
  have gp : G p = none := fresh_back o.i hp
  have o1 : Ok B G (upd (upd H dx (.own p)) p (.ins C dx [])) (M ++ [insR true p C []]) := (o.gr g1).add (R := insR true p C []) g2 (show [p].Nodup by simp) (fun a ha => by rw [List.mem_singleton.mp ha]; exact ⟨hp1, gp⟩) ⟨dx, [], upd_same, .nil⟩
  refine ⟨p, C, dx, vs, G, .inl fs, rfl, hC, upd_same, o1.i, gp, hR vs G ra, fun fs' e G2 H2 g hi => ?_, fun _ _ e => by cases e⟩
  cases e
  have hk : (M ++ [insR true p C []])[M.length]? = some (insR true p C []) := by simp
  obtain ⟨dx', ws, h1, h2⟩ := hi
  have o2 := o1.chg (R' := insR true p C fs) hk rfl rfl g.g (fun a u z n => g.h a u z fun q => n (List.mem_singleton.mpr q)) g.i g.n ⟨dx', ws, h1, h2⟩
  have es : (M ++ [insR true p C []]).set M.length (insR true p C fs) = M ++ [insR true p C fs] := by
    rw [List.set_append_right _ _ (Nat.le_refl _), Nat.sub_self]; rfl
  rw [es] at o2
  exact ⟨rfl, q _ G2 H2 _ _ (kk p) o2 g.g rfl⟩
theorem Go.frzI {Q : VK} (q : Go B G κ Q) : Go B G (fun r M' => ∃ p C fs M, r = rV (.ref p) ∧ M' = M ++ [insR true p C fs] ∧ κ (rIns C fs) M) Q := fun v G' H' r M' z o e hv => by
  obtain ⟨p, C, fs, M, rfl, rfl, k⟩ := z
  obtain rfl : v = V.ref p := hv
  have hk : (M ++ [insR true p C fs])[M.length]? = some (insR true p C fs) := by simp
  obtain ⟨G2, e2, o2, h2⟩ := o.frzI hk
  have es : (M ++ [insR true p C fs]).eraseIdx M.length = M := by simp [List.eraseIdx_append_of_length_le]
  rw [es] at o2
  exact q _ G2 H' _ M k o2 (e.trans e2) h2
theorem mk_ini {OKC : Addr → Prop} {R : List V → Hp → IOut → Prop} (hC : OKC C) (hR : ∀ ws G, RA G ws rs → R ws G (.inl fs)) (kk : κ (rIns C fs) M) : MkM C (spIni OKC R) rs M κ ε := fun B G H vs W σ o ra Q q x p dx hp hdx ne =>
  mk_own (κ := fun r M' => ∃ p C fs M, r = rV (.ref p) ∧ M' = M ++ [insR true p C fs] ∧ κ (rIns C fs) M) (ε := ε) hC hR (fun p => ⟨p, C, fs, M, rfl, rfl, kk⟩) B G H vs W σ o ra Q q.frzI x p dx hp hdx ne
theorem mk_err {OKC : Addr → Prop} {R : List V → Hp → IOut → Prop} {cls : Value} {xs : List (Str × V)} (hC : OKC C) (hR : ∀ ws G, RA G ws rs → R ws G (.inr (cls, xs))) (kk : ε cls xs M) : MkM C (spIni OKC R) rs M κ ε := fun B G H vs W σ o ra Q q x p dx hp hdx ne => by
  have hp1 : upd H dx (.own p) p = none := by rw [upd_ne (Ne.symm ne)]; exact hp
  have g1 := Gr.out (o := .own p) o.i hdx
  have g2 : Gr G (upd H dx (.own p)) G (upd (upd H dx (.own p)) p (.ins C dx [])) := Gr.out g1.i hp1
  have gp : G p = none := fresh_back o.i hp
  have o1 : Ok B G (upd (upd H dx (.own p)) p (.ins C dx [])) M := (o.gr g1).gr g2
  refine ⟨p, C, dx, vs, G, .inr (cls, xs), rfl, hC, upd_same, o1.i, gp, hR vs G ra, fun fs' e => (nomatch e), fun c y e d G2 H2 g hu xd => ?_⟩
  cases e
  have hg : Gr G H G2 H2 := ⟨g.g, fun a u z => g.h a u (by rw [upd_ne (ne_of_none z hp), upd_ne (ne_of_none z hdx)]; exact z) (ne_of_none z hp), g.i, fun a u z y => g.n a u (by rw [upd_ne (ne_of_none z hp), upd_ne (ne_of_none z hdx)]; exact z) y⟩
  exact x cls xs d G2 H2 M kk (o.gr hg) g.g xd
/-! ### super().__init__(..) on the instance that is made -/
theorem e_supI {OKC : Addr → Prop} {R : List V → Hp → IOut → Prop} {f2 : Addr} {ta : TA} (h0 : Γ[0]? = some (some (rV (.ref p)))) (hC : OKC C) (hm : PySem.W.mroIn K C (.ref D) = some true) (hs : PySem.W.ks_superIn K C D "__init__" = some (some (.ref f2)))
    (hk0 : M[0]? = some (insR own p C []))
    (h : EA W Γ M ta (fun rs M1 => M1[0]? = some (insR own p C []) ∧ ∃ o, (∀ ws G, RA G ws rs → R ws G o) ∧ (∀ fs, o = .inl fs → κ (rV .non) (M1.set 0 (insR own p C fs))) ∧ (∀ cls xs, o = .inr (cls, xs) → ε cls xs (M1.eraseIdx 0))) ε) : EW W Γ M (tSup K D "__init__" f2 (spIni OKC R) (WE W) ta) κ ε := fun B G H σ o en Q q x => by
  obtain ⟨u, hu1, hu2⟩ := en.get h0
  obtain rfl : u = V.ref p := hu2
  obtain ⟨dx0, ws0, hp0, fs0⟩ := o.m _ (List.mem_of_getElem? hk0)
  cases fs0
  refine ⟨p, C, dx0, [], hu1, hp0, hm, hs, h B G H σ o en _ (fun vs G1 H1 rs M1 z o1 e1 ra => ?_) x⟩
  obtain ⟨hk, oo, hR, k1, k2⟩ := z
  have hmm := List.mem_of_getElem? hk
  obtain ⟨dx, ws, hp, fs1⟩ := o1.m _ hmm
  cases fs1
  have gp : G1 p = none := o1.z p (mem_feet hmm (List.mem_singleton.mpr rfl))
  refine ⟨p, C, dx, vs, G1, oo, rfl, hC, hp, o1.i, gp, hR vs G1 ra, fun fs e G2 H2 g hi => ?_, fun cls xs e d G2 H2 g hu xd => ?_⟩
  · obtain ⟨dx', ws', h1, h2⟩ := hi
    have o2 := o1.chg (R' := insR own p C fs) hk rfl rfl g.g (fun a u z n => g.h a u z fun q => n (List.mem_singleton.mpr q)) g.i g.n ⟨dx', ws', h1, h2⟩
    exact q .non G2 H2 _ _ (k1 fs e) o2 (e1.trans g.g) rfl
  · refine x cls xs d G2 H2 _ (k2 cls xs e) ⟨o1.g.trans g.g, o1.l.trans g.g, fun a u z n => ?_, g.i, fun a u z y => ?_, fun a ha => ?_, fun r hr => ?_, fun a ha => ?_, feet_erase_nodup o1.d, fun r hr => o1.f r (mem_erase hr)⟩ (e1.trans g.g) xd
    · refine g.h a u (o1.h a u z n) fun q => ?_
      subst q
      rcases o1.f _ hmm a (List.mem_singleton.mpr rfl) with y | y
      · rw [y] at z; cases z
      · exact n y.2
    · by_cases c : a ∈ B.F
      · obtain ⟨u2, z2⟩ := o1.k a c
        exact g.n a u2 z2 (o1.n a u z y)
      · exact g.n a u (o1.h a u z c) (o1.n a u z y)
    · obtain ⟨u, z⟩ := o1.k a ha
      by_cases c : a = p
      · rw [c]; exact hu
      · exact ⟨u, g.h a u z c⟩
    · exact r.loc (fun a ha u z => g.h a u z (fun q => feet_apart o1.d hk hr a ha (List.mem_singleton.mpr q))) (r.mono g.g (o1.m r (mem_erase hr)))
    · obtain ⟨r, hr, hf⟩ := List.mem_flatMap.mp ha
      obtain ⟨u, z⟩ := r.at_ (o1.m r (mem_erase hr)) a hf
      exact g.n a u z (o1.z a (feet_erase_sub ha))
end

/-! ### facts of classes that inherit -/
theorem mkB_ok {K : PySem.W.Frag} {C f : Addr} (h : mkB K C f = true) : Mk K C f := by
  obtain ⟨h1, h⟩ := He.ba h
  obtain ⟨h2, h⟩ := He.ba h
  obtain ⟨h3, h4⟩ := He.ba h
  exact ⟨h1, He.eqO_ok h2, h3, h4⟩
theorem methB_ok {K : PySem.W.Frag} {C f : Addr} {m : Str} (h : methB K C m f = true) : Meth K C m f := by
  obtain ⟨h2, h⟩ := He.ba h
  obtain ⟨h3, h4⟩ := He.ba h
  exact ⟨He.eqO_ok h2, h3, h4⟩
structure SupF (K : PySem.W.Frag) (C D : Addr) (m : Str) (f : Addr) : Prop where
  mro : PySem.W.mroIn K C (.ref D) = some true
  sup : PySem.W.ks_superIn K C D m = some (some (.ref f))
theorem supFB_ok {K : PySem.W.Frag} {C D f : Addr} {m : Str} (h : supFB K C D m f = true) : SupF K C D m f := by
  obtain ⟨h1, h2⟩ := He.ba h
  exact ⟨of_decide_eq_true h1, He.eqO_ok h2⟩
theorem FunD.lk {K : PySem.W.Frag} {x qual : Str} {params : Arguments} {body : List Stmt} {scope : Scope} {dvs : List V} {kws : List (Str × V)} {f : Addr} {fd : FuncData} (F : FunD K x qual params body scope dvs kws f fd) : ∃ oc od osl, K.lookup f = some ⟨oc, od, .func fd, osl⟩ := by
  obtain ⟨oc, od, dV, kV, doc, pm, an, cdv, ct, osl, rfl, lk, hcd, _, _⟩ := F.ex
  exact ⟨oc, od, osl, lk⟩
theorem FunS.lk {K : PySem.W.Frag} {x qual : Str} {params : Arguments} {body : List Stmt} {scope : Scope} {file : Str} {D f : Addr} {fd : FuncData} {cda cc : Addr} (F : FunS K x qual params body scope file D f fd cda cc) : ∃ oc od osl, K.lookup f = some ⟨oc, od, .func fd, osl⟩ := by
  obtain ⟨oc, od, kV, doc, pm, an, ct, osl, e, lk⟩ := F.fn
  exact ⟨oc, od, osl, lk⟩
theorem fn_ty {K : PySem.W.Frag} {f : Addr} (h : PySem.W.isFn K (.ref f) = true) : PySem.W.typeIn K (.ref f) = some (.type "function") := beq_iff_eq.mp h
/-! ### lists of ints of any sign -/
def rLi (K : PySem.W.Frag) (l : List Int) : Rp := rL K (l.map rI)
def rLLi (K : PySem.W.Frag) (l : List (List Int)) : Rp := rL K (l.map (rLi K))
def badW (n : Nat) (w : Int) : Bool := decide (w < 0) || decide ((n : Int) ≤ w)
section
variable {Γ : Ctx} {M : List Re} {te ta tb : TE} {K : PySem.W.Frag} {κ : KV} {n : Nat}
theorem x_lenLi {l : List Int} (h : EvX Γ te (rLi K l)) : EvX Γ (tCB (rLenS K) (tCons te tNil)) (nI l.length) := x_lenLm h
theorem x_lenLLi {l : List (List Int)} (h : EvX Γ te (rLLi K l)) : EvX Γ (tCB (rLenS K) (tCons te tNil)) (nI l.length) := x_lenLm h
theorem asd_li (l : List Int) : AsD K (rLi K l) (.list (l.map .int)) := asd_list asd_int l
theorem x_tupLi {l : List Int} (h : EvX Γ te (rLi K l)) : EvX Γ (tCB (rTupO K) (tCons te tNil)) (rT K (l.map rI)) := x_tupL h
end
/-! ### raise C(..), by what follows -/
theorem a_x {W : WX} {Γ : Ctx} {M : List Re} {ta : TA} {rs : List Rp} {κ : List Rp → List Re → Prop} {ε : KX} (h : EvAX Γ ta rs) (k : κ rs M) : EA W Γ M ta κ ε := fun B G H σ o en Q q _ => h σ G en H o.i _ fun vs G2 H2 g ra => q vs G2 H2 rs M k (o.gr g) g.g ra
theorem EvAX.by {Γ : Ctx} {ta : TA} {rs : List Rp} (h : ∀ W ε, EA W Γ [] ta (fun r' M' => r' = rs ∧ M' = []) ε) : EvAX Γ ta rs := fun σ G en H e Q q => h (fun _ _ _ _ => True) (fun _ _ _ => False) ⟨G, H, [], G⟩ G H σ (Ok.nil e) en Q (fun v G' H' r' M' z o _ hv => by
    obtain ⟨rfl, rfl⟩ := z
    exact q v G' H' o.to hv) (fun _ _ _ _ _ _ z => z.elim)
theorem ws_raise1 {W : WX} {Γ : Ctx} {M : List Re} {κ : Kn} {C : Addr} {f : Str} {x : V} {te : TE} (h : EvX Γ te (rV x)) (hx : κ.ex Γ (.ref C) [(f, x)] M) : WP W Γ M (fun _ σ H => tMkO C (spErr C [f]) [] (tCons te tNil) σ H fun cls d H' => W cls d σ H') κ := w_raise (xs := [x]) (xa_cons h xa_nil) rfl (by show 1 ≤ 1000; decide) hx
theorem ws_raise2 {W : WX} {Γ : Ctx} {M : List Re} {κ : Kn} {C : Addr} {f g : Str} {x y : V} {te tf : TE} (h : EvX Γ te (rV x)) (h2 : EvX Γ tf (rV y)) (hx : κ.ex Γ (.ref C) [(g, y), (f, x)] M) : WP W Γ M (fun _ σ H => tMkO C (spErr C [f, g]) [] (tCons te (tCons tf tNil)) σ H fun cls d H' => W cls d σ H') κ := w_raise (xs := [x, y]) (xa_cons h (xa_cons h2 xa_nil)) rfl (by show 2 ≤ 1000; decide) hx
section
variable {Γ : Ctx} {ta tb : TE} {m n : Nat}
theorem dec_iff {p q : Prop} [Decidable p] [Decidable q] (h : p ↔ q) : decide p = decide q := by
  rw [Bool.eq_iff_iff, decide_eq_true_iff, decide_eq_true_iff]; exact h
theorem x_ltN (ha : EvX Γ ta (nI m)) (hb : EvX Γ tb (nI n)) : EvX Γ (tOp (rI0 fun i j => .bl (decide (i < j))) ta tb) (rB (decide (m < n))) := x_is (x_I0 ha hb) (congrArg rB (dec_iff (by omega)))
theorem x_leN (ha : EvX Γ ta (nI m)) (hb : EvX Γ tb (nI n)) : EvX Γ (tOp (rI0 fun i j => .bl (decide (i ≤ j))) ta tb) (rB (decide (m ≤ n))) := x_is (x_I0 ha hb) (congrArg rB (dec_iff (by omega)))
theorem x_gtN (ha : EvX Γ ta (nI m)) (hb : EvX Γ tb (nI n)) : EvX Γ (tOp (rI0 fun i j => .bl (decide (j < i))) ta tb) (rB (decide (n < m))) := x_is (x_I0 ha hb) (congrArg rB (dec_iff (by omega)))
theorem x_geN (ha : EvX Γ ta (nI m)) (hb : EvX Γ tb (nI n)) : EvX Γ (tOp (rI0 fun i j => .bl (decide (j ≤ i))) ta tb) (rB (decide (n ≤ m))) := x_is (x_I0 ha hb) (congrArg rB (dec_iff (by omega)))
end
end Mu

namespace Mu
open PySem PySem.Spec PyProof.Rows L2 Evl
section
variable {α : Type} {W : WX} {Γ : Ctx} {M : List Re} {te ta tb tl : TE} {K : PySem.W.Frag} {i j k n : Nat} {p : Addr} {κ : KV} {ε : KX} {vs : List Nat} {D : α → Prop} {f : α → Rp} {rs : List Rp} {r : Rp}
theorem EX.ofW (h : ∀ W, EW W Γ M te κ (fun _ _ _ => False)) : EX Γ M te κ := fun B G H σ o en Q q => h (fun _ _ _ _ => False) B G H σ o en Q q (fun _ _ _ _ _ _ z => z.elim)
theorem e_ofX (h : EX Γ M te κ) : EW W Γ M te κ ε := fun B G H σ o en Q q _ => h B G H σ o en Q q
theorem EW.imp {κ' : KV} (h : EW W Γ M te κ' ε) (hi : ∀ r M', κ' r M' → κ r M') : EW W Γ M te κ ε := fun B G H σ o en Q q x => h B G H σ o en Q (fun v G' H' r M' z => q v G' H' r M' (hi r M' z)) x
/-- a comprehension with draws, over range(n): the list stays our own | stays as it is -/
theorem e_lcDo (D : α → Prop) (f : α → Rp) (h : EvX Γ ta (nI n)) (hz : n ≤ 40000) (he : ∀ i R W, i < n → EW W ((wipeC Γ vs).set j (some (nI i))) (M ++ [R]) te (fun r M' => (∃ a, D a ∧ r = f a) ∧ M' = M ++ [R]) (fun _ _ _ => False)) (hj : j ∈ vs) (kk : ∀ l : List α, l.length = n → (∀ a ∈ l, D a) → ∀ p, κ (rV (.ref p)) (M ++ [lstR p (l.map f)])) : EW W Γ M (tLc (iRng1 (tCons ta tNil)) (gName j) tYes te vs) κ ε :=
  EW.imp (e_ofX (l_lcR (D := D) (f := f) n h hz (fun i R hi => EX.ofW fun W => he i R W hi) hj)) fun r M' z => by
    obtain ⟨l, p, ⟨h1, h2⟩, rfl, rfl⟩ := z
    exact kk l h1 h2 p
theorem e_lcDf (D : α → Prop) (f : α → Rp) (K : PySem.W.Frag) (h : EvX Γ ta (nI n)) (hz : n ≤ 40000) (he : ∀ i R W, i < n → EW W ((wipeC Γ vs).set j (some (nI i))) (M ++ [R]) te (fun r M' => (∃ a, D a ∧ r = f a) ∧ M' = M ++ [R]) (fun _ _ _ => False)) (hj : j ∈ vs) (kk : ∀ l : List α, l.length = n → (∀ a ∈ l, D a) → κ (rL K (l.map f)) M) : EW W Γ M (tLc (iRng1 (tCons ta tNil)) (gName j) tYes te vs) κ ε := fun B G H σ o en Q q x =>
  e_lcDo (W := W) (ε := ε) (κ := fun r M' => ∃ p ss M, r = rV (.ref p) ∧ M' = M ++ [lstR p ss] ∧ κ (rL K ss) M) D f h hz he hj (fun l h1 h2 p => ⟨p, _, M, rfl, rfl, kk l h1 h2⟩) B G H σ o en Q q.frz x
/-- xs[j] = e, xs our own -/
theorem ws_setI {κ : Kn} {n : Nat} {tn : TE} (k : Nat) (hi : Γ[i]? = some (some (rV (.ref p)))) (hn : EvX Γ tn (nI n)) (h : EW W Γ M te (fun r M' => ∃ rs, M'[k]? = some (lstR p rs) ∧ n < rs.length ∧ κ.nx Γ (M'.set k (lstR p (rs.set n r)))) (κ.ex Γ)) : WP W Γ M (tAsg te (gSub (tVar i) tn rSetL)) κ := fun B G H σ D o en d =>
  h B G H σ o en _ (fun v G' H' r M' z o' e' hv => by
    obtain ⟨rs, hk, hl, hq⟩ := z
    obtain ⟨u, hu1, hu2⟩ := en.get hi
    obtain rfl : u = V.ref p := hu2
    refine ⟨.ref p, hu1, hn σ G' (en.mono e') H' o'.i _ fun w G2 H2 g hw => ?_⟩
    obtain rfl : w = V.int (n : Int) := hw
    have o2 := o'.gr g
    have hm := List.mem_of_getElem? hk
    obtain ⟨ws, h1, h2⟩ := o2.m _ hm
    have gp : G2 p = none := o2.z p (mem_feet hm (List.mem_singleton.mpr rfl))
    have hlt : n < ws.length := by rw [h2.len]; exact hl
    refine ⟨p, ws, (n : Int), n, rfl, rfl, h1, ?_, d.nx σ G2 _ Γ _ (o2.chg (R' := lstR p (rs.set n r)) hk rfl rfl (Ex.refl _) (fun a u z nn => ?_) (Ex.mut o2.i gp) (fun _ _ _ y => y) ⟨_, upd_same, h2.set (r.mono g.g hv) n⟩) ((en.mono e').mono g.g) hq⟩
    · unfold ixN
      rw [if_pos (by omega)]
      simp [hlt]
    · rw [upd_ne fun q => nn (List.mem_singleton.mpr q)]
      exact z) (fun cls fs dd G' H' M' k o' e' xd => d.ex σ G' H' Γ M' cls dd fs o' (en.mono e') xd k)
end
theorem x_powN {Γ : Ctx} {ta tb : TE} {a b : Nat} (ha : EvX Γ ta (nI a)) (hb : EvX Γ tb (nI b)) (h1 : b ≤ 1000000) (h2 : a < 2 ^ 64) : EvX Γ (tOp (L2.rI CPow fun i j => .int (i ^ j.toNat)) ta tb) (nI (a ^ b)) := x_is (x_I ha hb ⟨by omega, by omega, by rw [Int.natAbs_natCast]; exact h2⟩) (by show rI _ = rI _; congr 1; first | done | (rw [Int.toNat_natCast]; exact (Int.natCast_pow a b).symm))
section
variable {W : WX} {Γ : Ctx} {M : List Re} {te ta tb : TE} {K : PySem.W.Frag} {κ : KV} {ε : KX} {rs ss : List Rp} {i : Int} {m n : Nat}
theorem om_cat (hz : rs.length + ss.length ≤ 100000) (k : κ (rL K (rs ++ ss)) M) : OM rCat (rL K rs) (rL K ss) M κ := omn (K := K) (xn_cat (K := K) (x_v rfl) (x_v rfl) hz) k
theorem RA.rep {G : Hp} {vs : List V} {rs : List Rp} (h : RA G vs rs) : ∀ m, RA G (List.replicate m vs).flatten (List.replicate m rs).flatten
  | 0 => .nil
  | m + 1 => by
    rw [List.replicate_succ, List.replicate_succ, List.flatten_cons, List.flatten_cons]
    exact h.append (RA.rep h m)
theorem om_rep (hz : rs.length * m ≤ 100000) (hm : m ≤ 100000) (k : κ (rL K (List.replicate m rs).flatten) M) : OM rRep (rL K rs) (nI m) M κ := fun B G H x y o hx hy Q q => by
  obtain ⟨a, vs, rfl, h1, h2⟩ := hx
  obtain rfl : y = V.int (m : Int) := hy
  refine ⟨a, (m : Int), vs, rfl, rfl, o.i _ _ h1, by omega, by omega, sz_of (by rw [Int.toNat_natCast, h2.len]; exact hz), fun p hp => ?_⟩
  rw [Int.toNat_natCast]
  have g := Gr.new (o := .lst (List.replicate m vs).flatten) o.i hp
  exact q (.ref p) _ _ _ M k (o.gr g) g.g ⟨p, _, rfl, upd_same, (RA.rep h2 m).mono g.g⟩
theorem ev_part {Γ : Ctx} {te : TE} (h : EvX Γ te (rI i)) {σ : L2.St} {G : Hp} (en : En σ G Γ) : EvO (tPart te) σ G (some i) := fun H e Q q => h σ G en H e _ fun v G2 H2 g hv => by
  obtain rfl : v = V.int i := hv
  exact ⟨_, rfl, q H2 g.h⟩
theorem e_sl {tl th : TO} {lo hi : Option Int} (hl : ∀ σ G, En σ G Γ → EvO tl σ G lo) (hh : ∀ σ G, En σ G Γ → EvO th σ G hi) (h : EW W Γ M te (fun r M1 => ∃ rs, r = rL K rs ∧ κ (rL K (cutR rs lo hi)) M1) ε) : EW W Γ M (tSl (rSlL K) te tl th) κ ε := fun B G H σ o en Q q x =>
  h B G H σ o en _ (fun v G1 H1 r M1 z o1 e1 hv => by
    obtain ⟨rs, rfl, kk⟩ := z
    have z2 := en_slL (σ := σ) (G := G1) (te := tC v) (tl := tl) (th := th) (K := K) (rs := rs) (lo := lo) (hi := hi) (fun H e Q q => q v G1 H (Gr.refl e) (by
      obtain ⟨a, vs, rfl, h1, h2⟩ := hv
      exact ⟨a, vs, rfl, sq_of h1, h2⟩)) (fun G' e => hl σ G' (en.mono (e1.trans e))) (fun G' e => hh σ G' (en.mono (e1.trans e)))
    exact (EvN.d (K := K) z2) H1 o1.i Q fun w G2 H2 g hw => q w G2 H2 _ M1 kk (o1.gr g) (e1.trans g.g) hw) x
theorem e_slTo (hb : EvX Γ tb (rI i)) (h : EW W Γ M te (fun r M1 => ∃ rs, r = rL K rs ∧ κ (rL K (cutR rs none (some i))) M1) ε) : EW W Γ M (tSl (rSlL K) te tNoPart (tPart tb)) κ ε := e_sl (fun _ _ _ => o_no) (fun _ _ en => ev_part hb en) h
theorem e_slFrom (hb : EvX Γ tb (rI i)) (h : EW W Γ M te (fun r M1 => ∃ rs, r = rL K rs ∧ κ (rL K (cutR rs (some i) none)) M1) ε) : EW W Γ M (tSl (rSlL K) te (tPart tb) tNoPart) κ ε := e_sl (fun _ _ en => ev_part hb en) (fun _ _ _ => o_no) h
theorem cut_to {α : Type} {l : List α} (h : n ≤ l.length) : cutR l none (some (n : Int)) = l.take n := by
  unfold cutR
  rw [HT.sIx_none, HT.sIx_nat, Nat.min_eq_left h, List.drop_zero, Nat.sub_zero]
theorem cut_from {α : Type} {l : List α} (h : n ≤ l.length) : cutR l (some (n : Int)) none = l.drop n := by
  unfold cutR
  rw [HT.sIx_none, HT.sIx_nat, Nat.min_eq_left h]
  apply List.take_of_length_le
  rw [List.length_drop]
  exact Nat.le_refl _
theorem cut_neg {α : Type} {l : List α} (h : 1 ≤ l.length) : cutR l none (some (-((1 : Nat) : Int))) = l.take (l.length - 1) := by
  unfold cutR
  have e : HT.sIx l.length l.length (some (-((1 : Nat) : Int))) = l.length - 1 := by
    unfold HT.sIx
    dsimp only
    rw [if_pos (show (-((1 : Nat) : Int)) < 0 by decide)]
    omega
  rw [HT.sIx_none, e, List.drop_zero, Nat.sub_zero]
end
theorem nat_ints (h : List Nat) : h.map nI = (h.map fun (w : Nat) => (w : Int)).map rI := by rw [List.map_map]; rfl
theorem ln_li (K : PySem.W.Frag) (l : List Nat) : rLn K l = rLi K (l.map fun (w : Nat) => (w : Int)) := by
  unfold rLn rLi
  rw [nat_ints]
theorem lls_lli (K : PySem.W.Frag) (s : List (List Nat)) : s.map (rLn K) = (s.map fun l => l.map fun (w : Nat) => (w : Int)).map (rLi K) := by
  rw [List.map_map]
  refine List.map_congr_left fun l _ => ln_li K l
/-- a statement alone or the first of several: nothing to do -/
theorem w_seqI {W : WX} {Γ : Ctx} {M : List Re} {t1 t2 : TS} {κ : Kn} (h : WP W Γ M (tSeq t1 t2) κ) : WP W Γ M (tSeq t1 t2) κ := h
theorem cut_len {α : Type} (l : List α) (lo hi : Option Int) : (cutR l lo hi).length ≤ l.length := by
  unfold cutR
  rw [List.length_take, List.length_drop]
  omega
end Mu

namespace Mu
open PySem PySem.Spec PyProof.Rows L2 He Evl
/-! ### defs that stand elsewhere (a property's getter, a class method's function) -/
theorem DefA.funD {K : PySem.W.Frag} {d : DefA} (e : fnA K (d.at_ K) = d.val) (c : d.ok K = true) : ∃ fd, FunD K d.name d.qual d.params d.body d.scope [] [] (d.at_ K) fd := by
  obtain ⟨kp, c2⟩ := ba c
  unfold fnA at e
  cases q : K.lookup (d.at_ K) with
  | none =>
    rw [q] at c2
    cases c2
  | some o =>
    obtain ⟨oc, od, dt, osl⟩ := o
    rw [q] at c2 e
    cases dt with
    | func fd =>
      obtain ⟨n1, n2, n3, n4, n5, n6, n7, n8, n9, n10, n11, n12, n13, n14, n15⟩ := fd
      have e2 : (some (n1, n2, n3, n4, n5, n6, n7, n15) : FnW) = some (d.name, d.qual, d.params, .stmts d.body, d.scope, mainGlobals, [], builtinsNs) := e
      simp only [Option.some.injEq, Prod.mk.injEq] at e2
      obtain ⟨h1, h2, h3, h4, h5, h6, h7, h8⟩ := e2
      subst h1 h2 h3 h4 h5 h6 h7 h8
      have c3 : (PySem.W.codeIn K n13 d.qual && (dflB K n8 [] && kwdB K n9 [])) = true := c2
      obtain ⟨k1, k2⟩ := ba c3
      obtain ⟨k3, k4⟩ := ba k2
      exact ⟨_, ⟨oc, od, n8, n9, n10, n11, n12, n13, n14, osl, rfl, q, k1, dflB_ok k3, kwdB_ok k4⟩, kp⟩
    | _ => cases c2
section
variable {fa : List Fa} {ex : List FactB} {fn : List DefD} {sn : List DefS} {an : List DefA} {K : PySem.W.Frag}
theorem SaysP.s (c : SaysP fa ex fn sn an K) : SaysS fa ex fn sn K := by
  have h1 : (((((fa.all fun f => f.ok K) && ex.all fun f => f K) && fn.all fun d => d.ok K) && sn.all fun d => d.ok K) && an.all fun d => d.ok K) = true := congrArg (fun z : AlP => z.1) c
  have h2 : fn.map (fun d => fnW K d.at_) = fn.map DefD.val := congrArg (fun z : AlP => z.2.1) c
  have h3 : sn.map (fun d => fnS K d.at_) = sn.map DefS.val := congrArg (fun z : AlP => z.2.2.1) c
  show obsS fa ex fn sn K = valS fn sn
  unfold obsS valS
  rw [(ba h1).1, h2, h3]
theorem SaysP.fact (c : SaysP fa ex fn sn an K) (i : Nat) {f : Fa} (h : fa[i]? = some f := by rfl) : f.ok K = true := c.s.fact i h
theorem SaysP.exf (c : SaysP fa ex fn sn an K) (i : Nat) {f : FactB} (h : ex[i]? = some f := by rfl) : f K = true := c.s.exf i h
theorem SaysP.def_ (c : SaysP fa ex fn sn an K) (i : Nat) {d : DefD} (h : fn[i]? = some d := by rfl) : ∃ fd, FunD K d.name d.qual d.params d.body d.scope (d.dvs K) (d.kws K) (fAd K d.at_) fd := c.s.def_ i h
theorem SaysP.sup_ (c : SaysP fa ex fn sn an K) (i : Nat) {d : DefS} (h : sn[i]? = some d := by rfl) : ∃ fd cda cc, FunS K d.name d.qual d.params d.body d.scope d.file (ga K d.cls) (fAd K d.at_) fd cda cc := c.s.sup_ i h
theorem SaysP.any_ (c : SaysP fa ex fn sn an K) (i : Nat) {d : DefA} (h : an[i]? = some d := by rfl) : ∃ fd, FunD K d.name d.qual d.params d.body d.scope [] [] (d.at_ K) fd := by
  have h1 : (((((fa.all fun f => f.ok K) && ex.all fun f => f K) && fn.all fun d => d.ok K) && sn.all fun d => d.ok K) && an.all fun d => d.ok K) = true := congrArg (fun z : AlP => z.1) c
  have e : an.map (fun d => fnA K (d.at_ K)) = an.map DefA.val := congrArg (fun z : AlP => z.2.2.2) c
  have e2 : (an.map fun d => fnA K (d.at_ K))[i]? = (an.map DefA.val)[i]? := by rw [e]
  rw [List.getElem?_map, List.getElem?_map, h] at e2
  exact DefA.funD (Option.some.inj e2) (List.all_eq_true.mp (ba h1).2 d (List.mem_of_getElem? h))
end
/-! a property -/
def PropG (K : PySem.W.Frag) (C : Addr) (f : Str) (g : Addr) : Prop := ∃ p, PropOf K C f p g
theorem propB_ok {K : PySem.W.Frag} {C g : Addr} {f : Str} (h : propB K C f g = true) : PropG K C f g := by
  unfold propB at h
  split at h
  · rename_i p e
    obtain ⟨h1, h2⟩ := ba h
    obtain ⟨h3, h4⟩ := ba h2
    split at h4
    · rename_i g' rest e2
      have z : g' = g := by simpa using h4
      subst z
      exact ⟨p, e, eqO_ok h1, of_decide_eq_true h3, rest, e2⟩
    · cases h4
  · cases h
theorem pe_propG {X : Cx} {CX : CXT} {k : Nat} {C g : Addr} {f : Str} {fd : FuncData} {ps : List Str} {sp : Sp} {E : XK} {e : Expr} {pos : Pos} {ta : TE} (he : PE X e ta) (c : Cls X.K C) (hp : PropG X.K C f g) (F : FnOk X.prog X.w X.K X.mg X.base CX k g fd ps sp) (hr : Room (k + 1) X.A) (hb : Binds X.K fd ps []) (hx : Passes CX X.nox E)
    (hab : attributeBase e f X.env (eval e X.env) = eval e X.env := by rfl) : PE X (.Attribute e f pos) (tProp C sp [] E ta) := by
  obtain ⟨p, hp⟩ := hp
  exact pe_prop he c hp F hr hb .nil hx hab
theorem e_prop {W : WX} {Γ : Ctx} {M : List Re} {te : TE} {C : Addr} {sp : Sp} {E : XK} {κ : KV} {ε : KX} (h : EW W Γ M te (fun r0 M0 => (∀ v G, r0.p v G → ∃ a dx fs, v = .ref a ∧ G a = some (.ins C dx fs)) ∧ CM sp [r0] M0 κ) ε) : EW W Γ M (tProp C sp [] E te) κ ε := fun B G H σ o en Q q x =>
  h B G H σ o en _ (fun v0 G0 H0 r0 M0 h0 o0 e0 hv0 => by
    obtain ⟨hi, h1⟩ := h0
    obtain ⟨a, dx, fs, rfl, h2⟩ := hi _ _ hv0
    exact ⟨a, dx, fs, rfl, o0.i _ _ h2, h1 E B G0 H0 [.ref a] o0 (.cons hv0 .nil) Q (q.up e0)⟩) x
theorem ins_is {C : Addr} {fs : FL} : ∀ v G, (rIns C fs).p v G → ∃ a dx ws, v = .ref a ∧ G a = some (.ins C dx ws) := fun v G h => by
  obtain ⟨a, dx, ws, rfl, h2, _⟩ := h
  exact ⟨a, dx, ws, rfl, h2⟩
/-! o.m(..) that may raise, within a try -/
section
variable {X : Cx} {CX : CXT} {k : Nat} {f C : Addr} {fd : FuncData} {ps : List Str} {sp : Sp} {m : Str} {pos apos : Pos} {e o : Expr} {es : List Expr} {t : TA} {ta : TE}
def tMethS (C : Addr) (m : Str) (sp : Sp) (E : L2.St → XK) (ta : TE) (t : TA) : TE := fun σ H Q => ta σ H fun x H1 => ∃ a dx fs, x = .ref a ∧ H1 a = some (.ins C dx fs) ∧ fs.lookup m = none ∧ t σ H1 fun vs H2 => sp (x :: vs) H2 Q (E σ)
theorem pe_methS {pl : Sem Bool} {E : L2.St → XK} (he : PE X o ta) (c : Cls X.K C) (hm : Meth X.K C m f) (F : FnOk X.prog X.w X.K X.mg X.base CX k f fd ps sp) (hr : Room k X.A) (hb : Binds X.K fd ps []) (hx : ∀ σ, PassesAt CX X σ (E σ)) (ha : PA X (e :: es) t)
    (hst : starEach (e :: es) X.env = (false, eval e X.env) :: starEach es X.env := by rfl) (hpl : (backTo pos (starEach es X.env)).any (·.1) = false := by rfl)
    (ht : eval (.Call (.Attribute o m apos) (e :: es) [] pos) X.env = (do
      let ov ← eval o X.env
      standAt apos.atName
      let (f, first) ← holding [ov] (getMethod ov m pl)
      callWith pos f first (backTo pos (starEach (e :: es) X.env)) (backToKw pos (keywordEach [] X.env))) := by rfl) :
    PE X (.Call (.Attribute o m apos) (e :: es) [] pos) (tMethS C m sp E ta t) := by
  refine ⟨fun pins s σ H Q I h => ?_⟩
  refine PySem.W.methodCall_KW (pl := pl) (thn (he.run pins s σ H _ I h) fun u s1 ⟨x, H1, I1, rx, a, dx, fs, ex, ea, l, q⟩ => ?_) ht
  subst ex
  obtain rfl : u = Value.ref a := rx
  refine getmeth_ok I1 ea c hm l ?_
  refine PySem.W.callWith_K (first := [.ref a]) (h₀ := X.base) I.ok.mod.kin hm.kp (thn (ha.run pos pins s1 σ H1 _ I1 q) fun us s2 ⟨vs, H2, I2, r, q2⟩ => ⟨I2.kIn, ?_⟩) hst hpl
  exact run_fnS (us := .ref a :: us) (vs := .ref a :: vs) F hr hb (hx σ) I2 (.cons rfl r) q2
end
theorem e_methS {W : WX} {Γ : Ctx} {M : List Re} {te : TE} {ta : TA} {f : Str} {C : Addr} {sp : Sp} {κ : KV} {ε : KX} (h : EW W Γ M te (fun r0 M0 => InsR C f r0 ∧ EA W Γ M0 ta (fun rs M1 => XM sp (r0 :: rs) M1 κ ε) ε) ε) : EW W Γ M (tMethS C f sp (WE W) te ta) κ ε := fun B G H σ o en Q q x =>
  h B G H σ o en _ (fun v0 G0 H0 r0 M0 h0 o0 e0 hv0 => by
    obtain ⟨hi, h1⟩ := h0
    obtain ⟨a, dx, fs, rfl, h2, h3⟩ := hi _ _ hv0
    exact ⟨a, dx, fs, rfl, o0.i _ _ h2, h3, h1 B G0 H0 σ o0 (en.mono e0) _ (fun vs G1 H1 rs M1 k1 o1 e1 ra => k1 B G1 H1 _ W σ o1 (.cons (r0.mono e1 hv0) ra) Q (q.up (e0.trans e1)) (x.up (e0.trans e1))) (x.up e0)⟩) x
/-! a tuple of ints -/
theorem x_inTi {Γ : Ctx} {ta tb : TE} {K : PySem.W.Frag} {a : Int} {l : List Int} (neg : Bool) (ha : EvX Γ ta (rI a)) (hb : EvX Γ tb (rT K (l.map rI))) : EvX Γ (tOp (rIn K neg) ta tb) (rB (if neg then !decide (a ∈ l) else decide (a ∈ l))) := fun σ G en =>
  Ev.d (ev_op2 (ha σ G en) (hb σ G en) fun x y H hx hy Q q => by
    obtain rfl : x = V.int a := hx
    obtain ⟨p, vs, rfl, h1, h2⟩ := hy
    have e := ra_ints_eq h2
    subst e
    exact ⟨p, _, rfl, .inr h1, rfl, ints_flatI l, by rw [inV_int]; exact q⟩)
/-! ### a new list, or an error -/
abbrev NOut := List Rp ⊕ (Value × List (Str × V))
def spON (R : List V → Hp → NOut → Prop) : Sp := fun vs H Q E => ∃ G o, Ex G H ∧ R vs G o ∧ (∀ rs, o = .inl rs → ∀ p ws G2 H2, Gr G H G2 H2 → H p = none → G2 p = none → H2 p = some (.lst ws) → RA G2 ws rs → Q (.ref p) H2) ∧ (∀ cls fs, o = .inr (cls, fs) → ∀ d G2 H2, Gr G H G2 H2 → XdOk G2 fs d → E cls d H2)
section
variable {W : WX} {Γ : Ctx} {M : List Re} {rs ss : List Rp} {K : PySem.W.Frag} {κ : KV} {ε : KX} {R : List V → Hp → NOut → Prop} {o : NOut}
theorem run_ON {t : TS} {G H : Hp} {σ : L2.St} {Q : VK} {E : XK} (w : WP (fun cls d _ H => E cls d H) Γ [] t { nx := fun _ _ => False, rt := fun r' M' => ∃ rs p, o = .inl rs ∧ r' = rV (.ref p) ∧ M' = [lstR p rs], ex := fun _ cls fs _ => o = .inr (cls, fs) }) (e : Ex G H) (en : En σ G Γ) (k1 : ∀ rs, o = .inl rs → ∀ p ws G2 H2, Gr G H G2 H2 → H p = none → G2 p = none → H2 p = some (.lst ws) → RA G2 ws rs → Q (.ref p) H2) (k2 : ∀ cls fs, o = .inr (cls, fs) → ∀ d G2 H2, Gr G H G2 H2 → XdOk G2 fs d → E cls d H2) : t { nx := fun _ H' => Q .non H', rt := Q } σ H :=
  w _ G H σ _ (Ok.nil e) en ⟨fun _ _ _ _ _ _ _ z => z.elim, fun v G' H' r' M' o' hv z => by
    obtain ⟨rs, p, h1, rfl, rfl⟩ := z
    obtain rfl : v = V.ref p := hv
    obtain ⟨ws, h3, h4⟩ := o'.m (lstR p rs) List.mem_cons_self
    have hp : H p = none := by
      rcases o'.f (lstR p rs) List.mem_cons_self p (List.mem_singleton.mpr rfl) with q | q
      · exact q
      · exact nomatch q.2
    exact k1 rs h1 p ws G' H' o'.to hp (o'.z p (List.mem_cons_self)) h3 h4, fun _ _ _ _ _ _ _ z => z.elim, fun _ _ _ _ _ _ _ z => z.elim, fun σ' G' H' Γ' M' cls d fs o' en' xd z => k2 cls fs z d G' H' o'.to xd⟩
theorem xmo (h : ∀ vs G, RA G vs rs → R vs G (.inl ss)) (k : ∀ p, κ (rV (.ref p)) (M ++ [lstR p ss])) : XM (spON R) rs M κ ε := fun B G H vs W σ o ra Q q x => by
  refine ⟨G, .inl ss, o.i, h vs G ra, fun rs' e' p ws G2 H2 g hp gp h2 ra2 => ?_, fun _ _ z => nomatch z⟩
  cases e'
  exact q _ G2 H2 _ _ (k p) (o.add (R := lstR p ss) g (show [p].Nodup by simp) (fun a ha => by rw [List.mem_singleton.mp ha]; exact ⟨hp, gp⟩) ⟨ws, h2, ra2⟩) g.g rfl
theorem xmf (K : PySem.W.Frag) (h : ∀ vs G, RA G vs rs → R vs G (.inl ss)) (k : κ (rL K ss) M) : XM (spON R) rs M κ ε := fun B G H vs W σ o ra Q q x =>
  xmo (κ := fun r M' => ∃ p ss M, r = rV (.ref p) ∧ M' = M ++ [lstR p ss] ∧ κ (rL K ss) M) (ε := ε) h (fun p => ⟨p, ss, M, rfl, rfl, k⟩) B G H vs W σ o ra Q q.frz x
theorem xme {cls : Value} {fs : List (Str × V)} (h : ∀ vs G, RA G vs rs → R vs G (.inr (cls, fs))) (k : ε cls fs M) : XM (spON R) rs M κ ε := fun B G H vs W σ o ra Q q x => by
  refine ⟨G, .inr (cls, fs), o.i, h vs G ra, fun _ z => (nomatch z), fun c f e' d G2 H2 g xd => ?_⟩
  cases e'
  exact x cls fs d G2 H2 M k (o.gr g) g.g xd
theorem cmo_ {sp : Sp} (h : XM sp rs M κ (fun _ _ _ => False)) (hE : ∀ vs H Q E', sp vs H Q E' → ∀ E2 : XK, (∀ c d H', E' c d H' → E2 c d H') → sp vs H Q E2) : CM sp rs M κ := fun E B G H vs o ra Q q => hE _ _ _ _ (h B G H vs (fun _ _ _ _ => False) [] o ra Q q (fun _ _ _ _ _ _ z => z.elim)) E (fun _ _ _ z => z.elim)
theorem spON_E : ∀ vs H Q E', spON R vs H Q E' → ∀ E2 : XK, (∀ c d H', E' c d H' → E2 c d H') → spON R vs H Q E2 := fun vs H Q E' h E2 hi => by
  obtain ⟨G, o, h1, h2, h3, h4⟩ := h
  exact ⟨G, o, h1, h2, h3, fun cls xs e d G2 H2 g x => hi _ _ _ (h4 cls xs e d G2 H2 g x)⟩
end
end Mu

namespace Mu
open PySem PySem.Spec PyProof.Rows L2 He Evl
/-! ### a narrow look: only what the named globals and methods reach -/
end Mu

namespace Mu
open PySem PySem.Spec PyProof.Rows L2 Evl
/-! ### our own lists lent for one reading, and taken back -/
def bor (G H : Hp) (M : List Re) : Hp := fun a => match G a with
  | some o => some o
  | none => if a ∈ feet M then (match H a with
    | some (.lst ws) => some (.lst ws)
    | _ => none) else none
/-- without lists -/
def nl (G : Hp) : Hp := fun a => match G a with
  | some (.lst _) => none
  | o => o
def LF (r : Rp) : Prop := ∀ v G, r.p v G → r.p v (nl G)
section
variable {B : Ba} {G H G2 H2 : Hp} {M : List Re} {W : WX} {Γ Γ' Γ1 : Ctx} {te ta tb tl : TE} {t : TT} {K : PySem.W.Frag} {κ : KV} {ε : KX} {r r0 : Rp} {rs rs0 : List Rp} {i j k n : Nat} {p C : Addr} {fs : FL} {vs : List Nat}
theorem bor_g : Ex G (bor G H M) := fun a o z => by
  unfold bor
  rw [z]
theorem bor_i (e : Ex G H) : Ex (bor G H M) H := fun a o z => by
  unfold bor at z
  cases q : G a with
  | some u =>
    rw [q] at z
    cases z
    exact e _ _ q
  | none =>
    rw [q] at z
    by_cases c : a ∈ feet M
    · rw [if_pos c] at z
      cases y : H a with
      | none => rw [y] at z; cases z
      | some u =>
        rw [y] at z
        cases u <;> first | (cases z; done) | (simp at z; rw [← z])
    · rw [if_neg c] at z
      cases z
theorem bor_no {a : Addr} (hg : G a = none) (hf : a ∉ feet M) : bor G H M a = none := by
  unfold bor
  rw [hg, if_neg hf]
theorem bor_l {a : Addr} {ws : List V} (hg : G a = none) (hf : a ∈ feet M) (h : H a = some (.lst ws)) : bor G H M a = some (.lst ws) := by
  unfold bor
  rw [hg, if_pos hf, h]
theorem bor_nl {a : Addr} (hg : G a = none) (h : ∀ ws, H a ≠ some (.lst ws)) : bor G H M a = none := by
  unfold bor
  rw [hg]
  by_cases c : a ∈ feet M
  · rw [if_pos c]
    cases y : H a with
    | none => rfl
    | some u => cases u <;> first | rfl | exact absurd y (h _)
  · rw [if_neg c]
theorem nl_at {a : Addr} {o : HO} (h : nl G a = some o) : G a = some o ∧ ∀ ws, o ≠ .lst ws := by
  unfold nl at h
  cases q : G a with
  | none => rw [q] at h; cases h
  | some u =>
    rw [q] at h
    cases u <;> first | (cases h; done) | (simp at h; subst h; exact ⟨rfl, fun ws e => by cases e⟩)
theorem nl_of {a : Addr} {o : HO} (h : G a = some o) (hn : ∀ ws, o ≠ .lst ws) : nl G a = some o := by
  unfold nl
  rw [h]
  cases o <;> first | rfl | exact absurd rfl (hn _)
theorem Ok.bor (o : Ok B G H M) (g : Gr (bor G H M) H G2 H2) : ∃ G3, Gr G H G3 H2 ∧ Ex (nl G2) G3 := by
  refine ⟨fun a => if a ∈ feet M then none else G2 a, ⟨fun a u z => ?_, g.h, fun a u z => ?_, fun a u z y => ?_⟩, fun a u z => ?_⟩
  · have c : a ∉ feet M := fun q => by rw [o.z a q] at z; cases z
    show (if a ∈ feet M then none else G2 a) = some u
    rw [if_neg c]
    exact g.g a u (bor_g a u z)
  · have z' : (if a ∈ feet M then none else G2 a) = some u := z
    by_cases c : a ∈ feet M
    · rw [if_pos c] at z'; cases z'
    · rw [if_neg c] at z'; exact g.i a u z'
  · show (if a ∈ feet M then none else G2 a) = none
    by_cases c : a ∈ feet M
    · rw [if_pos c]
    · rw [if_neg c]
      exact g.n a u z (bor_no y c)
  · obtain ⟨z1, z2⟩ := nl_at z
    show (if a ∈ feet M then none else G2 a) = some u
    have c : a ∉ feet M := fun q => by
      have gz := o.z a q
      obtain ⟨R, hR, ha⟩ := List.mem_flatMap.mp q
      obtain ⟨w, hw⟩ := R.at_ (o.m R hR) a ha
      have hu := g.i a u z1
      rw [g.h a w hw] at hu
      cases hu
      have hb : Mu.bor G H M a = none := bor_nl gz fun ws e => z2 ws (by rw [hw] at e; exact Option.some.inj e)
      rw [g.n a _ hw hb] at z1
      cases z1
    rw [if_neg c]
    exact z1
def BorR (M : List Re) (r0 r : Rp) : Prop := ∀ B G H, Ok B G H M → ∀ v, r0.p v G → r.p v (bor G H M)
def BorC (M : List Re) (Γ Γ' : Ctx) : Prop := ∀ B G H σ, Ok B G H M → En σ G Γ → En σ (bor G H M) Γ'
theorem br_same : BorR M r r := fun B G H o v h => r.mono bor_g h
theorem br_ra (h : Paired (BorR M) rs0 rs) : ∀ {B : Ba} {G H : Hp} {ws : List V}, Ok B G H M → RA G ws rs0 → RA (bor G H M) ws rs := by
  induction h with
  | nil => intro B G H ws o q; cases q; exact .nil
  | cons h t ih => intro B G H ws o q; cases q with | cons a b => exact .cons (h B G H o _ a) (ih o b)
theorem br_lst (hk : M[k]? = some (lstR p rs0)) (h : Paired (BorR M) rs0 rs) : BorR M (rV (.ref p)) (rL K rs) := fun B G H o v hv => by
  obtain rfl : v = V.ref p := hv
  have hm := List.mem_of_getElem? hk
  obtain ⟨ws, h1, h2⟩ := o.m _ hm
  have hf := mem_feet hm (List.mem_singleton.mpr rfl)
  exact ⟨p, ws, rfl, bor_l (o.z p hf) hf h1, br_ra h o h2⟩
theorem br_all : ∀ {rs : List Rp}, Paired (BorR M) rs rs
  | [] => .nil
  | _ :: _ => .cons br_same br_all
theorem br_lst1 (hk : M[k]? = some (lstR p rs)) : BorR M (rV (.ref p)) (rL K rs) := br_lst hk br_all
theorem bc_refl : BorC M Γ Γ := fun B G H σ o en => en.mono bor_g
theorem En.put {v : V} (q : r.p v G) : ∀ {σ : L2.St} {Γ : Ctx} {i : Nat}, En σ G Γ → σ[i]? = some (some v) → En σ G (Γ.set i (some r))
  | _, _, _, .nil, _ => .nil
  | _, _, 0, .cons _ t, e => .cons (fun x hx => ⟨v, by simpa using e, by cases hx; exact q⟩) t
  | _, _, i + 1, .cons h t, e => .cons h (En.put q t (by simpa using e))
theorem bc_set (h : BorC M Γ Γ1) (hi : Γ[i]? = some (some r0)) (hr : BorR M r0 r) : BorC M Γ (Γ1.set i (some r)) := fun B G H σ o en => by
  obtain ⟨v, h1, h2⟩ := en.get hi
  exact En.put (hr B G H o v h2) (h B G H σ o en) h1
theorem e_bor (hb : BorC M Γ Γ') (h : EvX Γ' te r) (lf : LF r) (kk : κ r M) : EW W Γ M te κ ε := fun B G H σ o en Q q x =>
  h σ _ (hb B G H σ o en) H (bor_i o.i) Q fun v G2 H2 g hv => by
    obtain ⟨G3, g3, e3⟩ := o.bor g
    exact q v G3 H2 r M kk (o.gr g3) g3.g (r.mono e3 (lf v G2 hv))
theorem et_bor {κ : Bool → List Re → Prop} {c : Bool} (hb : BorC M Γ Γ') (h : EvTX Γ' t c) (kk : κ c M) : ET W Γ M t κ ε := fun B G H σ o en Q q x =>
  h σ _ (hb B G H σ o en) H (bor_i o.i) Q fun H2 e => q c G H2 M kk (o.ex e) (Ex.refl _)
/-! what holds no lists -/
theorem lf_v {v : V} : LF (rV v) := fun _ _ h => h
theorem lf_ra (h : ∀ r ∈ rs, LF r) : ∀ {ws : List V}, RA G ws rs → RA (nl G) ws rs := by
  induction rs with
  | nil => intro ws q; cases q; exact .nil
  | cons a t ih => intro ws q; cases q with | cons x y => exact .cons (h a List.mem_cons_self _ _ x) (ih (fun r hr => h r (List.mem_cons_of_mem _ hr)) y)
theorem lf_sqT {a : Addr} {xs : List V} (h : SqT K G a xs) : SqT K (nl G) a xs := by
  rcases h with h | h
  · left
    unfold Rd at h ⊢
    rcases h with h | ⟨od, h⟩
    · exact .inl (nl_of h fun ws e => by cases e)
    · exact .inr ⟨od, nl_of h fun ws e => by cases e⟩
  · exact .inr h
theorem lf_t (h : ∀ r ∈ rs, LF r) : LF (rT K rs) := fun v G hv => by
  obtain ⟨a, ws, rfl, h1, h2⟩ := hv
  exact ⟨a, ws, rfl, lf_sqT h1, lf_ra h h2⟩
theorem lf_tm {α : Type} {l : List α} {ρ : α → Rp} (h : ∀ a, LF (ρ a)) : LF (rT K (l.map ρ)) := lf_t fun r hr => by
  obtain ⟨a, _, rfl⟩ := List.mem_map.mp hr
  exact h a
theorem lf_fs (h : ∀ f ∈ fs, LF f.2) : ∀ {ws : List (Str × V)}, FsR G ws fs → FsR (nl G) ws fs := by
  induction fs with
  | nil => intro ws q; cases q; exact .nil
  | cons a t ih => intro ws q; cases q with | cons x y => exact .cons ⟨x.1, h a List.mem_cons_self _ _ x.2⟩ (ih (fun r hr => h r (List.mem_cons_of_mem _ hr)) y)
theorem lf_ins (h : ∀ f ∈ fs, LF f.2) : LF (rIns C fs) := fun v G hv => by
  obtain ⟨a, dx, ws, rfl, h1, h2⟩ := hv
  exact ⟨a, dx, ws, rfl, nl_of h1 (fun ws e => by cases e), lf_fs h h2⟩
theorem lf_tn {l : List Nat} : LF (rTn K l) := lf_tm fun _ => lf_v
theorem lf_tab {m : List Nat} : LF (rTab K C m) := fun v G hv => by
  obtain ⟨a, dx, t, c, rfl, h1, h2, h3⟩ := hv
  exact ⟨a, dx, t, c, rfl, nl_of h1 (fun ws e => by cases e), lf_tn _ _ h2, lf_tm (ρ := rP K) (fun q => lf_t fun r hr => by
    simp only [List.mem_cons, List.not_mem_nil, or_false] at hr
    rcases hr with rfl | rfl <;> exact lf_v) _ _ h3⟩
end
/-! ### comprehensions whose items change what may be changed -/
section
variable {W : WX} {Γ : Ctx} {M : List Re} {te ta tb tl : TE} {K : PySem.W.Frag} {κ : KV} {ε : KX} {i j n : Nat} {vs : List Nat} {α : Type}
def DcG (B : Ba) (G : Hp) (M : List Re) (Dl : Addr) (J : Nat → List Rp → List Re → Prop) (i : Nat) (H' : Hp) : Prop := ∃ (G' : Hp) (acc : List Rp) (X : List Re), Ex G G' ∧ acc.length = i ∧ J i acc X ∧ Ok B G' H' (M ++ lstR Dl acc :: X)
theorem dg_start {B : Ba} {G H : Hp} {Dl : Addr} {J : Nat → List Rp → List Re → Prop} (o : Ok B G H M) (hD : H Dl = none) (h : J 0 [] []) : DcG B G M Dl J 0 (upd H Dl (.lst [])) :=
  ⟨G, [], [], Ex.refl _, rfl, h, o.add2 (o.ex (Ex.new hD)) (R := lstR Dl []) (by show [_].Nodup; simp) (fun x hx => by rw [List.mem_singleton.mp hx]; exact ⟨hD, fresh_back o.i hD⟩) ⟨[], upd_same, .nil⟩⟩
theorem dg_step {B : Ba} {G H' : Hp} {Dl : Addr} {σ2 : L2.St} {Γ2 : Ctx} {J : Nat → List Rp → List Re → Prop} (hz : i < 40000) (p : DcG B G M Dl J i H') (en : ∀ G', Ex G G' → En σ2 G' Γ2) (he : ∀ R acc X W, J i acc X → EW W Γ2 (M ++ R :: X) te (fun r M' => ∃ X', M' = M ++ R :: X' ∧ J (i + 1) (acc ++ [r]) X') (fun _ _ _ => False)) :
    te σ2 H' fun y H4 => ∃ acc, H4 Dl = some (.lst acc) ∧ acc.length < sizeLine ∧ DcG B G M Dl J (i + 1) (upd H4 Dl (.lst (acc ++ [y]))) := by
  obtain ⟨G', acc, X, e, hl, hJ, o⟩ := p
  refine he (lstR Dl acc) acc X (fun _ _ _ _ => True) hJ B G' H' σ2 o (en G' e) _ (fun v G2 H2 r M' z o2 e2 hr => ?_) (fun _ _ _ _ _ _ z => z.elim)
  obtain ⟨X', rfl, hJ'⟩ := z
  have hk : (M ++ lstR Dl acc :: X')[M.length]? = some (lstR Dl acc) := by simp
  have hm := List.mem_of_getElem? hk
  obtain ⟨ws, h1, h2⟩ := o2.m _ hm
  have gD : G2 Dl = none := o2.z Dl (mem_feet hm (List.mem_singleton.mpr rfl))
  have hlen : ws.length = i := by rw [h2.len, hl]
  refine ⟨ws, h1, sz_lt (by omega), G2, acc ++ [r], X', e.trans e2, by rw [List.length_append, hl]; rfl, hJ', ?_⟩
  have o3 := o2.chg hk (R' := lstR Dl (acc ++ [r])) rfl rfl (Ex.refl G2) (H2 := upd H2 Dl (.lst (ws ++ [v]))) (fun x u z n => by rw [upd_ne (fun q => n (List.mem_singleton.mpr q))]; exact z) (Ex.mut o2.i gD) (fun _ _ _ y => y) ⟨ws ++ [v], upd_same, h2.append (.cons hr .nil)⟩
  have es : (M ++ lstR Dl acc :: X').set M.length (lstR Dl (acc ++ [r])) = M ++ lstR Dl (acc ++ [r]) :: X' := by
    rw [List.set_append_right _ _ (Nat.le_refl _), Nat.sub_self]; rfl
  rw [es] at o3
  exact o3
theorem e_lcG' {ta : TA} (J : Nat → List Rp → List Re → Prop) (h : ∀ σ G, En σ G Γ → EvA ta σ G [.int (n : Int)]) (hz : n ≤ 40000) (h0 : J 0 [] []) (he : ∀ i R acc X W, i < n → J i acc X → EW W ((wipeC Γ vs).set j (some (nI i))) (M ++ R :: X) te (fun r M' => ∃ X', M' = M ++ R :: X' ∧ J (i + 1) (acc ++ [r]) X') (fun _ _ _ => False)) (hj : j ∈ vs)
    (kk : ∀ p acc X, acc.length = n → J n acc X → κ (rV (.ref p)) (M ++ lstR p acc :: X)) : EW W Γ M (tLc (iRng1 ta) (gName j) tYes te vs) κ ε := fun B G H σ o en Q q x => h σ G en H o.i _ fun H1 e1 => by
  refine ⟨(n : Int), rfl, by omega, by omega, fun Dl hD => ?_⟩
  rw [Int.toNat_natCast]
  refine lc_range (lo := 0) (n := n) (fun i H' => DcG B G M Dl J i H') (dg_start (o.ex e1) hD h0) (fun i H' hi p => ?_) (fun H' p => ?_)
  · have e0 : (0 : Int) + (i : Int) = (i : Int) := Int.zero_add _
    rw [e0]
    refine ⟨wipe_turn σ hj _, ?_⟩
    dsimp only [tYes]
    rw [if_pos rfl]
    exact dg_step (by omega) p (fun G' e => en_at (r := nI i) (en.mono e) rfl) (fun R acc X W z => he i R acc X W hi z)
  · obtain ⟨G', acc, X, e, hl, hJ, o2⟩ := p
    exact q (.ref Dl) G' H' _ _ (kk Dl acc X hl hJ) o2 e rfl
theorem e_lcG {ta : TE} (J : Nat → List Rp → List Re → Prop) (h : EvX Γ ta (nI n)) (hz : n ≤ 40000) (h0 : J 0 [] []) (he : ∀ i R acc X W, i < n → J i acc X → EW W ((wipeC Γ vs).set j (some (nI i))) (M ++ R :: X) te (fun r M' => ∃ X', M' = M ++ R :: X' ∧ J (i + 1) (acc ++ [r]) X') (fun _ _ _ => False)) (hj : j ∈ vs)
    (kk : ∀ p acc X, acc.length = n → J n acc X → κ (rV (.ref p)) (M ++ lstR p acc :: X)) : EW W Γ M (tLc (iRng1 (tCons ta tNil)) (gName j) tYes te vs) κ ε :=
  e_lcG' J (fun σ G en => ea_cons (EvD.ev (h σ G en)) ea_nil) hz h0 he hj kk
theorem e_lcGL (l : List α) (ρ : α → Rp) (J : Nat → List Rp → List Re → Prop) (h : EvX Γ tl (rL K (l.map ρ))) (hz : l.length ≤ 40000) (h0 : J 0 [] []) (he : ∀ i a R acc X W, l[i]? = some a → J i acc X → EW W ((wipeC Γ vs).set j (some (ρ a))) (M ++ R :: X) te (fun r M' => ∃ X', M' = M ++ R :: X' ∧ J (i + 1) (acc ++ [r]) X') (fun _ _ _ => False)) (hj : j ∈ vs)
    (kk : ∀ p acc X, acc.length = l.length → J l.length acc X → κ (rV (.ref p)) (M ++ lstR p acc :: X)) : EW W Γ M (tLc (iList K tl) (gName j) tYes te vs) κ ε := fun B G H σ o en Q q x => h σ G en H o.i _ fun v G1 H1 g1 hv => by
  obtain ⟨a, ws, rfl, h1, h2⟩ := hv
  have o1 := o.gr g1
  refine ⟨a, rfl, ⟨ws, sq_of (o1.i _ _ h1)⟩, fun Dl hD => ?_⟩
  have hlen : ws.length = l.length := by rw [h2.len, List.length_map]
  refine lc_list (xs := ws) (fun i H' => DcG B G1 M Dl J i H') (dg_start o1 hD h0) (fun i H' hi p => ?_) (fun i y H' hy p => ?_) (fun H' p => ?_)
  · obtain ⟨G', acc, X, e, hl, hJ, o2⟩ := p
    exact sq_of (o2.i _ _ (e _ _ h1))
  · have hi : i < l.length := by
      rw [← hlen]
      exact (List.getElem?_eq_some_iff.mp hy).1
    obtain ⟨b, hb⟩ : ∃ b, l[i]? = some b := ⟨_, List.getElem?_eq_getElem hi⟩
    obtain ⟨y', hy', ry⟩ := h2.get (r := ρ b) (by rw [List.getElem?_map, hb]; rfl)
    rw [hy] at hy'
    cases hy'
    refine ⟨wipe_turn σ hj _, ?_⟩
    dsimp only [tYes]
    rw [if_pos rfl]
    exact dg_step (by omega) p (fun G' e => en_at (en.mono (g1.g.trans e)) ((ρ b).mono e ry)) (fun R acc X W z => he i b R acc X W hb z)
  · obtain ⟨G', acc, X, e, hl, hJ, o2⟩ := p
    rw [hlen] at hl hJ
    exact q (.ref Dl) G' H' _ _ (kk Dl acc X hl hJ) o2 (g1.g.trans e) rfl
end
/-! ### things forgotten; lists of lists of our own -/
section
variable {B : Ba} {G H : Hp} {M M1 M2 : List Re} {W : WX} {Γ : Ctx} {te : TE} {t : TS} {κ : Kn} {ε : KX} {K : PySem.W.Frag} {rs rs0 : List Rp} {p : Addr}
theorem Ok.few (o : Ok B G H (M1 ++ M2)) : Ok B G H M1 where
  g := o.g
  l := o.l
  h := o.h
  i := o.i
  n := o.n
  k := o.k
  m := fun r hr => o.m r (List.mem_append_left _ hr)
  z := fun a ha => o.z a (by unfold feet at ha ⊢; rw [List.flatMap_append]; exact List.mem_append_left _ ha)
  d := by
    have h := o.d
    unfold feet at h ⊢
    rw [List.flatMap_append] at h
    exact (List.nodup_append.mp h).1
  f := fun r hr => o.f r (List.mem_append_left _ hr)
theorem w_few (M1 M2 : List Re) (h : WP W Γ M1 t κ) : WP W Γ (M1 ++ M2) t κ := fun B G H σ D o en d => h B G H σ D o.few en d
theorem EW.few {κ : KV} (h : EW W Γ M te (fun r M' => ∃ M1 M2, M' = M1 ++ M2 ∧ κ r M1) ε) : EW W Γ M te κ ε := fun B G H σ o en Q q x => h B G H σ o en Q (fun v G' H' r M' z o' e hv => by
  obtain ⟨M1, M2, rfl, k⟩ := z
  exact q v G' H' r M1 k o'.few e hv) x
theorem br_mem (hm : lstR p rs0 ∈ M) (h : Paired (BorR M) rs0 rs) : BorR M (rV (.ref p)) (rL K rs) := by
  obtain ⟨k, hk, e⟩ := List.mem_iff_getElem.mp hm
  exact br_lst (k := k) (by rw [List.getElem?_eq_getElem hk, e]) h
theorem br_own : ∀ {qs : List Addr} {rss : List (List Rp)}, qs.length = rss.length → (∀ R ∈ List.zipWith lstR qs rss, R ∈ M) → Paired (BorR M) (qs.map fun q => rV (.ref q)) (rss.map (rL K))
  | [], [], _, _ => .nil
  | q :: qs, rs :: rss, hl, hm => .cons (br_mem (hm _ (by simp)) br_all) (br_own (by simpa using hl) fun R hR => hm R (by simp only [List.zipWith_cons_cons]; exact List.mem_cons_of_mem _ hR))
theorem own_set : ∀ {qs : List Addr} {rss : List (List Rp)} {k : Nat} {q : Addr} {rs : List Rp}, qs[k]? = some q → (List.zipWith lstR qs rss).set k (lstR q rs) = List.zipWith lstR qs (rss.set k rs)
  | [], _, _, _, _, h => by simp at h
  | _ :: _, [], _, _, _, _ => by simp
  | q :: qs, r :: rss, 0, q', rs, h => by
    obtain rfl : q = q' := by simpa using h
    rfl
  | q :: qs, r :: rss, k + 1, q', rs, h => by
    show lstR q r :: (List.zipWith lstR qs rss).set k _ = lstR q r :: List.zipWith lstR qs (rss.set k rs)
    rw [own_set (by simpa using h)]
theorem own_get {qs : List Addr} {rss : List (List Rp)} {k : Nat} {q : Addr} {rs : List Rp} (h1 : qs[k]? = some q) (h2 : rss[k]? = some rs) : (List.zipWith lstR qs rss)[k]? = some (lstR q rs) := by
  rw [List.getElem?_zipWith, h1, h2]
end
end Mu

namespace Mu
open PySem PySem.Spec PyProof.Rows L2 Evl
/-! ### super() in a def with cells -/
theorem cf_app : ∀ (names : List (Str × NameKind)) (n : Nat) (acc : List (Str × Addr)), cellsFrom n names acc = cellsFrom n names [] ++ acc
  | [], _, _ => rfl
  | (x, k) :: r, n, acc => by
    unfold cellsFrom
    split
    · rw [cf_app r (n + 1) ((x, n) :: acc), cf_app r (n + 1) [(x, n)], List.append_assoc]; rfl
    · exact cf_app r n acc
theorem cf_mem : ∀ {names : List (Str × NameKind)} {n : Nat} {x : Str} {c : Addr}, (x, c) ∈ cellsFrom n names [] → (x, .cell) ∈ names
  | [], _, _, _, h => by cases h
  | (y, k) :: r, n, x, c, h => by
    unfold cellsFrom at h
    split at h
    · rename_i hk
      rw [cf_app] at h
      rcases List.mem_append.mp h with q | q
      · exact List.mem_cons_of_mem _ (cf_mem q)
      · simp only [List.mem_cons, List.not_mem_nil, or_false, Prod.mk.injEq] at q
        rw [q.1, beq_iff_eq.mp hk]
        exact List.mem_cons_self
    · exact List.mem_cons_of_mem _ (cf_mem h)
theorem lk_app {α : Type} {x : Str} : ∀ {l r : List (Str × α)}, (l ++ r).lookup x = match l.lookup x with
    | some c => some c
    | none => r.lookup x
  | [], _ => rfl
  | (y, c) :: l, r => by
    rw [List.cons_append, List.lookup_cons, List.lookup_cons]
    cases x == y with
    | true => rfl
    | false => exact lk_app
abbrev scEnv (name : Str) (scope : Scope) (L a : Addr) (cd : Value) (cc : Addr) : Env := PySem.W.envX name scope L a cd (cellsFrom (L + 1) scope.names [("__class__", cc)])
structure FsScopeC (N ps : List Str) (sc : Scope) : Prop where
  kind : sc.kind = .function
  co : sc.isCoroutine = false
  gen : sc.isGenerator = false
  nd : N.Nodup
  pre : N.take ps.length = ps
  par : ∀ x ∈ ps, sc.names.lookup x = some .local ∨ sc.names.lookup x = some .cell
  ncl : ∀ y ∈ sc.names, y.2 = .cell → y.1 ≠ ("__class__" : Str)
  free : ∀ y ∈ sc.names, y.2 = .free → y.1 = ("__class__" : Str)
  sup : sc.names.lookup ("super" : Str) = some .globalImplicit
  cls : sc.names.lookup ("__class__" : Str) = some .free
abbrev cxC (CX : CXT) (P : Program) (w : World) (K : PySem.W.Frag) (mg : Str → Option Value) (base : Heap) (N : List Str) (qual : Str) (scope : Scope) (f cda cc : Addr) (A : Around) (outer : List Env) (s : Shared) (H : Hp) (E : XK) : Cx where
  prog := P
  w := w
  K := K
  mg := mg
  base := base
  A := A.deeper (scEnv qual scope s.heap.objs.size f (.ref cda) cc)
  N := N
  s_0 := s
  H_0 := H
  env := scEnv qual scope s.heap.objs.size f (.ref cda) cc
  outer := outer
  stack := scEnv qual scope s.heap.objs.size f (.ref cda) cc :: outer
  ex := []
  calm := true
  fn := fun y => !(y == ("__class__" : Str))
  pn := []
  xe := fun e s' => wpAny (model P w) (A.deeper (scEnv qual scope s.heap.objs.size f (.ref cda) cc)) (leaving (scEnv qual scope s.heap.objs.size f (.ref cda) cc) e) (fun _ s'' => CX outer H s E e s'') (fun e' s'' => CX outer H s E e' s'') s'
theorem own_no {names : List (Str × NameKind)} {n : Nat} (h : ∀ y ∈ names, y.2 = .cell → y.1 ≠ ("__class__" : Str)) : (cellsFrom n names []).lookup ("__class__" : Str) = none := by
  cases q : (cellsFrom n names []).lookup ("__class__" : Str) with
  | none => rfl
  | some c => exact absurd rfl (h _ (cf_mem (PySem.mem_of_lookup q)) rfl)
theorem sc_cls {names : List (Str × NameKind)} {n : Nat} {cc : Addr} (h : ∀ y ∈ names, y.2 = .cell → y.1 ≠ ("__class__" : Str)) : (cellsFrom n names [(("__class__" : Str), cc)]).lookup ("__class__" : Str) = some cc := by
  rw [cf_app, lk_app, own_no h]
  simp [List.lookup]
/-- a cell: one of our own, or the class's -/
theorem sc_split {names : List (Str × NameKind)} {n : Nat} {cc c : Addr} {x : Str} (h : (cellsFrom n names [(("__class__" : Str), cc)]).lookup x = some c) : (cellsFrom n names []).lookup x = some c ∨ (x = ("__class__" : Str) ∧ c = cc) := by
  rw [cf_app, lk_app] at h
  cases q : (cellsFrom n names []).lookup x with
  | some d => rw [q] at h; exact .inl h
  | none =>
    rw [q] at h
    have h' : List.lookup x [(("__class__" : Str), cc)] = some c := h
    rw [List.lookup_cons] at h'
    cases e : x == ("__class__" : Str) with
    | true => rw [e] at h'; exact .inr ⟨by simpa using e, (Option.some.inj h').symm⟩
    | false => rw [e] at h'; cases h'
theorem sc_own {names : List (Str × NameKind)} {n : Nat} {cc c : Addr} {x : Str} (h : (cellsFrom n names []).lookup x = some c) : (cellsFrom n names [(("__class__" : Str), cc)]).lookup x = some c := by
  rw [cf_app, lk_app, h]
section
variable {M : Model} {A : Around} {E : Value → Shared → Prop} {s₀ s : Shared} {m cm : Str → Option Value} {env : Env} {own : List (Str × Addr)}
theorem stLX {n : Str} {v : Value} {Q : Unit → Shared → Prop} (x : InCallC s₀ env.locals m own cm s) (hk : env.scope.kind = .function) (hl : env.kindOf n = some .local)
    (h : ∀ s', InCallC s₀ env.locals (fun y => if y = n then some v else m y) own cm s' → Q () s') : wpAny M A (storeName env n v) Q E s := by
  refine wpAny_storeName_local hl x.toInCall.ns (fun h' hn' hs' => h _ ⟨⟨?_, hn', fun b o e => ?_, x.toInCall.fresh⟩, fun k c hc => ?_, x.apart, x.above⟩) (by rw [hk]; rfl)
  · obtain ⟨h₁, tk, rfl⟩ := x.toInCall.same
    exact ⟨h', _, rfl⟩
  · exact hs'.extBut b o (Nat.ne_of_lt (Nat.lt_of_lt_of_le (Heap.lt_size e) x.toInCall.fresh)) (x.toInCall.keep b o e)
  · exact (x.cell k c hc).sameBut hs' (Nat.ne_of_gt (x.above k c (PySem.mem_of_lookup hc)))
theorem stCX {n : Str} {c : Addr} {v : Value} {Q : Unit → Shared → Prop} (x : InCallC s₀ env.locals m own cm s) (hk : env.scope.kind = .function) (hl : env.kindOf n = some .cell)
    (hc : own.lookup n = some c) (hc2 : env.cells.lookup n = some c)
    (h : ∀ s', InCallC s₀ env.locals m own (fun y => if y = n then some v else cm y) s' → Q () s') : wpAny M A (storeName env n v) Q E s := by
  have hLc := x.above n c (PySem.mem_of_lookup hc)
  refine wpAny_storeName_cell hk hl hc2 (x.cell n c hc) fun h' hc' hs' => h _ ⟨⟨?_, x.toInCall.ns.sameBut hs' (Nat.ne_of_lt hLc), fun b o e => ?_, x.toInCall.fresh⟩, fun k c' hk' => ?_, x.apart, x.above⟩
  · obtain ⟨h₁, tk, rfl⟩ := x.toInCall.same
    exact ⟨h', _, rfl⟩
  · exact hs'.extBut b o (Nat.ne_of_lt (Nat.lt_trans (Nat.lt_of_lt_of_le (Heap.lt_size e) x.toInCall.fresh) hLc)) (x.toInCall.keep b o e)
  · by_cases hkn : k = n
    · subst hkn
      rw [hc] at hk'; cases hk'
      simpa using hc'
    · rw [if_neg hkn]
      exact (x.cell k c' hk').sameBut hs' fun e => hkn (name_of_addr x.apart (PySem.mem_of_lookup hk') (e ▸ PySem.mem_of_lookup hc))
theorem bindParamsX (f : Str × Value → PUnit → Sem (ForInStep PUnit)) (hf : ∀ n v u, f (n, v) u = (do storeName env n v; pure (.yield ⟨⟩))) (hk : env.scope.kind = .function) (hown : ∀ n c, own.lookup n = some c → env.cells.lookup n = some c) :
    ∀ (binds : List (Str × Value)) (m cm : Str → Option Value) (s : Shared) (Q : PUnit → Shared → Prop), InCallC s₀ env.locals m own cm s →
      (∀ x ∈ binds, env.kindOf x.1 = some .local ∨ (env.kindOf x.1 = some .cell ∧ (own.lookup x.1).isSome = true)) →
      (∀ s', InCallC s₀ env.locals (bindL env.kindOf binds m) own (bindC env.kindOf binds cm) s' → Q ⟨⟩ s') → wpAny M A (forIn binds ⟨⟩ f) Q E s
  | [], m, cm, s, Q, x, _, h => by rw [List.forIn_nil]; exact wpAny_pure (h s x)
  | (n, v) :: r, m, cm, s, Q, x, hkind, h => by
    rw [List.forIn_cons, hf]
    have hr : ∀ y ∈ r, env.kindOf y.1 = some .local ∨ (env.kindOf y.1 = some .cell ∧ (own.lookup y.1).isSome = true) := fun y hy => hkind y (List.mem_cons_of_mem _ hy)
    rcases hkind (n, v) List.mem_cons_self with hl | ⟨hl, hc⟩
    · refine wpAny_bind (wpAny_bind (stLX x hk hl fun s' x' => wpAny_pure (bindParamsX f hf hk hown r _ _ s' Q x' hr fun s'' x'' => h s'' ?_)))
      unfold bindL bindC; rw [if_pos hl, if_pos hl]; exact x''
    · obtain ⟨c, hc⟩ := Option.isSome_iff_exists.mp hc
      have hnl : ¬ env.kindOf n = some .local := by rw [hl]; decide
      refine wpAny_bind (wpAny_bind (stCX x hk hl hc (hown _ _ hc) fun s' x' => wpAny_pure (bindParamsX f hf hk hown r _ _ s' Q x' hr fun s'' x'' => h s'' ?_)))
      unfold bindL bindC; rw [if_neg hnl, if_neg hnl]; exact x''
end
theorem newEnvX {M : Model} {A : Around} {E : Value → Shared → Prop} {s : Shared} {scope : Scope} {globals : Addr} {binds : List (Str × Value)} {qual : Str} {func : Option Addr} {code : Value} {builtins cc : Addr} {Q : Env → Shared → Prop}
    (hk : scope.kind = .function)
    (hkind : ∀ x ∈ binds, scope.names.lookup x.1 = some .local ∨ (scope.names.lookup x.1 = some .cell ∧ ((cellsFrom (s.heap.objs.size + 1) scope.names []).lookup x.1).isSome = true))
    (hQ : ∀ env, env = newEnv scope s.heap.objs.size globals (cellsFrom (s.heap.objs.size + 1) scope.names [(("__class__" : Str), cc)]) qual func code none builtins →
      ∀ s', InCallC s env.locals (bindL env.kindOf binds fun _ => none) (cellsFrom (s.heap.objs.size + 1) scope.names []) (bindC env.kindOf binds fun _ => none) s' → Q env s') :
    wpAny M A (newFunctionEnv scope globals [(("__class__" : Str), cc)] binds qual func code none builtins) Q E s := by
  simp only [newFunctionEnv, Option.isSome_none, Bool.false_eq_true, if_false]
  refine wpAny_bind (wpAny_alloc ?_)
  refine wpAny_bind (wpAny_layCells _ (fun name kind cells => by cases hkc : kind == NameKind.cell <;> simp [hkc]) _ _ _ _ ?_)
  have ok := cellsFrom_ok scope.names (s.heap.push { cls := .type "frame", data := .dict #[] }) (s.heap.objs.size + 1) [] ⟨fun _ _ hm => (nomatch hm), List.Pairwise.nil⟩ (by rw [Heap.size_push]; exact Nat.le_refl _)
  rw [Heap.size_push] at ok
  rw [show ({ s with heap := s.heap.push { cls := .type "frame", data := .dict #[] } } : Shared).heap.objs.size = s.heap.objs.size + 1 from Heap.size_push ..]
  refine wpAny_bind (bindParamsX (s₀ := s) (env := newEnv scope s.heap.objs.size globals (cellsFrom (s.heap.objs.size + 1) scope.names [(("__class__" : Str), cc)]) qual func code none builtins)
    (own := cellsFrom (s.heap.objs.size + 1) scope.names []) _ (fun _ _ _ => rfl) hk (fun n c h => sc_own h) binds (fun _ => none) (fun _ => none) _ _
    ⟨⟨⟨_, _, rfl⟩, (Heap.Ns.new s.heap (.type "frame")).keeps (pushCells_keeps _ _), fun b o e => pushCells_keeps _ _ b o (Heap.get?_push_of_some _ e), Nat.le_refl _⟩,
      fun n c hc => (ok.empty n c (PySem.mem_of_lookup hc)).1, ok.apart, fun n c hm => (ok.empty n c hm).2⟩
    hkind fun s' x => wpAny_pure (hQ _ rfl s' x))
theorem inv_startC {CX : CXT} {P : Program} {w : World} {K : PySem.W.Frag} {mg : Str → Option Value} {base : Heap} {N ps : List Str} {x qual : Str} {params : Arguments} {body : List Stmt} {scope : Scope} {file : Str} {D f : Addr} {fd : FuncData} {cda cc : Addr} {A : Around} {outer : List Env} {s s1 : Shared} {H : Hp} {E : XK} {us : List Value} {vs : List V}
    (F : FunS K x qual params body scope file D f fd cda cc) (S : FsScopeC N ps scope) (hd : A.handled = none) (e0 : Env0 P w K mg base A outer s H) (hl : vs.length = ps.length) (r : Vals vs us)
    (x : InCallC s s.heap.objs.size (bindL (scEnv qual scope s.heap.objs.size f (.ref cda) cc).kindOf (ps.zip us) fun _ => none) (cellsFrom (s.heap.objs.size + 1) scope.names []) (bindC (scEnv qual scope s.heap.objs.size f (.ref cda) cc).kindOf (ps.zip us) fun _ => none) s1) :
    Inv (cxC CX P w K mg base N qual scope f cda cc A outer s H E) [] (L2.start N vs) H s1 := by
  have hpl : ps.length ≤ N.length := by have := congrArg List.length S.pre; rw [List.length_take] at this; omega
  obtain ⟨cl, cld, csl, hcell⟩ := F.cell
  have hccb := e0.mod.kin _ _ hcell
  have hcc := e0.bs _ _ hccb
  have hlt : cc < s.heap.objs.size := Heap.lt_size hcc.1
  obtain ⟨h1, tk, rfl, hk⟩ := x.done
  have noA : ∀ b : Addr, b ∉ (cxC CX P w K mg base N qual scope f cda cc A outer s H E).ex := fun b z => absurd (show b ∈ ([] : List Addr) from z) (by simp)
  refine ⟨⟨e0.mod, S.kind, rfl, rfl, Nat.le_refl _, fun y z c h1 h2 => ?_, fun y hy => ?_, fun y c h h2 => ?_, fun _ => hd, Around.frames_deeper e0.frames, .inr ⟨rfl, rfl⟩, fun b z => absurd z (noA b), e0.bs, e0.bsz, fun b _ _ => noA b, fun b z => absurd z (noA b), e0.funs, e0.frf⟩,
    rfl, e0.bare, Un.kept hk, ⟨_, x.toInCall.ns, fun i y v h1 h2 h3 => ?_⟩, fun y c h => ?_, e0.hok.fresh (Nat.le_refl _), fun y c h => ?_, fun p hp => absurd (show p ∈ ([] : List (Addr × Obj)) from hp) (by simp), e0.hok.kept hk, ?_⟩
  · rcases sc_split h1 with q1 | ⟨q1, q2⟩ <;> rcases sc_split h2 with r1 | ⟨r1, r2⟩
    · exact name_of_addr x.apart (PySem.mem_of_lookup q1) (PySem.mem_of_lookup r1)
    · have h3 := x.above y c (PySem.mem_of_lookup q1)
      rw [r2] at h3
      exact absurd (Nat.lt_trans h3 hlt) (Nat.lt_irrefl _)
    · have h3 := x.above z c (PySem.mem_of_lookup r1)
      rw [q2] at h3
      exact absurd (Nat.lt_trans h3 hlt) (Nat.lt_irrefl _)
    · rw [q1, r1]
  · have hy : scope.names.lookup y = some .cell ∨ scope.names.lookup y = some .free := hy
    rcases hy with hy | hy
    · obtain ⟨c, e⟩ := cell_has (n := s.heap.objs.size + 1) hy
      exact ⟨c, sc_own e⟩
    · have e := S.free _ (PySem.mem_of_lookup hy) rfl
      have e' : y = ("__class__" : Str) := e
      subst e'
      exact ⟨cc, sc_cls S.ncl⟩
  · rcases sc_split h2 with q1 | ⟨q1, q2⟩
    · exact Nat.le_of_lt (x.above y c (PySem.mem_of_lookup q1))
    · subst q1
      exact absurd (show (!(("__class__" : Str) == ("__class__" : Str))) = true from h) (by simp)
  · have hi : i < vs.length := by
      unfold L2.start at h2
      by_cases hi : i < vs.length
      · exact hi
      · rw [List.getElem?_append_right (by simpa using hi)] at h2
        rw [List.getElem?_replicate] at h2
        split at h2 <;> cases h2
    have ha : vs[i]? = some v := by
      unfold L2.start at h2
      rw [List.getElem?_append_left (by simpa using hi), List.getElem?_map] at h2
      cases e : vs[i]? with
      | none => rw [e] at h2; cases h2
      | some a => rw [e] at h2; cases h2; rfl
    obtain ⟨u, hu, rv⟩ := r.get ha
    have hp : ps[i]? = some y := by
      rw [← S.pre, List.getElem?_take_of_lt (by omega)]; exact h1
    have ndP : ps.Nodup := by rw [← S.pre]; exact S.nd.sublist (List.take_sublist _ _)
    refine ⟨u, rv, ?_⟩
    rcases S.par y (List.mem_of_getElem? hp) with k | k
    · exact .inl ⟨k, bindL_get ndP hp hu k⟩
    · obtain ⟨c, e⟩ := cell_has (n := s.heap.objs.size + 1) k
      refine .inr ⟨.inl k, c, sc_own e, ?_⟩
      have q := x.cell y c e
      rw [bindC_get ndP hp hu (by show scope.names.lookup y ≠ _; rw [k]; decide)] at q
      exact q
  · rcases sc_split h with q1 | ⟨q1, q2⟩
    · exact ⟨_, x.cell y c q1⟩
    · rw [q2]
      exact ⟨_, _, hk _ _ hcc.1, rfl⟩
  · rcases sc_split h with q1 | ⟨q1, q2⟩
    · exact e0.hok.fresh (Nat.le_of_lt (x.above y c (PySem.mem_of_lookup q1)))
    · rw [q2]; exact hcc.2
  · unfold L2.start
    show _ = N.length
    rw [List.length_append, List.length_map, List.length_replicate]
    omega
theorem FunS.okC {P : Program} {w : World} {K : PySem.W.Frag} {mg : Str → Option Value} {base : Heap} {x qual : Str} {params : Arguments} {body : List Stmt} {scope : Scope} {file : Str} {D f : Addr} {fd : FuncData} {cda cc : Addr} {CX : CXT} {N ps : List Str} {k : Nat} {sp : Sp}
    (F : FunS K x qual params body scope file D f fd cda cc) (S : FsScopeC N ps scope) (len : ∀ vs H Q E, sp vs H Q E → vs.length = ps.length)
    (hbody : ∀ (A : Around) (outer : List Env) (s : Shared) (H : Hp) (vs : List V) (Q : VK) (E : XK), Room k (A.deeper (scEnv qual scope s.heap.objs.size f (.ref cda) cc)) → sp vs H Q E →
      ∃ t, PSA (cxC CX P w K mg base N qual scope f cda cc A outer s H E) body body t ∧ t { nx := fun _ H' => Q .non H', rt := Q } (L2.start N vs) H) : FnOk P w K mg base CX (k + 1) f fd ps sp := by
  obtain ⟨oc, od, kV, doc, pm, an, ct, osl, rfl, lk⟩ := id F.fn
  refine ⟨len, fun A outer s H args us vs Q E hr e0 hb r hsp => ?_⟩
  have hl := len _ _ _ _ hsp
  have KX : K.In s.heap := e0.mod.kin.keeps fun b o e => (e0.bs b o e).1
  have lim : s.heap.NoLimit := e0.mod.nolimit.keeps fun b o e => (e0.bs b o e).1
  have hkind : ∀ y ∈ ps.zip us, scope.names.lookup y.1 = some .local ∨ (scope.names.lookup y.1 = some .cell ∧ ((cellsFrom (s.heap.objs.size + 1) scope.names []).lookup y.1).isSome = true) := fun ⟨n, v⟩ hy => by
    rcases S.par n (List.of_mem_zip hy).1 with q | q
    · exact .inl q
    · exact .inr ⟨q, PySem.W.cellsFrom_some _ _ _ (.inl q)⟩
  refine codeAny_call_function (fd := PySem.W.ksFn x qual params body scope .none kV doc pm an (.ref cda) ct cc) (body := body) hr.depth (KX _ _ lk) rfl S.co S.gen rfl (PySem.W.codeRec_of KX F.co) (hb _ _ _ _ ?_)
  refine newEnvX S.kind hkind fun env he s1 x1 => ?_
  subst he
  refine ⟨lim.keeps x1.toInCall.keep, ks_codeAny_funcAt ?_⟩
  obtain ⟨t, ht, hq⟩ := hbody A outer s H vs Q E (hr.deeper _) hsp
  have I := inv_startC (CX := CX) (E := E) F S hr.hd e0 hl r x1
  refine _root_.PySem.wpAt_mono (ht.run [] _ (L2.start N vs) H _ I hq) (fun fl s' hs => ?_) fun e s' hs => hs
  have fin : ∀ {σ' : L2.St} {H' : Hp} {v : V} {u : Value}, Inv (cxC CX P w K mg base N qual scope f cda cc A outer s H E) [] σ' H' s' → RelV v u → Q v H' → CE outer P w H s Q u s' :=
    fun {σ' H' v u} J rv q => ⟨v, H', J.os, J.bare, J.base, J.hok, rv, q⟩
  cases fl with
  | ret u =>
    obtain ⟨v, σ', H', J, rv, q⟩ := hs
    exact fin J rv q
  | next =>
    obtain ⟨σ', H', J, q⟩ := hs
    exact fin (v := V.non) (u := Value.none) J rfl q
  | brk =>
    obtain ⟨_, _, _, q⟩ := hs
    exact False.elim q
  | cont =>
    obtain ⟨_, _, _, q⟩ := hs
    exact False.elim q
theorem psa_setC {X : Cx} {fb rest : List Stmt} {e : Expr} {te : TE} {u : TS} {pos : Pos} {x : Str} {p' : Pos} {i : Nat} (hN : X.N.Nodup) (hi : X.N[i]? = some x) (hl : Loc X.env.scope x) (hf : X.fn x = true ∨ X.env.scope.names.lookup x = some .local) (h1 : PEA X fb e te) (h2 : PSs X rest u) (hs : swapsWith e (some (.Name x p')) pos.line X.env = pure false := by rfl) : PSA X fb (.Assign [.Name x p'] e pos :: rest) (tSeq (tAsg te (gName i)) u) := by
  refine ⟨fun pins s σ H D I h => ?_⟩
  refine ks_wpAt_execs_cons (ks_wpAt_Assign_Name (_root_.PySem.wpAt_mono (h1.run pins s σ H _ I h) (fun v s' ⟨y, H', I', r, q⟩ => ?_) fun _ _ z => z) hs)
  refine store_ok (v := y) I' hN hi hl r (fun s2 I2 => ?_) hf
  exact _root_.PySem.wpAt_of_wpAny (h2.run pins s2 _ H' D I2 q)
section
variable {CX CX2 : CXT} {P : Program} {w : World} {K : PySem.W.Frag} {mg : Str → Option Value} {base : Heap} {N ps ps2 : List Str} {x qual : Str} {params : Arguments} {body : List Stmt} {scope : Scope} {file : Str} {D f f2 : Addr} {fd fd2 : FuncData} {cda cc : Addr} {A : Around} {outer : List Env} {s0 : Shared} {H0 : Hp} {E0 : XK}
  {pins : List (Addr × Obj)} {σ : L2.St} {H : Hp} {s : Shared} {fb : List Stmt} {E : Value → Shared → Prop} {k2 : Nat} {sp2 : Sp} {m : Str}
theorem sup_baseC {p0 p1 : Pos} {attr : Str} {whole : Sem Value} {a C : Addr} {ox : Obj} {Q : Value → Shared → Prop} {self : Str} (F : FunS K x qual params body scope file D f fd cda cc) (S : FsScopeC N ps scope) (pf : PF P file) (hm : mg "super" = none)
    (hp : (params.posonlyargs ++ params.args).head?.map (·.arg) = some self) (hN : N[0]? = some self) (hself : scope.names.lookup self = some .local) (hat : (attr == ("__class__" : Str)) = false)
    (I : Inv (cxC CX P w K mg base N qual scope f cda cc A outer s0 H0 E0) pins σ H s) (hσ : σ[0]? = some (some (.ref a))) (hx : s.heap.get? a = some ox) (hxc : ox.cls = .ref C) (hnc : ∀ c, ox.data ≠ .cls c) (hsub : PySem.W.mroIn K C (.ref D) = some true)
    (h : ∀ h', h'.get? s.heap.objs.size = some { cls := .type "super", dict := none, data := .fields #[.ref D, .ref a, .ref C], slots := #[] } → (∀ y o, s.heap.get? y = some o → h'.get? y = some o) → Q (.ref s.heap.objs.size) { s with heap := h' }) :
    _root_.PySem.wpAt (model P w) (A.deeper (scEnv qual scope s0.heap.objs.size f (.ref cda) cc)) (.func fb (scEnv qual scope s0.heap.objs.size f (.ref cda) cc)) (attributeBase (.Call (.Name "super" p0) [] [] p1) attr (scEnv qual scope s0.heap.objs.size f (.ref cda) cc) whole) Q E s := by
  obtain ⟨oc, od, kV, doc, pm, an, ct, osl, rfl, lk⟩ := F.fn
  obtain ⟨cl, cld, csl, hcell⟩ := F.cell
  obtain ⟨ccl, cdd, vs, ccs, tf, hcode, hvs⟩ := F.code
  obtain ⟨cdD, hD⟩ := Option.isSome_iff_exists.mp F.cls
  have kin : K.In s.heap := I.kIn
  obtain ⟨ar, har, hara⟩ : ∃ ar, (params.posonlyargs ++ params.args).head? = some ar ∧ ar.arg = self := by
    cases q : (params.posonlyargs ++ params.args).head? with
    | none => rw [q] at hp; cases hp
    | some ar => rw [q] at hp; exact ⟨ar, rfl, Option.some.inj hp⟩
  obtain ⟨oD, hD1, hD2⟩ : ∃ oD, s.heap.get? D = some oD ∧ oD.data = .cls cdD := by
    unfold PySem.W.clsIn at hD
    split at hD
    · rename_i c d cd' sl ho
      cases hD
      exact ⟨_, kin _ _ ho, rfl⟩
    · cases hD
  refine ks_wpAt_super_base (env := scEnv qual scope s0.heap.objs.size f (.ref cda) cc) S.sup S.cls hat rfl (kin _ _ lk) rfl har rfl (kin _ _ hcode) rfl hvs pf.file pf.top ?_
  obtain ⟨mb, b1, b2⟩ := I.mod.blt
  refine PySem.W.ks_loadName_global S.kind S.sup (Calls.loadGlobal_builtin (env := scEnv qual scope s0.heap.objs.size f (.ref cda) cc) (I.mod.glob.keeps I.bk) hm (b1.keeps I.bk) ((b2 _ (by decide +kernel)).trans (show bootBuiltins ("super" : Str) = some (.type "super") by decide +kernel)) ⟨rfl, ?_⟩)
  refine wpAny_loadName_free S.kind S.cls (sc_cls S.ncl) ⟨_, kin _ _ hcell, rfl⟩ ?_
  obtain ⟨m, hns, hlk⟩ := I.loc
  obtain ⟨u, ru, look⟩ := hlk 0 self (.ref a) hN hσ (.inl hself)
  obtain rfl : u = Value.ref a := ru
  have hmv : m ar.arg = some (.ref a) := by
    rw [hara]
    rcases look with ⟨_, q⟩ | ⟨q | q, _⟩
    · exact q
    · have q' : scope.names.lookup self = some .cell := q
      rw [hself] at q'; cases q'
    · have q' : scope.names.lookup self = some .free := q
      rw [hself] at q'; cases q'
  refine wpAny_loadName_local S.kind (show scope.names.lookup ar.arg = some .local by rw [hara]; exact hself) hns hmv ?_
  obtain ⟨hh, g, d, t, os⟩ := s
  refine ks_wpAny_isType_cls hD1 hD2 ⟨rfl, ?_⟩
  exact ks_wpAny_call_super hD1 hD2 hx hxc hnc (PySem.W.looks_mroIn kin hsub) fun h' e k => h h' e k
theorem pea_supMethC {p0 p1 p2 pos : Pos} {e : Expr} {es : List Expr} {ta : TA} {self : Str} {pl : Sem Bool} {E : L2.St → XK} (F : FunS K x qual params body scope file D f fd cda cc) (S : FsScopeC N ps scope) (pf : PF P file) (hm : mg "super" = none)
    (hp : (params.posonlyargs ++ params.args).head?.map (·.arg) = some self) (hN : N[0]? = some self) (hself : scope.names.lookup self = some .local)
    (hl2 : ∃ oc od osl, K.lookup f2 = some ⟨oc, od, .func fd2, osl⟩) (ht2 : PySem.W.typeIn K (.ref f2) = some (.type "function"))
    (F2 : FnOk P w K mg base CX2 k2 f2 fd2 ps2 sp2) (hr : Room k2 (A.deeper (scEnv qual scope s0.heap.objs.size f (.ref cda) cc))) (hb : Binds K fd2 ps2 []) (hx : ∀ σ, PassesAt CX2 (cxC CX P w K mg base N qual scope f cda cc A outer s0 H0 E0) σ (E σ))
    (ha : PA (cxC CX P w K mg base N qual scope f cda cc A outer s0 H0 E0) (e :: es) ta) (hat : (m == ("__class__" : Str)) = false)
    (hev : eval (.Call (.Attribute (.Call (.Name "super" p0) [] [] p1) m p2) (e :: es) [] pos) (scEnv qual scope s0.heap.objs.size f (.ref cda) cc) = (do
      let ov ← attributeBase (.Call (.Name "super" p0) [] [] p1) m (scEnv qual scope s0.heap.objs.size f (.ref cda) cc) (eval (.Call (.Name "super" p0) [] [] p1) (scEnv qual scope s0.heap.objs.size f (.ref cda) cc))
      standAt p2.atName
      let (fn1, first) ← holding [ov] (getMethod ov m pl)
      callWith pos fn1 first (backTo pos (starEach (e :: es) (scEnv qual scope s0.heap.objs.size f (.ref cda) cc))) []) := by rfl)
    (he : starEach (e :: es) (scEnv qual scope s0.heap.objs.size f (.ref cda) cc) = (false, eval e (scEnv qual scope s0.heap.objs.size f (.ref cda) cc)) :: starEach es (scEnv qual scope s0.heap.objs.size f (.ref cda) cc) := by rfl) (hpl : (backTo pos (starEach es (scEnv qual scope s0.heap.objs.size f (.ref cda) cc))).any (·.1) = false := by rfl) :
    PEA (cxC CX P w K mg base N qual scope f cda cc A outer s0 H0 E0) fb (.Call (.Attribute (.Call (.Name "super" p0) [] [] p1) m p2) (e :: es) [] pos) (tSup K D m f2 sp2 E ta) := by
  refine ⟨fun pins s σ H Q I h => ?_⟩
  obtain ⟨a, C, dx, fs, hσ, hH, hsub, hsup, h⟩ := h
  obtain ⟨mA, J, _⟩ := ins_get I.hok hH
  obtain ⟨od, J, _⟩ := J.look
  refine ks_wpAt_MethodCall (sup_baseC F S pf hm hp hN hself hat I hσ J.at_ J.cls (fun c z => ?_) hsub fun h' hso k => ?_) hev
  · have := J.no
    unfold PySem.W.notCls at this
    rw [z] at this
    exact Bool.noConfusion this
  have I1 := I.kept (h' := h') (t' := s.toks) k
  have kin : K.In h' := I1.kIn
  obtain ⟨mA1, J1, _⟩ := ins_get I1.hok hH
  obtain ⟨od1, J1, _⟩ := J1.look
  obtain ⟨oc2, od2, osl2, lk2⟩ := hl2
  have hof := kin _ _ lk2
  have hofc : oc2 = .type "function" := by
    have ht' : (K.lookup f2).map (·.cls) = some (.type "function") := ht2
    rw [lk2] at ht'
    exact Option.some.inj ht'
  cases hc : PySem.W.clsIn K C with
  | none => unfold PySem.W.ks_superIn at hsup; rw [hc] at hsup; cases hsup
  | some cd =>
    unfold PySem.W.ks_superIn at hsup
    rw [hc] at hsup
    obtain ⟨hh, g, d, tk, os⟩ := s
    have I1' : Inv (cxC CX P w K mg base N qual scope f cda cc A outer s0 H0 E0) pins σ H ⟨h', g, d, tk, os⟩ := I1
    refine ks_wpAny_getMethod_super hso (PySem.W.looks_opaque kin F.op) (l₀ := cd.mro) ?_ rfl kin hsup hof hofc (PySem.W.ks_ne kin J1 hc) hat ?_
    · exact fun A Q E s k q => wpAny_bind ((PySem.W.looks_clsIn kin hc) A _ E s k (wpAny_pure q))
    have I2 := I1'.kept (h' := h'.push { cls := .type "method", data := .fields #[.ref f2, .ref a] }) (t' := tk + 1) fun b o z => Heap.get?_push_of_some _ z
    have hq0 : (h'.push { cls := .type "method", data := .fields #[.ref f2, .ref a] }).get? h'.objs.size = some { cls := .type "method", data := .fields #[.ref f2, .ref a] } := Heap.get?_push_at rfl rfl
    have I3 := Inv.pin1 I2 hq0 (.inr trivial) (I1'.hok.fresh (Nat.le_refl _)) (Ne.symm (Nat.ne_of_lt I1'.lt)) (I1'.nofs (Nat.le_refl _)) (fun v z => nomatch z)
    show wpAny _ _ (callWith pos (.ref h'.objs.size) [] (backTo pos (starEach (e :: es) _)) []) _ _ _
    rw [he]
    refine callWith_bound (f2 := f2) (a := a) (by show (false || (backTo pos (starEach es _)).any (·.1)) = false; rw [hpl]; rfl) ?_
    have ra := ha.run pos _ _ σ H _ I3 h
    rw [he] at ra
    refine PySem.Calls.evalArgs_plain (thn ra fun us s3 ⟨vs, H3, J3, rv, q⟩ => ?_)
    obtain ⟨hu, _⟩ := J3.pin (h'.objs.size, { cls := .type "method", data := .fields #[.ref f2, .ref a] }) (List.mem_append_right _ List.mem_cons_self)
    refine ⟨hu, ⟨_, _, J3.kIn _ _ lk2, rfl⟩, ?_⟩
    have r2 : Vals (V.ref a :: vs) (Value.ref a :: us) := .cons rfl rv
    have hl : (Value.ref a :: us ++ []).length = ps2.length := by
      rw [List.append_nil, ← r2.length]
      exact F2.len _ _ _ _ q
    have b2 := hb s3 (Value.ref a :: us) J3.kIn hl
    rw [List.append_nil] at b2
    refine wpAny_call (ks_codeAny_call_bound hu (codeAny_mono (F2.run _ _ s3 H3 ⟨Value.ref a :: us, []⟩ (Value.ref a :: us) (V.ref a :: vs) Q (E σ) hr J3.env0 b2 r2 q) fun r s' hq => ?_))
    cases r with
    | error er => exact hx σ _ H3 s3 er s' J3 hq
    | ok fl =>
      cases fl with
      | ret u =>
        obtain ⟨v, H', I', rv', q'⟩ := J3.after hq
        exact ⟨v, H', I'.pins_of fun p hp => I'.pin p (List.mem_append_right _ (List.mem_cons_of_mem _ hp)), rv', q'⟩
      | next => exact False.elim hq
      | brk => exact False.elim hq
      | cont => exact False.elim hq
end
/-! super().m(..) on an instance that stays -/
theorem e_sup {W : WX} {Γ : Ctx} {M : List Re} {K : PySem.W.Frag} {C D f2 : Addr} {m : Str} {sp : Sp} {ta : TA} {κ : KV} {ε : KX} {fs : FL} (h0 : Γ[0]? = some (some (rIns C fs))) (hm : SupF K C D m f2)
    (h : EA W Γ M ta (fun rs M1 => XM sp (rIns C fs :: rs) M1 κ ε) ε) : EW W Γ M (tSup K D m f2 sp (WE W) ta) κ ε := fun B G H σ o en Q q x => by
  obtain ⟨u, hu1, hu2⟩ := en.get h0
  obtain ⟨a, dx, ws, rfl, h2, h3⟩ := id hu2
  refine ⟨a, C, dx, ws, hu1, o.i _ _ h2, hm.mro, hm.sup, h B G H σ o en _ (fun vs G1 H1 rs M1 z o1 e1 ra => ?_) x⟩
  exact z B G1 H1 _ W σ o1 (.cons ((rIns C fs).mono e1 hu2) ra) Q (q.up e1) (x.up e1)
end Mu

namespace Mu
open PySem PySem.Spec PyProof.Rows L2 He Evl
/-! ### a def that changes what may be changed, or raises: promises by what follows -/
def spC (R : List V → Hp → List Re → KV → KX → Prop) : Sp := fun vs H Q E => ∃ B G M κ ε, Ok B G H M ∧ R vs G M κ ε ∧ Go B G κ Q ∧ ∀ cls fs d G' H' M', ε cls fs M' → Ok B G' H' M' → Ex G G' → XdOk G' fs d → E cls d H'
section
variable {W : WX} {Γ : Ctx} {M : List Re} {rs : List Rp} {K : PySem.W.Frag} {κ : KV} {ε : KX} {R : List V → Hp → List Re → KV → KX → Prop}
theorem xmC (h : ∀ vs G, RA G vs rs → R vs G M κ ε) : XM (spC R) rs M κ ε := fun B G H vs W σ o ra Q q x =>
  ⟨B, G, M, κ, ε, o, h vs G ra, q, fun cls fs d G' H' M' z o' e xd => x cls fs d G' H' M' z o' e xd⟩
theorem spC_E : ∀ vs H Q E', spC R vs H Q E' → ∀ E2 : XK, (∀ c d H', E' c d H' → E2 c d H') → spC R vs H Q E2 := fun vs H Q E' h E2 hi => by
  obtain ⟨B, G, M, κ, ε, h1, h2, h3, h4⟩ := h
  exact ⟨B, G, M, κ, ε, h1, h2, h3, fun cls xs d G2 H2 M' z o e x => hi _ _ _ (h4 cls xs d G2 H2 M' z o e x)⟩
theorem cmC (h : ∀ vs G, RA G vs rs → R vs G M κ (fun _ _ _ => False)) : CM (spC R) rs M κ := cmo_ (xmC h) spC_E
theorem run_C {t : TS} {B : Ba} {G H : Hp} {σ : L2.St} {Q : VK} {E : XK} (w : WP (fun cls d _ H => E cls d H) Γ M t { nx := fun _ M' => κ (rV .non) M', rt := κ, ex := fun _ cls fs M' => ε cls fs M' }) (o : Ok B G H M) (en : En σ G Γ) (k1 : Go B G κ Q) (k2 : ∀ cls fs d G' H' M', ε cls fs M' → Ok B G' H' M' → Ex G G' → XdOk G' fs d → E cls d H') : t { nx := fun _ H' => Q .non H', rt := Q } σ H := by
  refine w (B.low G) G H σ _ (o.low (Ex.refl _)) en ⟨fun σ' G' H' Γ' M' o' en' z => k1 .non G' H' (rV .non) M' z (o'.up o.l) o'.l rfl, fun v G' H' r M' o' hv z => k1 v G' H' r M' z (o'.up o.l) o'.l hv, fun _ _ _ _ _ _ _ z => z.elim, fun _ _ _ _ _ _ _ z => z.elim, fun σ' G' H' Γ' M' cls d fs o' en' xd z => k2 cls fs d G' H' M' z (o'.up o.l) o'.l xd⟩
end
/-! ### a property, the class found by the data -/
def tPropD (K : PySem.W.Frag) (f : Str) (g : Addr) (sp : Sp) (E : XK) (ta : TE) : TE := fun σ H Q => ta σ H fun x H1 => ∃ a C dx fs, x = .ref a ∧ H1 a = some (.ins C dx fs) ∧ Cls K C ∧ PropG K C f g ∧ sp [.ref a] H1 Q E
theorem pe_propD {X : Cx} {CX : CXT} {k : Nat} {g : Addr} {f : Str} {fd : FuncData} {ps : List Str} {sp : Sp} {E : XK} {e : Expr} {pos : Pos} {ta : TE} (he : PE X e ta) (K : PySem.W.Frag) (F : FnOk X.prog X.w X.K X.mg X.base CX k g fd ps sp) (hr : Room (k + 1) X.A) (hb : Binds X.K fd ps []) (hx : Passes CX X.nox E) (hK : X.K = K := by rfl)
    (hab : attributeBase e f X.env (eval e X.env) = eval e X.env := by rfl) : PE X (.Attribute e f pos) (tPropD K f g sp E ta) := by
  subst hK
  refine ⟨fun pins s σ H Q I h => ?_⟩
  refine attr_of hab (thn (he.run pins s σ H _ I h) fun u s1 ⟨x, H1, I1, rx, a, C, dx, fs, ex, ea, c, hp, q⟩ => ?_)
  subst ex
  obtain rfl : u = Value.ref a := rx
  obtain ⟨p, hp⟩ := hp
  exact getprop_ok I1 ea c hp F hr hb .nil hx q
theorem e_propD {W : WX} {Γ : Ctx} {M : List Re} {te : TE} {f : Str} {g : Addr} {K : PySem.W.Frag} {sp : Sp} {E : XK} {κ : KV} {ε : KX} (h : EW W Γ M te (fun r0 M0 => (∃ C, Cls K C ∧ PropG K C f g ∧ ∀ v G, r0.p v G → ∃ a dx fs, v = .ref a ∧ G a = some (.ins C dx fs)) ∧ CM sp [r0] M0 κ) ε) : EW W Γ M (tPropD K f g sp E te) κ ε := fun B G H σ o en Q q x =>
  h B G H σ o en _ (fun v0 G0 H0 r0 M0 h0 o0 e0 hv0 => by
    obtain ⟨⟨C, c1, c2, hi⟩, h1⟩ := h0
    obtain ⟨a, dx, fs, rfl, h2⟩ := hi _ _ hv0
    exact ⟨a, C, dx, fs, rfl, o0.i _ _ h2, c1, c2, h1 E B G0 H0 [.ref a] o0 (.cons hv0 .nil) Q (q.up e0)⟩) x
/-! ### isinstance of an instance, by what the class's bases are -/
section
variable {K : PySem.W.Frag} {C D : Addr} {H G : Hp} {fs : FL} {Γ : Ctx} {te ta tb : TE} {tt : TT} {r : Rp} {W : WX} {M : List Re} {κ : KV} {ε : KX} {rs : List Rp} {p : Addr} {k : Nat}
theorem ty_ins (c : IsC K C) {v : V} (h : (rIns C fs).p v H) : TyX K H v (.ref C) := by
  obtain ⟨a, dx, ws, rfl, h2, _⟩ := h
  exact .base (.ins h2 c.c c.a c.g c.t c.m)
theorem x_isIns {b : Bool} (c : IsC K C) (hk : PySem.W.kitOne K (.ref C) (.ref D) = some b) (h : EvX Γ te (rIns C fs)) : EvX Γ (tCB (rIsi K) (tCons te (tCons (tC (.ref D)) tNil))) (rB b) := fun σ G en => Ev.d (ev_isi (h σ G en) (.own _) fun v H hv => ⟨_, ty_ins c hv, hk⟩)
/-! a if t else b -/
theorem x_ifE {c : Bool} (ht : EvTX Γ tt c) (h1 : c = true → EvX Γ ta r) (h2 : c = false → EvX Γ tb r) : EvX Γ (tIf tt ta tb) r := fun σ G en H e Q q => ht σ G en H e _ fun H1 e1 => by
  cases c with
  | true =>
    show ta σ H1 Q
    exact h1 rfl σ G en H1 (e.trans e1) Q fun v G2 H2 g hv => q v G2 H2 ⟨g.g, fun a o z => g.h a o (e1 a o z), g.i, fun a o z y => g.n a o (e1 a o z) y⟩ hv
  | false =>
    show tb σ H1 Q
    exact h2 rfl σ G en H1 (e.trans e1) Q fun v G2 H2 g hv => q v G2 H2 ⟨g.g, fun a o z => g.h a o (e1 a o z), g.i, fun a o z y => g.n a o (e1 a o z) y⟩ hv
theorem e_ifE (h : ET W Γ M tt (fun c M' => (c = true → EW W Γ M' ta κ ε) ∧ (c = false → EW W Γ M' tb κ ε)) ε) : EW W Γ M (tIf tt ta tb) κ ε := fun B G H σ o en Q q x =>
  h B G H σ o en _ (fun c G' H' M' z o' e' => by
    cases c with
    | true =>
      show ta σ H' Q
      exact z.1 rfl B G' H' σ o' (en.mono e') Q (q.up e') (x.up e')
    | false =>
      show tb σ H' Q
      exact z.2 rfl B G' H' σ o' (en.mono e') Q (q.up e') (x.up e')) x
/-- list(xs) of a list of our own -/
theorem am_listOwn (k : Nat) (hk : M[k]? = some (lstR p rs)) (kk : κ (rL K rs) M) : AM (rListS K) [rV (.ref p)] M κ := fun B G H vs o ra Q q => by
  obtain ⟨x, rfl, hx⟩ := ra1 ra
  obtain rfl : x = V.ref p := hx
  obtain ⟨ws, h1, h2⟩ := o.m _ (List.mem_of_getElem? hk)
  refine ⟨p, ws, rfl, .inl (sq_of h1), fun l hl => ?_⟩
  have g := Gr.new (o := .lst ws) o.i hl
  exact q _ _ _ (rL K rs) M kk (o.gr g) g.g ⟨l, ws, rfl, upd_same, h2.mono g.g⟩
end
/-- for over a range whose bound is read from our own lists -/
theorem w_forRB {α : Type} {κ : Kn} {tu : TS} {Γ Γ' : Ctx} {M : List Re} {W : WX} {ta : TE} {j : Nat} (n : Nat) (P : Nat → α → Prop) (Γi : Nat → α → Ctx) (Mi : Nat → α → List Re) (hb : BorC M Γ Γ') (h : EvX Γ' ta (nI n)) (hn : n ≤ 100000) (a0 : α) (p0 : P 0 a0) (s0 : Sub Γ (Γi 0 a0)) (m0 : M = Mi 0 a0)
    (hs : ∀ i a, i < n → P i a → WP W ((Γi i a).set j (some (nI i))) (Mi i a) tu (kLoop (LI P Γi Mi (i + 1)) κ)) (hd : ∀ a, P n a → κ.nx (Γi n a) (Mi n a)) : WP W Γ M (tFor (iRng1 (tCons ta tNil)) (gName j) tu) κ := fun B G H σ D o en d => by
  refine Mu.s_forR n (bor_i (M := M) o.i) (ea_cons (EvD.ev (h σ _ (hb B G H σ o en))) ea_nil) hn (fun i σ' H' => ∃ G Γ M, Ok B G H' M ∧ En σ' G Γ ∧ LI P Γi Mi i Γ M) (fun H1 e => ⟨G, Γ, M, o.ex e, en, a0, p0, s0, m0⟩) (fun i σ' H' hi ⟨G1, Γ1, M1, o1, en1, a, pa, sa, ma⟩ => ?_) (fun σ' H' ⟨G1, Γ1, M1, o1, en1, a, pa, sa, ma⟩ => ?_)
  · subst ma
    exact hs i a hi pa B G1 H' _ _ o1 ((en1.weak sa).set (r := nI i) rfl j) d.loop
  · subst ma
    exact d.nx _ G1 H' _ _ o1 (en1.weak sa) (hd a pa)
theorem x_lenLm' {Γ : Ctx} {te : TE} {K : PySem.W.Frag} {rs : List Rp} (h : EvX Γ te (rL K rs)) : EvX Γ (tCB (rLenS K) (tCons te tNil)) (nI rs.length) := x_lenL h
/-! ### data as a whole -/
mutual
theorem eqv_refl : ∀ d : PyData, d.canLay0 = true → PyData.eqv d d = true
  | .none, _ => by simp [PyData.eqv]
  | .bool b, _ => by simp [PyData.eqv]
  | .int i, _ => by simp [PyData.eqv]
  | .str s, _ => by simp [PyData.eqv]
  | .list xs, h => by
    unfold PyData.canLay0 at h
    rw [PyData.eqv]
    exact eqvAll_refl xs h
  | .tuple xs, h => by
    unfold PyData.canLay0 at h
    rw [PyData.eqv]
    exact eqvAll_refl xs h
  | .dict _, h => by
    unfold PyData.canLay0 at h
    cases h
theorem eqvAll_refl : ∀ ds : List PyData, PyData.canLayAll0 ds = true → PyData.eqvAll ds ds = true
  | [], _ => by simp [PyData.eqvAll]
  | d :: ds, h => by
    unfold PyData.canLayAll0 at h
    obtain ⟨h1, h2⟩ := Bool.and_eq_true_iff.mp h
    rw [PyData.eqvAll, eqv_refl d h1, eqvAll_refl ds h2]; rfl
end
/-- r stands for the data d, of depth k at most -/
structure Dt (K : PySem.W.Frag) (k : Nat) (r : Rp) (d : PyData) : Prop where
  as : AsD K r d
  sh : Sh k d
section
variable {K : PySem.W.Frag} {k j : Nat} {r : Rp} {d d1 d2 : PyData} {rs : List Rp} {ds : List PyData} {α : Type} {ρ : α → Rp} {δ : α → PyData} {Γ : Ctx} {ta tb : TE}
theorem dt_int (i : Int) : Dt K 1 (rI i) (.int i) := ⟨asd_int i, sh_int i⟩
theorem dt_n (n : Nat) : Dt K 1 (nI n) (.int (n : Int)) := dt_int _
theorem dt_b (b : Bool) : Dt K 1 (rB b) (.bool b) := ⟨asd_bl b, by unfold PyData.canLay0; rfl, by unfold PyData.depth; omega⟩
theorem dt_non : Dt K 1 (rV .non) .none := ⟨asd_non, by unfold PyData.canLay0; rfl, by unfold PyData.depth; omega⟩
theorem dt_s {s : Str} (h : (PyData.str s).canLay0 = true) : Dt K 1 (rS s) (.str s) := ⟨asd_str s, h, by unfold PyData.depth; omega⟩
theorem dt_up (h : Dt K j r d) (hk : j ≤ k) : Dt K k r d := ⟨h.as, h.sh.mono hk⟩
theorem dt_l (h : ∀ a, Dt K k (ρ a) (δ a)) (l : List α) : Dt K (k + 1) (rL K (l.map ρ)) (.list (l.map δ)) := ⟨asd_list (fun a => (h a).as) l, sh_list (fun a => (h a).sh) l⟩
theorem dt_t (h : ∀ a, Dt K k (ρ a) (δ a)) (l : List α) : Dt K (k + 1) (rT K (l.map ρ)) (.tuple (l.map δ)) := ⟨asd_tup (fun a => (h a).as) l, sh_tup (fun a => (h a).sh) l⟩
theorem dt_all (h : Paired (Dt K k) rs ds) : (∀ {H : Hp} {vs : List V}, RA H vs rs → DpAll K H vs ds) ∧ PyData.canLayAll0 ds = true ∧ PyData.depthAll ds ≤ k := by
  induction h with
  | nil => exact ⟨fun h => (by cases h; exact .nil), rfl, Nat.zero_le _⟩
  | cons a t ih =>
    refine ⟨fun h => ?_, ?_, ?_⟩
    · cases h with | cons x y => exact .cons (a.as _ _ x) (ih.1 y)
    · unfold PyData.canLayAll0; rw [a.sh.1, ih.2.1]; rfl
    · unfold PyData.depthAll; exact Nat.max_le.mpr ⟨a.sh.2, ih.2.2⟩
theorem dt_hl (h : Paired (Dt K k) rs ds) : Dt K (k + 1) (rL K rs) (.list ds) := ⟨fun v H q => by
  obtain ⟨a, vs, rfl, h1, h2⟩ := q
  exact .lst (sq_of h1) ((dt_all h).1 h2), by unfold PyData.canLay0; exact (dt_all h).2.1, by
  have := (dt_all h).2.2
  unfold PyData.depth; omega⟩
theorem dt_ht (h : Paired (Dt K k) rs ds) : Dt K (k + 1) (rT K rs) (.tuple ds) := ⟨fun v H q => by
  obtain ⟨a, vs, rfl, h1, h2⟩ := q
  exact .tup h1 ((dt_all h).1 h2), by unfold PyData.canLay0; exact (dt_all h).2.1, by
  have := (dt_all h).2.2
  unfold PyData.depth; omega⟩
theorem dt_ln (l : List Nat) : Dt K 2 (rLn K l) (dLn l) := ⟨asd_ln l, sh_ln l⟩
theorem dt_tn (l : List Nat) : Dt K 2 (rTn K l) (dTn l) := ⟨asd_tn l, sh_tn l⟩
theorem dt_ll (l : List (List Nat)) : Dt K 3 (rLL K l) (dLL l) := ⟨asd_ll l, sh_ll l⟩
theorem dt_p (p : Nat × Nat) : Dt K 2 (rP K p) (dP p) := ⟨asd_p p, sh_p p⟩
theorem dt_li (l : List Int) : Dt K 2 (rLi K l) (.list (l.map .int)) := dt_l dt_int l
/-- both sides stand for the same -/
theorem x_eqS (a1 : Dt K k r d) (hk : k ≤ 64) (ha : EvX Γ ta r) (hb : EvX Γ tb r) : EvX Γ (tOp (rEqD K) ta tb) (rB true) := x_is (x_eqD ha hb a1.as a1.as (a1.sh.ok hk) (a1.sh.ok hk)) (by rw [eqv_refl d a1.sh.1])
theorem x_neS (a1 : Dt K k r d) (hk : k ≤ 64) (ha : EvX Γ ta r) (hb : EvX Γ tb r) : EvX Γ (tOp (rNeD K) ta tb) (rB false) := x_is (x_neD ha hb a1.as a1.as (a1.sh.ok hk) (a1.sh.ok hk)) (by rw [eqv_refl d a1.sh.1]; rfl)
end
end Mu

namespace MuL
open PySem PySem.Spec PyProof.Rows L2 He Evl Mu
structure Tx (P : Program) (K : PySem.W.Frag) (mg : Str → Option Value) where
  C_Table : Addr
  g_Table : mg "Table" = some (.ref C_Table)
  c_Table : Cls K C_Table
  ic_Table : Mu.IsC K C_Table
  sf_Table : PySem.W.selfFirst K C_Table = true
  na_Table_size : NoAttr K C_Table "size"
  na_Table_masks : NoAttr K C_Table "masks"
  na_Table_cells : NoAttr K C_Table "cells"
  C_Person : Addr
  g_Person : mg "Person" = some (.ref C_Person)
  c_Person : Cls K C_Person
  ic_Person : Mu.IsC K C_Person
  sf_Person : PySem.W.selfFirst K C_Person = true
  na_Person_size : NoAttr K C_Person "size"
  na_Person_ears : NoAttr K C_Person "ears"
  na_Person_mouths : NoAttr K C_Person "mouths"
  C_Knower : Addr
  g_Knower : mg "Knower" = some (.ref C_Knower)
  c_Knower : Cls K C_Knower
  ic_Knower : Mu.IsC K C_Knower
  sf_Knower : PySem.W.selfFirst K C_Knower = true
  na_Knower_size : NoAttr K C_Knower "size"
  na_Knower_ears : NoAttr K C_Knower "ears"
  na_Knower_mouths : NoAttr K C_Knower "mouths"
  na_Knower_sure_words : NoAttr K C_Knower "sure_words"
  C_Doubter : Addr
  g_Doubter : mg "Doubter" = some (.ref C_Doubter)
  c_Doubter : Cls K C_Doubter
  ic_Doubter : Mu.IsC K C_Doubter
  sf_Doubter : PySem.W.selfFirst K C_Doubter = true
  na_Doubter_size : NoAttr K C_Doubter "size"
  na_Doubter_ears : NoAttr K C_Doubter "ears"
  na_Doubter_mouths : NoAttr K C_Doubter "mouths"
  C_KnowingDoubter : Addr
  g_KnowingDoubter : mg "KnowingDoubter" = some (.ref C_KnowingDoubter)
  c_KnowingDoubter : Cls K C_KnowingDoubter
  ic_KnowingDoubter : Mu.IsC K C_KnowingDoubter
  sf_KnowingDoubter : PySem.W.selfFirst K C_KnowingDoubter = true
  na_KnowingDoubter_size : NoAttr K C_KnowingDoubter "size"
  na_KnowingDoubter_ears : NoAttr K C_KnowingDoubter "ears"
  na_KnowingDoubter_mouths : NoAttr K C_KnowingDoubter "mouths"
  na_KnowingDoubter_sure_words : NoAttr K C_KnowingDoubter "sure_words"
  f_Person_table : Addr
  fd_Person_table : FuncData
  F_Person_table : FunD K "table" "Person.table" (defArgs s_Person_table) (defBody s_Person_table) (defScope s_Person_table) [] [] f_Person_table fd_Person_table
  pr_Person_table : Mu.PropG K C_Person "table" f_Person_table
  pr_Knower_table : Mu.PropG K C_Knower "table" f_Person_table
  pr_Doubter_table : Mu.PropG K C_Doubter "table" f_Person_table
  pr_KnowingDoubter_table : Mu.PropG K C_KnowingDoubter "table" f_Person_table
  f_Knower_known : Addr
  fd_Knower_known : FuncData
  F_Knower_known : FunD K "known" "Knower.known" (defArgs s_Knower_known) (defBody s_Knower_known) (defScope s_Knower_known) [] [] f_Knower_known fd_Knower_known
  pr_Knower_known : Mu.PropG K C_Knower "known" f_Knower_known
  pr_KnowingDoubter_known : Mu.PropG K C_KnowingDoubter "known" f_Knower_known
  f_bits : Addr
  fd_bits : FuncData
  F_bits : FunD K "bits" "bits" (defArgs s_bits) (defBody s_bits) (defScope s_bits) [] [] f_bits fd_bits
  g_bits : mg "bits" = some (.ref f_bits)
  f_mask_of : Addr
  fd_mask_of : FuncData
  F_mask_of : FunD K "mask_of" "mask_of" (defArgs s_mask_of) (defBody s_mask_of) (defScope s_mask_of) [] [] f_mask_of fd_mask_of
  g_mask_of : mg "mask_of" = some (.ref f_mask_of)
  f_masks_of : Addr
  fd_masks_of : FuncData
  F_masks_of : FunD K "masks_of" "masks_of" (defArgs s_masks_of) (defBody s_masks_of) (defScope s_masks_of) [] [] f_masks_of fd_masks_of
  g_masks_of : mg "masks_of" = some (.ref f_masks_of)
  f_check_size : Addr
  fd_check_size : FuncData
  F_check_size : FunD K "check_size" "check_size" (defArgs s_check_size) (defBody s_check_size) (defScope s_check_size) [] [] f_check_size fd_check_size
  g_check_size : mg "check_size" = some (.ref f_check_size)
  f_Table___init__ : Addr
  fd_Table___init__ : FuncData
  F_Table___init__ : FunD K "__init__" "Table.__init__" (defArgs s_Table___init__) (defBody s_Table___init__) (defScope s_Table___init__) [] [] f_Table___init__ fd_Table___init__
  mk_Table : Mk K C_Table f_Table___init__
  f_Table_rows : Addr
  fd_Table_rows : FuncData
  F_Table_rows : FunD K "rows" "Table.rows" (defArgs s_Table_rows) (defBody s_Table_rows) (defScope s_Table_rows) [] [] f_Table_rows fd_Table_rows
  M_Table_rows : Meth K C_Table "rows" f_Table_rows
  d_Table_rows : Mu.Dun K C_Table "rows" f_Table_rows
  f_all_words : Addr
  fd_all_words : FuncData
  F_all_words : FunD K "all_words" "all_words" (defArgs s_all_words) (defBody s_all_words) (defScope s_all_words) [] [] f_all_words fd_all_words
  g_all_words : mg "all_words" = some (.ref f_all_words)
  f_check_person : Addr
  fd_check_person : FuncData
  F_check_person : FunD K "check_person" "check_person" (defArgs s_check_person) (defBody s_check_person) (defScope s_check_person) [] [] f_check_person fd_check_person
  g_check_person : mg "check_person" = some (.ref f_check_person)
  f_Person___init__ : Addr
  fd_Person___init__ : FuncData
  F_Person___init__ : FunD K "__init__" "Person.__init__" (defArgs s_Person___init__) (defBody s_Person___init__) (defScope s_Person___init__) [] [] f_Person___init__ fd_Person___init__
  mk_Person : Mk K C_Person f_Person___init__
  f_check_word : Addr
  fd_check_word : FuncData
  F_check_word : FunD K "check_word" "check_word" (defArgs s_check_word) (defBody s_check_word) (defScope s_check_word) [] [] f_check_word fd_check_word
  g_check_word : mg "check_word" = some (.ref f_check_word)
  f_Person_heard : Addr
  fd_Person_heard : FuncData
  F_Person_heard : FunD K "heard" "Person.heard" (defArgs s_Person_heard) (defBody s_Person_heard) (defScope s_Person_heard) [] [] f_Person_heard fd_Person_heard
  M_Person_heard : Meth K C_Person "heard" f_Person_heard
  d_Person_heard : Mu.Dun K C_Person "heard" f_Person_heard
  f_Person_said : Addr
  fd_Person_said : FuncData
  F_Person_said : FunD K "said" "Person.said" (defArgs s_Person_said) (defBody s_Person_said) (defScope s_Person_said) [] [] f_Person_said fd_Person_said
  M_Person_said : Meth K C_Person "said" f_Person_said
  d_Person_said : Mu.Dun K C_Person "said" f_Person_said
  f__law_is_int : Addr
  fd__law_is_int : FuncData
  F__law_is_int : FunD K "_law_is_int" "_law_is_int" (defArgs s__law_is_int) (defBody s__law_is_int) (defScope s__law_is_int) [] [] f__law_is_int fd__law_is_int
  g__law_is_int : mg "_law_is_int" = some (.ref f__law_is_int)
  f__law_is_words : Addr
  fd__law_is_words : FuncData
  F__law_is_words : FunD K "_law_is_words" "_law_is_words" (defArgs s__law_is_words) (defBody s__law_is_words) (defScope s__law_is_words) [] [] f__law_is_words fd__law_is_words
  g__law_is_words : mg "_law_is_words" = some (.ref f__law_is_words)
  f__law_same : Addr
  fd__law_same : FuncData
  F__law_same : FunD K "_law_same" "_law_same" (defArgs s__law_same) (defBody s__law_same) (defScope s__law_same) [] [] f__law_same fd__law_same
  g__law_same : mg "_law_same" = some (.ref f__law_same)
  f__law_box : Addr
  fd__law_box : FuncData
  F__law_box : FunD K "_law_box" "_law_box" (defArgs s__law_box) (defBody s__law_box) (defScope s__law_box) [] [] f__law_box fd__law_box
  g__law_box : mg "_law_box" = some (.ref f__law_box)
  f__law_take : Addr
  fd__law_take : FuncData
  F__law_take : FunD K "_law_take" "_law_take" (defArgs s__law_take) (defBody s__law_take) (defScope s__law_take) [] [] f__law_take fd__law_take
  g__law_take : mg "_law_take" = some (.ref f__law_take)
  f__law_words : Addr
  fd__law_words : FuncData
  F__law_words : FunD K "_law_words" "_law_words" (defArgs s__law_words) (defBody s__law_words) (defScope s__law_words) [] [] f__law_words fd__law_words
  g__law_words : mg "_law_words" = some (.ref f__law_words)
  f__law_outs : Addr
  fd__law_outs : FuncData
  F__law_outs : FunD K "_law_outs" "_law_outs" (defArgs s__law_outs) (defBody s__law_outs) (defScope s__law_outs) [] [] f__law_outs fd__law_outs
  g__law_outs : mg "_law_outs" = some (.ref f__law_outs)
  f__law_person : Addr
  fd__law_person : FuncData
  F__law_person : FunD K "_law_person" "_law_person" (defArgs s__law_person) (defBody s__law_person) (defScope s__law_person) [] [] f__law_person fd__law_person
  g__law_person : mg "_law_person" = some (.ref f__law_person)
  f__law_mixed : Addr
  fd__law_mixed : FuncData
  F__law_mixed : FunD K "_law_mixed" "_law_mixed" (defArgs s__law_mixed) (defBody s__law_mixed) (defScope s__law_mixed) [] [] f__law_mixed fd__law_mixed
  g__law_mixed : mg "_law_mixed" = some (.ref f__law_mixed)
  f__law_far : Addr
  fd__law_far : FuncData
  F__law_far : FunD K "_law_far" "_law_far" (defArgs s__law_far) (defBody s__law_far) (defScope s__law_far) [] [] f__law_far fd__law_far
  g__law_far : mg "_law_far" = some (.ref f__law_far)
  f__law_single : Addr
  fd__law_single : FuncData
  F__law_single : FunD K "_law_single" "_law_single" (defArgs s__law_single) (defBody s__law_single) (defScope s__law_single) [] [] f__law_single fd__law_single
  g__law_single : mg "_law_single" = some (.ref f__law_single)
  f__law_spoil : Addr
  fd__law_spoil : FuncData
  F__law_spoil : FunD K "_law_spoil" "_law_spoil" (defArgs s__law_spoil) (defBody s__law_spoil) (defScope s__law_spoil) [] [] f__law_spoil fd__law_spoil
  g__law_spoil : mg "_law_spoil" = some (.ref f__law_spoil)
  f__law_is_kind : Addr
  fd__law_is_kind : FuncData
  F__law_is_kind : FunD K "_law_is_kind" "_law_is_kind" (defArgs s__law_is_kind) (defBody s__law_is_kind) (defScope s__law_is_kind) [] [] f__law_is_kind fd__law_is_kind
  g__law_is_kind : mg "_law_is_kind" = some (.ref f__law_is_kind)
  f__law_word_error : Addr
  fd__law_word_error : FuncData
  F__law_word_error : FunD K "_law_word_error" "_law_word_error" (defArgs s__law_word_error) (defBody s__law_word_error) (defScope s__law_word_error) [] [] f__law_word_error fd__law_word_error
  g__law_word_error : mg "_law_word_error" = some (.ref f__law_word_error)
  f_law : Addr
  fd_law : FuncData
  F_law : FunD K "law" "law" (defArgs s_law) (defBody s_law) (defScope s_law) [] [] f_law fd_law
  g_law : mg "law" = some (.ref f_law)
  pf : Mu.PF P "/claim/cut.py"
  m_super : mg "super" = none
  C_BadPerson : Addr
  g_BadPerson : mg "BadPerson" = some (.ref C_BadPerson)
  C_UnknownWord : Addr
  g_UnknownWord : mg "UnknownWord" = some (.ref C_UnknownWord)
  C_BadSize : Addr
  g_BadSize : mg "BadSize" = some (.ref C_BadSize)
  C_BadTable : Addr
  g_BadTable : mg "BadTable" = some (.ref C_BadTable)
  C_SizeMismatch : Addr
  g_SizeMismatch : mg "SizeMismatch" = some (.ref C_SizeMismatch)
  C_BadCount : Addr
  g_BadCount : mg "BadCount" = some (.ref C_BadCount)
  C_BadLetter : Addr
  g_BadLetter : mg "BadLetter" = some (.ref C_BadLetter)
  C_UnknownPerson : Addr
  g_UnknownPerson : mg "UnknownPerson" = some (.ref C_UnknownPerson)
  C_TooMany : Addr
  g_TooMany : mg "TooMany" = some (.ref C_TooMany)
  C_BadPattern : Addr
  g_BadPattern : mg "BadPattern" = some (.ref C_BadPattern)
  C_SameWord : Addr
  g_SameWord : mg "SameWord" = some (.ref C_SameWord)
  C_UnknownClue : Addr
  g_UnknownClue : mg "UnknownClue" = some (.ref C_UnknownClue)
  C_BadPlace : Addr
  g_BadPlace : mg "BadPlace" = some (.ref C_BadPlace)
  C_TooLong : Addr
  g_TooLong : mg "TooLong" = some (.ref C_TooLong)
  C_Melted : Addr
  g_Melted : mg "Melted" = some (.ref C_Melted)
  C_NothingToUndo : Addr
  g_NothingToUndo : mg "NothingToUndo" = some (.ref C_NothingToUndo)
  C_NothingToRedo : Addr
  g_NothingToRedo : mg "NothingToRedo" = some (.ref C_NothingToRedo)
  C_Refused : Addr
  g_Refused : mg "Refused" = some (.ref C_Refused)
  C_BadLine : Addr
  g_BadLine : mg "BadLine" = some (.ref C_BadLine)
  C_MurmurError : Addr
  g_MurmurError : mg "MurmurError" = some (.ref C_MurmurError)
  f_BadPerson___init__ : Addr
  fd_BadPerson___init__ : FuncData
  cda_BadPerson___init__ : Addr
  cc_BadPerson___init__ : Addr
  S_BadPerson___init__ : Mu.FunS K "__init__" "BadPerson.__init__" (defArgs s_BadPerson___init__) (defBody s_BadPerson___init__) (defScope s_BadPerson___init__) "/claim/cut.py" C_BadPerson f_BadPerson___init__ fd_BadPerson___init__ cda_BadPerson___init__ cc_BadPerson___init__
  err_BadPerson : Mu.ErrC K C_BadPerson f_BadPerson___init__
  nf_BadPerson_part : PySem.W.findIn K (.ref C_BadPerson) "part" = some none
  xm_BadPerson : PySem.W.exmOne K (.ref C_BadPerson) (.ref C_BadPerson) = some true
  sg_BadPerson : Mu.Sg K [C_BadSize, C_BadTable, C_UnknownWord, C_SizeMismatch, C_BadCount, C_BadPerson, C_BadLetter, C_UnknownPerson, C_TooMany, C_BadPattern, C_SameWord, C_UnknownClue, C_BadPlace, C_TooLong, C_Melted, C_NothingToUndo, C_NothingToRedo, C_Refused, C_BadLine] C_MurmurError C_BadPerson
  f_UnknownWord___init__ : Addr
  fd_UnknownWord___init__ : FuncData
  cda_UnknownWord___init__ : Addr
  cc_UnknownWord___init__ : Addr
  S_UnknownWord___init__ : Mu.FunS K "__init__" "UnknownWord.__init__" (defArgs s_UnknownWord___init__) (defBody s_UnknownWord___init__) (defScope s_UnknownWord___init__) "/claim/cut.py" C_UnknownWord f_UnknownWord___init__ fd_UnknownWord___init__ cda_UnknownWord___init__ cc_UnknownWord___init__
  err_UnknownWord : Mu.ErrC K C_UnknownWord f_UnknownWord___init__
  nf_UnknownWord_word : PySem.W.findIn K (.ref C_UnknownWord) "word" = some none
  xm_UnknownWord : PySem.W.exmOne K (.ref C_UnknownWord) (.ref C_UnknownWord) = some true
  sg_UnknownWord : Mu.Sg K [C_BadSize, C_BadTable, C_UnknownWord, C_SizeMismatch, C_BadCount, C_BadPerson, C_BadLetter, C_UnknownPerson, C_TooMany, C_BadPattern, C_SameWord, C_UnknownClue, C_BadPlace, C_TooLong, C_Melted, C_NothingToUndo, C_NothingToRedo, C_Refused, C_BadLine] C_MurmurError C_UnknownWord
  f_Knower___init__ : Addr
  fd_Knower___init__ : FuncData
  cda_Knower___init__ : Addr
  cc_Knower___init__ : Addr
  S_Knower___init__ : Mu.FunS K "__init__" "Knower.__init__" (defArgs s_Knower___init__) (defBody s_Knower___init__) (defScope s_Knower___init__) "/claim/cut.py" C_Knower f_Knower___init__ fd_Knower___init__ cda_Knower___init__ cc_Knower___init__
  mk_Knower : Mk K C_Knower f_Knower___init__
  f_Doubter_said : Addr
  fd_Doubter_said : FuncData
  cda_Doubter_said : Addr
  cc_Doubter_said : Addr
  S_Doubter_said : Mu.FunS K "said" "Doubter.said" (defArgs s_Doubter_said) (defBody s_Doubter_said) (defScope s_Doubter_said) "/claim/cut.py" C_Doubter f_Doubter_said fd_Doubter_said cda_Doubter_said cc_Doubter_said
  M_Doubter_said : Meth K C_Doubter "said" f_Doubter_said
  f_Knower_said : Addr
  fd_Knower_said : FuncData
  cda_Knower_said : Addr
  cc_Knower_said : Addr
  S_Knower_said : Mu.FunS K "said" "Knower.said" (defArgs s_Knower_said) (defBody s_Knower_said) (defScope s_Knower_said) "/claim/cut.py" C_Knower f_Knower_said fd_Knower_said cda_Knower_said cc_Knower_said
  M_Knower_said : Meth K C_Knower "said" f_Knower_said
  f_KnowingDoubter_said : Addr
  fd_KnowingDoubter_said : FuncData
  cda_KnowingDoubter_said : Addr
  cc_KnowingDoubter_said : Addr
  S_KnowingDoubter_said : Mu.FunS K "said" "KnowingDoubter.said" (defArgs s_KnowingDoubter_said) (defBody s_KnowingDoubter_said) (defScope s_KnowingDoubter_said) "/claim/cut.py" C_KnowingDoubter f_KnowingDoubter_said fd_KnowingDoubter_said cda_KnowingDoubter_said cc_KnowingDoubter_said
  M_KnowingDoubter_said : Meth K C_KnowingDoubter "said" f_KnowingDoubter_said
  mk_Doubter : Mk K C_Doubter f_Person___init__
  mk_KnowingDoubter : Mk K C_KnowingDoubter f_Knower___init__
  M_Knower_heard : Meth K C_Knower "heard" f_Person_heard
  M_Doubter_heard : Meth K C_Doubter "heard" f_Person_heard
  M_KnowingDoubter_heard : Meth K C_KnowingDoubter "heard" f_Person_heard
  kit_Knower_Person : PySem.W.kitOne K (.ref C_Knower) (.ref C_Person) = some true
  kit_Doubter_Person : PySem.W.kitOne K (.ref C_Doubter) (.ref C_Person) = some true
  kit_KnowingDoubter_Person : PySem.W.kitOne K (.ref C_KnowingDoubter) (.ref C_Person) = some true
  kit_Knower_Doubter : PySem.W.kitOne K (.ref C_Knower) (.ref C_Doubter) = some false
  kit_Doubter_Knower : PySem.W.kitOne K (.ref C_Doubter) (.ref C_Knower) = some false
  kit_KnowingDoubter_Knower : PySem.W.kitOne K (.ref C_KnowingDoubter) (.ref C_Knower) = some true
  kit_KnowingDoubter_Doubter : PySem.W.kitOne K (.ref C_KnowingDoubter) (.ref C_Doubter) = some true
  sup_Knower_Knower___init__ : Mu.SupF K C_Knower C_Knower "__init__" f_Person___init__
  sup_KnowingDoubter_Knower___init__ : Mu.SupF K C_KnowingDoubter C_Knower "__init__" f_Person___init__
  sup_Doubter_Doubter_said : Mu.SupF K C_Doubter C_Doubter "said" f_Person_said
  sup_KnowingDoubter_Doubter_said : Mu.SupF K C_KnowingDoubter C_Doubter "said" f_Person_said
  sup_Knower_Knower_said : Mu.SupF K C_Knower C_Knower "said" f_Person_said
  sup_KnowingDoubter_Knower_said : Mu.SupF K C_KnowingDoubter C_Knower "said" f_Doubter_said
  sup_KnowingDoubter_KnowingDoubter_said : Mu.SupF K C_KnowingDoubter C_KnowingDoubter "said" f_Knower_said
  ty_Doubter_said : PySem.W.typeIn K (.ref f_Doubter_said) = some (.type "function")
  ty_Knower_said : PySem.W.typeIn K (.ref f_Knower_said) = some (.type "function")
  ty_Person___init__ : PySem.W.typeIn K (.ref f_Person___init__) = some (.type "function")
  ty_Person_said : PySem.W.typeIn K (.ref f_Person_said) = some (.type "function")
  m_len : mg "len" = none
  m_range : mg "range" = none
  m_tuple : mg "tuple" = none
  m_list : mg "list" = none
  m_int : mg "int" = none
  m_abs : mg "abs" = none
  m_enumerate : mg "enumerate" = none
  m_isinstance : mg "isinstance" = none
  m_bool : mg "bool" = none
  m_str : mg "str" = none
  m_iter : mg "iter" = none
  m_ValueError : mg "ValueError" = none
  gi_GREATEST_SIZE : ∃ t, mg "GREATEST_SIZE" = some (.int 6 t)
theorem mkTx {P : Program} {K : PySem.W.Frag} {h : Heap} {mg : Str → Option Value} (pf : Mu.PF P "/claim/cut.py") (X : K.In h) (G : h.Ns mainGlobals mg) (c : Mu.SaysP fa ex fn sn an K) : ∃ T : Tx P K mg, T.f_law = fAd K ("law", none) := by
  obtain ⟨fd_Person_table, F_Person_table⟩ := c.any_ 0 (d := d_Person_table) rfl
  obtain ⟨fd_Knower_known, F_Knower_known⟩ := c.any_ 1 (d := d_Knower_known) rfl
  obtain ⟨fd_bits, F_bits⟩ := c.def_ 0 (d := d_bits) rfl
  obtain ⟨fd_mask_of, F_mask_of⟩ := c.def_ 1 (d := d_mask_of) rfl
  obtain ⟨fd_masks_of, F_masks_of⟩ := c.def_ 2 (d := d_masks_of) rfl
  obtain ⟨fd_check_size, F_check_size⟩ := c.def_ 3 (d := d_check_size) rfl
  obtain ⟨fd_Table___init__, F_Table___init__⟩ := c.def_ 4 (d := d_Table___init__) rfl
  obtain ⟨fd_Table_rows, F_Table_rows⟩ := c.def_ 5 (d := d_Table_rows) rfl
  obtain ⟨fd_all_words, F_all_words⟩ := c.def_ 6 (d := d_all_words) rfl
  obtain ⟨fd_check_person, F_check_person⟩ := c.def_ 7 (d := d_check_person) rfl
  obtain ⟨fd_Person___init__, F_Person___init__⟩ := c.def_ 8 (d := d_Person___init__) rfl
  obtain ⟨fd_check_word, F_check_word⟩ := c.def_ 9 (d := d_check_word) rfl
  obtain ⟨fd_Person_heard, F_Person_heard⟩ := c.def_ 10 (d := d_Person_heard) rfl
  obtain ⟨fd_Person_said, F_Person_said⟩ := c.def_ 11 (d := d_Person_said) rfl
  obtain ⟨fd__law_is_int, F__law_is_int⟩ := c.def_ 12 (d := d__law_is_int) rfl
  obtain ⟨fd__law_is_words, F__law_is_words⟩ := c.def_ 13 (d := d__law_is_words) rfl
  obtain ⟨fd__law_same, F__law_same⟩ := c.def_ 14 (d := d__law_same) rfl
  obtain ⟨fd__law_box, F__law_box⟩ := c.def_ 15 (d := d__law_box) rfl
  obtain ⟨fd__law_take, F__law_take⟩ := c.def_ 16 (d := d__law_take) rfl
  obtain ⟨fd__law_words, F__law_words⟩ := c.def_ 17 (d := d__law_words) rfl
  obtain ⟨fd__law_outs, F__law_outs⟩ := c.def_ 18 (d := d__law_outs) rfl
  obtain ⟨fd__law_person, F__law_person⟩ := c.def_ 19 (d := d__law_person) rfl
  obtain ⟨fd__law_mixed, F__law_mixed⟩ := c.def_ 20 (d := d__law_mixed) rfl
  obtain ⟨fd__law_far, F__law_far⟩ := c.def_ 21 (d := d__law_far) rfl
  obtain ⟨fd__law_single, F__law_single⟩ := c.def_ 22 (d := d__law_single) rfl
  obtain ⟨fd__law_spoil, F__law_spoil⟩ := c.def_ 23 (d := d__law_spoil) rfl
  obtain ⟨fd__law_is_kind, F__law_is_kind⟩ := c.def_ 24 (d := d__law_is_kind) rfl
  obtain ⟨fd__law_word_error, F__law_word_error⟩ := c.def_ 25 (d := d__law_word_error) rfl
  obtain ⟨fd_law, F_law⟩ := c.def_ 26 (d := d_law) rfl
  obtain ⟨fd_BadPerson___init__, cda_BadPerson___init__, cc_BadPerson___init__, S_BadPerson___init__⟩ := c.sup_ 0 (d := d_BadPerson___init__) rfl
  obtain ⟨fd_UnknownWord___init__, cda_UnknownWord___init__, cc_UnknownWord___init__, S_UnknownWord___init__⟩ := c.sup_ 1 (d := d_UnknownWord___init__) rfl
  obtain ⟨fd_Knower___init__, cda_Knower___init__, cc_Knower___init__, S_Knower___init__⟩ := c.sup_ 2 (d := d_Knower___init__) rfl
  obtain ⟨fd_Doubter_said, cda_Doubter_said, cc_Doubter_said, S_Doubter_said⟩ := c.sup_ 3 (d := d_Doubter_said) rfl
  obtain ⟨fd_Knower_said, cda_Knower_said, cc_Knower_said, S_Knower_said⟩ := c.sup_ 4 (d := d_Knower_said) rfl
  obtain ⟨fd_KnowingDoubter_said, cda_KnowingDoubter_said, cc_KnowingDoubter_said, S_KnowingDoubter_said⟩ := c.sup_ 5 (d := d_KnowingDoubter_said) rfl
  exact ⟨⟨ga K "Table", glo_ok X G (c.fact 0 (f := .glo "Table") rfl), cls_ok (c.fact 1 (f := .cls "Table") rfl), Mu.isCB_ok (cls_ok (c.fact 2 (f := .cls "Table") rfl)) (c.exf 0 (f := (fun K => Mu.isCB K (ga K "Table"))) rfl), (c.exf 1 (f := (fun K => PySem.W.selfFirst K (ga K "Table"))) rfl), noat_ok (c.fact 3 (f := .noat "Table" "size") rfl), noat_ok (c.fact 4 (f := .noat "Table" "masks") rfl), noat_ok (c.fact 5 (f := .noat "Table" "cells") rfl), ga K "Person", glo_ok X G (c.fact 6 (f := .glo "Person") rfl), cls_ok (c.fact 7 (f := .cls "Person") rfl), Mu.isCB_ok (cls_ok (c.fact 8 (f := .cls "Person") rfl)) (c.exf 2 (f := (fun K => Mu.isCB K (ga K "Person"))) rfl), (c.exf 3 (f := (fun K => PySem.W.selfFirst K (ga K "Person"))) rfl), noat_ok (c.fact 9 (f := .noat "Person" "size") rfl), noat_ok (c.fact 10 (f := .noat "Person" "ears") rfl), noat_ok (c.fact 11 (f := .noat "Person" "mouths") rfl), ga K "Knower", glo_ok X G (c.fact 12 (f := .glo "Knower") rfl), cls_ok (c.fact 13 (f := .cls "Knower") rfl), Mu.isCB_ok (cls_ok (c.fact 14 (f := .cls "Knower") rfl)) (c.exf 4 (f := (fun K => Mu.isCB K (ga K "Knower"))) rfl), (c.exf 5 (f := (fun K => PySem.W.selfFirst K (ga K "Knower"))) rfl), noat_ok (c.fact 15 (f := .noat "Knower" "size") rfl), noat_ok (c.fact 16 (f := .noat "Knower" "ears") rfl), noat_ok (c.fact 17 (f := .noat "Knower" "mouths") rfl), noat_ok (c.fact 18 (f := .noat "Knower" "sure_words") rfl), ga K "Doubter", glo_ok X G (c.fact 19 (f := .glo "Doubter") rfl), cls_ok (c.fact 20 (f := .cls "Doubter") rfl), Mu.isCB_ok (cls_ok (c.fact 21 (f := .cls "Doubter") rfl)) (c.exf 6 (f := (fun K => Mu.isCB K (ga K "Doubter"))) rfl), (c.exf 7 (f := (fun K => PySem.W.selfFirst K (ga K "Doubter"))) rfl), noat_ok (c.fact 22 (f := .noat "Doubter" "size") rfl), noat_ok (c.fact 23 (f := .noat "Doubter" "ears") rfl), noat_ok (c.fact 24 (f := .noat "Doubter" "mouths") rfl), ga K "KnowingDoubter", glo_ok X G (c.fact 25 (f := .glo "KnowingDoubter") rfl), cls_ok (c.fact 26 (f := .cls "KnowingDoubter") rfl), Mu.isCB_ok (cls_ok (c.fact 27 (f := .cls "KnowingDoubter") rfl)) (c.exf 8 (f := (fun K => Mu.isCB K (ga K "KnowingDoubter"))) rfl), (c.exf 9 (f := (fun K => PySem.W.selfFirst K (ga K "KnowingDoubter"))) rfl), noat_ok (c.fact 28 (f := .noat "KnowingDoubter" "size") rfl), noat_ok (c.fact 29 (f := .noat "KnowingDoubter" "ears") rfl), noat_ok (c.fact 30 (f := .noat "KnowingDoubter" "mouths") rfl), noat_ok (c.fact 31 (f := .noat "KnowingDoubter" "sure_words") rfl), Mu.pAd K "Person" "table" "property", fd_Person_table, F_Person_table, Mu.propB_ok (c.exf 10 (f := (fun K => Mu.propB K (ga K "Person") "table" (Mu.pAd K "Person" "table" "property"))) rfl), Mu.propB_ok (c.exf 11 (f := (fun K => Mu.propB K (ga K "Knower") "table" (Mu.pAd K "Person" "table" "property"))) rfl), Mu.propB_ok (c.exf 12 (f := (fun K => Mu.propB K (ga K "Doubter") "table" (Mu.pAd K "Person" "table" "property"))) rfl), Mu.propB_ok (c.exf 13 (f := (fun K => Mu.propB K (ga K "KnowingDoubter") "table" (Mu.pAd K "Person" "table" "property"))) rfl), Mu.pAd K "Knower" "known" "property", fd_Knower_known, F_Knower_known, Mu.propB_ok (c.exf 14 (f := (fun K => Mu.propB K (ga K "Knower") "known" (Mu.pAd K "Knower" "known" "property"))) rfl), Mu.propB_ok (c.exf 15 (f := (fun K => Mu.propB K (ga K "KnowingDoubter") "known" (Mu.pAd K "Knower" "known" "property"))) rfl), fAd K ("bits", none), fd_bits, F_bits, glo_ok X G (c.fact 32 (f := .glo "bits") rfl), fAd K ("mask_of", none), fd_mask_of, F_mask_of, glo_ok X G (c.fact 33 (f := .glo "mask_of") rfl), fAd K ("masks_of", none), fd_masks_of, F_masks_of, glo_ok X G (c.fact 34 (f := .glo "masks_of") rfl), fAd K ("check_size", none), fd_check_size, F_check_size, glo_ok X G (c.fact 35 (f := .glo "check_size") rfl), fAd K ("Table", some "__init__"), fd_Table___init__, F_Table___init__, mkr_ok (c.fact 36 (f := .mkr "Table") rfl), fAd K ("Table", some "rows"), fd_Table_rows, F_Table_rows, meth_ok (c.fact 37 (f := .meth "Table" "rows") rfl), ⟨(meth_ok (c.fact 37 (f := .meth "Table" "rows") rfl)).1, (meth_ok (c.fact 37 (f := .meth "Table" "rows") rfl)).2⟩, fAd K ("all_words", none), fd_all_words, F_all_words, glo_ok X G (c.fact 38 (f := .glo "all_words") rfl), fAd K ("check_person", none), fd_check_person, F_check_person, glo_ok X G (c.fact 39 (f := .glo "check_person") rfl), fAd K ("Person", some "__init__"), fd_Person___init__, F_Person___init__, mkr_ok (c.fact 40 (f := .mkr "Person") rfl), fAd K ("check_word", none), fd_check_word, F_check_word, glo_ok X G (c.fact 41 (f := .glo "check_word") rfl), fAd K ("Person", some "heard"), fd_Person_heard, F_Person_heard, meth_ok (c.fact 42 (f := .meth "Person" "heard") rfl), ⟨(meth_ok (c.fact 42 (f := .meth "Person" "heard") rfl)).1, (meth_ok (c.fact 42 (f := .meth "Person" "heard") rfl)).2⟩, fAd K ("Person", some "said"), fd_Person_said, F_Person_said, meth_ok (c.fact 43 (f := .meth "Person" "said") rfl), ⟨(meth_ok (c.fact 43 (f := .meth "Person" "said") rfl)).1, (meth_ok (c.fact 43 (f := .meth "Person" "said") rfl)).2⟩, fAd K ("_law_is_int", none), fd__law_is_int, F__law_is_int, glo_ok X G (c.fact 44 (f := .glo "_law_is_int") rfl), fAd K ("_law_is_words", none), fd__law_is_words, F__law_is_words, glo_ok X G (c.fact 45 (f := .glo "_law_is_words") rfl), fAd K ("_law_same", none), fd__law_same, F__law_same, glo_ok X G (c.fact 46 (f := .glo "_law_same") rfl), fAd K ("_law_box", none), fd__law_box, F__law_box, glo_ok X G (c.fact 47 (f := .glo "_law_box") rfl), fAd K ("_law_take", none), fd__law_take, F__law_take, glo_ok X G (c.fact 48 (f := .glo "_law_take") rfl), fAd K ("_law_words", none), fd__law_words, F__law_words, glo_ok X G (c.fact 49 (f := .glo "_law_words") rfl), fAd K ("_law_outs", none), fd__law_outs, F__law_outs, glo_ok X G (c.fact 50 (f := .glo "_law_outs") rfl), fAd K ("_law_person", none), fd__law_person, F__law_person, glo_ok X G (c.fact 51 (f := .glo "_law_person") rfl), fAd K ("_law_mixed", none), fd__law_mixed, F__law_mixed, glo_ok X G (c.fact 52 (f := .glo "_law_mixed") rfl), fAd K ("_law_far", none), fd__law_far, F__law_far, glo_ok X G (c.fact 53 (f := .glo "_law_far") rfl), fAd K ("_law_single", none), fd__law_single, F__law_single, glo_ok X G (c.fact 54 (f := .glo "_law_single") rfl), fAd K ("_law_spoil", none), fd__law_spoil, F__law_spoil, glo_ok X G (c.fact 55 (f := .glo "_law_spoil") rfl), fAd K ("_law_is_kind", none), fd__law_is_kind, F__law_is_kind, glo_ok X G (c.fact 56 (f := .glo "_law_is_kind") rfl), fAd K ("_law_word_error", none), fd__law_word_error, F__law_word_error, glo_ok X G (c.fact 57 (f := .glo "_law_word_error") rfl), fAd K ("law", none), fd_law, F_law, glo_ok X G (c.fact 58 (f := .glo "law") rfl), pf, free_ok X G (c.fact 59 (f := .free "super") rfl), ga K "BadPerson", glo_ok X G (c.fact 60 (f := .glo "BadPerson") rfl), ga K "UnknownWord", glo_ok X G (c.fact 61 (f := .glo "UnknownWord") rfl), ga K "BadSize", glo_ok X G (c.fact 62 (f := .glo "BadSize") rfl), ga K "BadTable", glo_ok X G (c.fact 63 (f := .glo "BadTable") rfl), ga K "SizeMismatch", glo_ok X G (c.fact 64 (f := .glo "SizeMismatch") rfl), ga K "BadCount", glo_ok X G (c.fact 65 (f := .glo "BadCount") rfl), ga K "BadLetter", glo_ok X G (c.fact 66 (f := .glo "BadLetter") rfl), ga K "UnknownPerson", glo_ok X G (c.fact 67 (f := .glo "UnknownPerson") rfl), ga K "TooMany", glo_ok X G (c.fact 68 (f := .glo "TooMany") rfl), ga K "BadPattern", glo_ok X G (c.fact 69 (f := .glo "BadPattern") rfl), ga K "SameWord", glo_ok X G (c.fact 70 (f := .glo "SameWord") rfl), ga K "UnknownClue", glo_ok X G (c.fact 71 (f := .glo "UnknownClue") rfl), ga K "BadPlace", glo_ok X G (c.fact 72 (f := .glo "BadPlace") rfl), ga K "TooLong", glo_ok X G (c.fact 73 (f := .glo "TooLong") rfl), ga K "Melted", glo_ok X G (c.fact 74 (f := .glo "Melted") rfl), ga K "NothingToUndo", glo_ok X G (c.fact 75 (f := .glo "NothingToUndo") rfl), ga K "NothingToRedo", glo_ok X G (c.fact 76 (f := .glo "NothingToRedo") rfl), ga K "Refused", glo_ok X G (c.fact 77 (f := .glo "Refused") rfl), ga K "BadLine", glo_ok X G (c.fact 78 (f := .glo "BadLine") rfl), ga K "MurmurError", glo_ok X G (c.fact 79 (f := .glo "MurmurError") rfl), fAd K ("BadPerson", some "__init__"), fd_BadPerson___init__, cda_BadPerson___init__, cc_BadPerson___init__, S_BadPerson___init__, Mu.errB_ok (c.exf 16 (f := (fun K => Mu.errB K (ga K "BadPerson") (fAd K ("BadPerson", some "__init__")))) rfl), He.eqO_ok (c.exf 17 (f := (fun K => He.eqO (PySem.W.findIn K (.ref (ga K "BadPerson")) "part") (some none))) rfl), of_decide_eq_true (c.exf 18 (f := (fun K => decide (PySem.W.exmOne K (.ref (ga K "BadPerson")) (.ref (ga K "BadPerson")) = some true))) rfl), Mu.sgB_ok (c.exf 19 (f := (fun K => Mu.sgB K [ga K "BadSize", ga K "BadTable", ga K "UnknownWord", ga K "SizeMismatch", ga K "BadCount", ga K "BadPerson", ga K "BadLetter", ga K "UnknownPerson", ga K "TooMany", ga K "BadPattern", ga K "SameWord", ga K "UnknownClue", ga K "BadPlace", ga K "TooLong", ga K "Melted", ga K "NothingToUndo", ga K "NothingToRedo", ga K "Refused", ga K "BadLine"] (ga K "MurmurError") (ga K "BadPerson"))) rfl), fAd K ("UnknownWord", some "__init__"), fd_UnknownWord___init__, cda_UnknownWord___init__, cc_UnknownWord___init__, S_UnknownWord___init__, Mu.errB_ok (c.exf 20 (f := (fun K => Mu.errB K (ga K "UnknownWord") (fAd K ("UnknownWord", some "__init__")))) rfl), He.eqO_ok (c.exf 21 (f := (fun K => He.eqO (PySem.W.findIn K (.ref (ga K "UnknownWord")) "word") (some none))) rfl), of_decide_eq_true (c.exf 22 (f := (fun K => decide (PySem.W.exmOne K (.ref (ga K "UnknownWord")) (.ref (ga K "UnknownWord")) = some true))) rfl), Mu.sgB_ok (c.exf 23 (f := (fun K => Mu.sgB K [ga K "BadSize", ga K "BadTable", ga K "UnknownWord", ga K "SizeMismatch", ga K "BadCount", ga K "BadPerson", ga K "BadLetter", ga K "UnknownPerson", ga K "TooMany", ga K "BadPattern", ga K "SameWord", ga K "UnknownClue", ga K "BadPlace", ga K "TooLong", ga K "Melted", ga K "NothingToUndo", ga K "NothingToRedo", ga K "Refused", ga K "BadLine"] (ga K "MurmurError") (ga K "UnknownWord"))) rfl), fAd K ("Knower", some "__init__"), fd_Knower___init__, cda_Knower___init__, cc_Knower___init__, S_Knower___init__, mkr_ok (c.fact 80 (f := .mkr "Knower") rfl), fAd K ("Doubter", some "said"), fd_Doubter_said, cda_Doubter_said, cc_Doubter_said, S_Doubter_said, meth_ok (c.fact 81 (f := .meth "Doubter" "said") rfl), fAd K ("Knower", some "said"), fd_Knower_said, cda_Knower_said, cc_Knower_said, S_Knower_said, meth_ok (c.fact 82 (f := .meth "Knower" "said") rfl), fAd K ("KnowingDoubter", some "said"), fd_KnowingDoubter_said, cda_KnowingDoubter_said, cc_KnowingDoubter_said, S_KnowingDoubter_said, meth_ok (c.fact 83 (f := .meth "KnowingDoubter" "said") rfl), Mu.mkB_ok (c.exf 24 (f := (fun K => Mu.mkB K (ga K "Doubter") (fAd K ("Person", some "__init__")))) rfl), Mu.mkB_ok (c.exf 25 (f := (fun K => Mu.mkB K (ga K "KnowingDoubter") (fAd K ("Knower", some "__init__")))) rfl), Mu.methB_ok (c.exf 26 (f := (fun K => Mu.methB K (ga K "Knower") "heard" (fAd K ("Person", some "heard")))) rfl), Mu.methB_ok (c.exf 27 (f := (fun K => Mu.methB K (ga K "Doubter") "heard" (fAd K ("Person", some "heard")))) rfl), Mu.methB_ok (c.exf 28 (f := (fun K => Mu.methB K (ga K "KnowingDoubter") "heard" (fAd K ("Person", some "heard")))) rfl), of_decide_eq_true (c.exf 29 (f := (fun K => decide (PySem.W.kitOne K (.ref (ga K "Knower")) (.ref (ga K "Person")) = some true))) rfl), of_decide_eq_true (c.exf 30 (f := (fun K => decide (PySem.W.kitOne K (.ref (ga K "Doubter")) (.ref (ga K "Person")) = some true))) rfl), of_decide_eq_true (c.exf 31 (f := (fun K => decide (PySem.W.kitOne K (.ref (ga K "KnowingDoubter")) (.ref (ga K "Person")) = some true))) rfl), of_decide_eq_true (c.exf 32 (f := (fun K => decide (PySem.W.kitOne K (.ref (ga K "Knower")) (.ref (ga K "Doubter")) = some false))) rfl), of_decide_eq_true (c.exf 33 (f := (fun K => decide (PySem.W.kitOne K (.ref (ga K "Doubter")) (.ref (ga K "Knower")) = some false))) rfl), of_decide_eq_true (c.exf 34 (f := (fun K => decide (PySem.W.kitOne K (.ref (ga K "KnowingDoubter")) (.ref (ga K "Knower")) = some true))) rfl), of_decide_eq_true (c.exf 35 (f := (fun K => decide (PySem.W.kitOne K (.ref (ga K "KnowingDoubter")) (.ref (ga K "Doubter")) = some true))) rfl), Mu.supFB_ok (c.exf 36 (f := (fun K => Mu.supFB K (ga K "Knower") (ga K "Knower") "__init__" (fAd K ("Person", some "__init__")))) rfl), Mu.supFB_ok (c.exf 37 (f := (fun K => Mu.supFB K (ga K "KnowingDoubter") (ga K "Knower") "__init__" (fAd K ("Person", some "__init__")))) rfl), Mu.supFB_ok (c.exf 38 (f := (fun K => Mu.supFB K (ga K "Doubter") (ga K "Doubter") "said" (fAd K ("Person", some "said")))) rfl), Mu.supFB_ok (c.exf 39 (f := (fun K => Mu.supFB K (ga K "KnowingDoubter") (ga K "Doubter") "said" (fAd K ("Person", some "said")))) rfl), Mu.supFB_ok (c.exf 40 (f := (fun K => Mu.supFB K (ga K "Knower") (ga K "Knower") "said" (fAd K ("Person", some "said")))) rfl), Mu.supFB_ok (c.exf 41 (f := (fun K => Mu.supFB K (ga K "KnowingDoubter") (ga K "Knower") "said" (fAd K ("Doubter", some "said")))) rfl), Mu.supFB_ok (c.exf 42 (f := (fun K => Mu.supFB K (ga K "KnowingDoubter") (ga K "KnowingDoubter") "said" (fAd K ("Knower", some "said")))) rfl), of_decide_eq_true (c.exf 43 (f := (fun K => decide (PySem.W.typeIn K (.ref (fAd K ("Doubter", some "said"))) = some (.type "function")))) rfl), of_decide_eq_true (c.exf 44 (f := (fun K => decide (PySem.W.typeIn K (.ref (fAd K ("Knower", some "said"))) = some (.type "function")))) rfl), of_decide_eq_true (c.exf 45 (f := (fun K => decide (PySem.W.typeIn K (.ref (fAd K ("Person", some "__init__"))) = some (.type "function")))) rfl), of_decide_eq_true (c.exf 46 (f := (fun K => decide (PySem.W.typeIn K (.ref (fAd K ("Person", some "said"))) = some (.type "function")))) rfl), free_ok X G (c.fact 84 (f := .free "len") rfl), free_ok X G (c.fact 85 (f := .free "range") rfl), free_ok X G (c.fact 86 (f := .free "tuple") rfl), free_ok X G (c.fact 87 (f := .free "list") rfl), free_ok X G (c.fact 88 (f := .free "int") rfl), free_ok X G (c.fact 89 (f := .free "abs") rfl), free_ok X G (c.fact 90 (f := .free "enumerate") rfl), free_ok X G (c.fact 91 (f := .free "isinstance") rfl), free_ok X G (c.fact 92 (f := .free "bool") rfl), free_ok X G (c.fact 93 (f := .free "str") rfl), free_ok X G (c.fact 94 (f := .free "iter") rfl), free_ok X G (c.fact 95 (f := .free "ValueError") rfl), int_ok X G (c.fact 96 (f := .int "GREATEST_SIZE" 6) rfl)⟩, rfl⟩
end MuL

namespace MuL
open PySem PySem.Spec PyProof.Rows L2 He Evl Mu
section
variable {P : Program} {w : World} {K : PySem.W.Frag} {mg : Str → Option Value} {base : Heap}
local macro_rules | `(tactic| wtm_at "s") => `(tactic| first | assumption | omega | exact rfl | decide | wtm_at "s2")
local macro_rules | `(tactic| wtm_at "s2") => `(tactic| (simp only [List.length_map, List.length_range, List.length_cons, List.length_nil, List.length_append]; omega))
local macro_rules | `(tactic| wtm_at "j") => `(tactic| first | exact List.mem_cons_self | (simp; done))
local macro_rules | `(tactic| wtm_at "tr") => `(tactic| (apply t_is; (focus (wtm_at "t")); exact rfl))
local macro_rules | `(tactic| wtm_at "bs") => `(tactic| first | exact rfl | (simp; done) | (simp [*]; done))
local macro_rules | `(tactic| wtm_at "yes") => `(tactic| (apply w_yes; (focus (apply t_is; (focus (wtm_at "t")); first | exact rfl | (simp; done) | (simp [*]; done)))))
local macro_rules | `(tactic| wtm_at "no") => `(tactic| (apply w_no; (focus (apply t_is; (focus (wtm_at "t")); first | exact rfl | (simp; done) | (simp [*]; done)))))
local macro_rules | `(tactic| wtm_at "nn") => `(tactic| first | exact nn_tab | exact nn_L | exact nn_T | exact nn_I)
local macro_rules | `(tactic| wtm_at "sub") => `(tactic| repeat' first | exact Paired.nil | refine Paired.cons (Or.inr rfl) ?_ | refine Paired.cons (Or.inl rfl) ?_)
local macro_rules | `(tactic| wtm_at "o") => `(tactic| first
    | ((with_reducible show OM (rI0 _) _ _ _ _); first | refine om (x_addN (x_v rfl) (x_v rfl)) ?_ | refine om (x_subN (x_v rfl) (x_v rfl) (by wtm_at "s")) ?_ | refine om (x_bandN (x_v rfl) (x_v rfl)) ?_ | refine om (x_borN (x_v rfl) (x_v rfl)) ?_ | refine om (x_ltN (x_v rfl) (x_v rfl)) ?_ | refine om (x_leN (x_v rfl) (x_v rfl)) ?_ | refine om (x_gtN (x_v rfl) (x_v rfl)) ?_ | refine om (x_geN (x_v rfl) (x_v rfl)) ?_ | refine om (x_I0 (x_v rfl) (x_v rfl)) ?_)
    | ((with_reducible show OM (L2.rI _ _) _ _ _ _); first | refine om (x_powN (x_v rfl) (x_v rfl) (by wtm_at "s") (by wtm_at "s")) ?_ | refine om (x_shrN (x_v rfl) (x_v rfl)) ?_ | refine om (x_shlN1 (x_v rfl) (x_v rfl) (by wtm_at "s")) ?_ | refine om (x_I (x_v rfl) (x_v rfl) (by wtm_at "s")) ?_)
    | ((with_reducible show OM rEq _ _ _ _); first | refine om (x_eqN (x_v rfl) (x_v rfl)) ?_ | refine om (x_eqI (x_v rfl) (x_v rfl)) ?_ | refine om (x_eqV (x_v rfl) (x_v rfl) rfl) ?_)
    | ((with_reducible show OM rNe _ _ _ _); first | refine om (x_neN (x_v rfl) (x_v rfl)) ?_ | refine om (x_neI (x_v rfl) (x_v rfl)) ?_ | refine om (x_neV (x_v rfl) (x_v rfl) rfl) ?_)
    | ((with_reducible show OM (rIxT _) _ _ _ _); first | refine om (x_ixTn (x_v rfl) (x_v rfl) (by wtm_at "s")) ?_ | refine om (x_ixT (x_v rfl) (x_v rfl) rfl) ?_ | refine om (x_ixTm default (x_v rfl) (x_v rfl) (by wtm_at "s")) ?_)
    | ((with_reducible show OM (rIxL _) _ _ _ _); first | refine om (x_ixB (x_v rfl) (x_v rfl) (by wtm_at "s")) ?_ | refine om (x_ixLn (x_v rfl) (x_v rfl) (by wtm_at "s")) ?_ | refine om (x_ixLL (x_v rfl) (x_v rfl) (by wtm_at "s")) ?_ | refine om_ixOwn 0 rfl (by wtm_at "s") ?_ | refine om_ixOwn 1 rfl (by wtm_at "s") ?_ | refine om_ixOwn 2 rfl (by wtm_at "s") ?_ | refine om_ixOwn 3 rfl (by wtm_at "s") ?_ | refine om (x_ixL (x_v rfl) (x_v rfl) rfl) ?_ | refine om (x_ixL (x_v rfl) (x_v rfl) (by assumption)) ?_ | refine om (x_ixLm default (x_v rfl) (x_v rfl) (by wtm_at "s")) ?_)
    | ((with_reducible show OM (rIn _ _) _ _ _ _); first | refine om (x_inLn (l := [_, _]) (x_v rfl) (x_v rfl)) ?_ | refine om (x_inLn (l := [_, _, _]) (x_v rfl) (x_v rfl)) ?_ | refine om (x_inLn (x_v rfl) (x_v rfl)) ?_ | refine om (x_niLn (x_v rfl) (x_v rfl)) ?_ | refine om (x_inTi true (x_v rfl) (x_v rfl)) ?_ | refine om (x_inTi false (x_v rfl) (x_v rfl)) ?_ | refine om (x_inLi true (x_v rfl) (x_v rfl)) ?_ | refine om (x_inLi false (x_v rfl) (x_v rfl)) ?_)
    | ((with_reducible show OM (rEqD _) _ _ _ _); first | refine om (x_eqLn0 (x_v rfl) (x_v rfl)) ?_ | refine om (x_eqLn (x_v rfl) (x_v rfl)) ?_ | refine om (x_eqTn (x_v rfl) (x_v rfl)) ?_ | refine om (x_eqLL (x_v rfl) (x_v rfl)) ?_)
    | ((with_reducible show OM (rNeD _) _ _ _ _); first | refine om (x_neLn0 (x_v rfl) (x_v rfl)) ?_ | refine om (x_neLn (x_v rfl) (x_v rfl)) ?_ | refine om (x_neTn (x_v rfl) (x_v rfl)) ?_ | refine om (x_neLL (x_v rfl) (x_v rfl)) ?_ | refine om (x_neP (x_v rfl) (x_v rfl)) ?_)
    | ((with_reducible show OM (rInD _) _ _ _ _); first | refine om (x_inP (x_v rfl) (x_v rfl)) ?_)
    | ((with_reducible show OM (rNotInD _) _ _ _ _); first | refine om (x_niP (x_v rfl) (x_v rfl)) ?_)
    | ((with_reducible show OM (rInTD _) _ _ _ _); first | refine om (x_inTP (x_v rfl) (x_v rfl)) ?_)
    | ((with_reducible show OM rIsB _ _ _ _); first | refine om (x_isB (x_v rfl) (x_v rfl)) ?_)
    | ((with_reducible show OM rNotB _ _ _ _); first | refine om (x_isNB (x_v rfl) (x_v rfl)) ?_)
    | ((with_reducible show OM (fun _ _ _ _ => _ ∧ _) _ _ _ _); first | refine om_isN0 ?_ | refine om_notN0 ?_ | refine om_isN1 (by wtm_at "nn") ?_ | refine om_notN1 (by wtm_at "nn") ?_)
    | ((with_reducible show OM rRep _ _ _ _); first | refine om_rep (by wtm_at "s") (by wtm_at "s") ?_)
    | ((with_reducible show OM rCat _ _ _ _); first | refine om_cat (by wtm_at "s") ?_ | refine om (x_catm (x_v rfl) (x_v rfl) (by wtm_at "s")) ?_))
local macro_rules | `(tactic| wtm_at "a") => `(tactic| first
    | ((with_reducible show AM (rLenS _) _ _ _); first | refine am1 (x_lenLn (x_v rfl)) ?_ | refine am1 (x_lenTn (x_v rfl)) ?_ | refine am1 (x_lenB (x_v rfl)) ?_ | refine am1 (x_lenLL (x_v rfl)) ?_ | refine am1 (x_lenLm (x_v rfl)) ?_ | refine am1 (x_lenTm (x_v rfl)) ?_ | refine am_own 0 rfl (x_lenLm (x_v rfl)) ?_ | refine am_own 1 rfl (x_lenLm (x_v rfl)) ?_ | refine am_own 2 rfl (x_lenLm (x_v rfl)) ?_ | refine am_own 3 rfl (x_lenLm (x_v rfl)) ?_ | refine am_own 1 rfl (x_lenLm' (x_v rfl)) ?_ | refine am_own 2 rfl (x_lenLm' (x_v rfl)) ?_ | refine am1 (x_lenL (x_v rfl)) ?_ | refine am1 (x_lenT (x_v rfl)) ?_)
    | ((with_reducible show AM (rTupO _) _ _ _); first | refine am1 (x_tupL (x_v rfl)) ?_)
    | ((with_reducible show AM (rListS _) _ _ _); first | refine am_listL ?_ | refine am_listT ?_ | refine am_listOwn 0 rfl ?_ | refine am_listOwn 1 rfl ?_ | refine am_listOwn 2 rfl ?_)
    | ((with_reducible show AM (rIsi _) _ _ _); first | refine am2c (x_isInt (x_v rfl)) ?_ | refine am2c (x_isList (x_v rfl)) ?_ | refine am2c (x_isTup (x_v rfl)) ?_ | refine am2c (x_isTab (Tx.ic_Table (by assumption)) (x_v rfl)) ?_ | refine am2c (x_isIns (by assumption) (by assumption) (x_v rfl)) ?_)
    | ((with_reducible show AM _ _ _ _); first | refine am1 (x_int (x_v rfl)) ?_ | refine mk_tab (by assumption) (by wtm_at "s") (by wtm_at "s") ?_))
local macro_rules | `(tactic| wtm_at "c") => `(tactic| fail)

local macro_rules | `(tactic| wtm_at "f") => `(tactic| first
    | refine f_own 0 rfl (by wtm_at "s") (by wtm_at "s") rfl ?_
    | refine f_ins (by wtm_at "s") (by wtm_at "s") rfl ?_
    | refine f_tab (x_size (x_v rfl) (Tx.c_Table (by assumption)) (Tx.na_Table_size (by assumption))) ?_
    | refine f_tab (x_masks (x_v rfl) (Tx.c_Table (by assumption)) (Tx.na_Table_masks (by assumption))) ?_
    | refine f_tab (x_cells (x_v rfl) (Tx.c_Table (by assumption)) (Tx.na_Table_cells (by assumption))) ?_)
local macro_rules | `(tactic| wtm_at "v") => `(tactic| first
    | ((with_reducible show EW _ _ _ (tVar _) _ _); refine e_v rfl ?_)
    | ((with_reducible show EW _ _ _ (tC (V.int _)) _ _); refine e_cn ?_)
    | ((with_reducible show EW _ _ _ (tC _) _ _); refine e_c ?_)
    | ((with_reducible show EW _ _ _ (tOp _ _ _) _ _); refine e_op ?_)
    | ((with_reducible show EW _ _ _ (tCB _ _) _ _); refine e_cb ?_)
    | ((with_reducible show EW _ _ _ (tCall _ _ _ _) _ _); refine e_call ?_)
    | ((with_reducible show EW _ _ _ (tCallS _ _ _) _ _); refine e_callS ?_)
    | ((with_reducible show EW _ _ _ (tFld _ _ _) _ _); refine e_fld _ ?_)
    | ((with_reducible show EW _ _ _ (tTup _) _ _); refine e_tup (by assumption) ?_)
    | ((with_reducible show EW _ _ _ (tLst _) _ _); refine e_lst (by assumption) ?_)
    | ((with_reducible show EW _ _ _ (tUn _ _) _ _); refine e_un ?_)
    | ((with_reducible show EW _ _ _ (tMake _ (spTab _ _) _ _ _) _ _); refine e_make ?_)
    | ((with_reducible show EW _ _ _ (tMakeS _ _ _ _) _ _); refine e_makeS ?_)
    | ((with_reducible show EW _ _ _ (tMeth _ _ _ _ _ _ _) _ _); refine e_meth ?_)
    | ((with_reducible show EW _ _ _ (tMethS _ _ _ _ _ _) _ _); refine e_methS ?_)
    | ((with_reducible show EW _ _ _ (tProp _ _ _ _ _) _ _); refine e_prop ?_)
    | ((with_reducible show EW _ _ _ (tLc (iList _ _) _ tYes _ _) _ _); apply e_lcL0; (focus (wtm_at "x")); (focus (wtm_at "s")); (focus (intro a ha; wtm_at "x")); (focus (wtm_at "j")))
    | ((with_reducible show EW _ _ _ (tLc (iTup _ _) _ tYes _ _) _ _); apply e_lcT0; (focus (wtm_at "x")); (focus (wtm_at "s")); (focus (intro a ha; wtm_at "x")); (focus (wtm_at "j")))
    | ((with_reducible show EW _ _ _ (tLc (iRng1 _) _ tYes _ _) _ _); apply e_lcR0 (by assumption); (focus (wtm_at "x")); (focus (wtm_at "s")); (focus (intro a ha; wtm_at "x")); (focus (wtm_at "j")))
    | ((with_reducible show EW _ _ _ (tLc (iList _ _) _ _ _ _) _ _); apply e_lcL; (focus (wtm_at "x")); (focus (wtm_at "s")); (focus (intro a ha; wtm_at "tr")); (focus (intro a ha hf; wtm_at "x")); (focus (wtm_at "j")))
    | ((with_reducible show EW _ _ _ (tLc (iTup _ _) _ _ _ _) _ _); apply e_lcT; (focus (wtm_at "x")); (focus (wtm_at "s")); (focus (intro a ha; wtm_at "tr")); (focus (intro a ha hf; wtm_at "x")); (focus (wtm_at "j")))
    | ((with_reducible show EW _ _ _ (tLc (iRng1 _) _ _ _ _) _ _); apply e_lcR (by assumption); (focus (wtm_at "x")); (focus (wtm_at "s")); (focus (intro a ha; wtm_at "tr")); (focus (intro a ha hf; wtm_at "x")); (focus (wtm_at "j")))
    | ((with_reducible show EW _ _ _ (tSl (rSlL _) _ tNoPart (tPart _)) _ _); apply e_slTo; (focus (wtm_at "x")))
    | ((with_reducible show EW _ _ _ (tSl (rSlL _) _ (tPart _) tNoPart) _ _); apply e_slFrom; (focus (wtm_at "x")))
    | ((with_reducible show EW _ _ _ (tAndV _ _) _ _); first | (apply e_and; (focus (wtm_at "x")); (focus (intro hq; wtm_at "x"))) | (apply e_x; (focus (apply x_and0; (focus (wtm_at "x")); wtm_at "bs"))))
    | ((with_reducible show EW _ _ _ (tOrV _ _) _ _); first | (apply e_or; (focus (wtm_at "x")); (focus (intro hq; wtm_at "x"))) | (apply e_x; (focus (apply x_or1; (focus (wtm_at "x")); wtm_at "bs"))))
    | ((with_reducible show EW _ _ _ (tMake _ (spIni _ _) _ _ _) _ _); refine e_makeI ?_ spIni_E)
    | ((with_reducible show EW _ _ _ (tSup _ _ _ _ _ _ _) _ _); refine e_sup rfl (by assumption) ?_)
    | ((with_reducible show EW _ _ _ (tNotV _) _ _); apply e_not; (focus (wtm_at "x")))
    | ((with_reducible show EW _ _ _ (tBM _ _ _ _ _) _ _); first | refine e_app 0 rfl ?_ rfl | refine e_app 1 rfl ?_ rfl | refine e_app 2 rfl ?_ rfl | refine e_app 3 rfl ?_ rfl))
local macro_rules | `(tactic| wtm_at "e1") => `(tactic| first
    | ((with_reducible show EW _ _ _ _ _ _); wtm_at "v")
    | ((with_reducible show EA _ _ _ _ _ _); first | refine a_cons ?_ | refine a_nil ?_)
    | ((with_reducible show OM _ _ _ _ _); first | wtm_at "o" | wtm_at "c")
    | ((with_reducible show AM _ _ _ _); wtm_at "a")
    | ((with_reducible show CM _ _ _ _); wtm_at "c")
    | ((with_reducible show XM _ _ _ _ _); wtm_at "c")
    | ((with_reducible show MkM _ _ _ _ _ _); wtm_at "c")
    | ((with_reducible show UM _ _ _ _); first | wtm_at "f" | refine um (x_neg (x_v rfl)) ?_ | wtm_at "c")
    | ((with_reducible show InsR _ _ _ ∧ _); first | refine ⟨ins_tab rfl, ?_⟩ | refine ⟨ins_ins rfl, ?_⟩ | refine ⟨ins_ins (by assumption), ?_⟩)
    | ((with_reducible show (∀ (v : V) (G : Hp), _ → ∃ a dx fs, _) ∧ _); refine ⟨ins_is, ?_⟩)
    | ((with_reducible show And (@LE.le Nat _ _ _) _); refine ⟨Nat.le_of_ble_eq_true rfl, ?_⟩)
    | ((with_reducible show ∃ rs : List Rp, _ ∧ _ ∧ _); refine ⟨_, rfl, by wtm_at "s", ?_⟩)
    | ((with_reducible show ∃ rs : List Rp, _ = rL _ rs ∧ _); refine ⟨_, rfl, ?_⟩)
    | ((with_reducible show ∃ fs : FL, _ ∧ _ ∧ _ ∧ _); refine ⟨_, rfl, rfl, Nat.le_of_ble_eq_true rfl, ?_⟩)
    | ((with_reducible show _ = _ ∧ _ = ([] : List Re)); first | exact ⟨rfl, rfl⟩ | exact ⟨by wtm_at "q", rfl⟩))
local macro_rules | `(tactic| wtm_at "q") => `(tactic| first | rfl | exact congrArg nI (by omega) | exact congrArg Mu.rI (by omega) | exact congrArg rB (by wtm_at "b"))
local macro_rules | `(tactic| wtm_at "b") => `(tactic| first | rfl | (rw [Bool.eq_iff_iff]; simp; omega))
local macro_rules | `(tactic| wtm_at "e") => `(tactic| repeat wtm_at "e1")
local macro_rules | `(tactic| wtm_at "co") => `(tactic| fail)

local macro_rules | `(tactic| wtm_at "eo") => `(tactic| repeat first | ((with_reducible show CM _ _ _ _); wtm_at "co") | ((with_reducible show XM _ _ _ _ _); wtm_at "co") | wtm_at "e1")
local macro_rules | `(tactic| wtm_at "x") => `(tactic| first | exact x_v rfl | exact x_c | (apply EvX.by; intro W ε; (wtm_at "e"); done))
local macro_rules | `(tactic| wtm_at "t") => `(tactic| first
    | ((with_reducible show EvTX _ tYes _); exact t_yes)
    | ((with_reducible show EvTX _ (tAnd _ _) _); first | (apply t_and; (focus (wtm_at "t")); (focus (intro hq; wtm_at "t"))) | (apply t_and0; (focus (wtm_at "t")); wtm_at "bs"))
    | ((with_reducible show EvTX _ (tOr _ _) _); first | (apply t_or; (focus (wtm_at "t")); (focus (intro hq; wtm_at "t"))) | (apply t_or1; (focus (wtm_at "t")); wtm_at "bs"))
    | ((with_reducible show EvTX _ (tNot _) _); apply t_not; wtm_at "t")
    | ((with_reducible show EvTX _ (tTest (tChain _ _ _ _ _)) _); apply t_chain; (focus (wtm_at "x")); (focus (wtm_at "x")); (focus (wtm_at "x")))
    | ((with_reducible show EvTX _ (tTest _) _); apply t_T; wtm_at "x")
    | ((with_reducible show EvTX _ (tB _) _); apply t_B; wtm_at "x"))
local macro_rules | `(tactic| wtm_at "tq") => `(tactic| (apply t_is; (focus (wtm_at "t")); try wtm_at "b"))
local macro_rules | `(tactic| wtm_at "if") => `(tactic| (apply w_if; (focus (wtm_at "t"))))
local macro_rules | `(tactic| wtm_at "ifc") => `(tactic| (refine ws_if ?_; (repeat first | refine w_tNot ?_ | refine w_tB ?_ | refine w_t ?_ | wtm_at "e1" | ((with_reducible show ∃ c : Bool, _ = rB c ∧ _); refine ⟨_, rfl, ?_⟩)); refine ⟨?_, ?_⟩))
local macro_rules | `(tactic| wtm_at "w1") => `(tactic| first
    | ((with_reducible show WP _ _ _ (tSeq _ _) _); refine w_seq ?_)
    | ((with_reducible show WP _ _ _ (tAsg _ (gName _)) _); refine ws_set ?_; (wtm_at "e"); dsimp only [List.set])
    | ((with_reducible show WP _ _ _ (tRet _) _); refine ws_ret ?_; (wtm_at "e"))
    | ((with_reducible show WP _ _ _ (sFld _ (tVar _) _ _) _); refine ws_fld 0 rfl rfl (by wtm_at "s") (by wtm_at "s") ?_; (wtm_at "e"); dsimp only [List.set])
    | ((with_reducible show WP _ _ _ (tDrop _) _); refine ws_do ?_; (wtm_at "e"))
    | ((with_reducible show WP _ _ _ tNext _); (refine w_nx ?_))
    | ((with_reducible show WP _ _ _ tRetN _); refine w_ret0 ?_))
local macro_rules | `(tactic| wtm_at "w") => `(tactic| repeat ((try dsimp only); wtm_at "w1"))
theorem sc_bits : FnScope ["mask", "found", "place"] ["mask"] (defScope s_bits) := ⟨rfl, rfl, rfl, by decide +kernel, rfl, by decide +kernel, by decide +kernel⟩
theorem b_bits (T : Tx P K mg) : Binds K T.fd_bits ["mask"] [] := T.F_bits.bindsN fun _ _ _ _ _ _ us hl => match us, hl with | [_], _ => rfl
def R_bits : List V → Hp → List Rp → Prop := fun vs _ rs => ∃ n : Nat, vs = [.int (n : Int)] ∧ n < 2 ^ 64 ∧ rs = (bitsN n).map nI
theorem ok_bits (T : Tx P K mg) : FnOk P w K mg base CX0 1 T.f_bits T.fd_bits ["mask"] (spN R_bits) := by
  refine T.F_bits.ok sc_bits (fun vs H Q E h => ?_) (fun cdv A outer s H vs Q E hr h => ?_)
  · obtain ⟨G, rs, _, ⟨n, rfl, _⟩, _⟩ := h
    rfl
  · obtain ⟨G, rs, e, ⟨n, rfl, hn, rfl⟩, k⟩ := h
    refine ⟨_, PSs.nox (pss_cons (ps_set (i := 1) sc_bits.nd rfl (Or.inl rfl) (pe_lst pa_nil))
      (pss_cons (ps_set (i := 2) sc_bits.nd rfl (Or.inl rfl) pe_int)
      (pss_cons (ps_while PassesOwn.never (pt_cmpR op_gt (pv 0) pe_int (nomark _)) (pss_cons (ps_if (pt_cmpR op_eq (pe_op op_and (pv 0) pe_int) pe_int (nomark _)) (pss_one (ps_expr (pe_bm PySem.F.plainAttrs_list PySem.F.slot_list_append PySem.F.type_list_append mt_append (pv 1) (pa_cons (pv 2) pa_nil)))) pss_nil)
      (pss_cons (ps_set (i := 0) sc_bits.nd rfl (Or.inl rfl) (pe_op op_shr (pv 0) pe_int))
      (pss_one (ps_set (i := 2) sc_bits.nd rfl (Or.inl rfl) (pe_op op_add (pv 2) pe_int))))))
      (pss_one (ps_ret (pv 1)))))), ?_⟩
    refine sq (s_setN e (en_lst ead_nil (by decide)) fun p vs G1 H1 g1 hp gp h1 ra => ?_)
    cases ra
    refine sq (Mu.s_set g1.i ev_c fun H2 e2 => ?_)
    refine sq (s_while (fun m σ' H' => ∃ i : Nat, σ' = [some (.int ((n / 2 ^ i : Nat) : Int)), some (.ref p), some (.int (i : Int))] ∧ m = n / 2 ^ i ∧ i ≤ 64 ∧ Ex H H' ∧ H' p = some (.lst (((List.range i).filter n.testBit).map fun (j : Nat) => V.int (j : Int)))) n ⟨0, ?_, by simp, by omega, g1.h.trans e2, e2 _ _ h1⟩ fun m σ' H' ⟨i, hσ, hm, hi, eH, hl⟩ => ?_)
    · simp; rfl
    · subst hσ
      refine ⟨_, et_cmp (ev_var rfl) ev_c, fun hb H3 e3 => ?_, fun hb H3 e3 => ?_⟩
      · have hpos : (0 : Int) < ((n / 2 ^ i : Nat) : Int) := of_decide_eq_true hb
        have hi64 : i < 64 := by
          rcases Nat.lt_or_ge i 64 with q | q
          · exact q
          · have e64 : i = 64 := by omega
            subst e64
            rw [Nat.div_eq_of_lt hn] at hpos
            omega
        refine ⟨_, fun _ _ z => z, ?_⟩
        have tl : ∀ H4 ls, Ex H H4 → H4 p = some (.lst ls) → ls = (((List.range (i + 1)).filter n.testBit).map fun (j : Nat) => V.int (j : Int)) → ∀ D : Ends,
            (∀ σ2 H2, (∃ m', m' < m ∧ ∃ i : Nat, σ2 = [some (.int ((n / 2 ^ i : Nat) : Int)), some (.ref p), some (.int (i : Int))] ∧ m' = n / 2 ^ i ∧ i ≤ 64 ∧ Ex H H2 ∧ H2 p = some (.lst (((List.range i).filter n.testBit).map fun (j : Nat) => V.int (j : Int)))) → D.nx σ2 H2) →
            tSeq (tAsg (tOp (rI (fun _ j => 0 ≤ j) fun i j => .int (i / 2 ^ j.toNat)) (tVar 0) (tC (.int 1))) (gName 0)) (tAsg (tOp (rI0 fun i j => .int (i + j)) (tVar 2) (tC (.int 1))) (gName 2)) D [some (.int ((n / 2 ^ i : Nat) : Int)), some (.ref p), some (.int (i : Int))] H4 := by
          intro H4 ls e4 h4 hls D hD
          refine sq (Mu.s_set (Ex.refl H4) (ev_op (ev_var rfl) ev_c (rv_I (by decide))) fun H5 e5 => ?_)
          refine Mu.s_set (Ex.refl H5) (ev_op (ev_var rfl) ev_c rv_I0) fun H6 e6 => ?_
          refine hD _ _ ⟨n / 2 ^ (i + 1), ?_, i + 1, ?_, rfl, by omega, (e4.trans e5).trans e6, by rw [e6 _ _ (e5 _ _ h4), hls]⟩
          · rw [hm, Nat.pow_succ, ← Nat.div_div_eq_div_mul]
            exact Nat.div_lt_self (by omega) (by decide)
          · rw [shr1, Nat.div_div_eq_div_mul, ← Nat.pow_succ]
            rfl
        refine sq (s_ifE (Ex.refl H3) (et_eq (ev_op (ev_var rfl) ev_c rv_I0) ev_c rfl) (fun hb H4 e4 => ?_) (fun hb H4 e4 => ?_))
        · have hbit : n.testBit i = true := by
            have q := of_decide_eq_true hb
            have q2 : Builtin.bitAnd ((n / 2 ^ i : Nat) : Int) 1 = 1 := by injection q
            rw [← bit_test, shr_nat]
            exact decide_eq_true q2
          have hl4 := e4 _ _ (e3 _ _ hl)
          refine s_app hl4 (ev_var rfl) (ev_var rfl) (by have := List.length_filter_le n.testBit (List.range i); rw [List.length_map]; rw [List.length_range] at this; omega) fun H5 e5 => ?_
          refine tl _ _ (Ex.mut ((eH.trans e3).trans (e4.trans e5)) hp) upd_same ?_ _ fun _ _ z => z
          rw [List.range_succ, List.filter_append, List.map_append]
          simp [hbit]
        · have hbit : n.testBit i = false := by
            have q := of_decide_eq_false hb
            cases z : n.testBit i with
            | false => rfl
            | true =>
              refine absurd ?_ q
              rw [← bit_test, shr_nat] at z
              rw [of_decide_eq_true z]
          refine nxt ?_
          refine tl H4 _ ((eH.trans e3).trans e4) (e4 _ _ (e3 _ _ hl)) ?_ _ fun _ _ z => z
          rw [List.range_succ, List.filter_append, List.map_append]
          simp [hbit]
      · have h0 : n / 2 ^ i = 0 := by
          have q := of_decide_eq_false hb
          omega
        have hlt : n < 2 ^ i := by
          rcases Nat.lt_or_ge n (2 ^ i) with q | q
          · exact q
          · have := Nat.div_pos q (Nat.two_pow_pos i)
            omega
        rw [bits_eq hlt] at hl
        refine s_retE (Ex.refl H3) (ev_var rfl) fun H4 e4 => ?_
        exact k p _ G H4 ((Gr.refl e).more ((eH.trans e3).trans e4)) hp (fresh_back e hp) (e4 _ _ (e3 _ _ hl)) ra_nats

theorem c_bits (T : Tx P K mg) {M : List Re} {κ : KV} {n : Nat} (h : n < 2 ^ 64) (k : κ (rLn K (bitsN n)) M) : CM (spN R_bits) [nI n] M κ := cmn (fun vs G ra => by
  obtain ⟨x, rfl, hx⟩ := ra1 ra
  obtain rfl : x = V.int (n : Int) := hx
  exact SpN.of ⟨n, rfl, h, rfl⟩) k
local macro_rules | `(tactic| wtm_at "c") => `(tactic| refine c_bits (by assumption) (by wtm_at "s") ?_)
theorem sc_mask_of : FnScope ["words", "mask", "word"] ["words"] (defScope s_mask_of) := ⟨rfl, rfl, rfl, by decide +kernel, rfl, by decide +kernel, by decide +kernel⟩
theorem b_mask_of (T : Tx P K mg) : Binds K T.fd_mask_of ["words"] [] := T.F_mask_of.bindsN fun _ _ _ _ _ _ us hl => match us, hl with | [_], _ => rfl
def R_mask_of (K : PySem.W.Frag) : List V → Hp → Rp → Prop := fun vs G r => ∃ (x : V) (l : List Nat), vs = [x] ∧ (rLn K l).p x G ∧ (∀ w ∈ l, w < 64) ∧ r = nI (maskN l)
theorem ok_mask_of (T : Tx P K mg) : FnOk P w K mg base CX0 1 T.f_mask_of T.fd_mask_of ["words"] (spD (R_mask_of K)) := by
  refine T.F_mask_of.ok sc_mask_of (fun vs H Q E h => ?_) (fun cdv A outer s H vs Q E hr h => ?_)
  · obtain ⟨G, r, _, ⟨x, l, rfl, _⟩, _⟩ := h
    rfl
  · obtain ⟨G, r, e, ⟨x, l, rfl, hx, hl, rfl⟩, k⟩ := h
    refine ⟨_, PSs.nox (pss_cons (ps_set (i := 1) sc_mask_of.nd rfl (Or.inl rfl) pe_int)
      (pss_cons (ps_for PassesOwn.never rfl (pi_listK K (pv 0)) (pg_name (i := 2) sc_mask_of.nd rfl (Or.inl rfl)) (pss_one (ps_set (i := 1) sc_mask_of.nd rfl (Or.inl rfl) (pe_op op_or (pv 1) (pe_op op_shl pe_int (pv 2))))))
      (pss_one (ps_ret (pv 1))))), ?_⟩
    refine sq (Mu.s_set e ev_c fun H1 e1 => ?_)
    refine sq (Mu.s_forL l nI (e.trans e1) (ed_var rfl hx) (fun G1 i σ' H' => Ex G1 H' ∧ Ex H H' ∧ ∃ u, σ' = [some x, some (.int ((maskN (l.take i) : Nat) : Int)), u]) (fun G1 H2 g => ⟨g.i, e1.trans g.h, none, rfl⟩) (fun _ _ _ _ p => p.1) ?_ ?_)
    · rintro G1 i w y σ' H' eG hi hy ⟨e2, e3, u, rfl⟩
      obtain rfl : y = V.int (w : Int) := hy
      have hw := hl w (List.mem_of_getElem? hi)
      refine Mu.s_set (Ex.refl H') (ev_op (ev_var rfl) (ev_op ev_c (ev_var rfl) (rv_I ⟨by omega, by omega, by decide⟩)) rv_I0) fun H4 e4 => ?_
      refine ⟨e2.trans e4, e3.trans e4, some (.int (w : Int)), ?_⟩
      show [some x, some (.int (Builtin.bitOr ((maskN (l.take i) : Nat) : Int) (1 * 2 ^ ((w : Int)).toNat))), some (.int (w : Int))] = _
      rw [shl_nat, bor_nat, ← maskN_take hi]
    · rintro G1 σ' H' eG ⟨e2, e3, u, rfl⟩
      rw [List.take_length]
      refine s_retE (Ex.refl H') (ev_var rfl) fun H4 e4 => k _ G H4 ((Gr.refl e).more (e3.trans e4)) rfl
theorem sc_masks_of : FnScope ["rows", "row"] ["rows"] (defScope s_masks_of) := ⟨rfl, rfl, rfl, by decide +kernel, rfl, by decide +kernel, by decide +kernel⟩
theorem b_masks_of (T : Tx P K mg) : Binds K T.fd_masks_of ["rows"] [] := T.F_masks_of.bindsN fun _ _ _ _ _ _ us hl => match us, hl with | [_], _ => rfl
def R_masks_of (K : PySem.W.Frag) : List V → Hp → Rp → Prop := fun vs G r => ∃ (x : V) (l : List (List Nat)), vs = [x] ∧ (rLL K l).p x G ∧ l.length ≤ 1000 ∧ (∀ q ∈ l, ∀ w ∈ q, w < 64) ∧ r = rTn K (l.map maskN)
theorem ok_masks_of (T : Tx P K mg) : FnOk P w K mg base CX0 2 T.f_masks_of T.fd_masks_of ["rows"] (spD (R_masks_of K)) := by
  refine T.F_masks_of.ok sc_masks_of (fun vs H Q E h => ?_) (fun cdv A outer s H vs Q E hr h => ?_)
  · obtain ⟨G, r, _, ⟨x, l, rfl, _⟩, _⟩ := h
    rfl
  · obtain ⟨G, r, e, ⟨x, l, rfl, hx, hn, hl, rfl⟩, k⟩ := h
    refine ⟨_, PSs.nox (pss_one (ps_ret (pe_callTy (call_tupK K) (by rfl) T.m_tuple (by decide +kernel) (pa_cons (pe_lc (own := [("row", 1)]) (by rfl) sc_masks_of.nd (pi_listK K (pv 0)) (blkOk_by (N := ["rows", "row"]) (sc := defScope s_masks_of) (by decide +kernel)) (fun _ _ _ _ _ => (pg_name (i := 1) sc_masks_of.nd rfl (Or.inl rfl))) (fun _ _ _ _ _ => pts_nil) (fun _ _ _ _ _ => (pe_call (ok_mask_of T) (hr.mono (by decide)) (by rfl) T.g_mask_of T.F_mask_of.kp (b_mask_of T) .nil pass0 (pa_cons (pv 1) pa_nil)))) pa_nil)))), ?_⟩
    refine s_retD e (ed_is (ed_tupL (EvN.d (en_lcL0 l (rLn K) (fun q => nI (maskN q)) (ed_var rfl hx) (by omega) (fun _ => rfl) fun q y G1 hq e1 hy => ed_call (ead_cons (ed_var rfl hy) ead_nil) fun vs G2 e2 ra => ?_))) ?_) fun v G2 H2 g hv => k v G2 H2 g hv
    · obtain ⟨y, rfl, hy⟩ := ra1 ra
      exact SpD.of ⟨y, q, rfl, hy, hl q hq, rfl⟩
    · unfold rTn
      rw [List.map_map]; rfl
theorem sc_check_size : FnScope ["size"] ["size"] (defScope s_check_size) := ⟨rfl, rfl, rfl, by decide +kernel, rfl, by decide +kernel, by decide +kernel⟩
theorem b_check_size (T : Tx P K mg) : Binds K T.fd_check_size ["size"] [] := T.F_check_size.bindsN fun _ _ _ _ _ _ us hl => match us, hl with | [_], _ => rfl
def R_check_size : List V → Hp → Rp → Prop := fun vs _ r => ∃ n : Nat, vs = [.int (n : Int)] ∧ 1 ≤ n ∧ n ≤ 6 ∧ r = rV .non
theorem ok_check_size (T : Tx P K mg) : FnOk P w K mg base CX0 1 T.f_check_size T.fd_check_size ["size"] (spD R_check_size) := by
  refine T.F_check_size.ok sc_check_size (fun vs H Q E h => ?_) (fun cdv A outer s H vs Q E hr h => ?_)
  · obtain ⟨G, r, _, ⟨n, rfl, _⟩, _⟩ := h
    rfl
  · obtain ⟨G, r, e, ⟨n, rfl, h1, h6, rfl⟩, k⟩ := h
    refine ⟨_, PSs.nox (pss_one (ps_if (PW.pt (pw_or (pt_cmpR op_lt (pv 0) pe_int (nomark _)) (pw_or1 (pt_cmpR op_gt (pv 0) (pe_glob (v := .int 6) (by rfl) T.gi_GREATEST_SIZE.choose_spec ⟨_, rfl⟩) (nomark _))))) (pss_one ps_never) pss_nil)), ?_⟩
    refine s_ifE e (et_or (et_cmp (ev_var rfl) ev_c) fun _ => et_cmp (ev_var rfl) ev_c) (fun hb H1 e1 => ?_) (fun hb H1 e1 => ?_)
    · exfalso
      rcases Bool.or_eq_true_iff.mp hb with q | q
      · have := of_decide_eq_true q; omega
      · have := of_decide_eq_true q; omega
    · exact k _ G H1 ((Gr.refl e).more e1) rfl
end
end MuL

namespace MuL
open PySem PySem.Spec PyProof.Rows L2 He Evl Mu
section
variable {P : Program} {w : World} {K : PySem.W.Frag} {mg : Str → Option Value} {base : Heap}
local macro_rules | `(tactic| wtm_at "s") => `(tactic| first | assumption | omega | exact rfl | decide | wtm_at "s2")
local macro_rules | `(tactic| wtm_at "s2") => `(tactic| (simp only [List.length_map, List.length_range, List.length_cons, List.length_nil, List.length_append]; omega))
local macro_rules | `(tactic| wtm_at "j") => `(tactic| first | exact List.mem_cons_self | (simp; done))
local macro_rules | `(tactic| wtm_at "tr") => `(tactic| (apply t_is; (focus (wtm_at "t")); exact rfl))
local macro_rules | `(tactic| wtm_at "bs") => `(tactic| first | exact rfl | (simp; done) | (simp [*]; done))
local macro_rules | `(tactic| wtm_at "yes") => `(tactic| (apply w_yes; (focus (apply t_is; (focus (wtm_at "t")); first | exact rfl | (simp; done) | (simp [*]; done)))))
local macro_rules | `(tactic| wtm_at "no") => `(tactic| (apply w_no; (focus (apply t_is; (focus (wtm_at "t")); first | exact rfl | (simp; done) | (simp [*]; done)))))
local macro_rules | `(tactic| wtm_at "nn") => `(tactic| first | exact nn_tab | exact nn_L | exact nn_T | exact nn_I)
local macro_rules | `(tactic| wtm_at "sub") => `(tactic| repeat' first | exact Paired.nil | refine Paired.cons (Or.inr rfl) ?_ | refine Paired.cons (Or.inl rfl) ?_)
local macro_rules | `(tactic| wtm_at "o") => `(tactic| first
    | ((with_reducible show OM (rI0 _) _ _ _ _); first | refine om (x_addN (x_v rfl) (x_v rfl)) ?_ | refine om (x_subN (x_v rfl) (x_v rfl) (by wtm_at "s")) ?_ | refine om (x_bandN (x_v rfl) (x_v rfl)) ?_ | refine om (x_borN (x_v rfl) (x_v rfl)) ?_ | refine om (x_ltN (x_v rfl) (x_v rfl)) ?_ | refine om (x_leN (x_v rfl) (x_v rfl)) ?_ | refine om (x_gtN (x_v rfl) (x_v rfl)) ?_ | refine om (x_geN (x_v rfl) (x_v rfl)) ?_ | refine om (x_I0 (x_v rfl) (x_v rfl)) ?_)
    | ((with_reducible show OM (L2.rI _ _) _ _ _ _); first | refine om (x_powN (x_v rfl) (x_v rfl) (by wtm_at "s") (by wtm_at "s")) ?_ | refine om (x_shrN (x_v rfl) (x_v rfl)) ?_ | refine om (x_shlN1 (x_v rfl) (x_v rfl) (by wtm_at "s")) ?_ | refine om (x_I (x_v rfl) (x_v rfl) (by wtm_at "s")) ?_)
    | ((with_reducible show OM rEq _ _ _ _); first | refine om (x_eqN (x_v rfl) (x_v rfl)) ?_ | refine om (x_eqI (x_v rfl) (x_v rfl)) ?_ | refine om (x_eqV (x_v rfl) (x_v rfl) rfl) ?_)
    | ((with_reducible show OM rNe _ _ _ _); first | refine om (x_neN (x_v rfl) (x_v rfl)) ?_ | refine om (x_neI (x_v rfl) (x_v rfl)) ?_ | refine om (x_neV (x_v rfl) (x_v rfl) rfl) ?_)
    | ((with_reducible show OM (rIxT _) _ _ _ _); first | refine om (x_ixTn (x_v rfl) (x_v rfl) (by wtm_at "s")) ?_ | refine om (x_ixT (x_v rfl) (x_v rfl) rfl) ?_ | refine om (x_ixTm default (x_v rfl) (x_v rfl) (by wtm_at "s")) ?_)
    | ((with_reducible show OM (rIxL _) _ _ _ _); first | refine om (x_ixB (x_v rfl) (x_v rfl) (by wtm_at "s")) ?_ | refine om (x_ixLn (x_v rfl) (x_v rfl) (by wtm_at "s")) ?_ | refine om (x_ixLL (x_v rfl) (x_v rfl) (by wtm_at "s")) ?_ | refine om_ixOwn 0 rfl (by wtm_at "s") ?_ | refine om_ixOwn 1 rfl (by wtm_at "s") ?_ | refine om_ixOwn 2 rfl (by wtm_at "s") ?_ | refine om_ixOwn 3 rfl (by wtm_at "s") ?_ | refine om (x_ixL (x_v rfl) (x_v rfl) rfl) ?_ | refine om (x_ixL (x_v rfl) (x_v rfl) (by assumption)) ?_ | refine om (x_ixLm default (x_v rfl) (x_v rfl) (by wtm_at "s")) ?_)
    | ((with_reducible show OM (rIn _ _) _ _ _ _); first | refine om (x_inLn (l := [_, _]) (x_v rfl) (x_v rfl)) ?_ | refine om (x_inLn (l := [_, _, _]) (x_v rfl) (x_v rfl)) ?_ | refine om (x_inLn (x_v rfl) (x_v rfl)) ?_ | refine om (x_niLn (x_v rfl) (x_v rfl)) ?_ | refine om (x_inTi true (x_v rfl) (x_v rfl)) ?_ | refine om (x_inTi false (x_v rfl) (x_v rfl)) ?_ | refine om (x_inLi true (x_v rfl) (x_v rfl)) ?_ | refine om (x_inLi false (x_v rfl) (x_v rfl)) ?_)
    | ((with_reducible show OM (rEqD _) _ _ _ _); first | refine om (x_eqLn0 (x_v rfl) (x_v rfl)) ?_ | refine om (x_eqLn (x_v rfl) (x_v rfl)) ?_ | refine om (x_eqTn (x_v rfl) (x_v rfl)) ?_ | refine om (x_eqLL (x_v rfl) (x_v rfl)) ?_)
    | ((with_reducible show OM (rNeD _) _ _ _ _); first | refine om (x_neLn0 (x_v rfl) (x_v rfl)) ?_ | refine om (x_neLn (x_v rfl) (x_v rfl)) ?_ | refine om (x_neTn (x_v rfl) (x_v rfl)) ?_ | refine om (x_neLL (x_v rfl) (x_v rfl)) ?_ | refine om (x_neP (x_v rfl) (x_v rfl)) ?_)
    | ((with_reducible show OM (rInD _) _ _ _ _); first | refine om (x_inP (x_v rfl) (x_v rfl)) ?_)
    | ((with_reducible show OM (rNotInD _) _ _ _ _); first | refine om (x_niP (x_v rfl) (x_v rfl)) ?_)
    | ((with_reducible show OM (rInTD _) _ _ _ _); first | refine om (x_inTP (x_v rfl) (x_v rfl)) ?_)
    | ((with_reducible show OM rIsB _ _ _ _); first | refine om (x_isB (x_v rfl) (x_v rfl)) ?_)
    | ((with_reducible show OM rNotB _ _ _ _); first | refine om (x_isNB (x_v rfl) (x_v rfl)) ?_)
    | ((with_reducible show OM (fun _ _ _ _ => _ ∧ _) _ _ _ _); first | refine om_isN0 ?_ | refine om_notN0 ?_ | refine om_isN1 (by wtm_at "nn") ?_ | refine om_notN1 (by wtm_at "nn") ?_)
    | ((with_reducible show OM rRep _ _ _ _); first | refine om_rep (by wtm_at "s") (by wtm_at "s") ?_)
    | ((with_reducible show OM rCat _ _ _ _); first | refine om_cat (by wtm_at "s") ?_ | refine om (x_catm (x_v rfl) (x_v rfl) (by wtm_at "s")) ?_))
local macro_rules | `(tactic| wtm_at "a") => `(tactic| first
    | ((with_reducible show AM (rLenS _) _ _ _); first | refine am1 (x_lenLn (x_v rfl)) ?_ | refine am1 (x_lenTn (x_v rfl)) ?_ | refine am1 (x_lenB (x_v rfl)) ?_ | refine am1 (x_lenLL (x_v rfl)) ?_ | refine am1 (x_lenLm (x_v rfl)) ?_ | refine am1 (x_lenTm (x_v rfl)) ?_ | refine am_own 0 rfl (x_lenLm (x_v rfl)) ?_ | refine am_own 1 rfl (x_lenLm (x_v rfl)) ?_ | refine am_own 2 rfl (x_lenLm (x_v rfl)) ?_ | refine am_own 3 rfl (x_lenLm (x_v rfl)) ?_ | refine am_own 1 rfl (x_lenLm' (x_v rfl)) ?_ | refine am_own 2 rfl (x_lenLm' (x_v rfl)) ?_ | refine am1 (x_lenL (x_v rfl)) ?_ | refine am1 (x_lenT (x_v rfl)) ?_)
    | ((with_reducible show AM (rTupO _) _ _ _); first | refine am1 (x_tupL (x_v rfl)) ?_)
    | ((with_reducible show AM (rListS _) _ _ _); first | refine am_listL ?_ | refine am_listT ?_ | refine am_listOwn 0 rfl ?_ | refine am_listOwn 1 rfl ?_ | refine am_listOwn 2 rfl ?_)
    | ((with_reducible show AM (rIsi _) _ _ _); first | refine am2c (x_isInt (x_v rfl)) ?_ | refine am2c (x_isList (x_v rfl)) ?_ | refine am2c (x_isTup (x_v rfl)) ?_ | refine am2c (x_isTab (Tx.ic_Table (by assumption)) (x_v rfl)) ?_ | refine am2c (x_isIns (by assumption) (by assumption) (x_v rfl)) ?_)
    | ((with_reducible show AM _ _ _ _); first | refine am1 (x_int (x_v rfl)) ?_ | refine mk_tab (by assumption) (by wtm_at "s") (by wtm_at "s") ?_))
local macro_rules | `(tactic| wtm_at "c") => `(tactic| fail)
local macro_rules | `(tactic| wtm_at "c") => `(tactic| refine c_bits (by assumption) (by wtm_at "s") ?_)
local macro_rules | `(tactic| wtm_at "f") => `(tactic| first
    | refine f_own 0 rfl (by wtm_at "s") (by wtm_at "s") rfl ?_
    | refine f_ins (by wtm_at "s") (by wtm_at "s") rfl ?_
    | refine f_tab (x_size (x_v rfl) (Tx.c_Table (by assumption)) (Tx.na_Table_size (by assumption))) ?_
    | refine f_tab (x_masks (x_v rfl) (Tx.c_Table (by assumption)) (Tx.na_Table_masks (by assumption))) ?_
    | refine f_tab (x_cells (x_v rfl) (Tx.c_Table (by assumption)) (Tx.na_Table_cells (by assumption))) ?_)
local macro_rules | `(tactic| wtm_at "v") => `(tactic| first
    | ((with_reducible show EW _ _ _ (tVar _) _ _); refine e_v rfl ?_)
    | ((with_reducible show EW _ _ _ (tC (V.int _)) _ _); refine e_cn ?_)
    | ((with_reducible show EW _ _ _ (tC _) _ _); refine e_c ?_)
    | ((with_reducible show EW _ _ _ (tOp _ _ _) _ _); refine e_op ?_)
    | ((with_reducible show EW _ _ _ (tCB _ _) _ _); refine e_cb ?_)
    | ((with_reducible show EW _ _ _ (tCall _ _ _ _) _ _); refine e_call ?_)
    | ((with_reducible show EW _ _ _ (tCallS _ _ _) _ _); refine e_callS ?_)
    | ((with_reducible show EW _ _ _ (tFld _ _ _) _ _); refine e_fld _ ?_)
    | ((with_reducible show EW _ _ _ (tTup _) _ _); refine e_tup (by assumption) ?_)
    | ((with_reducible show EW _ _ _ (tLst _) _ _); refine e_lst (by assumption) ?_)
    | ((with_reducible show EW _ _ _ (tUn _ _) _ _); refine e_un ?_)
    | ((with_reducible show EW _ _ _ (tMake _ (spTab _ _) _ _ _) _ _); refine e_make ?_)
    | ((with_reducible show EW _ _ _ (tMakeS _ _ _ _) _ _); refine e_makeS ?_)
    | ((with_reducible show EW _ _ _ (tMeth _ _ _ _ _ _ _) _ _); refine e_meth ?_)
    | ((with_reducible show EW _ _ _ (tMethS _ _ _ _ _ _) _ _); refine e_methS ?_)
    | ((with_reducible show EW _ _ _ (tProp _ _ _ _ _) _ _); refine e_prop ?_)
    | ((with_reducible show EW _ _ _ (tLc (iList _ _) _ tYes _ _) _ _); apply e_lcL0; (focus (wtm_at "x")); (focus (wtm_at "s")); (focus (intro a ha; wtm_at "x")); (focus (wtm_at "j")))
    | ((with_reducible show EW _ _ _ (tLc (iTup _ _) _ tYes _ _) _ _); apply e_lcT0; (focus (wtm_at "x")); (focus (wtm_at "s")); (focus (intro a ha; wtm_at "x")); (focus (wtm_at "j")))
    | ((with_reducible show EW _ _ _ (tLc (iRng1 _) _ tYes _ _) _ _); apply e_lcR0 (by assumption); (focus (wtm_at "x")); (focus (wtm_at "s")); (focus (intro a ha; wtm_at "x")); (focus (wtm_at "j")))
    | ((with_reducible show EW _ _ _ (tLc (iList _ _) _ _ _ _) _ _); apply e_lcL; (focus (wtm_at "x")); (focus (wtm_at "s")); (focus (intro a ha; wtm_at "tr")); (focus (intro a ha hf; wtm_at "x")); (focus (wtm_at "j")))
    | ((with_reducible show EW _ _ _ (tLc (iTup _ _) _ _ _ _) _ _); apply e_lcT; (focus (wtm_at "x")); (focus (wtm_at "s")); (focus (intro a ha; wtm_at "tr")); (focus (intro a ha hf; wtm_at "x")); (focus (wtm_at "j")))
    | ((with_reducible show EW _ _ _ (tLc (iRng1 _) _ _ _ _) _ _); apply e_lcR (by assumption); (focus (wtm_at "x")); (focus (wtm_at "s")); (focus (intro a ha; wtm_at "tr")); (focus (intro a ha hf; wtm_at "x")); (focus (wtm_at "j")))
    | ((with_reducible show EW _ _ _ (tSl (rSlL _) _ tNoPart (tPart _)) _ _); apply e_slTo; (focus (wtm_at "x")))
    | ((with_reducible show EW _ _ _ (tSl (rSlL _) _ (tPart _) tNoPart) _ _); apply e_slFrom; (focus (wtm_at "x")))
    | ((with_reducible show EW _ _ _ (tAndV _ _) _ _); first | (apply e_and; (focus (wtm_at "x")); (focus (intro hq; wtm_at "x"))) | (apply e_x; (focus (apply x_and0; (focus (wtm_at "x")); wtm_at "bs"))))
    | ((with_reducible show EW _ _ _ (tOrV _ _) _ _); first | (apply e_or; (focus (wtm_at "x")); (focus (intro hq; wtm_at "x"))) | (apply e_x; (focus (apply x_or1; (focus (wtm_at "x")); wtm_at "bs"))))
    | ((with_reducible show EW _ _ _ (tMake _ (spIni _ _) _ _ _) _ _); refine e_makeI ?_ spIni_E)
    | ((with_reducible show EW _ _ _ (tSup _ _ _ _ _ _ _) _ _); refine e_sup rfl (by assumption) ?_)
    | ((with_reducible show EW _ _ _ (tNotV _) _ _); apply e_not; (focus (wtm_at "x")))
    | ((with_reducible show EW _ _ _ (tBM _ _ _ _ _) _ _); first | refine e_app 0 rfl ?_ rfl | refine e_app 1 rfl ?_ rfl | refine e_app 2 rfl ?_ rfl | refine e_app 3 rfl ?_ rfl))
local macro_rules | `(tactic| wtm_at "e1") => `(tactic| first
    | ((with_reducible show EW _ _ _ _ _ _); wtm_at "v")
    | ((with_reducible show EA _ _ _ _ _ _); first | refine a_cons ?_ | refine a_nil ?_)
    | ((with_reducible show OM _ _ _ _ _); first | wtm_at "o" | wtm_at "c")
    | ((with_reducible show AM _ _ _ _); wtm_at "a")
    | ((with_reducible show CM _ _ _ _); wtm_at "c")
    | ((with_reducible show XM _ _ _ _ _); wtm_at "c")
    | ((with_reducible show MkM _ _ _ _ _ _); wtm_at "c")
    | ((with_reducible show UM _ _ _ _); first | wtm_at "f" | refine um (x_neg (x_v rfl)) ?_ | wtm_at "c")
    | ((with_reducible show InsR _ _ _ ∧ _); first | refine ⟨ins_tab rfl, ?_⟩ | refine ⟨ins_ins rfl, ?_⟩ | refine ⟨ins_ins (by assumption), ?_⟩)
    | ((with_reducible show (∀ (v : V) (G : Hp), _ → ∃ a dx fs, _) ∧ _); refine ⟨ins_is, ?_⟩)
    | ((with_reducible show And (@LE.le Nat _ _ _) _); refine ⟨Nat.le_of_ble_eq_true rfl, ?_⟩)
    | ((with_reducible show ∃ rs : List Rp, _ ∧ _ ∧ _); refine ⟨_, rfl, by wtm_at "s", ?_⟩)
    | ((with_reducible show ∃ rs : List Rp, _ = rL _ rs ∧ _); refine ⟨_, rfl, ?_⟩)
    | ((with_reducible show ∃ fs : FL, _ ∧ _ ∧ _ ∧ _); refine ⟨_, rfl, rfl, Nat.le_of_ble_eq_true rfl, ?_⟩)
    | ((with_reducible show _ = _ ∧ _ = ([] : List Re)); first | exact ⟨rfl, rfl⟩ | exact ⟨by wtm_at "q", rfl⟩))
local macro_rules | `(tactic| wtm_at "q") => `(tactic| first | rfl | exact congrArg nI (by omega) | exact congrArg Mu.rI (by omega) | exact congrArg rB (by wtm_at "b"))
local macro_rules | `(tactic| wtm_at "b") => `(tactic| first | rfl | (rw [Bool.eq_iff_iff]; simp; omega))
local macro_rules | `(tactic| wtm_at "e") => `(tactic| repeat wtm_at "e1")
local macro_rules | `(tactic| wtm_at "co") => `(tactic| fail)

local macro_rules | `(tactic| wtm_at "eo") => `(tactic| repeat first | ((with_reducible show CM _ _ _ _); wtm_at "co") | ((with_reducible show XM _ _ _ _ _); wtm_at "co") | wtm_at "e1")
local macro_rules | `(tactic| wtm_at "x") => `(tactic| first | exact x_v rfl | exact x_c | (apply EvX.by; intro W ε; (wtm_at "e"); done))
local macro_rules | `(tactic| wtm_at "t") => `(tactic| first
    | ((with_reducible show EvTX _ tYes _); exact t_yes)
    | ((with_reducible show EvTX _ (tAnd _ _) _); first | (apply t_and; (focus (wtm_at "t")); (focus (intro hq; wtm_at "t"))) | (apply t_and0; (focus (wtm_at "t")); wtm_at "bs"))
    | ((with_reducible show EvTX _ (tOr _ _) _); first | (apply t_or; (focus (wtm_at "t")); (focus (intro hq; wtm_at "t"))) | (apply t_or1; (focus (wtm_at "t")); wtm_at "bs"))
    | ((with_reducible show EvTX _ (tNot _) _); apply t_not; wtm_at "t")
    | ((with_reducible show EvTX _ (tTest (tChain _ _ _ _ _)) _); apply t_chain; (focus (wtm_at "x")); (focus (wtm_at "x")); (focus (wtm_at "x")))
    | ((with_reducible show EvTX _ (tTest _) _); apply t_T; wtm_at "x")
    | ((with_reducible show EvTX _ (tB _) _); apply t_B; wtm_at "x"))
local macro_rules | `(tactic| wtm_at "tq") => `(tactic| (apply t_is; (focus (wtm_at "t")); try wtm_at "b"))
local macro_rules | `(tactic| wtm_at "if") => `(tactic| (apply w_if; (focus (wtm_at "t"))))
local macro_rules | `(tactic| wtm_at "ifc") => `(tactic| (refine ws_if ?_; (repeat first | refine w_tNot ?_ | refine w_tB ?_ | refine w_t ?_ | wtm_at "e1" | ((with_reducible show ∃ c : Bool, _ = rB c ∧ _); refine ⟨_, rfl, ?_⟩)); refine ⟨?_, ?_⟩))
local macro_rules | `(tactic| wtm_at "w1") => `(tactic| first
    | ((with_reducible show WP _ _ _ (tSeq _ _) _); refine w_seq ?_)
    | ((with_reducible show WP _ _ _ (tAsg _ (gName _)) _); refine ws_set ?_; (wtm_at "e"); dsimp only [List.set])
    | ((with_reducible show WP _ _ _ (tRet _) _); refine ws_ret ?_; (wtm_at "e"))
    | ((with_reducible show WP _ _ _ (sFld _ (tVar _) _ _) _); refine ws_fld 0 rfl rfl (by wtm_at "s") (by wtm_at "s") ?_; (wtm_at "e"); dsimp only [List.set])
    | ((with_reducible show WP _ _ _ (tDrop _) _); refine ws_do ?_; (wtm_at "e"))
    | ((with_reducible show WP _ _ _ tNext _); (refine w_nx ?_))
    | ((with_reducible show WP _ _ _ tRetN _); refine w_ret0 ?_))
local macro_rules | `(tactic| wtm_at "w") => `(tactic| repeat ((try dsimp only); wtm_at "w1"))
theorem sc_Table___init__ : FnScope ["self", "rows", "at", "row", "word", "told", "out"] ["self", "rows"] (defScope s_Table___init__) := ⟨rfl, rfl, rfl, by decide +kernel, rfl, by decide +kernel, by decide +kernel⟩
theorem b_Table___init__ (T : Tx P K mg) : Binds K T.fd_Table___init__ ["self", "rows"] [] := T.F_Table___init__.bindsN fun _ _ _ _ _ _ us hl => match us, hl with | [_, _], _ => rfl
theorem ok_Table___init__ (T : Tx P K mg) : FnOk P w K mg base CX0 3 T.f_Table___init__ T.fd_Table___init__ ["self", "rows"] (spTab K T.C_Table) := by
  refine T.F_Table___init__.ok sc_Table___init__ (fun vs H Q E h => ?_) (fun cdv A outer s H vs Q E hr h => ?_)
  · obtain ⟨p, dx, x, G, rows, rfl, _⟩ := h
    rfl
  · obtain ⟨p, dx, x, G, rows, rfl, hp, e, gp, hx, h1, h6, hrow, k⟩ := h
    have hlen : (rows.map (rLn K)).length = rows.length := List.length_map _
    refine ⟨_, PSs.nox (pss_cons (ps_expr (pe_call (ok_check_size T) (hr.mono (by decide)) (by rfl) T.g_check_size T.F_check_size.kp (b_check_size T) .nil pass0 (pa_cons (pe_callB (call_lenK K) (by rfl) T.m_len PySem.boot_len (pa_cons (pv 1) pa_nil)) pa_nil)))
      (pss_cons (ps_for PassesOwn.never rfl (pi_enum (by rfl) T.m_enumerate (pa_cons (pv 1) pa_nil)) (pg_tup rfl (pgs_cons (pg_name (i := 2) sc_Table___init__.nd rfl (Or.inl rfl)) (pgs_cons (pg_name (i := 3) sc_Table___init__.nd rfl (Or.inl rfl)) pgs_nil))) (pss_one (ps_for PassesOwn.never rfl (pi_listK K (pv 3)) (pg_name (i := 4) sc_Table___init__.nd rfl (Or.inl rfl)) (pss_one (ps_if (PW.pt (pw_or (pt_cmpR op_lt (pv 4) pe_int (nomark _)) (pw_or1 (pt_cmpR op_ge (pv 4) (pe_callB (call_lenK K) (by rfl) T.m_len PySem.boot_len (pa_cons (pv 1) pa_nil)) (nomark _))))) (pss_one ps_never) pss_nil)))))
      (pss_cons (ps_fld (pv 0) (pe_callB (call_lenK K) (by rfl) T.m_len PySem.boot_len (pa_cons (pv 1) pa_nil)) rfl)
      (pss_cons (ps_fld (pv 0) (pe_call (ok_masks_of T) (hr.mono (by decide)) (by rfl) T.g_masks_of T.F_masks_of.kp (b_masks_of T) .nil pass0 (pa_cons (pv 1) pa_nil)) rfl)
      (pss_one (ps_fld (pv 0) (pe_callTy (call_tupK K) (by rfl) T.m_tuple (by decide +kernel) (pa_cons (pe_lc2 (own := [("told", 5), ("out", 6)]) (vs1 := [6]) (by rfl) sc_Table___init__.nd (pi_range1 (by rfl) T.m_range (pa_cons (pe_callB (call_lenK K) (by rfl) T.m_len PySem.boot_len (pa_cons (pv 1) pa_nil)) pa_nil)) (blkOk_by (N := ["self", "rows", "at", "row", "word", "told", "out"]) (sc := defScope s_Table___init__) (by decide +kernel)) (by decide) (fun _ _ _ _ _ => (pg_name (i := 5) sc_Table___init__.nd rfl (Or.inl rfl))) (fun _ _ _ _ _ => pts_nil) (fun _ _ _ _ _ => (pi_listK K (pe_call (ok_bits T) (hr.mono (by decide)) (by rfl) T.g_bits T.F_bits.kp (b_bits T) .nil pass0 (pa_cons (pe_ix (ix_tupK K) (pe_fldK K (pv 0)) (pv 5) (fun _ _ => rfl)) pa_nil)))) (fun _ _ _ _ _ => (pg_name (i := 6) sc_Table___init__.nd rfl (Or.inl rfl))) (fun _ _ _ _ _ => pts_nil) (fun _ _ _ _ _ => (pe_tup (pa_cons (pv 5) (pa_cons (pv 6) pa_nil))))) pa_nil)) rfl)))))), ?_⟩
    -- check_size(len(rows))
    refine sq (s_doE e (ev_callD (v := .non) (ead_cons (Ev.d (ev_lenL (ed_var rfl hx) hlen)) ead_nil) fun vs G2 e2 ra => ?_) fun H1 e1 => ?_)
    · obtain ⟨y, rfl, hy⟩ := ra1 ra
      obtain rfl : y = V.int (rows.length : Int) := hy
      exact SpD.of ⟨rows.length, rfl, h1, h6, rfl⟩
    -- for at, row in enumerate(rows): for word in row
    refine sq (Mu.s_forE rows (rLn K) (e.trans e1) (ead_cons (ed_var rfl hx) ead_nil) (fun G1 i σ' H' => Ex G1 H' ∧ Ex H H' ∧ ∃ a b c d f, σ' = [some (.ref p), some x, a, b, c, d, f]) (fun G1 H2 g => ⟨g.i, e1.trans g.h, _, _, _, _, _, rfl⟩) (fun _ _ _ _ q => q.1) (fun G1 i σ' H' H'' q z => ⟨q.1.trans z, q.2.1.trans z, q.2.2⟩) ?_ ?_)
    · rintro G1 i row y σ' H' eG hi hy ⟨e2, e3, a, b, c, d, f, rfl⟩
      have hw := (hrow row (List.mem_of_getElem? hi)).2
      refine Mu.s_forL row nI e2 (ed_var rfl hy) (fun G2 i' σ' H' => Ex G2 H' ∧ Ex G1 H' ∧ Ex H H' ∧ ∃ a b c d f, σ' = [some (.ref p), some x, a, b, c, d, f]) (fun G2 H2 g => ⟨g.i, g.g.trans g.i, e3.trans g.h, _, _, _, _, _, rfl⟩) (fun _ _ _ _ q => q.1) ?_ ?_
      · rintro G2 i' w z σ' H2 eG2 hi' hz ⟨e4, e5, e6, a', b', c', d', f', rfl⟩
        obtain rfl : z = V.int (w : Int) := hz
        have hlt := hw w (List.mem_of_getElem? hi')
        refine s_ifE (Ex.refl H2) (et_or (et_cmp (ev_var rfl) ev_c) fun _ => et_cmp (ev_var rfl) (ev_lenL (ed_var rfl ((rLL K rows).mono (e.trans e6) hx)) hlen)) (fun hb H3 e7 => ?_) (fun hb H3 e7 => ?_)
        · exfalso
          rcases Bool.or_eq_true_iff.mp hb with q | q
          · have := of_decide_eq_true q; omega
          · have := of_decide_eq_true q; omega
        · exact nxt ⟨e4.trans e7, e5.trans e7, e6.trans e7, _, _, _, _, _, rfl⟩
      · rintro G2 σ' H2 eG2 ⟨e4, e5, e6, a', b', c', d', f', rfl⟩
        exact ⟨e5, e6, _, _, _, _, _, rfl⟩
    · rintro G1 σ' H2 eG ⟨e2, e3, a, b, c, d, f, rfl⟩
      have hp2 := e3 _ _ hp
      -- self.size = len(rows)
      refine sq (s_fld (e.trans e3) hp2 gp (Ev.d (ev_lenL (ed_var rfl hx) hlen)) (ev_var rfl) T.c_Table T.na_Table_size (by decide) fun y G2 H3 eg2 k2 i2 n2 gp2 hy hp3 => ?_)
      obtain rfl : y = V.int (rows.length : Int) := hy
      -- self.masks = masks_of(rows)
      refine sq (s_fld (r := rTn K (rows.map maskN)) i2 hp3 gp2 (ed_call (ead_cons (ed_var rfl ((rLL K rows).mono eg2 hx)) ead_nil) fun vs G3 e3 ra => ?_) (ev_var rfl) T.c_Table T.na_Table_masks (by show 1 < 1000; decide) fun y G3 H4 eg3 k3 i3 n3 gp3 hy hp4 => ?_)
      · obtain ⟨y, rfl, hy⟩ := ra1 ra
        exact SpD.of ⟨y, rows, rfl, hy, by omega, fun q hq w hw => by have := (hrow q hq).2 w hw; omega, rfl⟩
      obtain ⟨tm, hm⟩ : ∃ tm, y = V.ref tm := by
        obtain ⟨a, _, h, _⟩ := hy
        exact ⟨a, h⟩
      subst hm
      have wf : ∀ a, ((rows.map maskN).getD a 0) < 2 ^ 6 := fun a => by
        rw [List.getD_eq_getElem?_getD, List.getElem?_map]
        cases q : rows[a]? with
        | none => exact Nat.two_pow_pos 6
        | some r => exact maskN_lt fun w hw => by have := (hrow r (List.mem_of_getElem? q)).2 w hw; omega
      have eF : putF "masks" (V.ref tm) (putF "size" (V.int (rows.length : Int)) []) = [(("size" : Str), V.int (rows.length : Int)), ("masks", V.ref tm)] := by
        have c1 : ¬ (("size" : Str) = "masks") := by decide +kernel
        show (if ("size" : Str) = "masks" then _ else (("size" : Str), V.int (rows.length : Int)) :: putF "masks" (V.ref tm) []) = _
        rw [if_neg c1]; rfl
      have lk : (putF "masks" (V.ref tm) (putF "size" (V.int (rows.length : Int)) [])).lookup ("masks" : Str) = some (V.ref tm) := by
        have c1 : (("masks" : Str) == ("size" : Str)) = false := by decide +kernel
        rw [eF]
        simp [List.lookup, c1]
      -- self.cells = tuple([..])
      refine s_fldS i3 hp4 gp3 (r := rT K ((pairsN (rows.map maskN)).map (rP K))) (ed_is (ed_tupL (EvN.d (en_lc2R rows.length (fun a => bitsN ((rows.map maskN).getD a 0)) nI (fun a b => rP K (a, b)) (ea_cons (ev_lenL (ed_var rfl ((rLL K rows).mono ((eg2.trans eg3).trans (Ex.new gp3)) hx)) hlen) ea_nil) (by omega) (fun a _ => Nat.le_trans (bits_len (wf a)) (by decide)) (fun _ => rfl) (fun _ _ => rfl) ?_ ?_))) ?_) (fun y G4 hG hy => rP_off hG hy) (ev_var rfl) T.c_Table T.na_Table_cells (by rw [eF]; show 2 < 1000; decide) fun y G4 H5 eg4 k4 i4 n4 gp4 hy' hp5 => ?_
      · intro a0 G5 ha e5
        have hg5 : G5 p = some (.ins T.C_Table dx (putF "masks" (V.ref tm) (putF "size" (V.int (rows.length : Int)) []))) := e5 _ _ upd_same
        have hm5 : (rTn K (rows.map maskN)).p (.ref tm) G5 := (rTn K _).mono ((Ex.new gp3).trans e5) hy
        have hself : EvD (tFld K (tVar 0) "masks") ((wipe [some (V.ref p), some x, a, b, c, d, f] [5, 6]).set 5 (some (.int (a0 : Int)))) G5 (rTn K (rows.map maskN)) := fun H6 e6 Q q => ⟨.ref p, rfl, p, T.C_Table, dx, _, .ref tm, rfl, e6 _ _ hg5, T.c_Table, T.na_Table_masks, lk, q _ G5 H6 (Gr.refl e6) hm5⟩
        refine EvN.d (en_call (ead_cons (ed_ixT hself (ev_var rfl) (r := nI ((rows.map maskN).getD a0 0)) ?_) ead_nil) fun vs G6 e6 ra => ?_)
        · rw [List.getElem?_map, List.getD_eq_getElem?_getD, List.getElem?_eq_getElem (by rw [List.length_map]; exact ha)]; rfl
        · obtain ⟨z, rfl, hz⟩ := ra1 ra
          obtain rfl : z = V.int (((rows.map maskN).getD a0 0 : Nat) : Int) := hz
          exact SpN.of ⟨_, rfl, Nat.lt_of_lt_of_le (wf a0) (by decide), rfl⟩
      · intro a b' z G5 ha hb e5 hz
        obtain rfl : z = V.int (b' : Int) := hz
        exact ed_tup (ead_cons (Ev.d (ev_var rfl)) (ead_cons (Ev.d (ev_var rfl)) ead_nil)) (by show 2 ≤ 100000; decide)
      · unfold pairsN
        rw [List.map_flatMap, List.length_map]
        congr 2
        funext a
        rw [List.map_map]; rfl
      obtain ⟨tc, hc, -⟩ : ∃ tc, y = V.ref tc ∧ True := by
        obtain ⟨a, _, h, _⟩ := hy'
        exact ⟨a, h, trivial⟩
      subst hc
      refine k H5 G4 tm tc ((eg2.trans eg3).trans eg4) (fun a o z n => k4 a o (k3 a o (k2 a o (e3 a o z) n) n) n) i4 (fun a o z y => ?_) ?_ ((rTn K _).mono eg4 hy) hy'
      · have y2 := n2 a o (e3 a o z) y
        by_cases q : a = p
        · subst q; exact gp4
        · have y3 := n3 a o (k2 a o (e3 a o z) q) y2
          exact n4 a o (k3 a o (k2 a o (e3 a o z) q) q) y3
      · rw [hp5, eF]
        have c1 : ¬ (("size" : Str) = "cells") := by decide +kernel
        have c2 : ¬ (("masks" : Str) = "cells") := by decide +kernel
        show some (HO.ins _ _ (if ("size" : Str) = "cells" then _ else (("size" : Str), V.int (rows.length : Int)) :: (if ("masks" : Str) = "cells" then _ else (("masks" : Str), V.ref tm) :: putF "cells" (V.ref tc) []))) = _
        rw [if_neg c1, if_neg c2]; rfl
theorem sc_Table_rows : FnScope ["self", "mask"] ["self"] (defScope s_Table_rows) := ⟨rfl, rfl, rfl, by decide +kernel, rfl, by decide +kernel, by decide +kernel⟩
theorem b_Table_rows (T : Tx P K mg) : Binds K T.fd_Table_rows ["self"] [] := T.F_Table_rows.bindsN fun _ _ _ _ _ _ us hl => match us, hl with | [_], _ => rfl
def R_rows (K : PySem.W.Frag) (C : Addr) : List V → Hp → List Rp → Prop := fun vs G rs => ∃ (x : V) (m : List Nat), vs = [x] ∧ (rTab K C m).p x G ∧ m.length ≤ 1000 ∧ (∀ q ∈ m, q < 2 ^ 64) ∧ rs = (m.map bitsN).map (rLn K)
theorem ok_Table_rows (T : Tx P K mg) : FnOk P w K mg base CX0 2 T.f_Table_rows T.fd_Table_rows ["self"] (spN (R_rows K T.C_Table)) := by
  refine T.F_Table_rows.ok sc_Table_rows (fun vs H Q E h => ?_) (fun cdv A outer s H vs Q E hr h => ?_)
  · obtain ⟨G, rs, _, ⟨x, m, rfl, _⟩, _⟩ := h
    rfl
  · obtain ⟨G, rs, e, ⟨x, m, rfl, hx, h6, hw, rfl⟩, k⟩ := h
    refine ⟨_, PSs.nox (pss_one (ps_ret (pe_lc (own := [("mask", 1)]) (by rfl) sc_Table_rows.nd (pi_tupK K (pe_fldK K (pv 0))) (blkOk_by (N := ["self", "mask"]) (sc := defScope s_Table_rows) (by decide +kernel)) (fun _ _ _ _ _ => (pg_name (i := 1) sc_Table_rows.nd rfl (Or.inl rfl))) (fun _ _ _ _ _ => pts_nil) (fun _ _ _ _ _ => (pe_call (ok_bits T) (hr.mono (by decide)) (by rfl) T.g_bits T.F_bits.kp (b_bits T) .nil pass0 (pa_cons (pv 1) pa_nil)))))), ?_⟩
    refine s_retN e (en_is (en_lcT0 m nI (fun q => rLn K (bitsN q)) (ed_masks (ed_var rfl hx) T.c_Table T.na_Table_masks) (by omega) (fun _ => rfl) fun q y G1 hq e1 hy => EvN.d (en_call (ead_cons (ed_var rfl hy) ead_nil) fun vs G2 e2 ra => ?_)) (by rw [List.map_map]; rfl)) fun p ws G2 H2 g hp gp h2 ra => k p ws G2 H2 g hp gp h2 ra
    obtain ⟨u, rfl, hu⟩ := ra1 ra
    obtain rfl : u = V.int (q : Int) := hu
    exact SpN.of ⟨q, rfl, hw q hq, rfl⟩
end
end MuL

namespace MuL
open PySem PySem.Spec PyProof.Rows L2 He Evl Mu
section
variable {P : Program} {w : World} {K : PySem.W.Frag} {mg : Str → Option Value} {base : Heap}
local macro_rules | `(tactic| wtm_at "s") => `(tactic| first | assumption | omega | exact rfl | decide | wtm_at "s2")
local macro_rules | `(tactic| wtm_at "s2") => `(tactic| (simp only [List.length_map, List.length_range, List.length_cons, List.length_nil, List.length_append]; omega))
local macro_rules | `(tactic| wtm_at "j") => `(tactic| first | exact List.mem_cons_self | (simp; done))
local macro_rules | `(tactic| wtm_at "tr") => `(tactic| (apply t_is; (focus (wtm_at "t")); exact rfl))
local macro_rules | `(tactic| wtm_at "bs") => `(tactic| first | exact rfl | (simp; done) | (simp [*]; done))
local macro_rules | `(tactic| wtm_at "yes") => `(tactic| (apply w_yes; (focus (apply t_is; (focus (wtm_at "t")); first | exact rfl | (simp; done) | (simp [*]; done)))))
local macro_rules | `(tactic| wtm_at "no") => `(tactic| (apply w_no; (focus (apply t_is; (focus (wtm_at "t")); first | exact rfl | (simp; done) | (simp [*]; done)))))
local macro_rules | `(tactic| wtm_at "nn") => `(tactic| first | exact nn_tab | exact nn_L | exact nn_T | exact nn_I)
local macro_rules | `(tactic| wtm_at "sub") => `(tactic| repeat' first | exact Paired.nil | refine Paired.cons (Or.inr rfl) ?_ | refine Paired.cons (Or.inl rfl) ?_)
local macro_rules | `(tactic| wtm_at "o") => `(tactic| first
    | ((with_reducible show OM (rI0 _) _ _ _ _); first | refine om (x_addN (x_v rfl) (x_v rfl)) ?_ | refine om (x_subN (x_v rfl) (x_v rfl) (by wtm_at "s")) ?_ | refine om (x_bandN (x_v rfl) (x_v rfl)) ?_ | refine om (x_borN (x_v rfl) (x_v rfl)) ?_ | refine om (x_ltN (x_v rfl) (x_v rfl)) ?_ | refine om (x_leN (x_v rfl) (x_v rfl)) ?_ | refine om (x_gtN (x_v rfl) (x_v rfl)) ?_ | refine om (x_geN (x_v rfl) (x_v rfl)) ?_ | refine om (x_I0 (x_v rfl) (x_v rfl)) ?_)
    | ((with_reducible show OM (L2.rI _ _) _ _ _ _); first | refine om (x_powN (x_v rfl) (x_v rfl) (by wtm_at "s") (by wtm_at "s")) ?_ | refine om (x_shrN (x_v rfl) (x_v rfl)) ?_ | refine om (x_shlN1 (x_v rfl) (x_v rfl) (by wtm_at "s")) ?_ | refine om (x_I (x_v rfl) (x_v rfl) (by wtm_at "s")) ?_)
    | ((with_reducible show OM rEq _ _ _ _); first | refine om (x_eqN (x_v rfl) (x_v rfl)) ?_ | refine om (x_eqI (x_v rfl) (x_v rfl)) ?_ | refine om (x_eqV (x_v rfl) (x_v rfl) rfl) ?_)
    | ((with_reducible show OM rNe _ _ _ _); first | refine om (x_neN (x_v rfl) (x_v rfl)) ?_ | refine om (x_neI (x_v rfl) (x_v rfl)) ?_ | refine om (x_neV (x_v rfl) (x_v rfl) rfl) ?_)
    | ((with_reducible show OM (rIxT _) _ _ _ _); first | refine om (x_ixTn (x_v rfl) (x_v rfl) (by wtm_at "s")) ?_ | refine om (x_ixT (x_v rfl) (x_v rfl) rfl) ?_ | refine om (x_ixTm default (x_v rfl) (x_v rfl) (by wtm_at "s")) ?_)
    | ((with_reducible show OM (rIxL _) _ _ _ _); first | refine om (x_ixB (x_v rfl) (x_v rfl) (by wtm_at "s")) ?_ | refine om (x_ixLn (x_v rfl) (x_v rfl) (by wtm_at "s")) ?_ | refine om (x_ixLL (x_v rfl) (x_v rfl) (by wtm_at "s")) ?_ | refine om_ixOwn 0 rfl (by wtm_at "s") ?_ | refine om_ixOwn 1 rfl (by wtm_at "s") ?_ | refine om_ixOwn 2 rfl (by wtm_at "s") ?_ | refine om_ixOwn 3 rfl (by wtm_at "s") ?_ | refine om (x_ixL (x_v rfl) (x_v rfl) rfl) ?_ | refine om (x_ixL (x_v rfl) (x_v rfl) (by assumption)) ?_ | refine om (x_ixLm default (x_v rfl) (x_v rfl) (by wtm_at "s")) ?_)
    | ((with_reducible show OM (rIn _ _) _ _ _ _); first | refine om (x_inLn (l := [_, _]) (x_v rfl) (x_v rfl)) ?_ | refine om (x_inLn (l := [_, _, _]) (x_v rfl) (x_v rfl)) ?_ | refine om (x_inLn (x_v rfl) (x_v rfl)) ?_ | refine om (x_niLn (x_v rfl) (x_v rfl)) ?_ | refine om (x_inTi true (x_v rfl) (x_v rfl)) ?_ | refine om (x_inTi false (x_v rfl) (x_v rfl)) ?_ | refine om (x_inLi true (x_v rfl) (x_v rfl)) ?_ | refine om (x_inLi false (x_v rfl) (x_v rfl)) ?_)
    | ((with_reducible show OM (rEqD _) _ _ _ _); first | refine om (x_eqLn0 (x_v rfl) (x_v rfl)) ?_ | refine om (x_eqLn (x_v rfl) (x_v rfl)) ?_ | refine om (x_eqTn (x_v rfl) (x_v rfl)) ?_ | refine om (x_eqLL (x_v rfl) (x_v rfl)) ?_)
    | ((with_reducible show OM (rNeD _) _ _ _ _); first | refine om (x_neLn0 (x_v rfl) (x_v rfl)) ?_ | refine om (x_neLn (x_v rfl) (x_v rfl)) ?_ | refine om (x_neTn (x_v rfl) (x_v rfl)) ?_ | refine om (x_neLL (x_v rfl) (x_v rfl)) ?_ | refine om (x_neP (x_v rfl) (x_v rfl)) ?_)
    | ((with_reducible show OM (rInD _) _ _ _ _); first | refine om (x_inP (x_v rfl) (x_v rfl)) ?_)
    | ((with_reducible show OM (rNotInD _) _ _ _ _); first | refine om (x_niP (x_v rfl) (x_v rfl)) ?_)
    | ((with_reducible show OM (rInTD _) _ _ _ _); first | refine om (x_inTP (x_v rfl) (x_v rfl)) ?_)
    | ((with_reducible show OM rIsB _ _ _ _); first | refine om (x_isB (x_v rfl) (x_v rfl)) ?_)
    | ((with_reducible show OM rNotB _ _ _ _); first | refine om (x_isNB (x_v rfl) (x_v rfl)) ?_)
    | ((with_reducible show OM (fun _ _ _ _ => _ ∧ _) _ _ _ _); first | refine om_isN0 ?_ | refine om_notN0 ?_ | refine om_isN1 (by wtm_at "nn") ?_ | refine om_notN1 (by wtm_at "nn") ?_)
    | ((with_reducible show OM rRep _ _ _ _); first | refine om_rep (by wtm_at "s") (by wtm_at "s") ?_)
    | ((with_reducible show OM rCat _ _ _ _); first | refine om_cat (by wtm_at "s") ?_ | refine om (x_catm (x_v rfl) (x_v rfl) (by wtm_at "s")) ?_))
local macro_rules | `(tactic| wtm_at "a") => `(tactic| first
    | ((with_reducible show AM (rLenS _) _ _ _); first | refine am1 (x_lenLn (x_v rfl)) ?_ | refine am1 (x_lenTn (x_v rfl)) ?_ | refine am1 (x_lenB (x_v rfl)) ?_ | refine am1 (x_lenLL (x_v rfl)) ?_ | refine am1 (x_lenLm (x_v rfl)) ?_ | refine am1 (x_lenTm (x_v rfl)) ?_ | refine am_own 0 rfl (x_lenLm (x_v rfl)) ?_ | refine am_own 1 rfl (x_lenLm (x_v rfl)) ?_ | refine am_own 2 rfl (x_lenLm (x_v rfl)) ?_ | refine am_own 3 rfl (x_lenLm (x_v rfl)) ?_ | refine am_own 1 rfl (x_lenLm' (x_v rfl)) ?_ | refine am_own 2 rfl (x_lenLm' (x_v rfl)) ?_ | refine am1 (x_lenL (x_v rfl)) ?_ | refine am1 (x_lenT (x_v rfl)) ?_)
    | ((with_reducible show AM (rTupO _) _ _ _); first | refine am1 (x_tupL (x_v rfl)) ?_)
    | ((with_reducible show AM (rListS _) _ _ _); first | refine am_listL ?_ | refine am_listT ?_ | refine am_listOwn 0 rfl ?_ | refine am_listOwn 1 rfl ?_ | refine am_listOwn 2 rfl ?_)
    | ((with_reducible show AM (rIsi _) _ _ _); first | refine am2c (x_isInt (x_v rfl)) ?_ | refine am2c (x_isList (x_v rfl)) ?_ | refine am2c (x_isTup (x_v rfl)) ?_ | refine am2c (x_isTab (Tx.ic_Table (by assumption)) (x_v rfl)) ?_ | refine am2c (x_isIns (by assumption) (by assumption) (x_v rfl)) ?_)
    | ((with_reducible show AM _ _ _ _); first | refine am1 (x_int (x_v rfl)) ?_ | refine mk_tab (by assumption) (by wtm_at "s") (by wtm_at "s") ?_))
local macro_rules | `(tactic| wtm_at "c") => `(tactic| fail)
local macro_rules | `(tactic| wtm_at "c") => `(tactic| refine c_bits (by assumption) (by wtm_at "s") ?_)
local macro_rules | `(tactic| wtm_at "f") => `(tactic| first
    | refine f_own 0 rfl (by wtm_at "s") (by wtm_at "s") rfl ?_
    | refine f_ins (by wtm_at "s") (by wtm_at "s") rfl ?_
    | refine f_tab (x_size (x_v rfl) (Tx.c_Table (by assumption)) (Tx.na_Table_size (by assumption))) ?_
    | refine f_tab (x_masks (x_v rfl) (Tx.c_Table (by assumption)) (Tx.na_Table_masks (by assumption))) ?_
    | refine f_tab (x_cells (x_v rfl) (Tx.c_Table (by assumption)) (Tx.na_Table_cells (by assumption))) ?_)
local macro_rules | `(tactic| wtm_at "v") => `(tactic| first
    | ((with_reducible show EW _ _ _ (tVar _) _ _); refine e_v rfl ?_)
    | ((with_reducible show EW _ _ _ (tC (V.int _)) _ _); refine e_cn ?_)
    | ((with_reducible show EW _ _ _ (tC _) _ _); refine e_c ?_)
    | ((with_reducible show EW _ _ _ (tOp _ _ _) _ _); refine e_op ?_)
    | ((with_reducible show EW _ _ _ (tCB _ _) _ _); refine e_cb ?_)
    | ((with_reducible show EW _ _ _ (tCall _ _ _ _) _ _); refine e_call ?_)
    | ((with_reducible show EW _ _ _ (tCallS _ _ _) _ _); refine e_callS ?_)
    | ((with_reducible show EW _ _ _ (tFld _ _ _) _ _); refine e_fld _ ?_)
    | ((with_reducible show EW _ _ _ (tTup _) _ _); refine e_tup (by assumption) ?_)
    | ((with_reducible show EW _ _ _ (tLst _) _ _); refine e_lst (by assumption) ?_)
    | ((with_reducible show EW _ _ _ (tUn _ _) _ _); refine e_un ?_)
    | ((with_reducible show EW _ _ _ (tMake _ (spTab _ _) _ _ _) _ _); refine e_make ?_)
    | ((with_reducible show EW _ _ _ (tMakeS _ _ _ _) _ _); refine e_makeS ?_)
    | ((with_reducible show EW _ _ _ (tMeth _ _ _ _ _ _ _) _ _); refine e_meth ?_)
    | ((with_reducible show EW _ _ _ (tMethS _ _ _ _ _ _) _ _); refine e_methS ?_)
    | ((with_reducible show EW _ _ _ (tProp _ _ _ _ _) _ _); refine e_prop ?_)
    | ((with_reducible show EW _ _ _ (tLc (iList _ _) _ tYes _ _) _ _); apply e_lcL0; (focus (wtm_at "x")); (focus (wtm_at "s")); (focus (intro a ha; wtm_at "x")); (focus (wtm_at "j")))
    | ((with_reducible show EW _ _ _ (tLc (iTup _ _) _ tYes _ _) _ _); apply e_lcT0; (focus (wtm_at "x")); (focus (wtm_at "s")); (focus (intro a ha; wtm_at "x")); (focus (wtm_at "j")))
    | ((with_reducible show EW _ _ _ (tLc (iRng1 _) _ tYes _ _) _ _); apply e_lcR0 (by assumption); (focus (wtm_at "x")); (focus (wtm_at "s")); (focus (intro a ha; wtm_at "x")); (focus (wtm_at "j")))
    | ((with_reducible show EW _ _ _ (tLc (iList _ _) _ _ _ _) _ _); apply e_lcL; (focus (wtm_at "x")); (focus (wtm_at "s")); (focus (intro a ha; wtm_at "tr")); (focus (intro a ha hf; wtm_at "x")); (focus (wtm_at "j")))
    | ((with_reducible show EW _ _ _ (tLc (iTup _ _) _ _ _ _) _ _); apply e_lcT; (focus (wtm_at "x")); (focus (wtm_at "s")); (focus (intro a ha; wtm_at "tr")); (focus (intro a ha hf; wtm_at "x")); (focus (wtm_at "j")))
    | ((with_reducible show EW _ _ _ (tLc (iRng1 _) _ _ _ _) _ _); apply e_lcR (by assumption); (focus (wtm_at "x")); (focus (wtm_at "s")); (focus (intro a ha; wtm_at "tr")); (focus (intro a ha hf; wtm_at "x")); (focus (wtm_at "j")))
    | ((with_reducible show EW _ _ _ (tSl (rSlL _) _ tNoPart (tPart _)) _ _); apply e_slTo; (focus (wtm_at "x")))
    | ((with_reducible show EW _ _ _ (tSl (rSlL _) _ (tPart _) tNoPart) _ _); apply e_slFrom; (focus (wtm_at "x")))
    | ((with_reducible show EW _ _ _ (tAndV _ _) _ _); first | (apply e_and; (focus (wtm_at "x")); (focus (intro hq; wtm_at "x"))) | (apply e_x; (focus (apply x_and0; (focus (wtm_at "x")); wtm_at "bs"))))
    | ((with_reducible show EW _ _ _ (tOrV _ _) _ _); first | (apply e_or; (focus (wtm_at "x")); (focus (intro hq; wtm_at "x"))) | (apply e_x; (focus (apply x_or1; (focus (wtm_at "x")); wtm_at "bs"))))
    | ((with_reducible show EW _ _ _ (tMake _ (spIni _ _) _ _ _) _ _); refine e_makeI ?_ spIni_E)
    | ((with_reducible show EW _ _ _ (tSup _ _ _ _ _ _ _) _ _); refine e_sup rfl (by assumption) ?_)
    | ((with_reducible show EW _ _ _ (tNotV _) _ _); apply e_not; (focus (wtm_at "x")))
    | ((with_reducible show EW _ _ _ (tBM _ _ _ _ _) _ _); first | refine e_app 0 rfl ?_ rfl | refine e_app 1 rfl ?_ rfl | refine e_app 2 rfl ?_ rfl | refine e_app 3 rfl ?_ rfl))
local macro_rules | `(tactic| wtm_at "e1") => `(tactic| first
    | ((with_reducible show EW _ _ _ _ _ _); wtm_at "v")
    | ((with_reducible show EA _ _ _ _ _ _); first | refine a_cons ?_ | refine a_nil ?_)
    | ((with_reducible show OM _ _ _ _ _); first | wtm_at "o" | wtm_at "c")
    | ((with_reducible show AM _ _ _ _); wtm_at "a")
    | ((with_reducible show CM _ _ _ _); wtm_at "c")
    | ((with_reducible show XM _ _ _ _ _); wtm_at "c")
    | ((with_reducible show MkM _ _ _ _ _ _); wtm_at "c")
    | ((with_reducible show UM _ _ _ _); first | wtm_at "f" | refine um (x_neg (x_v rfl)) ?_ | wtm_at "c")
    | ((with_reducible show InsR _ _ _ ∧ _); first | refine ⟨ins_tab rfl, ?_⟩ | refine ⟨ins_ins rfl, ?_⟩ | refine ⟨ins_ins (by assumption), ?_⟩)
    | ((with_reducible show (∀ (v : V) (G : Hp), _ → ∃ a dx fs, _) ∧ _); refine ⟨ins_is, ?_⟩)
    | ((with_reducible show And (@LE.le Nat _ _ _) _); refine ⟨Nat.le_of_ble_eq_true rfl, ?_⟩)
    | ((with_reducible show ∃ rs : List Rp, _ ∧ _ ∧ _); refine ⟨_, rfl, by wtm_at "s", ?_⟩)
    | ((with_reducible show ∃ rs : List Rp, _ = rL _ rs ∧ _); refine ⟨_, rfl, ?_⟩)
    | ((with_reducible show ∃ fs : FL, _ ∧ _ ∧ _ ∧ _); refine ⟨_, rfl, rfl, Nat.le_of_ble_eq_true rfl, ?_⟩)
    | ((with_reducible show _ = _ ∧ _ = ([] : List Re)); first | exact ⟨rfl, rfl⟩ | exact ⟨by wtm_at "q", rfl⟩))
local macro_rules | `(tactic| wtm_at "q") => `(tactic| first | rfl | exact congrArg nI (by omega) | exact congrArg Mu.rI (by omega) | exact congrArg rB (by wtm_at "b"))
local macro_rules | `(tactic| wtm_at "b") => `(tactic| first | rfl | (rw [Bool.eq_iff_iff]; simp; omega))
local macro_rules | `(tactic| wtm_at "e") => `(tactic| repeat wtm_at "e1")
local macro_rules | `(tactic| wtm_at "co") => `(tactic| fail)

local macro_rules | `(tactic| wtm_at "eo") => `(tactic| repeat first | ((with_reducible show CM _ _ _ _); wtm_at "co") | ((with_reducible show XM _ _ _ _ _); wtm_at "co") | wtm_at "e1")
local macro_rules | `(tactic| wtm_at "x") => `(tactic| first | exact x_v rfl | exact x_c | (apply EvX.by; intro W ε; (wtm_at "e"); done))
local macro_rules | `(tactic| wtm_at "t") => `(tactic| first
    | ((with_reducible show EvTX _ tYes _); exact t_yes)
    | ((with_reducible show EvTX _ (tAnd _ _) _); first | (apply t_and; (focus (wtm_at "t")); (focus (intro hq; wtm_at "t"))) | (apply t_and0; (focus (wtm_at "t")); wtm_at "bs"))
    | ((with_reducible show EvTX _ (tOr _ _) _); first | (apply t_or; (focus (wtm_at "t")); (focus (intro hq; wtm_at "t"))) | (apply t_or1; (focus (wtm_at "t")); wtm_at "bs"))
    | ((with_reducible show EvTX _ (tNot _) _); apply t_not; wtm_at "t")
    | ((with_reducible show EvTX _ (tTest (tChain _ _ _ _ _)) _); apply t_chain; (focus (wtm_at "x")); (focus (wtm_at "x")); (focus (wtm_at "x")))
    | ((with_reducible show EvTX _ (tTest _) _); apply t_T; wtm_at "x")
    | ((with_reducible show EvTX _ (tB _) _); apply t_B; wtm_at "x"))
local macro_rules | `(tactic| wtm_at "tq") => `(tactic| (apply t_is; (focus (wtm_at "t")); try wtm_at "b"))
local macro_rules | `(tactic| wtm_at "if") => `(tactic| (apply w_if; (focus (wtm_at "t"))))
local macro_rules | `(tactic| wtm_at "ifc") => `(tactic| (refine ws_if ?_; (repeat first | refine w_tNot ?_ | refine w_tB ?_ | refine w_t ?_ | wtm_at "e1" | ((with_reducible show ∃ c : Bool, _ = rB c ∧ _); refine ⟨_, rfl, ?_⟩)); refine ⟨?_, ?_⟩))
local macro_rules | `(tactic| wtm_at "w1") => `(tactic| first
    | ((with_reducible show WP _ _ _ (tSeq _ _) _); refine w_seq ?_)
    | ((with_reducible show WP _ _ _ (tAsg _ (gName _)) _); refine ws_set ?_; (wtm_at "e"); dsimp only [List.set])
    | ((with_reducible show WP _ _ _ (tRet _) _); refine ws_ret ?_; (wtm_at "e"))
    | ((with_reducible show WP _ _ _ (sFld _ (tVar _) _ _) _); refine ws_fld 0 rfl rfl (by wtm_at "s") (by wtm_at "s") ?_; (wtm_at "e"); dsimp only [List.set])
    | ((with_reducible show WP _ _ _ (tDrop _) _); refine ws_do ?_; (wtm_at "e"))
    | ((with_reducible show WP _ _ _ tNext _); (refine w_nx ?_))
    | ((with_reducible show WP _ _ _ tRetN _); refine w_ret0 ?_))
local macro_rules | `(tactic| wtm_at "w") => `(tactic| repeat ((try dsimp only); wtm_at "w1"))
theorem sc_all_words : FnScope ["size", "words", "word"] ["size", "words"] (defScope s_all_words) := ⟨rfl, rfl, rfl, by decide +kernel, rfl, by decide +kernel, by decide +kernel⟩
theorem b_all_words (T : Tx P K mg) : Binds K T.fd_all_words ["size", "words"] [] := T.F_all_words.bindsN fun _ _ _ _ _ _ us hl => match us, hl with | [_, _], _ => rfl
theorem take_succ_all {α : Type} {q : α → Prop} {l : List α} {i : Nat} {x : α} (h : l[i]? = some x) (hb : ∀ w ∈ l.take i, q w) (hx : q x) : ∀ w ∈ l.take (i + 1), q w := fun w hw => by
  rw [List.take_add_one, h] at hw
  rcases List.mem_append.mp hw with z | z
  · exact hb w z
  · simp at z; rw [z]; exact hx

def R_all_words (T : Tx P K mg) : List V → Hp → Rp → Prop := fun vs G r => ∃ (n : Nat) (l : List Int), RA G vs [nI n, rLi K l] ∧ r = rB (!l.any (badW n))
theorem ok_all_words (T : Tx P K mg) : FnOk P w K mg base CX0 1 T.f_all_words T.fd_all_words ["size", "words"] (spD (R_all_words T)) := by
  refine T.F_all_words.ok sc_all_words (fun vs H Q E h => ?_) (fun cdv A outer s H vs Q E hr h => ?_)
  · obtain ⟨G, r, _, ⟨n, l, ra, _⟩, _⟩ := h
    exact ra.len
  · obtain ⟨G, r, e, ⟨n, l, ra, rfl⟩, k⟩ := h
    refine ⟨_, PSs.nox (pss_cons (ps_for PassesOwn.never rfl (pi_listK K (pv 1)) (pg_name (i := 2) sc_all_words.nd rfl (Or.inl rfl)) (pss_one (ps_if (PW.pt (pw_or (pt_cmpR op_lt (pv 2) pe_int (nomark _)) (pw_or1 (pt_cmpR op_ge (pv 2) (pv 0) (nomark _))))) (pss_one (ps_ret pe_bl)) pss_nil)))
      (pss_one (ps_ret pe_bl))), ?_⟩
    refine run_D (W := fun _ _ _ _ => False) (Γ := [some (nI n), some (rLi K l), none]) ?_ e (En.start (k := 1) _ (rs := [nI n, rLi K l]) ra (by rw [ra.len]; rfl)) k
    clear ra e k
    wtm_at "w"
    refine w_forL l Mu.rI (fun i (_ : Unit) => ∀ w ∈ l.take i, badW n w = false) (fun _ _ => [some (nI n), some (rLi K l), none]) (fun _ _ => []) (by wtm_at "x") () (by simp) (by wtm_at "sub") rfl (fun i _ w hi hp => ?_) (fun _ hp => ?_)
    · dsimp only [List.set]
      wtm_at "if"
      all_goals intro hb
      · wtm_at "w"
        have e : l.any (badW n) = true := List.any_eq_true.mpr ⟨w, List.mem_of_getElem? hi, hb⟩
        rw [e]; rfl
      · exact w_nx ⟨(), take_succ_all hi hp hb, by wtm_at "sub", rfl⟩
    · rw [List.take_length] at hp
      wtm_at "w"
      have e : l.any (badW n) = false := List.any_eq_false.mpr fun w hw => by rw [hp w hw]; decide
      rw [e]; rfl
theorem c_all_words (T : Tx P K mg) {M : List Re} {κ : KV} {n : Nat} {l : List Int}  (k : κ (rB (!l.any (badW n))) M) : CM (spD (R_all_words T)) [nI n, rLi K l] M κ := cm (fun vs G ra => SpD.of ⟨n, l, ra, rfl⟩) k
local macro_rules | `(tactic| wtm_at "c") => `(tactic| refine c_all_words _  ?_)
theorem sc_BadPerson___init__ : FsScope ["self", "part"] ["self", "part"] (defScope s_BadPerson___init__) := ⟨rfl, rfl, rfl, by decide +kernel, rfl, by decide +kernel, by decide +kernel, by decide +kernel, rfl, rfl⟩
theorem b_BadPerson___init__ (T : Tx P K mg) : Binds K T.fd_BadPerson___init__ ["self", "part"] [] := by
  obtain ⟨oc, od, kV, doc, pm, an, ct, osl, e, lk⟩ := T.S_BadPerson___init__.fn
  rw [e]
  exact Binds.all fun us hl => match us, hl with | [_, _], _ => rfl
theorem ok_BadPerson___init__ (T : Tx P K mg) : FnOk P w K mg base CX0 1 T.f_BadPerson___init__ T.fd_BadPerson___init__ ["self", "part"] (spErr T.C_BadPerson ["part"]) := by
  refine T.S_BadPerson___init__.ok sc_BadPerson___init__ (fun vs H Q E h => ?_) (fun A outer s H vs Q E hr h => ?_)
  · obtain ⟨a, xs, rfl, hl, _⟩ := h
    show xs.length + 1 = 2
    rw [hl]; rfl
  · obtain ⟨a, xs, rfl, hl, ha, k⟩ := h
    match xs, hl with
    | [x0], _ =>
    refine ⟨_, psa_expr (pea_supInit T.S_BadPerson___init__ sc_BadPerson___init__ T.pf T.m_super rfl rfl rfl (pa_cons pe_str pa_nil)) (pss_one (ps_ost (pv 0) (pv 1))), ?_⟩
    refine ⟨a, T.C_BadPerson, rfl, ha, T.err_BadPerson.oex, T.err_BadPerson.me, T.err_BadPerson.sup, T.err_BadPerson.ve, ?_⟩
    refine ⟨by show 1 ≤ 1000; decide, ha, ?_⟩
    exact ⟨x0, rfl, .ref a, rfl, a, T.C_BadPerson, rfl, T.err_BadPerson.oex, T.nf_BadPerson_part, .inl ⟨ha, fun dx hd hne => k dx hd hne⟩⟩
theorem sc_check_person : FnScope ["hears", "says", "size", "row"] ["hears", "says"] (defScope s_check_person) := ⟨rfl, rfl, rfl, by decide +kernel, rfl, by decide +kernel, by decide +kernel⟩
theorem b_check_person (T : Tx P K mg) : Binds K T.fd_check_person ["hears", "says"] [] := T.F_check_person.bindsN fun _ _ _ _ _ _ us hl => match us, hl with | [_, _], _ => rfl
def badH (h : List Int) : Bool := decide (h.length < 1) || (decide (6 < h.length) || h.any (badW h.length))
def badRow (n : Nat) (row : List Int) : Bool := decide (row.length = 0) || row.any (badW n)
def badS (n : Nat) (s : List (List Int)) : Bool := !decide (s.length = n) || s.any (badRow n)
def perO {α : Type} (U : Addr) (h : List Int) (s : List (List Int)) (x : α ⊕ (Value × List (Str × V))) : α ⊕ (Value × List (Str × V)) := if badH h = true then .inr (.ref U, [("part", .str "hears")]) else if badS h.length s = true then .inr (.ref U, [("part", .str "says")]) else x

def R_check_person (T : Tx P K mg) : List V → Hp → Out → Prop := fun vs G o => ∃ (h : List Int) (s : List (List Int)), RA G vs [rLi K h, rLLi K s] ∧ (h.length ≤ 1000) ∧ (s.length ≤ 1000) ∧ o = perO T.C_BadPerson h s (.inl (rV .non))
theorem ok_check_person (T : Tx P K mg) : FnOk P w K mg base (L2N.CX P w) 3 T.f_check_person T.fd_check_person ["hears", "says"] (spO (R_check_person T)) := by
  refine T.F_check_person.ok sc_check_person (fun vs H Q E h => ?_) (fun cdv A outer s H vs Q E hr h => ?_)
  · obtain ⟨G, o, _, ⟨h, s, ra, _⟩, _⟩ := h
    exact ra.len
  · obtain ⟨G, o, e, ⟨h, s, ra, q0, q1, rfl⟩, k1, k2⟩ := h
    refine ⟨_, (pss_cons (ps_set (i := 2) sc_check_person.nd rfl (Or.inl rfl) (pe_callB (call_lenK K) (by rfl) T.m_len PySem.boot_len (pa_cons (pv 0) pa_nil)))
      (pss_cons (ps_if (PW.pt (pw_or (pt_cmpR op_lt (pv 2) pe_int (nomark _)) (pw_or (pt_cmpR op_gt (pv 2) (pe_glob (v := .int 6) (by rfl) T.gi_GREATEST_SIZE.choose_spec ⟨_, rfl⟩) (nomark _)) (pw_or1 (pt_not (pt_val (pe_call (ok_all_words T) (hr.mono (by decide)) (by rfl) T.g_all_words T.F_all_words.kp (b_all_words T) .nil pass0 (pa_cons (pv 2) (pa_cons (pv 0) pa_nil))))))))) (pss_one (L2N.ps_raise rfl (L2N.takes_of rfl rfl rfl rfl) (pmk_err T.err_BadPerson (ok_BadPerson___init__ T) (hr.mono (by decide)) (b_BadPerson___init__ T) pass0 (by rfl) T.g_BadPerson (pa_cons pe_str pa_nil)))) pss_nil)
      (pss_cons (ps_if (pt_cmpR op_ne (pe_callB (call_lenK K) (by rfl) T.m_len PySem.boot_len (pa_cons (pv 1) pa_nil)) (pv 2) (nomark _)) (pss_one (L2N.ps_raise rfl (L2N.takes_of rfl rfl rfl rfl) (pmk_err T.err_BadPerson (ok_BadPerson___init__ T) (hr.mono (by decide)) (b_BadPerson___init__ T) pass0 (by rfl) T.g_BadPerson (pa_cons pe_str pa_nil)))) pss_nil)
      (pss_one (ps_for (passes_of rfl) rfl (pi_listK K (pv 1)) (pg_name (i := 3) sc_check_person.nd rfl (Or.inl rfl)) (pss_one (ps_if (PW.pt (pw_or (pt_cmpR op_eq (pe_callB (call_lenK K) (by rfl) T.m_len PySem.boot_len (pa_cons (pv 3) pa_nil)) pe_int (nomark _)) (pw_or1 (pt_not (pt_val (pe_call (ok_all_words T) (hr.mono (by decide)) (by rfl) T.g_all_words T.F_all_words.kp (b_all_words T) .nil pass0 (pa_cons (pv 2) (pa_cons (pv 3) pa_nil)))))))) (pss_one (L2N.ps_raise rfl (L2N.takes_of rfl rfl rfl rfl) (pmk_err T.err_BadPerson (ok_BadPerson___init__ T) (hr.mono (by decide)) (b_BadPerson___init__ T) pass0 (by rfl) T.g_BadPerson (pa_cons pe_str pa_nil)))) pss_nil))))))), ?_⟩
    refine run_O (Γ := [some (rLi K h), some (rLLi K s), none, none]) ?_ e (En.start (k := 2) _ (rs := [rLi K h, rLLi K s]) ra (by rw [ra.len]; rfl)) k1 k2
    clear ra e k1 k2
    wtm_at "w"
    wtm_at "if"
    all_goals intro hb
    · have hb' : badH h = true := by
        rw [← hb]
        unfold badH
        simp
      refine ws_raise1 x_c ?_
      show perO _ _ _ _ = _
      unfold perO
      rw [if_pos hb']
    have hb' : badH h = false := by
      rw [← hb]
      unfold badH
      simp
    wtm_at "w"
    wtm_at "if"
    all_goals intro hb2
    · refine ws_raise1 x_c ?_
      have e : badS h.length s = true := by
        unfold badS
        rw [show decide (s.length = h.length) = false by simpa using hb2]; rfl
      show perO _ _ _ _ = _
      unfold perO
      rw [hb', e]; rfl
    have hl : s.length = h.length := by simpa using hb2
    wtm_at "w"
    refine w_forL s (rLi K) (fun i (_ : Unit) => ∀ row ∈ s.take i, badRow h.length row = false) (fun _ _ => [some (rLi K h), some (rLLi K s), some (nI h.length), none]) (fun _ _ => []) (by wtm_at "x") () (by simp) (by wtm_at "sub") rfl (fun i _ row hi hp => ?_) (fun _ hp => ?_)
    · dsimp only [List.set]
      wtm_at "if"
      all_goals intro hb3
      · have e : badS h.length s = true := by
          unfold badS
          rw [show s.any (badRow h.length) = true from List.any_eq_true.mpr ⟨row, List.mem_of_getElem? hi, by rw [← hb3]; unfold badRow; simp⟩, Bool.or_true]
        refine ws_raise1 x_c ?_
        show perO _ _ _ _ = _
        unfold perO
        rw [hb', e]; rfl
      · exact w_nx ⟨(), take_succ_all hi hp (by rw [← hb3]; unfold badRow; simp), by wtm_at "sub", rfl⟩
    · rw [List.take_length] at hp
      have e : badS h.length s = false := by
        unfold badS
        rw [decide_eq_true hl, show s.any (badRow h.length) = false from List.any_eq_false.mpr fun row hr => by rw [hp row hr]; decide]; rfl
      show perO _ _ _ _ = _
      unfold perO
      rw [hb', e]; rfl
theorem c_check_person (T : Tx P K mg) {M : List Re} {κ : KV} {h : List Int} {s : List (List Int)} (q0 : h.length ≤ 1000) (q1 : s.length ≤ 1000) {r : Rp} (eo : perO T.C_BadPerson h s (.inl (rV .non)) = .inl r) (k : κ r M) : CM (spO (R_check_person T)) [rLi K h, rLLi K s] M κ := cmO (fun vs G ra => ⟨h, s, ra, q0, q1, eo.symm⟩) k
theorem xq_check_person (T : Tx P K mg) {M : List Re} {κ : KV} {ε : KX} {h : List Int} {s : List (List Int)} (q0 : h.length ≤ 1000) (q1 : s.length ≤ 1000) {r : Rp} (eo : perO T.C_BadPerson h s (.inl (rV .non)) = .inl r) (k : κ r M) : XM (spO (R_check_person T)) [rLi K h, rLLi K s] M κ ε := xm (fun vs G ra => ⟨h, s, ra, q0, q1, eo.symm⟩) k
theorem xe_check_person (T : Tx P K mg) {M : List Re} {κ : KV} {ε : KX} {h : List Int} {s : List (List Int)} (q0 : h.length ≤ 1000) (q1 : s.length ≤ 1000) {c : Value} {fs : List (Str × V)} (eo : perO T.C_BadPerson h s (.inl (rV .non)) = .inr (c, fs)) (k : ε c fs M) : XM (spO (R_check_person T)) [rLi K h, rLLi K s] M κ ε := xmx (fun vs G ra => ⟨h, s, ra, q0, q1, eo.symm⟩) k
local macro_rules | `(tactic| wtm_at "c") => `(tactic| refine xe_check_person _ (by wtm_at "s") (by wtm_at "s") (by assumption) ?_)
local macro_rules | `(tactic| wtm_at "c") => `(tactic| refine xq_check_person _ (by wtm_at "s") (by wtm_at "s") (by assumption) ?_)
local macro_rules | `(tactic| wtm_at "c") => `(tactic| refine c_check_person _ (by wtm_at "s") (by wtm_at "s") (by assumption) ?_)
theorem sc_Person___init__ : FnScope ["self", "hears", "says", "row"] ["self", "hears", "says"] (defScope s_Person___init__) := ⟨rfl, rfl, rfl, by decide +kernel, rfl, by decide +kernel, by decide +kernel⟩
theorem b_Person___init__ (T : Tx P K mg) : Binds K T.fd_Person___init__ ["self", "hears", "says"] [] := T.F_Person___init__.bindsN fun _ _ _ _ _ _ us hl => match us, hl with | [_, _, _], _ => rfl
def perF (K : PySem.W.Frag) (h : List Int) (s : List (List Int)) : FL := [("size", nI h.length), ("ears", rT K (h.map Mu.rI)), ("mouths", rT K (s.map fun r => rT K (r.map Mu.rI)))]

def OK_Person__init (T : Tx P K mg) (C : Addr) : Prop := Cls K C ∧ NoAttr K C "size" ∧ NoAttr K C "ears" ∧ NoAttr K C "mouths"
def R_Person__init (T : Tx P K mg) : List V → Hp → IOut → Prop := fun vs G o => ∃ (h : List Int) (s : List (List Int)), RA G vs [rLi K h, rLLi K s] ∧ (h.length ≤ 1000) ∧ (s.length ≤ 1000) ∧ (∀ r ∈ s, r.length ≤ 1000) ∧ o = perO T.C_BadPerson h s (.inl (perF K h s))
theorem ok_Person___init__ (T : Tx P K mg) : FnOk P w K mg base (L2N.CX P w) 4 T.f_Person___init__ T.fd_Person___init__ ["self", "hears", "says"] (spIni (OK_Person__init T) (R_Person__init T)) := by
  refine T.F_Person___init__.ok sc_Person___init__ (fun vs H Q E h => ?_) (fun cdv A outer s H vs Q E hr h => ?_)
  · obtain ⟨p, C, dx, ws, G, o, rfl, _, _, _, _, ⟨h, s, ra, _⟩, _⟩ := h
    show ws.length + 1 = _
    rw [ra.len]; rfl
  · obtain ⟨p, C, dx, ws, G, o, rfl, hC, hp, e, gp, ⟨h, s, ra, q0, q1, q2, rfl⟩, k1, k2⟩ := h
    refine ⟨_, (pss_cons (ps_expr (pe_callS (ok_check_person T) (hr.mono (by decide)) (by rfl) T.g_check_person T.F_check_person.kp (b_check_person T) (fun σ => L2N.passAt (L2N.takes_of rfl rfl rfl rfl) σ) (pa_cons (pv 1) (pa_cons (pv 2) pa_nil))))
      (pss_cons (ps_fld (pv 0) (pe_callB (call_lenK K) (by rfl) T.m_len PySem.boot_len (pa_cons (pv 1) pa_nil)) rfl)
      (pss_cons (ps_fld (pv 0) (pe_callTy (call_tupK K) (by rfl) T.m_tuple (by decide +kernel) (pa_cons (pv 1) pa_nil)) rfl)
      (pss_one (ps_fld (pv 0) (pe_callTy (call_tupK K) (by rfl) T.m_tuple (by decide +kernel) (pa_cons (pe_lc (own := [("row", 3)]) (by rfl) sc_Person___init__.nd (pi_listK K (pv 2)) (blkOk_by (N := ["self", "hears", "says", "row"]) (sc := defScope s_Person___init__) (by decide +kernel)) (fun _ _ _ _ _ => (pg_name (i := 3) sc_Person___init__.nd rfl (Or.inl rfl))) (fun _ _ _ _ _ => pts_nil) (fun _ _ _ _ _ => (pe_callTy (call_tupK K) (by rfl) T.m_tuple (by decide +kernel) (pa_cons (pv 3) pa_nil)))) pa_nil)) rfl))))), ?_⟩
    refine run_I (Γ := [some (rV (.ref p)), some (rLi K h), some (rLLi K s), none]) ?_ e gp hp (En.start (k := 1) _ (rs := rV (.ref p) :: [rLi K h, rLLi K s]) (.cons rfl ra) (by show _ - (ws.length + 1) = _; rw [ra.len]; rfl)) k1 k2
    clear ra e k1 k2 gp hp
    obtain ⟨c0, c1, c2, c3⟩ := hC
    refine w_seq ?_
    refine ws_do ?_
    by_cases hb : badH h = true ∨ badS h.length s = true
    · obtain ⟨part, hpt⟩ : ∃ part : V, ∀ {α : Type} (x : α ⊕ (Value × List (Str × V))), perO T.C_BadPerson h s x = .inr (.ref T.C_BadPerson, [("part", part)]) := by
        by_cases h1 : badH h = true
        · exact ⟨.str "hears", fun x => by unfold perO; rw [if_pos h1]⟩
        · exact ⟨.str "says", fun x => by unfold perO; rw [if_neg h1, if_pos (by rcases hb with z | z; exact absurd z h1; exact z)]⟩
      have e1 := hpt (α := Rp) (.inl (rV .non))
      wtm_at "e"
      exact hpt _
    · have h1 : badH h = false := by simpa using fun z => hb (.inl z)
      have h2 : badS h.length s = false := by simpa using fun z => hb (.inr z)
      have e1 : perO T.C_BadPerson h s (.inl (rV .non)) = .inl (rV .non) := by unfold perO; rw [h1, h2]; rfl
      wtm_at "e"
      wtm_at "w"
      exact ⟨_, by unfold perO; rw [h1, h2]; rfl, rfl⟩
theorem mk_Person__init (T : Tx P K mg) {M : List Re} {κ : KV} {ε : KX} {C : Addr} (hC : OK_Person__init T C) {h : List Int} {s : List (List Int)} (q0 : h.length ≤ 1000) (q1 : s.length ≤ 1000) (q2 : ∀ r ∈ s, r.length ≤ 1000) {fs : FL} (eo : perO T.C_BadPerson h s (.inl (perF K h s)) = .inl fs) (k : κ (rIns C fs) M) : MkM C (spIni (OK_Person__init T) (R_Person__init T)) [rLi K h, rLLi K s] M κ ε := mk_ini hC (fun vs G ra => ⟨h, s, ra, q0, q1, q2, eo.symm⟩) k
theorem mo_Person__init (T : Tx P K mg) {M : List Re} {κ : KV} {ε : KX} {C : Addr} (hC : OK_Person__init T C) {h : List Int} {s : List (List Int)} (q0 : h.length ≤ 1000) (q1 : s.length ≤ 1000) (q2 : ∀ r ∈ s, r.length ≤ 1000) {fs : FL} (eo : perO T.C_BadPerson h s (.inl (perF K h s)) = .inl fs) (k : ∀ p, κ (rV (.ref p)) (M ++ [insR true p C fs])) : MkM C (spIni (OK_Person__init T) (R_Person__init T)) [rLi K h, rLLi K s] M κ ε := mk_own hC (fun vs G ra => ⟨h, s, ra, q0, q1, q2, eo.symm⟩) k
theorem me_Person__init (T : Tx P K mg) {M : List Re} {κ : KV} {ε : KX} {C : Addr} (hC : OK_Person__init T C) {h : List Int} {s : List (List Int)} (q0 : h.length ≤ 1000) (q1 : s.length ≤ 1000) (q2 : ∀ r ∈ s, r.length ≤ 1000) {c : Value} {xs : List (Str × V)} (eo : perO T.C_BadPerson h s (.inl (perF K h s)) = .inr (c, xs)) (k : ε c xs M) : MkM C (spIni (OK_Person__init T) (R_Person__init T)) [rLi K h, rLLi K s] M κ ε := mk_err hC (fun vs G ra => ⟨h, s, ra, q0, q1, q2, eo.symm⟩) k
local macro_rules | `(tactic| wtm_at "c") => `(tactic| refine me_Person__init _ (by assumption) (by wtm_at "s") (by wtm_at "s") (by wtm_at "s") (by assumption) ?_)
local macro_rules | `(tactic| wtm_at "c") => `(tactic| refine mk_Person__init _ (by assumption) (by wtm_at "s") (by wtm_at "s") (by wtm_at "s") (by assumption) ?_)
theorem sc_Knower___init__ : FsScope ["self", "hears", "says", "knows"] ["self", "hears", "says", "knows"] (defScope s_Knower___init__) := ⟨rfl, rfl, rfl, by decide +kernel, rfl, by decide +kernel, by decide +kernel, by decide +kernel, rfl, rfl⟩
theorem b_Knower___init__ (T : Tx P K mg) : Binds K T.fd_Knower___init__ ["self", "hears", "says", "knows"] [] := by
  obtain ⟨oc, od, kV, doc, pm, an, ct, osl, e, lk⟩ := T.S_Knower___init__.fn
  rw [e]
  exact Binds.all fun us hl => match us, hl with | [_, _, _, _], _ => rfl
def knO (K : PySem.W.Frag) (U : Addr) (h : List Int) (s : List (List Int)) (kn : List Int) : IOut := match (perO U h s (.inl (perF K h s)) : IOut) with
  | .inl fs => if kn.any (badW h.length) = true then .inr (.ref U, [("part", .str "knows")]) else .inl (fs ++ ([("sure_words", rT K (kn.map Mu.rI))] : FL))
  | .inr x => .inr x

def OK_Knower__init (T : Tx P K mg) (C : Addr) : Prop := Cls K C ∧ NoAttr K C "size" ∧ NoAttr K C "ears" ∧ NoAttr K C "mouths" ∧ NoAttr K C "sure_words" ∧ SupF K C T.C_Knower "__init__" T.f_Person___init__
def R_Knower__init (T : Tx P K mg) : List V → Hp → IOut → Prop := fun vs G o => ∃ (h : List Int) (s : List (List Int)) (kn : List Int), RA G vs [rLi K h, rLLi K s, rLi K kn] ∧ (h.length ≤ 1000) ∧ (s.length ≤ 1000) ∧ (∀ r ∈ s, r.length ≤ 1000) ∧ (kn.length ≤ 1000) ∧ o = knO K T.C_BadPerson h s kn
theorem ok_Knower___init__ (T : Tx P K mg) : FnOk P w K mg base (L2N.CX P w) 5 T.f_Knower___init__ T.fd_Knower___init__ ["self", "hears", "says", "knows"] (spIni (OK_Knower__init T) (R_Knower__init T)) := by
  refine T.S_Knower___init__.ok sc_Knower___init__ (fun vs H Q E h => ?_) (fun A outer s H vs Q E hr h => ?_)
  · obtain ⟨p, C, dx, ws, G, o, rfl, _, _, _, _, ⟨h, s, kn, ra, _⟩, _⟩ := h
    show ws.length + 1 = _
    rw [ra.len]; rfl
  · obtain ⟨p, C, dx, ws, G, o, rfl, hC, hp, e, gp, ⟨h, s, kn, ra, q0, q1, q2, q3, rfl⟩, k1, k2⟩ := h
    refine ⟨_, (psa_expr (pea_supMeth T.S_Knower___init__ sc_Knower___init__ T.pf T.m_super rfl rfl rfl (FunD.lk T.F_Person___init__) T.ty_Person___init__ (ok_Person___init__ T) (hr.mono (by decide)) (b_Person___init__ T) (fun σ => L2N.passAt (L2N.takes_of rfl rfl rfl rfl) σ) (pa_cons (pv 1) (pa_cons (pv 2) pa_nil)) (by decide +kernel))
      (pss_cons (ps_if (pt_not (pt_val (pe_call (ok_all_words T) (hr.mono (by decide)) (by rfl) T.g_all_words T.F_all_words.kp (b_all_words T) .nil pass0 (pa_cons (pe_fldK K (pv 0)) (pa_cons (pv 3) pa_nil))))) (pss_one (L2N.ps_raise rfl (L2N.takes_of rfl rfl rfl rfl) (pmk_err T.err_BadPerson (ok_BadPerson___init__ T) (hr.mono (by decide)) (b_BadPerson___init__ T) pass0 (by rfl) T.g_BadPerson (pa_cons pe_str pa_nil)))) pss_nil)
      (pss_one (ps_fld (pv 0) (pe_callTy (call_tupK K) (by rfl) T.m_tuple (by decide +kernel) (pa_cons (pv 3) pa_nil)) rfl)))), ?_⟩
    refine run_I (Γ := [some (rV (.ref p)), some (rLi K h), some (rLLi K s), some (rLi K kn)]) ?_ e gp hp (En.start (k := 0) _ (rs := rV (.ref p) :: [rLi K h, rLLi K s, rLi K kn]) (.cons rfl ra) (by show _ - (ws.length + 1) = _; rw [ra.len]; rfl)) k1 k2
    clear ra e k1 k2 gp hp
    obtain ⟨c0, c1, c2, c3, c4, c5⟩ := hC
    refine w_seq ?_
    refine ws_do ?_
    refine e_supI rfl ⟨c0, c1, c2, c3⟩ c5.mro c5.sup rfl ?_
    wtm_at "e"
    refine ⟨rfl, _, fun ws G ra => ⟨h, s, ra, q0, q1, q2, rfl⟩, fun fs e1 => ?_, fun cls xs e1 => ?_⟩
    · have e2 : perO T.C_BadPerson h s (.inl (perF K h s)) = .inl (perF K h s) := by
        unfold perO at e1 ⊢
        split at e1
        · cases e1
        · split at e1
          · cases e1
          · rename_i h1 h2
            rw [if_neg h1, if_neg h2]
      rw [e2] at e1
      cases e1
      dsimp only [List.set]
      wtm_at "w"
      wtm_at "ifc"
      all_goals intro hb
      · refine ws_raise1 x_c ?_
        show knO _ _ _ _ _ = _
        unfold knO
        rw [e2, show kn.any (badW h.length) = true by simpa using hb]; rfl
      · wtm_at "w"
        refine ⟨_, ?_, rfl⟩
        unfold knO
        rw [e2, show kn.any (badW h.length) = false by simpa using hb]; rfl
    · show knO _ _ _ _ _ = _
      unfold knO
      rw [e1]
theorem mk_Knower__init (T : Tx P K mg) {M : List Re} {κ : KV} {ε : KX} {C : Addr} (hC : OK_Knower__init T C) {h : List Int} {s : List (List Int)} {kn : List Int} (q0 : h.length ≤ 1000) (q1 : s.length ≤ 1000) (q2 : ∀ r ∈ s, r.length ≤ 1000) (q3 : kn.length ≤ 1000) {fs : FL} (eo : knO K T.C_BadPerson h s kn = .inl fs) (k : κ (rIns C fs) M) : MkM C (spIni (OK_Knower__init T) (R_Knower__init T)) [rLi K h, rLLi K s, rLi K kn] M κ ε := mk_ini hC (fun vs G ra => ⟨h, s, kn, ra, q0, q1, q2, q3, eo.symm⟩) k
theorem mo_Knower__init (T : Tx P K mg) {M : List Re} {κ : KV} {ε : KX} {C : Addr} (hC : OK_Knower__init T C) {h : List Int} {s : List (List Int)} {kn : List Int} (q0 : h.length ≤ 1000) (q1 : s.length ≤ 1000) (q2 : ∀ r ∈ s, r.length ≤ 1000) (q3 : kn.length ≤ 1000) {fs : FL} (eo : knO K T.C_BadPerson h s kn = .inl fs) (k : ∀ p, κ (rV (.ref p)) (M ++ [insR true p C fs])) : MkM C (spIni (OK_Knower__init T) (R_Knower__init T)) [rLi K h, rLLi K s, rLi K kn] M κ ε := mk_own hC (fun vs G ra => ⟨h, s, kn, ra, q0, q1, q2, q3, eo.symm⟩) k
theorem me_Knower__init (T : Tx P K mg) {M : List Re} {κ : KV} {ε : KX} {C : Addr} (hC : OK_Knower__init T C) {h : List Int} {s : List (List Int)} {kn : List Int} (q0 : h.length ≤ 1000) (q1 : s.length ≤ 1000) (q2 : ∀ r ∈ s, r.length ≤ 1000) (q3 : kn.length ≤ 1000) {c : Value} {xs : List (Str × V)} (eo : knO K T.C_BadPerson h s kn = .inr (c, xs)) (k : ε c xs M) : MkM C (spIni (OK_Knower__init T) (R_Knower__init T)) [rLi K h, rLLi K s, rLi K kn] M κ ε := mk_err hC (fun vs G ra => ⟨h, s, kn, ra, q0, q1, q2, q3, eo.symm⟩) k
local macro_rules | `(tactic| wtm_at "c") => `(tactic| refine me_Knower__init _ (by assumption) (by wtm_at "s") (by wtm_at "s") (by wtm_at "s") (by wtm_at "s") (by assumption) ?_)
local macro_rules | `(tactic| wtm_at "c") => `(tactic| refine mk_Knower__init _ (by assumption) (by wtm_at "s") (by wtm_at "s") (by wtm_at "s") (by wtm_at "s") (by assumption) ?_)
end
end MuL

namespace MuL
open PySem PySem.Spec PyProof.Rows L2 He Evl Mu
section
variable {P : Program} {w : World} {K : PySem.W.Frag} {mg : Str → Option Value} {base : Heap}
local macro_rules | `(tactic| wtm_at "s") => `(tactic| first | assumption | omega | exact rfl | decide | wtm_at "s2")
local macro_rules | `(tactic| wtm_at "s2") => `(tactic| (simp only [List.length_map, List.length_range, List.length_cons, List.length_nil, List.length_append]; omega))
local macro_rules | `(tactic| wtm_at "j") => `(tactic| first | exact List.mem_cons_self | (simp; done))
local macro_rules | `(tactic| wtm_at "tr") => `(tactic| (apply t_is; (focus (wtm_at "t")); exact rfl))
local macro_rules | `(tactic| wtm_at "bs") => `(tactic| first | exact rfl | (simp; done) | (simp [*]; done))
local macro_rules | `(tactic| wtm_at "yes") => `(tactic| (apply w_yes; (focus (apply t_is; (focus (wtm_at "t")); first | exact rfl | (simp; done) | (simp [*]; done)))))
local macro_rules | `(tactic| wtm_at "no") => `(tactic| (apply w_no; (focus (apply t_is; (focus (wtm_at "t")); first | exact rfl | (simp; done) | (simp [*]; done)))))
local macro_rules | `(tactic| wtm_at "nn") => `(tactic| first | exact nn_tab | exact nn_L | exact nn_T | exact nn_I)
local macro_rules | `(tactic| wtm_at "sub") => `(tactic| repeat' first | exact Paired.nil | refine Paired.cons (Or.inr rfl) ?_ | refine Paired.cons (Or.inl rfl) ?_)
local macro_rules | `(tactic| wtm_at "o") => `(tactic| first
    | ((with_reducible show OM (rI0 _) _ _ _ _); first | refine om (x_addN (x_v rfl) (x_v rfl)) ?_ | refine om (x_subN (x_v rfl) (x_v rfl) (by wtm_at "s")) ?_ | refine om (x_bandN (x_v rfl) (x_v rfl)) ?_ | refine om (x_borN (x_v rfl) (x_v rfl)) ?_ | refine om (x_ltN (x_v rfl) (x_v rfl)) ?_ | refine om (x_leN (x_v rfl) (x_v rfl)) ?_ | refine om (x_gtN (x_v rfl) (x_v rfl)) ?_ | refine om (x_geN (x_v rfl) (x_v rfl)) ?_ | refine om (x_I0 (x_v rfl) (x_v rfl)) ?_)
    | ((with_reducible show OM (L2.rI _ _) _ _ _ _); first | refine om (x_powN (x_v rfl) (x_v rfl) (by wtm_at "s") (by wtm_at "s")) ?_ | refine om (x_shrN (x_v rfl) (x_v rfl)) ?_ | refine om (x_shlN1 (x_v rfl) (x_v rfl) (by wtm_at "s")) ?_ | refine om (x_I (x_v rfl) (x_v rfl) (by wtm_at "s")) ?_)
    | ((with_reducible show OM rEq _ _ _ _); first | refine om (x_eqN (x_v rfl) (x_v rfl)) ?_ | refine om (x_eqI (x_v rfl) (x_v rfl)) ?_ | refine om (x_eqV (x_v rfl) (x_v rfl) rfl) ?_)
    | ((with_reducible show OM rNe _ _ _ _); first | refine om (x_neN (x_v rfl) (x_v rfl)) ?_ | refine om (x_neI (x_v rfl) (x_v rfl)) ?_ | refine om (x_neV (x_v rfl) (x_v rfl) rfl) ?_)
    | ((with_reducible show OM (rIxT _) _ _ _ _); first | refine om (x_ixTn (x_v rfl) (x_v rfl) (by wtm_at "s")) ?_ | refine om (x_ixT (x_v rfl) (x_v rfl) rfl) ?_ | refine om (x_ixTm default (x_v rfl) (x_v rfl) (by wtm_at "s")) ?_)
    | ((with_reducible show OM (rIxL _) _ _ _ _); first | refine om (x_ixB (x_v rfl) (x_v rfl) (by wtm_at "s")) ?_ | refine om (x_ixLn (x_v rfl) (x_v rfl) (by wtm_at "s")) ?_ | refine om (x_ixLL (x_v rfl) (x_v rfl) (by wtm_at "s")) ?_ | refine om_ixOwn 0 rfl (by wtm_at "s") ?_ | refine om_ixOwn 1 rfl (by wtm_at "s") ?_ | refine om_ixOwn 2 rfl (by wtm_at "s") ?_ | refine om_ixOwn 3 rfl (by wtm_at "s") ?_ | refine om (x_ixL (x_v rfl) (x_v rfl) rfl) ?_ | refine om (x_ixL (x_v rfl) (x_v rfl) (by assumption)) ?_ | refine om (x_ixLm default (x_v rfl) (x_v rfl) (by wtm_at "s")) ?_)
    | ((with_reducible show OM (rIn _ _) _ _ _ _); first | refine om (x_inLn (l := [_, _]) (x_v rfl) (x_v rfl)) ?_ | refine om (x_inLn (l := [_, _, _]) (x_v rfl) (x_v rfl)) ?_ | refine om (x_inLn (x_v rfl) (x_v rfl)) ?_ | refine om (x_niLn (x_v rfl) (x_v rfl)) ?_ | refine om (x_inTi true (x_v rfl) (x_v rfl)) ?_ | refine om (x_inTi false (x_v rfl) (x_v rfl)) ?_ | refine om (x_inLi true (x_v rfl) (x_v rfl)) ?_ | refine om (x_inLi false (x_v rfl) (x_v rfl)) ?_)
    | ((with_reducible show OM (rEqD _) _ _ _ _); first | refine om (x_eqLn0 (x_v rfl) (x_v rfl)) ?_ | refine om (x_eqLn (x_v rfl) (x_v rfl)) ?_ | refine om (x_eqTn (x_v rfl) (x_v rfl)) ?_ | refine om (x_eqLL (x_v rfl) (x_v rfl)) ?_)
    | ((with_reducible show OM (rNeD _) _ _ _ _); first | refine om (x_neLn0 (x_v rfl) (x_v rfl)) ?_ | refine om (x_neLn (x_v rfl) (x_v rfl)) ?_ | refine om (x_neTn (x_v rfl) (x_v rfl)) ?_ | refine om (x_neLL (x_v rfl) (x_v rfl)) ?_ | refine om (x_neP (x_v rfl) (x_v rfl)) ?_)
    | ((with_reducible show OM (rInD _) _ _ _ _); first | refine om (x_inP (x_v rfl) (x_v rfl)) ?_)
    | ((with_reducible show OM (rNotInD _) _ _ _ _); first | refine om (x_niP (x_v rfl) (x_v rfl)) ?_)
    | ((with_reducible show OM (rInTD _) _ _ _ _); first | refine om (x_inTP (x_v rfl) (x_v rfl)) ?_)
    | ((with_reducible show OM rIsB _ _ _ _); first | refine om (x_isB (x_v rfl) (x_v rfl)) ?_)
    | ((with_reducible show OM rNotB _ _ _ _); first | refine om (x_isNB (x_v rfl) (x_v rfl)) ?_)
    | ((with_reducible show OM (fun _ _ _ _ => _ ∧ _) _ _ _ _); first | refine om_isN0 ?_ | refine om_notN0 ?_ | refine om_isN1 (by wtm_at "nn") ?_ | refine om_notN1 (by wtm_at "nn") ?_)
    | ((with_reducible show OM rRep _ _ _ _); first | refine om_rep (by wtm_at "s") (by wtm_at "s") ?_)
    | ((with_reducible show OM rCat _ _ _ _); first | refine om_cat (by wtm_at "s") ?_ | refine om (x_catm (x_v rfl) (x_v rfl) (by wtm_at "s")) ?_))
local macro_rules | `(tactic| wtm_at "a") => `(tactic| first
    | ((with_reducible show AM (rLenS _) _ _ _); first | refine am1 (x_lenLn (x_v rfl)) ?_ | refine am1 (x_lenTn (x_v rfl)) ?_ | refine am1 (x_lenB (x_v rfl)) ?_ | refine am1 (x_lenLL (x_v rfl)) ?_ | refine am1 (x_lenLm (x_v rfl)) ?_ | refine am1 (x_lenTm (x_v rfl)) ?_ | refine am_own 0 rfl (x_lenLm (x_v rfl)) ?_ | refine am_own 1 rfl (x_lenLm (x_v rfl)) ?_ | refine am_own 2 rfl (x_lenLm (x_v rfl)) ?_ | refine am_own 3 rfl (x_lenLm (x_v rfl)) ?_ | refine am_own 1 rfl (x_lenLm' (x_v rfl)) ?_ | refine am_own 2 rfl (x_lenLm' (x_v rfl)) ?_ | refine am1 (x_lenL (x_v rfl)) ?_ | refine am1 (x_lenT (x_v rfl)) ?_)
    | ((with_reducible show AM (rTupO _) _ _ _); first | refine am1 (x_tupL (x_v rfl)) ?_)
    | ((with_reducible show AM (rListS _) _ _ _); first | refine am_listL ?_ | refine am_listT ?_ | refine am_listOwn 0 rfl ?_ | refine am_listOwn 1 rfl ?_ | refine am_listOwn 2 rfl ?_)
    | ((with_reducible show AM (rIsi _) _ _ _); first | refine am2c (x_isInt (x_v rfl)) ?_ | refine am2c (x_isList (x_v rfl)) ?_ | refine am2c (x_isTup (x_v rfl)) ?_ | refine am2c (x_isTab (Tx.ic_Table (by assumption)) (x_v rfl)) ?_ | refine am2c (x_isIns (by assumption) (by assumption) (x_v rfl)) ?_)
    | ((with_reducible show AM _ _ _ _); first | refine am1 (x_int (x_v rfl)) ?_ | refine mk_tab (by assumption) (by wtm_at "s") (by wtm_at "s") ?_))
local macro_rules | `(tactic| wtm_at "c") => `(tactic| fail)
local macro_rules | `(tactic| wtm_at "c") => `(tactic| refine c_bits (by assumption) (by wtm_at "s") ?_)
local macro_rules | `(tactic| wtm_at "c") => `(tactic| refine c_all_words _  ?_)
local macro_rules | `(tactic| wtm_at "c") => `(tactic| refine xe_check_person _ (by wtm_at "s") (by wtm_at "s") (by assumption) ?_)
local macro_rules | `(tactic| wtm_at "c") => `(tactic| refine xq_check_person _ (by wtm_at "s") (by wtm_at "s") (by assumption) ?_)
local macro_rules | `(tactic| wtm_at "c") => `(tactic| refine c_check_person _ (by wtm_at "s") (by wtm_at "s") (by assumption) ?_)
local macro_rules | `(tactic| wtm_at "c") => `(tactic| refine me_Person__init _ (by assumption) (by wtm_at "s") (by wtm_at "s") (by wtm_at "s") (by assumption) ?_)
local macro_rules | `(tactic| wtm_at "c") => `(tactic| refine mk_Person__init _ (by assumption) (by wtm_at "s") (by wtm_at "s") (by wtm_at "s") (by assumption) ?_)
local macro_rules | `(tactic| wtm_at "c") => `(tactic| refine me_Knower__init _ (by assumption) (by wtm_at "s") (by wtm_at "s") (by wtm_at "s") (by wtm_at "s") (by assumption) ?_)
local macro_rules | `(tactic| wtm_at "c") => `(tactic| refine mk_Knower__init _ (by assumption) (by wtm_at "s") (by wtm_at "s") (by wtm_at "s") (by wtm_at "s") (by assumption) ?_)
local macro_rules | `(tactic| wtm_at "f") => `(tactic| first
    | refine f_own 0 rfl (by wtm_at "s") (by wtm_at "s") rfl ?_
    | refine f_ins (by wtm_at "s") (by wtm_at "s") rfl ?_
    | refine f_tab (x_size (x_v rfl) (Tx.c_Table (by assumption)) (Tx.na_Table_size (by assumption))) ?_
    | refine f_tab (x_masks (x_v rfl) (Tx.c_Table (by assumption)) (Tx.na_Table_masks (by assumption))) ?_
    | refine f_tab (x_cells (x_v rfl) (Tx.c_Table (by assumption)) (Tx.na_Table_cells (by assumption))) ?_)
local macro_rules | `(tactic| wtm_at "v") => `(tactic| first
    | ((with_reducible show EW _ _ _ (tVar _) _ _); refine e_v rfl ?_)
    | ((with_reducible show EW _ _ _ (tC (V.int _)) _ _); refine e_cn ?_)
    | ((with_reducible show EW _ _ _ (tC _) _ _); refine e_c ?_)
    | ((with_reducible show EW _ _ _ (tOp _ _ _) _ _); refine e_op ?_)
    | ((with_reducible show EW _ _ _ (tCB _ _) _ _); refine e_cb ?_)
    | ((with_reducible show EW _ _ _ (tCall _ _ _ _) _ _); refine e_call ?_)
    | ((with_reducible show EW _ _ _ (tCallS _ _ _) _ _); refine e_callS ?_)
    | ((with_reducible show EW _ _ _ (tFld _ _ _) _ _); refine e_fld _ ?_)
    | ((with_reducible show EW _ _ _ (tTup _) _ _); refine e_tup (by assumption) ?_)
    | ((with_reducible show EW _ _ _ (tLst _) _ _); refine e_lst (by assumption) ?_)
    | ((with_reducible show EW _ _ _ (tUn _ _) _ _); refine e_un ?_)
    | ((with_reducible show EW _ _ _ (tMake _ (spTab _ _) _ _ _) _ _); refine e_make ?_)
    | ((with_reducible show EW _ _ _ (tMakeS _ _ _ _) _ _); refine e_makeS ?_)
    | ((with_reducible show EW _ _ _ (tMeth _ _ _ _ _ _ _) _ _); refine e_meth ?_)
    | ((with_reducible show EW _ _ _ (tMethS _ _ _ _ _ _) _ _); refine e_methS ?_)
    | ((with_reducible show EW _ _ _ (tProp _ _ _ _ _) _ _); refine e_prop ?_)
    | ((with_reducible show EW _ _ _ (tLc (iList _ _) _ tYes _ _) _ _); apply e_lcL0; (focus (wtm_at "x")); (focus (wtm_at "s")); (focus (intro a ha; wtm_at "x")); (focus (wtm_at "j")))
    | ((with_reducible show EW _ _ _ (tLc (iTup _ _) _ tYes _ _) _ _); apply e_lcT0; (focus (wtm_at "x")); (focus (wtm_at "s")); (focus (intro a ha; wtm_at "x")); (focus (wtm_at "j")))
    | ((with_reducible show EW _ _ _ (tLc (iRng1 _) _ tYes _ _) _ _); apply e_lcR0 (by assumption); (focus (wtm_at "x")); (focus (wtm_at "s")); (focus (intro a ha; wtm_at "x")); (focus (wtm_at "j")))
    | ((with_reducible show EW _ _ _ (tLc (iList _ _) _ _ _ _) _ _); apply e_lcL; (focus (wtm_at "x")); (focus (wtm_at "s")); (focus (intro a ha; wtm_at "tr")); (focus (intro a ha hf; wtm_at "x")); (focus (wtm_at "j")))
    | ((with_reducible show EW _ _ _ (tLc (iTup _ _) _ _ _ _) _ _); apply e_lcT; (focus (wtm_at "x")); (focus (wtm_at "s")); (focus (intro a ha; wtm_at "tr")); (focus (intro a ha hf; wtm_at "x")); (focus (wtm_at "j")))
    | ((with_reducible show EW _ _ _ (tLc (iRng1 _) _ _ _ _) _ _); apply e_lcR (by assumption); (focus (wtm_at "x")); (focus (wtm_at "s")); (focus (intro a ha; wtm_at "tr")); (focus (intro a ha hf; wtm_at "x")); (focus (wtm_at "j")))
    | ((with_reducible show EW _ _ _ (tSl (rSlL _) _ tNoPart (tPart _)) _ _); apply e_slTo; (focus (wtm_at "x")))
    | ((with_reducible show EW _ _ _ (tSl (rSlL _) _ (tPart _) tNoPart) _ _); apply e_slFrom; (focus (wtm_at "x")))
    | ((with_reducible show EW _ _ _ (tAndV _ _) _ _); first | (apply e_and; (focus (wtm_at "x")); (focus (intro hq; wtm_at "x"))) | (apply e_x; (focus (apply x_and0; (focus (wtm_at "x")); wtm_at "bs"))))
    | ((with_reducible show EW _ _ _ (tOrV _ _) _ _); first | (apply e_or; (focus (wtm_at "x")); (focus (intro hq; wtm_at "x"))) | (apply e_x; (focus (apply x_or1; (focus (wtm_at "x")); wtm_at "bs"))))
    | ((with_reducible show EW _ _ _ (tMake _ (spIni _ _) _ _ _) _ _); refine e_makeI ?_ spIni_E)
    | ((with_reducible show EW _ _ _ (tSup _ _ _ _ _ _ _) _ _); refine e_sup rfl (by assumption) ?_)
    | ((with_reducible show EW _ _ _ (tNotV _) _ _); apply e_not; (focus (wtm_at "x")))
    | ((with_reducible show EW _ _ _ (tBM _ _ _ _ _) _ _); first | refine e_app 0 rfl ?_ rfl | refine e_app 1 rfl ?_ rfl | refine e_app 2 rfl ?_ rfl | refine e_app 3 rfl ?_ rfl))
local macro_rules | `(tactic| wtm_at "e1") => `(tactic| first
    | ((with_reducible show EW _ _ _ _ _ _); wtm_at "v")
    | ((with_reducible show EA _ _ _ _ _ _); first | refine a_cons ?_ | refine a_nil ?_)
    | ((with_reducible show OM _ _ _ _ _); first | wtm_at "o" | wtm_at "c")
    | ((with_reducible show AM _ _ _ _); wtm_at "a")
    | ((with_reducible show CM _ _ _ _); wtm_at "c")
    | ((with_reducible show XM _ _ _ _ _); wtm_at "c")
    | ((with_reducible show MkM _ _ _ _ _ _); wtm_at "c")
    | ((with_reducible show UM _ _ _ _); first | wtm_at "f" | refine um (x_neg (x_v rfl)) ?_ | wtm_at "c")
    | ((with_reducible show InsR _ _ _ ∧ _); first | refine ⟨ins_tab rfl, ?_⟩ | refine ⟨ins_ins rfl, ?_⟩ | refine ⟨ins_ins (by assumption), ?_⟩)
    | ((with_reducible show (∀ (v : V) (G : Hp), _ → ∃ a dx fs, _) ∧ _); refine ⟨ins_is, ?_⟩)
    | ((with_reducible show And (@LE.le Nat _ _ _) _); refine ⟨Nat.le_of_ble_eq_true rfl, ?_⟩)
    | ((with_reducible show ∃ rs : List Rp, _ ∧ _ ∧ _); refine ⟨_, rfl, by wtm_at "s", ?_⟩)
    | ((with_reducible show ∃ rs : List Rp, _ = rL _ rs ∧ _); refine ⟨_, rfl, ?_⟩)
    | ((with_reducible show ∃ fs : FL, _ ∧ _ ∧ _ ∧ _); refine ⟨_, rfl, rfl, Nat.le_of_ble_eq_true rfl, ?_⟩)
    | ((with_reducible show _ = _ ∧ _ = ([] : List Re)); first | exact ⟨rfl, rfl⟩ | exact ⟨by wtm_at "q", rfl⟩))
local macro_rules | `(tactic| wtm_at "q") => `(tactic| first | rfl | exact congrArg nI (by omega) | exact congrArg Mu.rI (by omega) | exact congrArg rB (by wtm_at "b"))
local macro_rules | `(tactic| wtm_at "b") => `(tactic| first | rfl | (rw [Bool.eq_iff_iff]; simp; omega))
local macro_rules | `(tactic| wtm_at "e") => `(tactic| repeat wtm_at "e1")
local macro_rules | `(tactic| wtm_at "co") => `(tactic| fail)

local macro_rules | `(tactic| wtm_at "eo") => `(tactic| repeat first | ((with_reducible show CM _ _ _ _); wtm_at "co") | ((with_reducible show XM _ _ _ _ _); wtm_at "co") | wtm_at "e1")
local macro_rules | `(tactic| wtm_at "x") => `(tactic| first | exact x_v rfl | exact x_c | (apply EvX.by; intro W ε; (wtm_at "e"); done))
local macro_rules | `(tactic| wtm_at "t") => `(tactic| first
    | ((with_reducible show EvTX _ tYes _); exact t_yes)
    | ((with_reducible show EvTX _ (tAnd _ _) _); first | (apply t_and; (focus (wtm_at "t")); (focus (intro hq; wtm_at "t"))) | (apply t_and0; (focus (wtm_at "t")); wtm_at "bs"))
    | ((with_reducible show EvTX _ (tOr _ _) _); first | (apply t_or; (focus (wtm_at "t")); (focus (intro hq; wtm_at "t"))) | (apply t_or1; (focus (wtm_at "t")); wtm_at "bs"))
    | ((with_reducible show EvTX _ (tNot _) _); apply t_not; wtm_at "t")
    | ((with_reducible show EvTX _ (tTest (tChain _ _ _ _ _)) _); apply t_chain; (focus (wtm_at "x")); (focus (wtm_at "x")); (focus (wtm_at "x")))
    | ((with_reducible show EvTX _ (tTest _) _); apply t_T; wtm_at "x")
    | ((with_reducible show EvTX _ (tB _) _); apply t_B; wtm_at "x"))
local macro_rules | `(tactic| wtm_at "tq") => `(tactic| (apply t_is; (focus (wtm_at "t")); try wtm_at "b"))
local macro_rules | `(tactic| wtm_at "if") => `(tactic| (apply w_if; (focus (wtm_at "t"))))
local macro_rules | `(tactic| wtm_at "ifc") => `(tactic| (refine ws_if ?_; (repeat first | refine w_tNot ?_ | refine w_tB ?_ | refine w_t ?_ | wtm_at "e1" | ((with_reducible show ∃ c : Bool, _ = rB c ∧ _); refine ⟨_, rfl, ?_⟩)); refine ⟨?_, ?_⟩))
local macro_rules | `(tactic| wtm_at "w1") => `(tactic| first
    | ((with_reducible show WP _ _ _ (tSeq _ _) _); refine w_seq ?_)
    | ((with_reducible show WP _ _ _ (tAsg _ (gName _)) _); refine ws_set ?_; (wtm_at "e"); dsimp only [List.set])
    | ((with_reducible show WP _ _ _ (tRet _) _); refine ws_ret ?_; (wtm_at "e"))
    | ((with_reducible show WP _ _ _ (sFld _ (tVar _) _ _) _); refine ws_fld 0 rfl rfl (by wtm_at "s") (by wtm_at "s") ?_; (wtm_at "e"); dsimp only [List.set])
    | ((with_reducible show WP _ _ _ (tDrop _) _); refine ws_do ?_; (wtm_at "e"))
    | ((with_reducible show WP _ _ _ tNext _); (refine w_nx ?_))
    | ((with_reducible show WP _ _ _ tRetN _); refine w_ret0 ?_))
local macro_rules | `(tactic| wtm_at "w") => `(tactic| repeat ((try dsimp only); wtm_at "w1"))
theorem sc_UnknownWord___init__ : FsScope ["self", "word"] ["self", "word"] (defScope s_UnknownWord___init__) := ⟨rfl, rfl, rfl, by decide +kernel, rfl, by decide +kernel, by decide +kernel, by decide +kernel, rfl, rfl⟩
theorem b_UnknownWord___init__ (T : Tx P K mg) : Binds K T.fd_UnknownWord___init__ ["self", "word"] [] := by
  obtain ⟨oc, od, kV, doc, pm, an, ct, osl, e, lk⟩ := T.S_UnknownWord___init__.fn
  rw [e]
  exact Binds.all fun us hl => match us, hl with | [_, _], _ => rfl
theorem ok_UnknownWord___init__ (T : Tx P K mg) : FnOk P w K mg base CX0 1 T.f_UnknownWord___init__ T.fd_UnknownWord___init__ ["self", "word"] (spErr T.C_UnknownWord ["word"]) := by
  refine T.S_UnknownWord___init__.ok sc_UnknownWord___init__ (fun vs H Q E h => ?_) (fun A outer s H vs Q E hr h => ?_)
  · obtain ⟨a, xs, rfl, hl, _⟩ := h
    show xs.length + 1 = 2
    rw [hl]; rfl
  · obtain ⟨a, xs, rfl, hl, ha, k⟩ := h
    match xs, hl with
    | [x0], _ =>
    refine ⟨_, psa_expr (pea_supInit T.S_UnknownWord___init__ sc_UnknownWord___init__ T.pf T.m_super rfl rfl rfl (pa_cons pe_str pa_nil)) (pss_one (ps_ost (pv 0) (pv 1))), ?_⟩
    refine ⟨a, T.C_UnknownWord, rfl, ha, T.err_UnknownWord.oex, T.err_UnknownWord.me, T.err_UnknownWord.sup, T.err_UnknownWord.ve, ?_⟩
    refine ⟨by show 1 ≤ 1000; decide, ha, ?_⟩
    exact ⟨x0, rfl, .ref a, rfl, a, T.C_UnknownWord, rfl, T.err_UnknownWord.oex, T.nf_UnknownWord_word, .inl ⟨ha, fun dx hd hne => k dx hd hne⟩⟩
theorem sc_check_word : FnScope ["size", "word"] ["size", "word"] (defScope s_check_word) := ⟨rfl, rfl, rfl, by decide +kernel, rfl, by decide +kernel, by decide +kernel⟩
theorem b_check_word (T : Tx P K mg) : Binds K T.fd_check_word ["size", "word"] [] := T.F_check_word.bindsN fun _ _ _ _ _ _ us hl => match us, hl with | [_, _], _ => rfl
def wordO {α : Type} (U : Addr) (n : Nat) (w : Int) (x : α ⊕ (Value × List (Str × V))) : α ⊕ (Value × List (Str × V)) := if badW n w = true then .inr (.ref U, [("word", .int w)]) else x
theorem word_bad {α : Type} {U : Addr} {n : Nat} {w : Int} {x : α ⊕ (Value × List (Str × V))} (h : badW n w = true) : wordO U n w x = .inr (.ref U, [("word", .int w)]) := if_pos h
theorem word_good {α : Type} {U : Addr} {n : Nat} {w : Int} {x : α ⊕ (Value × List (Str × V))} (h : ¬ badW n w = true) : wordO U n w x = x := if_neg h
theorem word_nat {n : Nat} {w : Int} (h : ¬ badW n w = true) : ∃ k : Nat, w = (k : Int) ∧ k < n := by
  unfold badW at h
  simp at h
  exact ⟨w.toNat, by omega, by omega⟩

def R_check_word (T : Tx P K mg) : List V → Hp → Out → Prop := fun vs G o => ∃ (n : Nat) (w : Int), RA G vs [nI n, Mu.rI w] ∧ o = wordO T.C_UnknownWord n w (.inl (rV .non))
theorem ok_check_word (T : Tx P K mg) : FnOk P w K mg base (L2N.CX P w) 3 T.f_check_word T.fd_check_word ["size", "word"] (spO (R_check_word T)) := by
  refine T.F_check_word.ok sc_check_word (fun vs H Q E h => ?_) (fun cdv A outer s H vs Q E hr h => ?_)
  · obtain ⟨G, o, _, ⟨n, w, ra, _⟩, _⟩ := h
    exact ra.len
  · obtain ⟨G, o, e, ⟨n, w, ra, rfl⟩, k1, k2⟩ := h
    refine ⟨_, (pss_one (ps_if (PW.pt (pw_or (pt_cmpR op_lt (pv 1) pe_int (nomark _)) (pw_or1 (pt_cmpR op_ge (pv 1) (pv 0) (nomark _))))) (pss_one (L2N.ps_raise rfl (L2N.takes_of rfl rfl rfl rfl) (pmk_err T.err_UnknownWord (ok_UnknownWord___init__ T) (hr.mono (by decide)) (b_UnknownWord___init__ T) pass0 (by rfl) T.g_UnknownWord (pa_cons (pv 1) pa_nil)))) pss_nil)), ?_⟩
    refine run_O (Γ := [some (nI n), some (Mu.rI w)]) ?_ e (En.start (k := 0) _ (rs := [nI n, Mu.rI w]) ra (by rw [ra.len]; rfl)) k1 k2
    clear ra e k1 k2
    wtm_at "if"
    all_goals intro hb
    · refine ws_raise1 (x_v rfl) ?_
      show wordO _ _ _ _ = _
      exact if_pos hb
    · refine w_nx ?_
      show wordO _ _ _ _ = _
      exact if_neg (by rw [show badW n w = false from hb]; decide)
theorem c_check_word (T : Tx P K mg) {M : List Re} {κ : KV} {n : Nat} {w : Int}  {r : Rp} (eo : wordO T.C_UnknownWord n w (.inl (rV .non)) = .inl r) (k : κ r M) : CM (spO (R_check_word T)) [nI n, Mu.rI w] M κ := cmO (fun vs G ra => ⟨n, w, ra, eo.symm⟩) k
theorem xq_check_word (T : Tx P K mg) {M : List Re} {κ : KV} {ε : KX} {n : Nat} {w : Int}  {r : Rp} (eo : wordO T.C_UnknownWord n w (.inl (rV .non)) = .inl r) (k : κ r M) : XM (spO (R_check_word T)) [nI n, Mu.rI w] M κ ε := xm (fun vs G ra => ⟨n, w, ra, eo.symm⟩) k
theorem xe_check_word (T : Tx P K mg) {M : List Re} {κ : KV} {ε : KX} {n : Nat} {w : Int}  {c : Value} {fs : List (Str × V)} (eo : wordO T.C_UnknownWord n w (.inl (rV .non)) = .inr (c, fs)) (k : ε c fs M) : XM (spO (R_check_word T)) [nI n, Mu.rI w] M κ ε := xmx (fun vs G ra => ⟨n, w, ra, eo.symm⟩) k
local macro_rules | `(tactic| wtm_at "c") => `(tactic| refine xe_check_word _  (by assumption) ?_)
local macro_rules | `(tactic| wtm_at "c") => `(tactic| refine xq_check_word _  (by assumption) ?_)
local macro_rules | `(tactic| wtm_at "c") => `(tactic| refine c_check_word _  (by assumption) ?_)
theorem sc_Person_heard : FnScope ["self", "word"] ["self", "word"] (defScope s_Person_heard) := ⟨rfl, rfl, rfl, by decide +kernel, rfl, by decide +kernel, by decide +kernel⟩
theorem b_Person_heard (T : Tx P K mg) : Binds K T.fd_Person_heard ["self", "word"] [] := T.F_Person_heard.bindsN fun _ _ _ _ _ _ us hl => match us, hl with | [_, _], _ => rfl
structure PerC (K : PySem.W.Frag) (fh C : Addr) : Prop where
  cls : Cls K C
  size : NoAttr K C "size"
  ears : NoAttr K C "ears"
  mouths : NoAttr K C "mouths"
  heard : Meth K C "heard" fh

def R_Person_heard (T : Tx P K mg) : List V → Hp → Out → Prop := fun vs G o => ∃ (C : Addr) (h : List Int) (s : List (List Int)) (xs : FL) (w : Int), RA G vs [rIns C (perF K h s ++ xs), Mu.rI w] ∧ (PerC K T.f_Person_heard C) ∧ o = wordO T.C_UnknownWord h.length w (.inl (Mu.rI (h.getD w.toNat 0)))
theorem ok_Person_heard (T : Tx P K mg) : FnOk P w K mg base (L2N.CX P w) 4 T.f_Person_heard T.fd_Person_heard ["self", "word"] (spO (R_Person_heard T)) := by
  refine T.F_Person_heard.ok sc_Person_heard (fun vs H Q E h => ?_) (fun cdv A outer s H vs Q E hr h => ?_)
  · obtain ⟨G, o, _, ⟨C, h, s, xs, w, ra, _⟩, _⟩ := h
    exact ra.len
  · obtain ⟨G, o, e, ⟨C, h, s, xs, w, ra, q0, rfl⟩, k1, k2⟩ := h
    refine ⟨_, (pss_cons (ps_expr (pe_callS (ok_check_word T) (hr.mono (by decide)) (by rfl) T.g_check_word T.F_check_word.kp (b_check_word T) (fun σ => L2N.passAt (L2N.takes_of rfl rfl rfl rfl) σ) (pa_cons (pe_fldK K (pv 0)) (pa_cons (pv 1) pa_nil))))
      (pss_one (ps_ret (pe_ix (ix_tupK K) (pe_fldK K (pv 0)) (pv 1) (fun _ _ => rfl))))), ?_⟩
    refine run_O (Γ := [some (rIns C (perF K h s ++ xs)), some (Mu.rI w)]) ?_ e (En.start (k := 0) _ (rs := [rIns C (perF K h s ++ xs), Mu.rI w]) ra (by rw [ra.len]; rfl)) k1 k2
    clear ra e k1 k2
    have c0 := q0.cls
    have c1 := q0.size
    have c2 := q0.ears
    refine w_seq (ws_do ?_)
    by_cases hb : badW h.length w = true
    · have e1 := word_bad (α := Rp) (U := T.C_UnknownWord) (x := .inl (rV .non)) hb
      wtm_at "e"
      exact word_bad hb
    · have e1 := word_good (α := Rp) (U := T.C_UnknownWord) (x := .inl (rV .non)) hb
      wtm_at "e"
      obtain ⟨k, rfl, hk⟩ := word_nat hb
      wtm_at "w"
      exact word_good hb
theorem c_Person_heard (T : Tx P K mg) {M : List Re} {κ : KV} {C : Addr} {h : List Int} {s : List (List Int)} {xs : FL} {w : Int} (q0 : PerC K T.f_Person_heard C) {r : Rp} (eo : wordO T.C_UnknownWord h.length w (.inl (Mu.rI (h.getD w.toNat 0))) = .inl r) (k : κ r M) : CM (spO (R_Person_heard T)) [rIns C (perF K h s ++ xs), Mu.rI w] M κ := cmO (fun vs G ra => ⟨C, h, s, xs, w, ra, q0, eo.symm⟩) k
theorem xq_Person_heard (T : Tx P K mg) {M : List Re} {κ : KV} {ε : KX} {C : Addr} {h : List Int} {s : List (List Int)} {xs : FL} {w : Int} (q0 : PerC K T.f_Person_heard C) {r : Rp} (eo : wordO T.C_UnknownWord h.length w (.inl (Mu.rI (h.getD w.toNat 0))) = .inl r) (k : κ r M) : XM (spO (R_Person_heard T)) [rIns C (perF K h s ++ xs), Mu.rI w] M κ ε := xm (fun vs G ra => ⟨C, h, s, xs, w, ra, q0, eo.symm⟩) k
theorem xe_Person_heard (T : Tx P K mg) {M : List Re} {κ : KV} {ε : KX} {C : Addr} {h : List Int} {s : List (List Int)} {xs : FL} {w : Int} (q0 : PerC K T.f_Person_heard C) {c : Value} {fs : List (Str × V)} (eo : wordO T.C_UnknownWord h.length w (.inl (Mu.rI (h.getD w.toNat 0))) = .inr (c, fs)) (k : ε c fs M) : XM (spO (R_Person_heard T)) [rIns C (perF K h s ++ xs), Mu.rI w] M κ ε := xmx (fun vs G ra => ⟨C, h, s, xs, w, ra, q0, eo.symm⟩) k
local macro_rules | `(tactic| wtm_at "c") => `(tactic| refine xe_Person_heard _ (by wtm_at "s") (by assumption) ?_)
local macro_rules | `(tactic| wtm_at "c") => `(tactic| refine xq_Person_heard _ (by wtm_at "s") (by assumption) ?_)
local macro_rules | `(tactic| wtm_at "c") => `(tactic| refine c_Person_heard _ (by wtm_at "s") (by assumption) ?_)
theorem sc_Person_said : FnScope ["self", "word", "heard", "out"] ["self", "word"] (defScope s_Person_said) := ⟨rfl, rfl, rfl, by decide +kernel, rfl, by decide +kernel, by decide +kernel⟩
theorem b_Person_said (T : Tx P K mg) : Binds K T.fd_Person_said ["self", "word"] [] := T.F_Person_said.bindsN fun _ _ _ _ _ _ us hl => match us, hl with | [_, _], _ => rfl
def saidL (h : List Int) (s : List (List Int)) (w : Nat) : List Nat := (List.range h.length).filter fun o => decide ((o : Int) ∈ s.getD (h.getD w 0).toNat [])

def R_Person_said (T : Tx P K mg) : List V → Hp → NOut → Prop := fun vs G o => ∃ (C : Addr) (h : List Int) (s : List (List Int)) (xs : FL) (w : Int), RA G vs [rIns C (perF K h s ++ xs), Mu.rI w] ∧ (PerC K T.f_Person_heard C) ∧ (h.length ≤ 6) ∧ (s.length = h.length) ∧ (∀ x ∈ h, badW h.length x = false) ∧ (xs.lookup ("heard" : Str) = none) ∧ o = wordO T.C_UnknownWord h.length w (.inl ((saidL h s w.toNat).map nI))
theorem ok_Person_said (T : Tx P K mg) : FnOk P w K mg base (L2N.CX P w) 5 T.f_Person_said T.fd_Person_said ["self", "word"] (spON (R_Person_said T)) := by
  refine T.F_Person_said.ok sc_Person_said (fun vs H Q E h => ?_) (fun cdv A outer s H vs Q E hr h => ?_)
  · obtain ⟨G, o, _, ⟨C, h, s, xs, w, ra, _⟩, _⟩ := h
    exact ra.len
  · obtain ⟨G, o, e, ⟨C, h, s, xs, w, ra, q0, q1, q2, q3, q4, rfl⟩, k1, k2⟩ := h
    have hC := q0
    refine ⟨_, (pss_cons (ps_set (i := 2) sc_Person_said.nd rfl (Or.inr rfl) (pe_ix (ix_tupK K) (pe_fldK K (pv 0)) (pe_methS (pv 0) hC.cls hC.heard (ok_Person_heard T) (hr.mono (by decide)) (b_Person_heard T) (fun σ => L2N.passAt (L2N.takes_of rfl rfl rfl rfl) σ) (pa_cons (pv 1) pa_nil)) (fun _ _ => rfl)))
      (pss_one (ps_ret (pe_lc (own := [("out", 3)]) (by rfl) sc_Person_said.nd (pi_range1 (by rfl) T.m_range (pa_cons (pe_fldK K (pv 0)) pa_nil)) (blkOk_by (N := ["self", "word", "heard", "out"]) (sc := defScope s_Person_said) (by decide +kernel)) (fun _ _ _ _ _ => (pg_name (i := 3) sc_Person_said.nd rfl (Or.inl rfl))) (fun _ _ _ _ _ => (pts_one (pt_cmpR (op_inK K) (pv 3) (pv 2) rfl))) (fun _ _ _ _ _ => (pv 3)))))), ?_⟩
    refine run_ON (Γ := [some (rIns C (perF K h s ++ xs)), some (Mu.rI w), none, none]) ?_ e (En.start (k := 2) _ (rs := [rIns C (perF K h s ++ xs), Mu.rI w]) ra (by rw [ra.len]; rfl)) k1 k2
    clear ra e k1 k2
    have c0 := q0.cls
    have c1 := q0.size
    have c2 := q0.ears
    have c3 := q0.mouths
    refine w_seq (ws_set ?_)
    by_cases hb : badW h.length w = true
    · have e1 := word_bad (α := Rp) (U := T.C_UnknownWord) (x := .inl (Mu.rI (h.getD w.toNat 0))) hb
      wtm_at "e"
      exact word_bad hb
    · obtain ⟨k, rfl, hk⟩ := word_nat hb
      have hm : h.getD k 0 ∈ h := by
        rw [List.getD_eq_getElem?_getD, List.getElem?_eq_getElem hk]
        exact List.getElem_mem _
      obtain ⟨j, hj, hjl⟩ := word_nat (n := h.length) (w := h.getD k 0) (by rw [q3 _ hm]; decide)
      have e1 : wordO T.C_UnknownWord h.length (k : Int) (.inl (Mu.rI (h.getD ((k : Nat) : Int).toNat 0))) = .inl (nI j) := by
        rw [word_good hb, Int.toNat_natCast, hj]
      have hjs : j < s.length := by omega
      wtm_at "e"
      try dsimp only [List.set]
      refine ws_ret (e_n (xn_lcR h.length (fun o => decide ((o : Int) ∈ s.getD j [])) nI (by wtm_at "x") (by omega) (fun o ho => by wtm_at "tq") (fun o ho _ => by wtm_at "x")) fun p => ?_)
      refine ⟨_, p, ?_, rfl, rfl⟩
      rw [word_good hb]
      unfold saidL
      rw [Int.toNat_natCast, hj, Int.toNat_natCast]
theorem xo_Person_said (T : Tx P K mg) {M : List Re} {κ : KV} {ε : KX} {C : Addr} {h : List Int} {s : List (List Int)} {xs : FL} {w : Int} (q0 : PerC K T.f_Person_heard C) (q1 : h.length ≤ 6) (q2 : s.length = h.length) (q3 : ∀ x ∈ h, badW h.length x = false) (q4 : xs.lookup ("heard" : Str) = none) {ss : List Rp} (eo : wordO T.C_UnknownWord h.length w (.inl ((saidL h s w.toNat).map nI)) = .inl ss) (k : ∀ p, κ (rV (.ref p)) (M ++ [lstR p ss])) : XM (spON (R_Person_said T)) [rIns C (perF K h s ++ xs), Mu.rI w] M κ ε := xmo (fun vs G ra => ⟨C, h, s, xs, w, ra, q0, q1, q2, q3, q4, eo.symm⟩) k
theorem xf_Person_said (T : Tx P K mg) {M : List Re} {κ : KV} {ε : KX} {C : Addr} {h : List Int} {s : List (List Int)} {xs : FL} {w : Int} (q0 : PerC K T.f_Person_heard C) (q1 : h.length ≤ 6) (q2 : s.length = h.length) (q3 : ∀ x ∈ h, badW h.length x = false) (q4 : xs.lookup ("heard" : Str) = none) {ss : List Rp} (eo : wordO T.C_UnknownWord h.length w (.inl ((saidL h s w.toNat).map nI)) = .inl ss) (k : κ (rL K ss) M) : XM (spON (R_Person_said T)) [rIns C (perF K h s ++ xs), Mu.rI w] M κ ε := xmf K (fun vs G ra => ⟨C, h, s, xs, w, ra, q0, q1, q2, q3, q4, eo.symm⟩) k
theorem xe_Person_said (T : Tx P K mg) {M : List Re} {κ : KV} {ε : KX} {C : Addr} {h : List Int} {s : List (List Int)} {xs : FL} {w : Int} (q0 : PerC K T.f_Person_heard C) (q1 : h.length ≤ 6) (q2 : s.length = h.length) (q3 : ∀ x ∈ h, badW h.length x = false) (q4 : xs.lookup ("heard" : Str) = none) {c : Value} {fs : List (Str × V)} (eo : wordO T.C_UnknownWord h.length w (.inl ((saidL h s w.toNat).map nI)) = .inr (c, fs)) (k : ε c fs M) : XM (spON (R_Person_said T)) [rIns C (perF K h s ++ xs), Mu.rI w] M κ ε := xme (fun vs G ra => ⟨C, h, s, xs, w, ra, q0, q1, q2, q3, q4, eo.symm⟩) k
theorem o_Person_said (T : Tx P K mg) {M : List Re} {κ : KV} {C : Addr} {h : List Int} {s : List (List Int)} {xs : FL} {w : Int} (q0 : PerC K T.f_Person_heard C) (q1 : h.length ≤ 6) (q2 : s.length = h.length) (q3 : ∀ x ∈ h, badW h.length x = false) (q4 : xs.lookup ("heard" : Str) = none) {ss : List Rp} (eo : wordO T.C_UnknownWord h.length w (.inl ((saidL h s w.toNat).map nI)) = .inl ss) (k : ∀ p, κ (rV (.ref p)) (M ++ [lstR p ss])) : CM (spON (R_Person_said T)) [rIns C (perF K h s ++ xs), Mu.rI w] M κ := cmo_ (xo_Person_said T q0 q1 q2 q3 q4 eo k) spON_E
theorem c_Person_said (T : Tx P K mg) {M : List Re} {κ : KV} {C : Addr} {h : List Int} {s : List (List Int)} {xs : FL} {w : Int} (q0 : PerC K T.f_Person_heard C) (q1 : h.length ≤ 6) (q2 : s.length = h.length) (q3 : ∀ x ∈ h, badW h.length x = false) (q4 : xs.lookup ("heard" : Str) = none) {ss : List Rp} (eo : wordO T.C_UnknownWord h.length w (.inl ((saidL h s w.toNat).map nI)) = .inl ss) (k : κ (rL K ss) M) : CM (spON (R_Person_said T)) [rIns C (perF K h s ++ xs), Mu.rI w] M κ := cmo_ (xf_Person_said T q0 q1 q2 q3 q4 eo k) spON_E
local macro_rules | `(tactic| wtm_at "co") => `(tactic| refine xo_Person_said _ (by wtm_at "s") (by wtm_at "s") (by wtm_at "s") (by wtm_at "s") (by wtm_at "s") (by assumption) ?_)
local macro_rules | `(tactic| wtm_at "co") => `(tactic| refine o_Person_said _ (by wtm_at "s") (by wtm_at "s") (by wtm_at "s") (by wtm_at "s") (by wtm_at "s") (by assumption) ?_)
local macro_rules | `(tactic| wtm_at "c") => `(tactic| refine xe_Person_said _ (by wtm_at "s") (by wtm_at "s") (by wtm_at "s") (by wtm_at "s") (by wtm_at "s") (by assumption) ?_)
local macro_rules | `(tactic| wtm_at "c") => `(tactic| refine xf_Person_said _ (by wtm_at "s") (by wtm_at "s") (by wtm_at "s") (by wtm_at "s") (by wtm_at "s") (by assumption) ?_)
local macro_rules | `(tactic| wtm_at "c") => `(tactic| refine c_Person_said _ (by wtm_at "s") (by wtm_at "s") (by wtm_at "s") (by wtm_at "s") (by wtm_at "s") (by assumption) ?_)
theorem sc_Doubter_said : FsScopeC ["self", "word", "outs", "out"] ["self", "word"] (defScope s_Doubter_said) := ⟨rfl, rfl, rfl, by decide +kernel, rfl, by decide +kernel, by decide +kernel, by decide +kernel, rfl, rfl⟩
theorem b_Doubter_said (T : Tx P K mg) : Binds K T.fd_Doubter_said ["self", "word"] [] := by
  obtain ⟨oc, od, kV, doc, pm, an, ct, osl, e, lk⟩ := T.S_Doubter_said.fn
  rw [e]
  exact Binds.all fun us hl => match us, hl with | [_, _], _ => rfl
def doubtL (h : List Int) (s : List (List Int)) (w : Nat) : List Nat := (List.range h.length).filter fun o => decide (o ∈ saidL h s w) || decide (o = w)

def R_Doubter_said (T : Tx P K mg) : List V → Hp → NOut → Prop := fun vs G o => ∃ (C : Addr) (h : List Int) (s : List (List Int)) (xs : FL) (w : Int), RA G vs [rIns C (perF K h s ++ xs), Mu.rI w] ∧ (Cls K C) ∧ (NoAttr K C "size") ∧ (SupF K C T.C_Doubter "said" T.f_Person_said) ∧ (PerC K T.f_Person_heard C) ∧ (h.length ≤ 6) ∧ (s.length = h.length) ∧ (∀ x ∈ h, badW h.length x = false) ∧ (xs.lookup ("heard" : Str) = none) ∧ o = wordO T.C_UnknownWord h.length w (.inl ((doubtL h s w.toNat).map nI))
theorem ok_Doubter_said (T : Tx P K mg) : FnOk P w K mg base (L2N.CX P w) 6 T.f_Doubter_said T.fd_Doubter_said ["self", "word"] (spON (R_Doubter_said T)) := by
  refine T.S_Doubter_said.okC sc_Doubter_said (fun vs H Q E h => ?_) (fun A outer s H vs Q E hr h => ?_)
  · obtain ⟨G, o, _, ⟨C, h, s, xs, w, ra, _⟩, _⟩ := h
    exact ra.len
  · obtain ⟨G, o, e, ⟨C, h, s, xs, w, ra, q0, q1, q2, q3, q4, q5, q6, q7, rfl⟩, k1, k2⟩ := h
    refine ⟨_, (psa_setC (i := 2) sc_Doubter_said.nd rfl (.inr rfl) (.inl rfl) (pea_supMethC T.S_Doubter_said sc_Doubter_said T.pf T.m_super rfl rfl rfl (FunD.lk T.F_Person_said) T.ty_Person_said (ok_Person_said T) (hr.mono (by decide)) (b_Person_said T) (fun σ => L2N.passAt (L2N.takes_of rfl rfl rfl rfl) σ) (pa_cons (pv 1) pa_nil) (by decide +kernel))
      (pss_one (ps_ret (pe_lc (own := [("out", 3)]) (by rfl) sc_Doubter_said.nd (pi_range1 (by rfl) T.m_range (pa_cons (pe_fldK K (pv 0)) pa_nil)) (blkOk_by (N := ["self", "word", "outs", "out"]) (sc := defScope s_Doubter_said) (by decide +kernel)) (fun _ _ _ _ _ => (pg_name (i := 3) sc_Doubter_said.nd rfl (Or.inl rfl))) (fun _ _ _ _ _ => (pts_one (PW.pt (pw_or (pt_cmpR (op_inK K) (pv 3) (pv 2) rfl) (pw_or1 (pt_cmpR op_eq (pv 3) (pv 1) (nomark _))))))) (fun _ _ _ _ _ => (pv 3)))))), ?_⟩
    refine run_ON (Γ := [some (rIns C (perF K h s ++ xs)), some (Mu.rI w), none, none]) ?_ e (En.start (k := 2) _ (rs := [rIns C (perF K h s ++ xs), Mu.rI w]) ra (by rw [ra.len]; rfl)) k1 k2
    clear ra e k1 k2
    refine w_seq (ws_set ?_)
    by_cases hb : badW h.length w = true
    · have e1 := word_bad (α := List Rp) (U := T.C_UnknownWord) (x := .inl ((saidL h s w.toNat).map nI)) hb
      wtm_at "e"
      exact word_bad hb
    · have e1 := word_good (α := List Rp) (U := T.C_UnknownWord) (x := .inl ((saidL h s w.toNat).map nI)) hb
      obtain ⟨k, rfl, hk⟩ := word_nat hb
      rw [Int.toNat_natCast] at e1
      wtm_at "e"
      try dsimp only [List.set]
      rw [show rL K ((saidL h s k).map nI) = rLn K (saidL h s k) from rfl]
      refine ws_ret (e_n (xn_lcR h.length (fun o => decide (o ∈ saidL h s k) || decide (o = k)) nI (by wtm_at "x") (by omega) (fun o ho => by wtm_at "tq") (fun o ho _ => by wtm_at "x")) fun p => ?_)
      refine ⟨_, p, ?_, rfl, rfl⟩
      rw [word_good hb]
      unfold doubtL
      rw [Int.toNat_natCast]
theorem xo_Doubter_said (T : Tx P K mg) {M : List Re} {κ : KV} {ε : KX} {C : Addr} {h : List Int} {s : List (List Int)} {xs : FL} {w : Int} (q0 : Cls K C) (q1 : NoAttr K C "size") (q2 : SupF K C T.C_Doubter "said" T.f_Person_said) (q3 : PerC K T.f_Person_heard C) (q4 : h.length ≤ 6) (q5 : s.length = h.length) (q6 : ∀ x ∈ h, badW h.length x = false) (q7 : xs.lookup ("heard" : Str) = none) {ss : List Rp} (eo : wordO T.C_UnknownWord h.length w (.inl ((doubtL h s w.toNat).map nI)) = .inl ss) (k : ∀ p, κ (rV (.ref p)) (M ++ [lstR p ss])) : XM (spON (R_Doubter_said T)) [rIns C (perF K h s ++ xs), Mu.rI w] M κ ε := xmo (fun vs G ra => ⟨C, h, s, xs, w, ra, q0, q1, q2, q3, q4, q5, q6, q7, eo.symm⟩) k
theorem xf_Doubter_said (T : Tx P K mg) {M : List Re} {κ : KV} {ε : KX} {C : Addr} {h : List Int} {s : List (List Int)} {xs : FL} {w : Int} (q0 : Cls K C) (q1 : NoAttr K C "size") (q2 : SupF K C T.C_Doubter "said" T.f_Person_said) (q3 : PerC K T.f_Person_heard C) (q4 : h.length ≤ 6) (q5 : s.length = h.length) (q6 : ∀ x ∈ h, badW h.length x = false) (q7 : xs.lookup ("heard" : Str) = none) {ss : List Rp} (eo : wordO T.C_UnknownWord h.length w (.inl ((doubtL h s w.toNat).map nI)) = .inl ss) (k : κ (rL K ss) M) : XM (spON (R_Doubter_said T)) [rIns C (perF K h s ++ xs), Mu.rI w] M κ ε := xmf K (fun vs G ra => ⟨C, h, s, xs, w, ra, q0, q1, q2, q3, q4, q5, q6, q7, eo.symm⟩) k
theorem xe_Doubter_said (T : Tx P K mg) {M : List Re} {κ : KV} {ε : KX} {C : Addr} {h : List Int} {s : List (List Int)} {xs : FL} {w : Int} (q0 : Cls K C) (q1 : NoAttr K C "size") (q2 : SupF K C T.C_Doubter "said" T.f_Person_said) (q3 : PerC K T.f_Person_heard C) (q4 : h.length ≤ 6) (q5 : s.length = h.length) (q6 : ∀ x ∈ h, badW h.length x = false) (q7 : xs.lookup ("heard" : Str) = none) {c : Value} {fs : List (Str × V)} (eo : wordO T.C_UnknownWord h.length w (.inl ((doubtL h s w.toNat).map nI)) = .inr (c, fs)) (k : ε c fs M) : XM (spON (R_Doubter_said T)) [rIns C (perF K h s ++ xs), Mu.rI w] M κ ε := xme (fun vs G ra => ⟨C, h, s, xs, w, ra, q0, q1, q2, q3, q4, q5, q6, q7, eo.symm⟩) k
theorem o_Doubter_said (T : Tx P K mg) {M : List Re} {κ : KV} {C : Addr} {h : List Int} {s : List (List Int)} {xs : FL} {w : Int} (q0 : Cls K C) (q1 : NoAttr K C "size") (q2 : SupF K C T.C_Doubter "said" T.f_Person_said) (q3 : PerC K T.f_Person_heard C) (q4 : h.length ≤ 6) (q5 : s.length = h.length) (q6 : ∀ x ∈ h, badW h.length x = false) (q7 : xs.lookup ("heard" : Str) = none) {ss : List Rp} (eo : wordO T.C_UnknownWord h.length w (.inl ((doubtL h s w.toNat).map nI)) = .inl ss) (k : ∀ p, κ (rV (.ref p)) (M ++ [lstR p ss])) : CM (spON (R_Doubter_said T)) [rIns C (perF K h s ++ xs), Mu.rI w] M κ := cmo_ (xo_Doubter_said T q0 q1 q2 q3 q4 q5 q6 q7 eo k) spON_E
theorem c_Doubter_said (T : Tx P K mg) {M : List Re} {κ : KV} {C : Addr} {h : List Int} {s : List (List Int)} {xs : FL} {w : Int} (q0 : Cls K C) (q1 : NoAttr K C "size") (q2 : SupF K C T.C_Doubter "said" T.f_Person_said) (q3 : PerC K T.f_Person_heard C) (q4 : h.length ≤ 6) (q5 : s.length = h.length) (q6 : ∀ x ∈ h, badW h.length x = false) (q7 : xs.lookup ("heard" : Str) = none) {ss : List Rp} (eo : wordO T.C_UnknownWord h.length w (.inl ((doubtL h s w.toNat).map nI)) = .inl ss) (k : κ (rL K ss) M) : CM (spON (R_Doubter_said T)) [rIns C (perF K h s ++ xs), Mu.rI w] M κ := cmo_ (xf_Doubter_said T q0 q1 q2 q3 q4 q5 q6 q7 eo k) spON_E
local macro_rules | `(tactic| wtm_at "co") => `(tactic| refine xo_Doubter_said _ (by wtm_at "s") (by wtm_at "s") (by wtm_at "s") (by wtm_at "s") (by wtm_at "s") (by wtm_at "s") (by wtm_at "s") (by wtm_at "s") (by assumption) ?_)
local macro_rules | `(tactic| wtm_at "co") => `(tactic| refine o_Doubter_said _ (by wtm_at "s") (by wtm_at "s") (by wtm_at "s") (by wtm_at "s") (by wtm_at "s") (by wtm_at "s") (by wtm_at "s") (by wtm_at "s") (by assumption) ?_)
local macro_rules | `(tactic| wtm_at "c") => `(tactic| refine xe_Doubter_said _ (by wtm_at "s") (by wtm_at "s") (by wtm_at "s") (by wtm_at "s") (by wtm_at "s") (by wtm_at "s") (by wtm_at "s") (by wtm_at "s") (by assumption) ?_)
local macro_rules | `(tactic| wtm_at "c") => `(tactic| refine xf_Doubter_said _ (by wtm_at "s") (by wtm_at "s") (by wtm_at "s") (by wtm_at "s") (by wtm_at "s") (by wtm_at "s") (by wtm_at "s") (by wtm_at "s") (by assumption) ?_)
local macro_rules | `(tactic| wtm_at "c") => `(tactic| refine c_Doubter_said _ (by wtm_at "s") (by wtm_at "s") (by wtm_at "s") (by wtm_at "s") (by wtm_at "s") (by wtm_at "s") (by wtm_at "s") (by wtm_at "s") (by assumption) ?_)
end
end MuL

namespace MuL
open PySem PySem.Spec PyProof.Rows L2 He Evl Mu
section
variable {P : Program} {w : World} {K : PySem.W.Frag} {mg : Str → Option Value} {base : Heap}
local macro_rules | `(tactic| wtm_at "s") => `(tactic| first | assumption | omega | exact rfl | decide | wtm_at "s2")
local macro_rules | `(tactic| wtm_at "s2") => `(tactic| (simp only [List.length_map, List.length_range, List.length_cons, List.length_nil, List.length_append]; omega))
local macro_rules | `(tactic| wtm_at "j") => `(tactic| first | exact List.mem_cons_self | (simp; done))
local macro_rules | `(tactic| wtm_at "tr") => `(tactic| (apply t_is; (focus (wtm_at "t")); exact rfl))
local macro_rules | `(tactic| wtm_at "bs") => `(tactic| first | exact rfl | (simp; done) | (simp [*]; done))
local macro_rules | `(tactic| wtm_at "yes") => `(tactic| (apply w_yes; (focus (apply t_is; (focus (wtm_at "t")); first | exact rfl | (simp; done) | (simp [*]; done)))))
local macro_rules | `(tactic| wtm_at "no") => `(tactic| (apply w_no; (focus (apply t_is; (focus (wtm_at "t")); first | exact rfl | (simp; done) | (simp [*]; done)))))
local macro_rules | `(tactic| wtm_at "nn") => `(tactic| first | exact nn_tab | exact nn_L | exact nn_T | exact nn_I)
local macro_rules | `(tactic| wtm_at "sub") => `(tactic| repeat' first | exact Paired.nil | refine Paired.cons (Or.inr rfl) ?_ | refine Paired.cons (Or.inl rfl) ?_)
local macro_rules | `(tactic| wtm_at "o") => `(tactic| first
    | ((with_reducible show OM (rI0 _) _ _ _ _); first | refine om (x_addN (x_v rfl) (x_v rfl)) ?_ | refine om (x_subN (x_v rfl) (x_v rfl) (by wtm_at "s")) ?_ | refine om (x_bandN (x_v rfl) (x_v rfl)) ?_ | refine om (x_borN (x_v rfl) (x_v rfl)) ?_ | refine om (x_ltN (x_v rfl) (x_v rfl)) ?_ | refine om (x_leN (x_v rfl) (x_v rfl)) ?_ | refine om (x_gtN (x_v rfl) (x_v rfl)) ?_ | refine om (x_geN (x_v rfl) (x_v rfl)) ?_ | refine om (x_I0 (x_v rfl) (x_v rfl)) ?_)
    | ((with_reducible show OM (L2.rI _ _) _ _ _ _); first | refine om (x_powN (x_v rfl) (x_v rfl) (by wtm_at "s") (by wtm_at "s")) ?_ | refine om (x_shrN (x_v rfl) (x_v rfl)) ?_ | refine om (x_shlN1 (x_v rfl) (x_v rfl) (by wtm_at "s")) ?_ | refine om (x_I (x_v rfl) (x_v rfl) (by wtm_at "s")) ?_)
    | ((with_reducible show OM rEq _ _ _ _); first | refine om (x_eqN (x_v rfl) (x_v rfl)) ?_ | refine om (x_eqI (x_v rfl) (x_v rfl)) ?_ | refine om (x_eqV (x_v rfl) (x_v rfl) rfl) ?_)
    | ((with_reducible show OM rNe _ _ _ _); first | refine om (x_neN (x_v rfl) (x_v rfl)) ?_ | refine om (x_neI (x_v rfl) (x_v rfl)) ?_ | refine om (x_neV (x_v rfl) (x_v rfl) rfl) ?_)
    | ((with_reducible show OM (rIxT _) _ _ _ _); first | refine om (x_ixTn (x_v rfl) (x_v rfl) (by wtm_at "s")) ?_ | refine om (x_ixT (x_v rfl) (x_v rfl) rfl) ?_ | refine om (x_ixTm default (x_v rfl) (x_v rfl) (by wtm_at "s")) ?_)
    | ((with_reducible show OM (rIxL _) _ _ _ _); first | refine om (x_ixB (x_v rfl) (x_v rfl) (by wtm_at "s")) ?_ | refine om (x_ixLn (x_v rfl) (x_v rfl) (by wtm_at "s")) ?_ | refine om (x_ixLL (x_v rfl) (x_v rfl) (by wtm_at "s")) ?_ | refine om_ixOwn 0 rfl (by wtm_at "s") ?_ | refine om_ixOwn 1 rfl (by wtm_at "s") ?_ | refine om_ixOwn 2 rfl (by wtm_at "s") ?_ | refine om_ixOwn 3 rfl (by wtm_at "s") ?_ | refine om (x_ixL (x_v rfl) (x_v rfl) rfl) ?_ | refine om (x_ixL (x_v rfl) (x_v rfl) (by assumption)) ?_ | refine om (x_ixLm default (x_v rfl) (x_v rfl) (by wtm_at "s")) ?_)
    | ((with_reducible show OM (rIn _ _) _ _ _ _); first | refine om (x_inLn (l := [_, _]) (x_v rfl) (x_v rfl)) ?_ | refine om (x_inLn (l := [_, _, _]) (x_v rfl) (x_v rfl)) ?_ | refine om (x_inLn (x_v rfl) (x_v rfl)) ?_ | refine om (x_niLn (x_v rfl) (x_v rfl)) ?_ | refine om (x_inTi true (x_v rfl) (x_v rfl)) ?_ | refine om (x_inTi false (x_v rfl) (x_v rfl)) ?_ | refine om (x_inLi true (x_v rfl) (x_v rfl)) ?_ | refine om (x_inLi false (x_v rfl) (x_v rfl)) ?_)
    | ((with_reducible show OM (rEqD _) _ _ _ _); first | refine om (x_eqLn0 (x_v rfl) (x_v rfl)) ?_ | refine om (x_eqLn (x_v rfl) (x_v rfl)) ?_ | refine om (x_eqTn (x_v rfl) (x_v rfl)) ?_ | refine om (x_eqLL (x_v rfl) (x_v rfl)) ?_)
    | ((with_reducible show OM (rNeD _) _ _ _ _); first | refine om (x_neLn0 (x_v rfl) (x_v rfl)) ?_ | refine om (x_neLn (x_v rfl) (x_v rfl)) ?_ | refine om (x_neTn (x_v rfl) (x_v rfl)) ?_ | refine om (x_neLL (x_v rfl) (x_v rfl)) ?_ | refine om (x_neP (x_v rfl) (x_v rfl)) ?_)
    | ((with_reducible show OM (rInD _) _ _ _ _); first | refine om (x_inP (x_v rfl) (x_v rfl)) ?_)
    | ((with_reducible show OM (rNotInD _) _ _ _ _); first | refine om (x_niP (x_v rfl) (x_v rfl)) ?_)
    | ((with_reducible show OM (rInTD _) _ _ _ _); first | refine om (x_inTP (x_v rfl) (x_v rfl)) ?_)
    | ((with_reducible show OM rIsB _ _ _ _); first | refine om (x_isB (x_v rfl) (x_v rfl)) ?_)
    | ((with_reducible show OM rNotB _ _ _ _); first | refine om (x_isNB (x_v rfl) (x_v rfl)) ?_)
    | ((with_reducible show OM (fun _ _ _ _ => _ ∧ _) _ _ _ _); first | refine om_isN0 ?_ | refine om_notN0 ?_ | refine om_isN1 (by wtm_at "nn") ?_ | refine om_notN1 (by wtm_at "nn") ?_)
    | ((with_reducible show OM rRep _ _ _ _); first | refine om_rep (by wtm_at "s") (by wtm_at "s") ?_)
    | ((with_reducible show OM rCat _ _ _ _); first | refine om_cat (by wtm_at "s") ?_ | refine om (x_catm (x_v rfl) (x_v rfl) (by wtm_at "s")) ?_))
local macro_rules | `(tactic| wtm_at "a") => `(tactic| first
    | ((with_reducible show AM (rLenS _) _ _ _); first | refine am1 (x_lenLn (x_v rfl)) ?_ | refine am1 (x_lenTn (x_v rfl)) ?_ | refine am1 (x_lenB (x_v rfl)) ?_ | refine am1 (x_lenLL (x_v rfl)) ?_ | refine am1 (x_lenLm (x_v rfl)) ?_ | refine am1 (x_lenTm (x_v rfl)) ?_ | refine am_own 0 rfl (x_lenLm (x_v rfl)) ?_ | refine am_own 1 rfl (x_lenLm (x_v rfl)) ?_ | refine am_own 2 rfl (x_lenLm (x_v rfl)) ?_ | refine am_own 3 rfl (x_lenLm (x_v rfl)) ?_ | refine am_own 1 rfl (x_lenLm' (x_v rfl)) ?_ | refine am_own 2 rfl (x_lenLm' (x_v rfl)) ?_ | refine am1 (x_lenL (x_v rfl)) ?_ | refine am1 (x_lenT (x_v rfl)) ?_)
    | ((with_reducible show AM (rTupO _) _ _ _); first | refine am1 (x_tupL (x_v rfl)) ?_)
    | ((with_reducible show AM (rListS _) _ _ _); first | refine am_listL ?_ | refine am_listT ?_ | refine am_listOwn 0 rfl ?_ | refine am_listOwn 1 rfl ?_ | refine am_listOwn 2 rfl ?_)
    | ((with_reducible show AM (rIsi _) _ _ _); first | refine am2c (x_isInt (x_v rfl)) ?_ | refine am2c (x_isList (x_v rfl)) ?_ | refine am2c (x_isTup (x_v rfl)) ?_ | refine am2c (x_isTab (Tx.ic_Table (by assumption)) (x_v rfl)) ?_ | refine am2c (x_isIns (by assumption) (by assumption) (x_v rfl)) ?_)
    | ((with_reducible show AM _ _ _ _); first | refine am1 (x_int (x_v rfl)) ?_ | refine mk_tab (by assumption) (by wtm_at "s") (by wtm_at "s") ?_))
local macro_rules | `(tactic| wtm_at "c") => `(tactic| fail)
local macro_rules | `(tactic| wtm_at "c") => `(tactic| refine c_bits (by assumption) (by wtm_at "s") ?_)
local macro_rules | `(tactic| wtm_at "c") => `(tactic| refine c_all_words _  ?_)
local macro_rules | `(tactic| wtm_at "c") => `(tactic| refine xe_check_person _ (by wtm_at "s") (by wtm_at "s") (by assumption) ?_)
local macro_rules | `(tactic| wtm_at "c") => `(tactic| refine xq_check_person _ (by wtm_at "s") (by wtm_at "s") (by assumption) ?_)
local macro_rules | `(tactic| wtm_at "c") => `(tactic| refine c_check_person _ (by wtm_at "s") (by wtm_at "s") (by assumption) ?_)
local macro_rules | `(tactic| wtm_at "c") => `(tactic| refine me_Person__init _ (by assumption) (by wtm_at "s") (by wtm_at "s") (by wtm_at "s") (by assumption) ?_)
local macro_rules | `(tactic| wtm_at "c") => `(tactic| refine mk_Person__init _ (by assumption) (by wtm_at "s") (by wtm_at "s") (by wtm_at "s") (by assumption) ?_)
local macro_rules | `(tactic| wtm_at "c") => `(tactic| refine me_Knower__init _ (by assumption) (by wtm_at "s") (by wtm_at "s") (by wtm_at "s") (by wtm_at "s") (by assumption) ?_)
local macro_rules | `(tactic| wtm_at "c") => `(tactic| refine mk_Knower__init _ (by assumption) (by wtm_at "s") (by wtm_at "s") (by wtm_at "s") (by wtm_at "s") (by assumption) ?_)
local macro_rules | `(tactic| wtm_at "c") => `(tactic| refine xe_check_word _  (by assumption) ?_)
local macro_rules | `(tactic| wtm_at "c") => `(tactic| refine xq_check_word _  (by assumption) ?_)
local macro_rules | `(tactic| wtm_at "c") => `(tactic| refine c_check_word _  (by assumption) ?_)
local macro_rules | `(tactic| wtm_at "c") => `(tactic| refine xe_Person_heard _ (by wtm_at "s") (by assumption) ?_)
local macro_rules | `(tactic| wtm_at "c") => `(tactic| refine xq_Person_heard _ (by wtm_at "s") (by assumption) ?_)
local macro_rules | `(tactic| wtm_at "c") => `(tactic| refine c_Person_heard _ (by wtm_at "s") (by assumption) ?_)
local macro_rules | `(tactic| wtm_at "c") => `(tactic| refine xe_Person_said _ (by wtm_at "s") (by wtm_at "s") (by wtm_at "s") (by wtm_at "s") (by wtm_at "s") (by assumption) ?_)
local macro_rules | `(tactic| wtm_at "c") => `(tactic| refine xf_Person_said _ (by wtm_at "s") (by wtm_at "s") (by wtm_at "s") (by wtm_at "s") (by wtm_at "s") (by assumption) ?_)
local macro_rules | `(tactic| wtm_at "c") => `(tactic| refine c_Person_said _ (by wtm_at "s") (by wtm_at "s") (by wtm_at "s") (by wtm_at "s") (by wtm_at "s") (by assumption) ?_)
local macro_rules | `(tactic| wtm_at "c") => `(tactic| refine xe_Doubter_said _ (by wtm_at "s") (by wtm_at "s") (by wtm_at "s") (by wtm_at "s") (by wtm_at "s") (by wtm_at "s") (by wtm_at "s") (by wtm_at "s") (by assumption) ?_)
local macro_rules | `(tactic| wtm_at "c") => `(tactic| refine xf_Doubter_said _ (by wtm_at "s") (by wtm_at "s") (by wtm_at "s") (by wtm_at "s") (by wtm_at "s") (by wtm_at "s") (by wtm_at "s") (by wtm_at "s") (by assumption) ?_)
local macro_rules | `(tactic| wtm_at "c") => `(tactic| refine c_Doubter_said _ (by wtm_at "s") (by wtm_at "s") (by wtm_at "s") (by wtm_at "s") (by wtm_at "s") (by wtm_at "s") (by wtm_at "s") (by wtm_at "s") (by assumption) ?_)
local macro_rules | `(tactic| wtm_at "f") => `(tactic| first
    | refine f_own 0 rfl (by wtm_at "s") (by wtm_at "s") rfl ?_
    | refine f_ins (by wtm_at "s") (by wtm_at "s") rfl ?_
    | refine f_tab (x_size (x_v rfl) (Tx.c_Table (by assumption)) (Tx.na_Table_size (by assumption))) ?_
    | refine f_tab (x_masks (x_v rfl) (Tx.c_Table (by assumption)) (Tx.na_Table_masks (by assumption))) ?_
    | refine f_tab (x_cells (x_v rfl) (Tx.c_Table (by assumption)) (Tx.na_Table_cells (by assumption))) ?_)
local macro_rules | `(tactic| wtm_at "v") => `(tactic| first
    | ((with_reducible show EW _ _ _ (tVar _) _ _); refine e_v rfl ?_)
    | ((with_reducible show EW _ _ _ (tC (V.int _)) _ _); refine e_cn ?_)
    | ((with_reducible show EW _ _ _ (tC _) _ _); refine e_c ?_)
    | ((with_reducible show EW _ _ _ (tOp _ _ _) _ _); refine e_op ?_)
    | ((with_reducible show EW _ _ _ (tCB _ _) _ _); refine e_cb ?_)
    | ((with_reducible show EW _ _ _ (tCall _ _ _ _) _ _); refine e_call ?_)
    | ((with_reducible show EW _ _ _ (tCallS _ _ _) _ _); refine e_callS ?_)
    | ((with_reducible show EW _ _ _ (tFld _ _ _) _ _); refine e_fld _ ?_)
    | ((with_reducible show EW _ _ _ (tTup _) _ _); refine e_tup (by assumption) ?_)
    | ((with_reducible show EW _ _ _ (tLst _) _ _); refine e_lst (by assumption) ?_)
    | ((with_reducible show EW _ _ _ (tUn _ _) _ _); refine e_un ?_)
    | ((with_reducible show EW _ _ _ (tMake _ (spTab _ _) _ _ _) _ _); refine e_make ?_)
    | ((with_reducible show EW _ _ _ (tMakeS _ _ _ _) _ _); refine e_makeS ?_)
    | ((with_reducible show EW _ _ _ (tMeth _ _ _ _ _ _ _) _ _); refine e_meth ?_)
    | ((with_reducible show EW _ _ _ (tMethS _ _ _ _ _ _) _ _); refine e_methS ?_)
    | ((with_reducible show EW _ _ _ (tProp _ _ _ _ _) _ _); refine e_prop ?_)
    | ((with_reducible show EW _ _ _ (tLc (iList _ _) _ tYes _ _) _ _); apply e_lcL0; (focus (wtm_at "x")); (focus (wtm_at "s")); (focus (intro a ha; wtm_at "x")); (focus (wtm_at "j")))
    | ((with_reducible show EW _ _ _ (tLc (iTup _ _) _ tYes _ _) _ _); apply e_lcT0; (focus (wtm_at "x")); (focus (wtm_at "s")); (focus (intro a ha; wtm_at "x")); (focus (wtm_at "j")))
    | ((with_reducible show EW _ _ _ (tLc (iRng1 _) _ tYes _ _) _ _); apply e_lcR0 (by assumption); (focus (wtm_at "x")); (focus (wtm_at "s")); (focus (intro a ha; wtm_at "x")); (focus (wtm_at "j")))
    | ((with_reducible show EW _ _ _ (tLc (iList _ _) _ _ _ _) _ _); apply e_lcL; (focus (wtm_at "x")); (focus (wtm_at "s")); (focus (intro a ha; wtm_at "tr")); (focus (intro a ha hf; wtm_at "x")); (focus (wtm_at "j")))
    | ((with_reducible show EW _ _ _ (tLc (iTup _ _) _ _ _ _) _ _); apply e_lcT; (focus (wtm_at "x")); (focus (wtm_at "s")); (focus (intro a ha; wtm_at "tr")); (focus (intro a ha hf; wtm_at "x")); (focus (wtm_at "j")))
    | ((with_reducible show EW _ _ _ (tLc (iRng1 _) _ _ _ _) _ _); apply e_lcR (by assumption); (focus (wtm_at "x")); (focus (wtm_at "s")); (focus (intro a ha; wtm_at "tr")); (focus (intro a ha hf; wtm_at "x")); (focus (wtm_at "j")))
    | ((with_reducible show EW _ _ _ (tSl (rSlL _) _ tNoPart (tPart _)) _ _); apply e_slTo; (focus (wtm_at "x")))
    | ((with_reducible show EW _ _ _ (tSl (rSlL _) _ (tPart _) tNoPart) _ _); apply e_slFrom; (focus (wtm_at "x")))
    | ((with_reducible show EW _ _ _ (tAndV _ _) _ _); first | (apply e_and; (focus (wtm_at "x")); (focus (intro hq; wtm_at "x"))) | (apply e_x; (focus (apply x_and0; (focus (wtm_at "x")); wtm_at "bs"))))
    | ((with_reducible show EW _ _ _ (tOrV _ _) _ _); first | (apply e_or; (focus (wtm_at "x")); (focus (intro hq; wtm_at "x"))) | (apply e_x; (focus (apply x_or1; (focus (wtm_at "x")); wtm_at "bs"))))
    | ((with_reducible show EW _ _ _ (tMake _ (spIni _ _) _ _ _) _ _); refine e_makeI ?_ spIni_E)
    | ((with_reducible show EW _ _ _ (tSup _ _ _ _ _ _ _) _ _); refine e_sup rfl (by assumption) ?_)
    | ((with_reducible show EW _ _ _ (tNotV _) _ _); apply e_not; (focus (wtm_at "x")))
    | ((with_reducible show EW _ _ _ (tBM _ _ _ _ _) _ _); first | refine e_app 0 rfl ?_ rfl | refine e_app 1 rfl ?_ rfl | refine e_app 2 rfl ?_ rfl | refine e_app 3 rfl ?_ rfl))
local macro_rules | `(tactic| wtm_at "e1") => `(tactic| first
    | ((with_reducible show EW _ _ _ _ _ _); wtm_at "v")
    | ((with_reducible show EA _ _ _ _ _ _); first | refine a_cons ?_ | refine a_nil ?_)
    | ((with_reducible show OM _ _ _ _ _); first | wtm_at "o" | wtm_at "c")
    | ((with_reducible show AM _ _ _ _); wtm_at "a")
    | ((with_reducible show CM _ _ _ _); wtm_at "c")
    | ((with_reducible show XM _ _ _ _ _); wtm_at "c")
    | ((with_reducible show MkM _ _ _ _ _ _); wtm_at "c")
    | ((with_reducible show UM _ _ _ _); first | wtm_at "f" | refine um (x_neg (x_v rfl)) ?_ | wtm_at "c")
    | ((with_reducible show InsR _ _ _ ∧ _); first | refine ⟨ins_tab rfl, ?_⟩ | refine ⟨ins_ins rfl, ?_⟩ | refine ⟨ins_ins (by assumption), ?_⟩)
    | ((with_reducible show (∀ (v : V) (G : Hp), _ → ∃ a dx fs, _) ∧ _); refine ⟨ins_is, ?_⟩)
    | ((with_reducible show And (@LE.le Nat _ _ _) _); refine ⟨Nat.le_of_ble_eq_true rfl, ?_⟩)
    | ((with_reducible show ∃ rs : List Rp, _ ∧ _ ∧ _); refine ⟨_, rfl, by wtm_at "s", ?_⟩)
    | ((with_reducible show ∃ rs : List Rp, _ = rL _ rs ∧ _); refine ⟨_, rfl, ?_⟩)
    | ((with_reducible show ∃ fs : FL, _ ∧ _ ∧ _ ∧ _); refine ⟨_, rfl, rfl, Nat.le_of_ble_eq_true rfl, ?_⟩)
    | ((with_reducible show _ = _ ∧ _ = ([] : List Re)); first | exact ⟨rfl, rfl⟩ | exact ⟨by wtm_at "q", rfl⟩))
local macro_rules | `(tactic| wtm_at "q") => `(tactic| first | rfl | exact congrArg nI (by omega) | exact congrArg Mu.rI (by omega) | exact congrArg rB (by wtm_at "b"))
local macro_rules | `(tactic| wtm_at "b") => `(tactic| first | rfl | (rw [Bool.eq_iff_iff]; simp; omega))
local macro_rules | `(tactic| wtm_at "e") => `(tactic| repeat wtm_at "e1")
local macro_rules | `(tactic| wtm_at "co") => `(tactic| fail)
local macro_rules | `(tactic| wtm_at "co") => `(tactic| refine xo_Person_said _ (by wtm_at "s") (by wtm_at "s") (by wtm_at "s") (by wtm_at "s") (by wtm_at "s") (by assumption) ?_)
local macro_rules | `(tactic| wtm_at "co") => `(tactic| refine o_Person_said _ (by wtm_at "s") (by wtm_at "s") (by wtm_at "s") (by wtm_at "s") (by wtm_at "s") (by assumption) ?_)
local macro_rules | `(tactic| wtm_at "co") => `(tactic| refine xo_Doubter_said _ (by wtm_at "s") (by wtm_at "s") (by wtm_at "s") (by wtm_at "s") (by wtm_at "s") (by wtm_at "s") (by wtm_at "s") (by wtm_at "s") (by assumption) ?_)
local macro_rules | `(tactic| wtm_at "co") => `(tactic| refine o_Doubter_said _ (by wtm_at "s") (by wtm_at "s") (by wtm_at "s") (by wtm_at "s") (by wtm_at "s") (by wtm_at "s") (by wtm_at "s") (by wtm_at "s") (by assumption) ?_)
local macro_rules | `(tactic| wtm_at "eo") => `(tactic| repeat first | ((with_reducible show CM _ _ _ _); wtm_at "co") | ((with_reducible show XM _ _ _ _ _); wtm_at "co") | wtm_at "e1")
local macro_rules | `(tactic| wtm_at "x") => `(tactic| first | exact x_v rfl | exact x_c | (apply EvX.by; intro W ε; (wtm_at "e"); done))
local macro_rules | `(tactic| wtm_at "t") => `(tactic| first
    | ((with_reducible show EvTX _ tYes _); exact t_yes)
    | ((with_reducible show EvTX _ (tAnd _ _) _); first | (apply t_and; (focus (wtm_at "t")); (focus (intro hq; wtm_at "t"))) | (apply t_and0; (focus (wtm_at "t")); wtm_at "bs"))
    | ((with_reducible show EvTX _ (tOr _ _) _); first | (apply t_or; (focus (wtm_at "t")); (focus (intro hq; wtm_at "t"))) | (apply t_or1; (focus (wtm_at "t")); wtm_at "bs"))
    | ((with_reducible show EvTX _ (tNot _) _); apply t_not; wtm_at "t")
    | ((with_reducible show EvTX _ (tTest (tChain _ _ _ _ _)) _); apply t_chain; (focus (wtm_at "x")); (focus (wtm_at "x")); (focus (wtm_at "x")))
    | ((with_reducible show EvTX _ (tTest _) _); apply t_T; wtm_at "x")
    | ((with_reducible show EvTX _ (tB _) _); apply t_B; wtm_at "x"))
local macro_rules | `(tactic| wtm_at "tq") => `(tactic| (apply t_is; (focus (wtm_at "t")); try wtm_at "b"))
local macro_rules | `(tactic| wtm_at "if") => `(tactic| (apply w_if; (focus (wtm_at "t"))))
local macro_rules | `(tactic| wtm_at "ifc") => `(tactic| (refine ws_if ?_; (repeat first | refine w_tNot ?_ | refine w_tB ?_ | refine w_t ?_ | wtm_at "e1" | ((with_reducible show ∃ c : Bool, _ = rB c ∧ _); refine ⟨_, rfl, ?_⟩)); refine ⟨?_, ?_⟩))
local macro_rules | `(tactic| wtm_at "w1") => `(tactic| first
    | ((with_reducible show WP _ _ _ (tSeq _ _) _); refine w_seq ?_)
    | ((with_reducible show WP _ _ _ (tAsg _ (gName _)) _); refine ws_set ?_; (wtm_at "e"); dsimp only [List.set])
    | ((with_reducible show WP _ _ _ (tRet _) _); refine ws_ret ?_; (wtm_at "e"))
    | ((with_reducible show WP _ _ _ (sFld _ (tVar _) _ _) _); refine ws_fld 0 rfl rfl (by wtm_at "s") (by wtm_at "s") ?_; (wtm_at "e"); dsimp only [List.set])
    | ((with_reducible show WP _ _ _ (tDrop _) _); refine ws_do ?_; (wtm_at "e"))
    | ((with_reducible show WP _ _ _ tNext _); (refine w_nx ?_))
    | ((with_reducible show WP _ _ _ tRetN _); refine w_ret0 ?_))
local macro_rules | `(tactic| wtm_at "w") => `(tactic| repeat ((try dsimp only); wtm_at "w1"))
theorem sc_Knower_said : FsScope ["self", "word", "outs"] ["self", "word"] (defScope s_Knower_said) := ⟨rfl, rfl, rfl, by decide +kernel, rfl, by decide +kernel, by decide +kernel, by decide +kernel, rfl, rfl⟩
theorem b_Knower_said (T : Tx P K mg) : Binds K T.fd_Knower_said ["self", "word"] [] := by
  obtain ⟨oc, od, kV, doc, pm, an, ct, osl, e, lk⟩ := T.S_Knower_said.fn
  rw [e]
  exact Binds.all fun us hl => match us, hl with | [_, _], _ => rfl
def baseL (db : Bool) (h : List Int) (s : List (List Int)) (w : Nat) : List Nat := match db with
  | false => saidL h s w
  | true => doubtL h s w
def knowL (kn : List Int) (base : List Nat) (w : Nat) : List Nat := if (w : Int) ∈ kn then [w] else base

def R_Knower_said (T : Tx P K mg) : List V → Hp → NOut → Prop := fun vs G o => ∃ (C : Addr) (h : List Int) (s : List (List Int)) (kn : List Int) (db : Bool) (w : Int), RA G vs [rIns C (perF K h s ++ ([("sure_words", rT K (kn.map Mu.rI))] : FL)), Mu.rI w] ∧ (Cls K C) ∧ (NoAttr K C "sure_words") ∧ ((db = false → SupF K C T.C_Knower "said" T.f_Person_said)) ∧ ((db = true → SupF K C T.C_Knower "said" T.f_Doubter_said ∧ SupF K C T.C_Doubter "said" T.f_Person_said)) ∧ (NoAttr K C "size") ∧ (PerC K T.f_Person_heard C) ∧ (h.length ≤ 6) ∧ (s.length = h.length) ∧ (∀ x ∈ h, badW h.length x = false) ∧ o = wordO T.C_UnknownWord h.length w (.inl ((knowL kn (baseL db h s w.toNat) w.toNat).map nI))
theorem ok_Knower_said (T : Tx P K mg) : FnOk P w K mg base (L2N.CX P w) 7 T.f_Knower_said T.fd_Knower_said ["self", "word"] (spON (R_Knower_said T)) := by
  refine T.S_Knower_said.ok sc_Knower_said (fun vs H Q E h => ?_) (fun A outer s H vs Q E hr h => ?_)
  · obtain ⟨G, o, _, ⟨C, h, s, kn, db, w, ra, _⟩, _⟩ := h
    exact ra.len
  · obtain ⟨G, o, e, ⟨C, h, s, kn, db, w, ra, q0, q1, q2, q3, q4, q5, q6, q7, q8, rfl⟩, k1, k2⟩ := h
    cases db with
    | false =>
      have hs := q2 rfl
      refine ⟨_, (psa_set (i := 2) sc_Knower_said.nd rfl rfl (pea_supMeth T.S_Knower_said sc_Knower_said T.pf T.m_super rfl rfl rfl (FunD.lk T.F_Person_said) T.ty_Person_said (ok_Person_said T) (hr.mono (by decide)) (b_Person_said T) (fun σ => L2N.passAt (L2N.takes_of rfl rfl rfl rfl) σ) (pa_cons (pv 1) pa_nil) (by decide +kernel))
      (pss_cons (ps_if (pt_cmpR (op_inK K) (pv 1) (pe_fldK K (pv 0)) rfl) (pss_one (ps_ret (pe_lst (pa_cons (pv 1) pa_nil)))) pss_nil)
      (pss_one (ps_ret (pv 2))))), ?_⟩
      refine run_ON (Γ := [some (rIns C (perF K h s ++ ([("sure_words", rT K (kn.map Mu.rI))] : FL))), some (Mu.rI w), none]) ?_ e (En.start (k := 1) _ (rs := [rIns C (perF K h s ++ ([("sure_words", rT K (kn.map Mu.rI))] : FL)), Mu.rI w]) ra (by rw [ra.len]; rfl)) k1 k2
      clear ra e k1 k2
      refine w_seq (ws_set ?_)
      by_cases hb : badW h.length w = true
      · have e1 := word_bad (α := List Rp) (U := T.C_UnknownWord) (x := .inl ((saidL h s w.toNat).map nI)) hb
        wtm_at "e"
        exact word_bad hb
      · have e1 := word_good (α := List Rp) (U := T.C_UnknownWord) (x := .inl ((saidL h s w.toNat).map nI)) hb
        obtain ⟨k, rfl, hk⟩ := word_nat hb
        rw [Int.toNat_natCast] at e1
        wtm_at "eo"
        intro q
        try dsimp only [List.set, List.nil_append]
        refine w_seq ?_
        wtm_at "if"
        all_goals intro hb2
        · refine w_frz K 0 2 rfl rfl ?_
          dsimp only [List.set, List.eraseIdx]
          refine ws_ret (e_lstN ?_)
          wtm_at "e"
          intro p
          refine ⟨_, p, ?_, rfl, rfl⟩
          rw [word_good hb, Int.toNat_natCast]
          unfold knowL
          rw [if_pos (of_decide_eq_true hb2)]
          rfl
        · refine w_nx ?_
          try dsimp only
          refine ws_ret (e_v rfl ?_)
          refine ⟨_, q, ?_, rfl, rfl⟩
          rw [word_good hb, Int.toNat_natCast]
          unfold knowL
          rw [if_neg (of_decide_eq_false hb2)]
          rfl
    | true =>
      obtain ⟨hs, hs2⟩ := q3 rfl
      refine ⟨_, (psa_set (i := 2) sc_Knower_said.nd rfl rfl (pea_supMeth T.S_Knower_said sc_Knower_said T.pf T.m_super rfl rfl rfl (FunS.lk T.S_Doubter_said) T.ty_Doubter_said (ok_Doubter_said T) (hr.mono (by decide)) (b_Doubter_said T) (fun σ => L2N.passAt (L2N.takes_of rfl rfl rfl rfl) σ) (pa_cons (pv 1) pa_nil) (by decide +kernel))
      (pss_cons (ps_if (pt_cmpR (op_inK K) (pv 1) (pe_fldK K (pv 0)) rfl) (pss_one (ps_ret (pe_lst (pa_cons (pv 1) pa_nil)))) pss_nil)
      (pss_one (ps_ret (pv 2))))), ?_⟩
      refine run_ON (Γ := [some (rIns C (perF K h s ++ ([("sure_words", rT K (kn.map Mu.rI))] : FL))), some (Mu.rI w), none]) ?_ e (En.start (k := 1) _ (rs := [rIns C (perF K h s ++ ([("sure_words", rT K (kn.map Mu.rI))] : FL)), Mu.rI w]) ra (by rw [ra.len]; rfl)) k1 k2
      clear ra e k1 k2
      refine w_seq (ws_set ?_)
      by_cases hb : badW h.length w = true
      · have e1 := word_bad (α := List Rp) (U := T.C_UnknownWord) (x := .inl ((doubtL h s w.toNat).map nI)) hb
        wtm_at "e"
        exact word_bad hb
      · have e1 := word_good (α := List Rp) (U := T.C_UnknownWord) (x := .inl ((doubtL h s w.toNat).map nI)) hb
        obtain ⟨k, rfl, hk⟩ := word_nat hb
        rw [Int.toNat_natCast] at e1
        wtm_at "eo"
        intro q
        try dsimp only [List.set, List.nil_append]
        refine w_seq ?_
        wtm_at "if"
        all_goals intro hb2
        · refine w_frz K 0 2 rfl rfl ?_
          dsimp only [List.set, List.eraseIdx]
          refine ws_ret (e_lstN ?_)
          wtm_at "e"
          intro p
          refine ⟨_, p, ?_, rfl, rfl⟩
          rw [word_good hb, Int.toNat_natCast]
          unfold knowL
          rw [if_pos (of_decide_eq_true hb2)]
          rfl
        · refine w_nx ?_
          try dsimp only
          refine ws_ret (e_v rfl ?_)
          refine ⟨_, q, ?_, rfl, rfl⟩
          rw [word_good hb, Int.toNat_natCast]
          unfold knowL
          rw [if_neg (of_decide_eq_false hb2)]
          rfl
theorem xo_Knower_said (T : Tx P K mg) {M : List Re} {κ : KV} {ε : KX} {C : Addr} {h : List Int} {s : List (List Int)} {kn : List Int} {db : Bool} {w : Int} (q0 : Cls K C) (q1 : NoAttr K C "sure_words") (q2 : (db = false → SupF K C T.C_Knower "said" T.f_Person_said)) (q3 : (db = true → SupF K C T.C_Knower "said" T.f_Doubter_said ∧ SupF K C T.C_Doubter "said" T.f_Person_said)) (q4 : NoAttr K C "size") (q5 : PerC K T.f_Person_heard C) (q6 : h.length ≤ 6) (q7 : s.length = h.length) (q8 : ∀ x ∈ h, badW h.length x = false) {ss : List Rp} (eo : wordO T.C_UnknownWord h.length w (.inl ((knowL kn (baseL db h s w.toNat) w.toNat).map nI)) = .inl ss) (k : ∀ p, κ (rV (.ref p)) (M ++ [lstR p ss])) : XM (spON (R_Knower_said T)) [rIns C (perF K h s ++ ([("sure_words", rT K (kn.map Mu.rI))] : FL)), Mu.rI w] M κ ε := xmo (fun vs G ra => ⟨C, h, s, kn, db, w, ra, q0, q1, q2, q3, q4, q5, q6, q7, q8, eo.symm⟩) k
theorem xf_Knower_said (T : Tx P K mg) {M : List Re} {κ : KV} {ε : KX} {C : Addr} {h : List Int} {s : List (List Int)} {kn : List Int} {db : Bool} {w : Int} (q0 : Cls K C) (q1 : NoAttr K C "sure_words") (q2 : (db = false → SupF K C T.C_Knower "said" T.f_Person_said)) (q3 : (db = true → SupF K C T.C_Knower "said" T.f_Doubter_said ∧ SupF K C T.C_Doubter "said" T.f_Person_said)) (q4 : NoAttr K C "size") (q5 : PerC K T.f_Person_heard C) (q6 : h.length ≤ 6) (q7 : s.length = h.length) (q8 : ∀ x ∈ h, badW h.length x = false) {ss : List Rp} (eo : wordO T.C_UnknownWord h.length w (.inl ((knowL kn (baseL db h s w.toNat) w.toNat).map nI)) = .inl ss) (k : κ (rL K ss) M) : XM (spON (R_Knower_said T)) [rIns C (perF K h s ++ ([("sure_words", rT K (kn.map Mu.rI))] : FL)), Mu.rI w] M κ ε := xmf K (fun vs G ra => ⟨C, h, s, kn, db, w, ra, q0, q1, q2, q3, q4, q5, q6, q7, q8, eo.symm⟩) k
theorem xe_Knower_said (T : Tx P K mg) {M : List Re} {κ : KV} {ε : KX} {C : Addr} {h : List Int} {s : List (List Int)} {kn : List Int} {db : Bool} {w : Int} (q0 : Cls K C) (q1 : NoAttr K C "sure_words") (q2 : (db = false → SupF K C T.C_Knower "said" T.f_Person_said)) (q3 : (db = true → SupF K C T.C_Knower "said" T.f_Doubter_said ∧ SupF K C T.C_Doubter "said" T.f_Person_said)) (q4 : NoAttr K C "size") (q5 : PerC K T.f_Person_heard C) (q6 : h.length ≤ 6) (q7 : s.length = h.length) (q8 : ∀ x ∈ h, badW h.length x = false) {c : Value} {fs : List (Str × V)} (eo : wordO T.C_UnknownWord h.length w (.inl ((knowL kn (baseL db h s w.toNat) w.toNat).map nI)) = .inr (c, fs)) (k : ε c fs M) : XM (spON (R_Knower_said T)) [rIns C (perF K h s ++ ([("sure_words", rT K (kn.map Mu.rI))] : FL)), Mu.rI w] M κ ε := xme (fun vs G ra => ⟨C, h, s, kn, db, w, ra, q0, q1, q2, q3, q4, q5, q6, q7, q8, eo.symm⟩) k
theorem o_Knower_said (T : Tx P K mg) {M : List Re} {κ : KV} {C : Addr} {h : List Int} {s : List (List Int)} {kn : List Int} {db : Bool} {w : Int} (q0 : Cls K C) (q1 : NoAttr K C "sure_words") (q2 : (db = false → SupF K C T.C_Knower "said" T.f_Person_said)) (q3 : (db = true → SupF K C T.C_Knower "said" T.f_Doubter_said ∧ SupF K C T.C_Doubter "said" T.f_Person_said)) (q4 : NoAttr K C "size") (q5 : PerC K T.f_Person_heard C) (q6 : h.length ≤ 6) (q7 : s.length = h.length) (q8 : ∀ x ∈ h, badW h.length x = false) {ss : List Rp} (eo : wordO T.C_UnknownWord h.length w (.inl ((knowL kn (baseL db h s w.toNat) w.toNat).map nI)) = .inl ss) (k : ∀ p, κ (rV (.ref p)) (M ++ [lstR p ss])) : CM (spON (R_Knower_said T)) [rIns C (perF K h s ++ ([("sure_words", rT K (kn.map Mu.rI))] : FL)), Mu.rI w] M κ := cmo_ (xo_Knower_said T q0 q1 q2 q3 q4 q5 q6 q7 q8 eo k) spON_E
theorem c_Knower_said (T : Tx P K mg) {M : List Re} {κ : KV} {C : Addr} {h : List Int} {s : List (List Int)} {kn : List Int} {db : Bool} {w : Int} (q0 : Cls K C) (q1 : NoAttr K C "sure_words") (q2 : (db = false → SupF K C T.C_Knower "said" T.f_Person_said)) (q3 : (db = true → SupF K C T.C_Knower "said" T.f_Doubter_said ∧ SupF K C T.C_Doubter "said" T.f_Person_said)) (q4 : NoAttr K C "size") (q5 : PerC K T.f_Person_heard C) (q6 : h.length ≤ 6) (q7 : s.length = h.length) (q8 : ∀ x ∈ h, badW h.length x = false) {ss : List Rp} (eo : wordO T.C_UnknownWord h.length w (.inl ((knowL kn (baseL db h s w.toNat) w.toNat).map nI)) = .inl ss) (k : κ (rL K ss) M) : CM (spON (R_Knower_said T)) [rIns C (perF K h s ++ ([("sure_words", rT K (kn.map Mu.rI))] : FL)), Mu.rI w] M κ := cmo_ (xf_Knower_said T q0 q1 q2 q3 q4 q5 q6 q7 q8 eo k) spON_E
local macro_rules | `(tactic| wtm_at "co") => `(tactic| refine xo_Knower_said _ (by wtm_at "s") (by wtm_at "s") (by wtm_at "s") (by wtm_at "s") (by wtm_at "s") (by wtm_at "s") (by wtm_at "s") (by wtm_at "s") (by wtm_at "s") (by assumption) ?_)
local macro_rules | `(tactic| wtm_at "co") => `(tactic| refine o_Knower_said _ (by wtm_at "s") (by wtm_at "s") (by wtm_at "s") (by wtm_at "s") (by wtm_at "s") (by wtm_at "s") (by wtm_at "s") (by wtm_at "s") (by wtm_at "s") (by assumption) ?_)
local macro_rules | `(tactic| wtm_at "c") => `(tactic| refine xe_Knower_said _ (by wtm_at "s") (by wtm_at "s") (by wtm_at "s") (by wtm_at "s") (by wtm_at "s") (by wtm_at "s") (by wtm_at "s") (by wtm_at "s") (by wtm_at "s") (by assumption) ?_)
local macro_rules | `(tactic| wtm_at "c") => `(tactic| refine xf_Knower_said _ (by wtm_at "s") (by wtm_at "s") (by wtm_at "s") (by wtm_at "s") (by wtm_at "s") (by wtm_at "s") (by wtm_at "s") (by wtm_at "s") (by wtm_at "s") (by assumption) ?_)
local macro_rules | `(tactic| wtm_at "c") => `(tactic| refine c_Knower_said _ (by wtm_at "s") (by wtm_at "s") (by wtm_at "s") (by wtm_at "s") (by wtm_at "s") (by wtm_at "s") (by wtm_at "s") (by wtm_at "s") (by wtm_at "s") (by assumption) ?_)
theorem sc_KnowingDoubter_said : FsScope ["self", "word"] ["self", "word"] (defScope s_KnowingDoubter_said) := ⟨rfl, rfl, rfl, by decide +kernel, rfl, by decide +kernel, by decide +kernel, by decide +kernel, rfl, rfl⟩
theorem b_KnowingDoubter_said (T : Tx P K mg) : Binds K T.fd_KnowingDoubter_said ["self", "word"] [] := by
  obtain ⟨oc, od, kV, doc, pm, an, ct, osl, e, lk⟩ := T.S_KnowingDoubter_said.fn
  rw [e]
  exact Binds.all fun us hl => match us, hl with | [_, _], _ => rfl
def R_KnowingDoubter_said (T : Tx P K mg) : List V → Hp → NOut → Prop := fun vs G o => ∃ (C : Addr) (h : List Int) (s : List (List Int)) (kn : List Int) (db : Bool) (w : Int), RA G vs [rIns C (perF K h s ++ ([("sure_words", rT K (kn.map Mu.rI))] : FL)), Mu.rI w] ∧ (SupF K C T.C_KnowingDoubter "said" T.f_Knower_said) ∧ (Cls K C) ∧ (NoAttr K C "sure_words") ∧ ((db = false → SupF K C T.C_Knower "said" T.f_Person_said)) ∧ ((db = true → SupF K C T.C_Knower "said" T.f_Doubter_said ∧ SupF K C T.C_Doubter "said" T.f_Person_said)) ∧ (NoAttr K C "size") ∧ (PerC K T.f_Person_heard C) ∧ (h.length ≤ 6) ∧ (s.length = h.length) ∧ (∀ x ∈ h, badW h.length x = false) ∧ o = wordO T.C_UnknownWord h.length w (.inl ((knowL kn (baseL db h s w.toNat) w.toNat).map nI))
theorem ok_KnowingDoubter_said (T : Tx P K mg) : FnOk P w K mg base (L2N.CX P w) 8 T.f_KnowingDoubter_said T.fd_KnowingDoubter_said ["self", "word"] (spON (R_KnowingDoubter_said T)) := by
  refine T.S_KnowingDoubter_said.ok sc_KnowingDoubter_said (fun vs H Q E h => ?_) (fun A outer s H vs Q E hr h => ?_)
  · obtain ⟨G, o, _, ⟨C, h, s, kn, db, w, ra, _⟩, _⟩ := h
    exact ra.len
  · obtain ⟨G, o, e, ⟨C, h, s, kn, db, w, ra, q0, q1, q2, q3, q4, q5, q6, q7, q8, q9, rfl⟩, k1, k2⟩ := h
    refine ⟨_, (psa_ret (pea_supMeth T.S_KnowingDoubter_said sc_KnowingDoubter_said T.pf T.m_super rfl rfl rfl (FunS.lk T.S_Knower_said) T.ty_Knower_said (ok_Knower_said T) (hr.mono (by decide)) (b_Knower_said T) (fun σ => L2N.passAt (L2N.takes_of rfl rfl rfl rfl) σ) (pa_cons (pv 1) pa_nil) (by decide +kernel))), ?_⟩
    refine run_ON (Γ := [some (rIns C (perF K h s ++ ([("sure_words", rT K (kn.map Mu.rI))] : FL))), some (Mu.rI w)]) ?_ e (En.start (k := 0) _ (rs := [rIns C (perF K h s ++ ([("sure_words", rT K (kn.map Mu.rI))] : FL)), Mu.rI w]) ra (by rw [ra.len]; rfl)) k1 k2
    clear ra e k1 k2
    refine ws_ret ?_
    by_cases hb : badW h.length w = true
    · have e1 := word_bad (α := List Rp) (U := T.C_UnknownWord) (x := .inl ((knowL kn (baseL db h s w.toNat) w.toNat).map nI)) hb
      wtm_at "e"
      exact word_bad hb
    · have e1 := word_good (α := List Rp) (U := T.C_UnknownWord) (x := .inl ((knowL kn (baseL db h s w.toNat) w.toNat).map nI)) hb
      wtm_at "eo"
      intro p
      exact ⟨_, p, word_good hb, rfl, rfl⟩
theorem xo_KnowingDoubter_said (T : Tx P K mg) {M : List Re} {κ : KV} {ε : KX} {C : Addr} {h : List Int} {s : List (List Int)} {kn : List Int} {db : Bool} {w : Int} (q0 : SupF K C T.C_KnowingDoubter "said" T.f_Knower_said) (q1 : Cls K C) (q2 : NoAttr K C "sure_words") (q3 : (db = false → SupF K C T.C_Knower "said" T.f_Person_said)) (q4 : (db = true → SupF K C T.C_Knower "said" T.f_Doubter_said ∧ SupF K C T.C_Doubter "said" T.f_Person_said)) (q5 : NoAttr K C "size") (q6 : PerC K T.f_Person_heard C) (q7 : h.length ≤ 6) (q8 : s.length = h.length) (q9 : ∀ x ∈ h, badW h.length x = false) {ss : List Rp} (eo : wordO T.C_UnknownWord h.length w (.inl ((knowL kn (baseL db h s w.toNat) w.toNat).map nI)) = .inl ss) (k : ∀ p, κ (rV (.ref p)) (M ++ [lstR p ss])) : XM (spON (R_KnowingDoubter_said T)) [rIns C (perF K h s ++ ([("sure_words", rT K (kn.map Mu.rI))] : FL)), Mu.rI w] M κ ε := xmo (fun vs G ra => ⟨C, h, s, kn, db, w, ra, q0, q1, q2, q3, q4, q5, q6, q7, q8, q9, eo.symm⟩) k
theorem xf_KnowingDoubter_said (T : Tx P K mg) {M : List Re} {κ : KV} {ε : KX} {C : Addr} {h : List Int} {s : List (List Int)} {kn : List Int} {db : Bool} {w : Int} (q0 : SupF K C T.C_KnowingDoubter "said" T.f_Knower_said) (q1 : Cls K C) (q2 : NoAttr K C "sure_words") (q3 : (db = false → SupF K C T.C_Knower "said" T.f_Person_said)) (q4 : (db = true → SupF K C T.C_Knower "said" T.f_Doubter_said ∧ SupF K C T.C_Doubter "said" T.f_Person_said)) (q5 : NoAttr K C "size") (q6 : PerC K T.f_Person_heard C) (q7 : h.length ≤ 6) (q8 : s.length = h.length) (q9 : ∀ x ∈ h, badW h.length x = false) {ss : List Rp} (eo : wordO T.C_UnknownWord h.length w (.inl ((knowL kn (baseL db h s w.toNat) w.toNat).map nI)) = .inl ss) (k : κ (rL K ss) M) : XM (spON (R_KnowingDoubter_said T)) [rIns C (perF K h s ++ ([("sure_words", rT K (kn.map Mu.rI))] : FL)), Mu.rI w] M κ ε := xmf K (fun vs G ra => ⟨C, h, s, kn, db, w, ra, q0, q1, q2, q3, q4, q5, q6, q7, q8, q9, eo.symm⟩) k
theorem xe_KnowingDoubter_said (T : Tx P K mg) {M : List Re} {κ : KV} {ε : KX} {C : Addr} {h : List Int} {s : List (List Int)} {kn : List Int} {db : Bool} {w : Int} (q0 : SupF K C T.C_KnowingDoubter "said" T.f_Knower_said) (q1 : Cls K C) (q2 : NoAttr K C "sure_words") (q3 : (db = false → SupF K C T.C_Knower "said" T.f_Person_said)) (q4 : (db = true → SupF K C T.C_Knower "said" T.f_Doubter_said ∧ SupF K C T.C_Doubter "said" T.f_Person_said)) (q5 : NoAttr K C "size") (q6 : PerC K T.f_Person_heard C) (q7 : h.length ≤ 6) (q8 : s.length = h.length) (q9 : ∀ x ∈ h, badW h.length x = false) {c : Value} {fs : List (Str × V)} (eo : wordO T.C_UnknownWord h.length w (.inl ((knowL kn (baseL db h s w.toNat) w.toNat).map nI)) = .inr (c, fs)) (k : ε c fs M) : XM (spON (R_KnowingDoubter_said T)) [rIns C (perF K h s ++ ([("sure_words", rT K (kn.map Mu.rI))] : FL)), Mu.rI w] M κ ε := xme (fun vs G ra => ⟨C, h, s, kn, db, w, ra, q0, q1, q2, q3, q4, q5, q6, q7, q8, q9, eo.symm⟩) k
theorem o_KnowingDoubter_said (T : Tx P K mg) {M : List Re} {κ : KV} {C : Addr} {h : List Int} {s : List (List Int)} {kn : List Int} {db : Bool} {w : Int} (q0 : SupF K C T.C_KnowingDoubter "said" T.f_Knower_said) (q1 : Cls K C) (q2 : NoAttr K C "sure_words") (q3 : (db = false → SupF K C T.C_Knower "said" T.f_Person_said)) (q4 : (db = true → SupF K C T.C_Knower "said" T.f_Doubter_said ∧ SupF K C T.C_Doubter "said" T.f_Person_said)) (q5 : NoAttr K C "size") (q6 : PerC K T.f_Person_heard C) (q7 : h.length ≤ 6) (q8 : s.length = h.length) (q9 : ∀ x ∈ h, badW h.length x = false) {ss : List Rp} (eo : wordO T.C_UnknownWord h.length w (.inl ((knowL kn (baseL db h s w.toNat) w.toNat).map nI)) = .inl ss) (k : ∀ p, κ (rV (.ref p)) (M ++ [lstR p ss])) : CM (spON (R_KnowingDoubter_said T)) [rIns C (perF K h s ++ ([("sure_words", rT K (kn.map Mu.rI))] : FL)), Mu.rI w] M κ := cmo_ (xo_KnowingDoubter_said T q0 q1 q2 q3 q4 q5 q6 q7 q8 q9 eo k) spON_E
theorem c_KnowingDoubter_said (T : Tx P K mg) {M : List Re} {κ : KV} {C : Addr} {h : List Int} {s : List (List Int)} {kn : List Int} {db : Bool} {w : Int} (q0 : SupF K C T.C_KnowingDoubter "said" T.f_Knower_said) (q1 : Cls K C) (q2 : NoAttr K C "sure_words") (q3 : (db = false → SupF K C T.C_Knower "said" T.f_Person_said)) (q4 : (db = true → SupF K C T.C_Knower "said" T.f_Doubter_said ∧ SupF K C T.C_Doubter "said" T.f_Person_said)) (q5 : NoAttr K C "size") (q6 : PerC K T.f_Person_heard C) (q7 : h.length ≤ 6) (q8 : s.length = h.length) (q9 : ∀ x ∈ h, badW h.length x = false) {ss : List Rp} (eo : wordO T.C_UnknownWord h.length w (.inl ((knowL kn (baseL db h s w.toNat) w.toNat).map nI)) = .inl ss) (k : κ (rL K ss) M) : CM (spON (R_KnowingDoubter_said T)) [rIns C (perF K h s ++ ([("sure_words", rT K (kn.map Mu.rI))] : FL)), Mu.rI w] M κ := cmo_ (xf_KnowingDoubter_said T q0 q1 q2 q3 q4 q5 q6 q7 q8 q9 eo k) spON_E
local macro_rules | `(tactic| wtm_at "co") => `(tactic| refine xo_KnowingDoubter_said _ (by wtm_at "s") (by wtm_at "s") (by wtm_at "s") (by wtm_at "s") (by wtm_at "s") (by wtm_at "s") (by wtm_at "s") (by wtm_at "s") (by wtm_at "s") (by wtm_at "s") (by assumption) ?_)
local macro_rules | `(tactic| wtm_at "co") => `(tactic| refine o_KnowingDoubter_said _ (by wtm_at "s") (by wtm_at "s") (by wtm_at "s") (by wtm_at "s") (by wtm_at "s") (by wtm_at "s") (by wtm_at "s") (by wtm_at "s") (by wtm_at "s") (by wtm_at "s") (by assumption) ?_)
local macro_rules | `(tactic| wtm_at "c") => `(tactic| refine xe_KnowingDoubter_said _ (by wtm_at "s") (by wtm_at "s") (by wtm_at "s") (by wtm_at "s") (by wtm_at "s") (by wtm_at "s") (by wtm_at "s") (by wtm_at "s") (by wtm_at "s") (by wtm_at "s") (by assumption) ?_)
local macro_rules | `(tactic| wtm_at "c") => `(tactic| refine xf_KnowingDoubter_said _ (by wtm_at "s") (by wtm_at "s") (by wtm_at "s") (by wtm_at "s") (by wtm_at "s") (by wtm_at "s") (by wtm_at "s") (by wtm_at "s") (by wtm_at "s") (by wtm_at "s") (by assumption) ?_)
local macro_rules | `(tactic| wtm_at "c") => `(tactic| refine c_KnowingDoubter_said _ (by wtm_at "s") (by wtm_at "s") (by wtm_at "s") (by wtm_at "s") (by wtm_at "s") (by wtm_at "s") (by wtm_at "s") (by wtm_at "s") (by wtm_at "s") (by wtm_at "s") (by assumption) ?_)
end
end MuL

namespace MuL
open PySem PySem.Spec PyProof.Rows L2 He Evl Mu
section
variable {P : Program} {w : World} {K : PySem.W.Frag} {mg : Str → Option Value} {base : Heap}
local macro_rules | `(tactic| wtm_at "s") => `(tactic| first | assumption | omega | exact rfl | decide | wtm_at "s2")
local macro_rules | `(tactic| wtm_at "s2") => `(tactic| (simp only [List.length_map, List.length_range, List.length_cons, List.length_nil, List.length_append]; omega))
local macro_rules | `(tactic| wtm_at "j") => `(tactic| first | exact List.mem_cons_self | (simp; done))
local macro_rules | `(tactic| wtm_at "tr") => `(tactic| (apply t_is; (focus (wtm_at "t")); exact rfl))
local macro_rules | `(tactic| wtm_at "bs") => `(tactic| first | exact rfl | (simp; done) | (simp [*]; done))
local macro_rules | `(tactic| wtm_at "yes") => `(tactic| (apply w_yes; (focus (apply t_is; (focus (wtm_at "t")); first | exact rfl | (simp; done) | (simp [*]; done)))))
local macro_rules | `(tactic| wtm_at "no") => `(tactic| (apply w_no; (focus (apply t_is; (focus (wtm_at "t")); first | exact rfl | (simp; done) | (simp [*]; done)))))
local macro_rules | `(tactic| wtm_at "nn") => `(tactic| first | exact nn_tab | exact nn_L | exact nn_T | exact nn_I)
local macro_rules | `(tactic| wtm_at "sub") => `(tactic| repeat' first | exact Paired.nil | refine Paired.cons (Or.inr rfl) ?_ | refine Paired.cons (Or.inl rfl) ?_)
local macro_rules | `(tactic| wtm_at "o") => `(tactic| first
    | ((with_reducible show OM (rI0 _) _ _ _ _); first | refine om (x_addN (x_v rfl) (x_v rfl)) ?_ | refine om (x_subN (x_v rfl) (x_v rfl) (by wtm_at "s")) ?_ | refine om (x_bandN (x_v rfl) (x_v rfl)) ?_ | refine om (x_borN (x_v rfl) (x_v rfl)) ?_ | refine om (x_ltN (x_v rfl) (x_v rfl)) ?_ | refine om (x_leN (x_v rfl) (x_v rfl)) ?_ | refine om (x_gtN (x_v rfl) (x_v rfl)) ?_ | refine om (x_geN (x_v rfl) (x_v rfl)) ?_ | refine om (x_I0 (x_v rfl) (x_v rfl)) ?_)
    | ((with_reducible show OM (L2.rI _ _) _ _ _ _); first | refine om (x_powN (x_v rfl) (x_v rfl) (by wtm_at "s") (by wtm_at "s")) ?_ | refine om (x_shrN (x_v rfl) (x_v rfl)) ?_ | refine om (x_shlN1 (x_v rfl) (x_v rfl) (by wtm_at "s")) ?_ | refine om (x_I (x_v rfl) (x_v rfl) (by wtm_at "s")) ?_)
    | ((with_reducible show OM rEq _ _ _ _); first | refine om (x_eqN (x_v rfl) (x_v rfl)) ?_ | refine om (x_eqI (x_v rfl) (x_v rfl)) ?_ | refine om (x_eqV (x_v rfl) (x_v rfl) rfl) ?_)
    | ((with_reducible show OM rNe _ _ _ _); first | refine om (x_neN (x_v rfl) (x_v rfl)) ?_ | refine om (x_neI (x_v rfl) (x_v rfl)) ?_ | refine om (x_neV (x_v rfl) (x_v rfl) rfl) ?_)
    | ((with_reducible show OM (rIxT _) _ _ _ _); first | refine om (x_ixTn (x_v rfl) (x_v rfl) (by wtm_at "s")) ?_ | refine om (x_ixT (x_v rfl) (x_v rfl) rfl) ?_ | refine om (x_ixTm default (x_v rfl) (x_v rfl) (by wtm_at "s")) ?_)
    | ((with_reducible show OM (rIxL _) _ _ _ _); first | refine om (x_ixB (x_v rfl) (x_v rfl) (by wtm_at "s")) ?_ | refine om (x_ixLn (x_v rfl) (x_v rfl) (by wtm_at "s")) ?_ | refine om (x_ixLL (x_v rfl) (x_v rfl) (by wtm_at "s")) ?_ | refine om_ixOwn 0 rfl (by wtm_at "s") ?_ | refine om_ixOwn 1 rfl (by wtm_at "s") ?_ | refine om_ixOwn 2 rfl (by wtm_at "s") ?_ | refine om_ixOwn 3 rfl (by wtm_at "s") ?_ | refine om (x_ixL (x_v rfl) (x_v rfl) rfl) ?_ | refine om (x_ixL (x_v rfl) (x_v rfl) (by assumption)) ?_ | refine om (x_ixLm default (x_v rfl) (x_v rfl) (by wtm_at "s")) ?_)
    | ((with_reducible show OM (rIn _ _) _ _ _ _); first | refine om (x_inLn (l := [_, _]) (x_v rfl) (x_v rfl)) ?_ | refine om (x_inLn (l := [_, _, _]) (x_v rfl) (x_v rfl)) ?_ | refine om (x_inLn (x_v rfl) (x_v rfl)) ?_ | refine om (x_niLn (x_v rfl) (x_v rfl)) ?_ | refine om (x_inTi true (x_v rfl) (x_v rfl)) ?_ | refine om (x_inTi false (x_v rfl) (x_v rfl)) ?_ | refine om (x_inLi true (x_v rfl) (x_v rfl)) ?_ | refine om (x_inLi false (x_v rfl) (x_v rfl)) ?_)
    | ((with_reducible show OM (rEqD _) _ _ _ _); first | refine om (x_eqLn0 (x_v rfl) (x_v rfl)) ?_ | refine om (x_eqLn (x_v rfl) (x_v rfl)) ?_ | refine om (x_eqTn (x_v rfl) (x_v rfl)) ?_ | refine om (x_eqLL (x_v rfl) (x_v rfl)) ?_)
    | ((with_reducible show OM (rNeD _) _ _ _ _); first | refine om (x_neLn0 (x_v rfl) (x_v rfl)) ?_ | refine om (x_neLn (x_v rfl) (x_v rfl)) ?_ | refine om (x_neTn (x_v rfl) (x_v rfl)) ?_ | refine om (x_neLL (x_v rfl) (x_v rfl)) ?_ | refine om (x_neP (x_v rfl) (x_v rfl)) ?_)
    | ((with_reducible show OM (rInD _) _ _ _ _); first | refine om (x_inP (x_v rfl) (x_v rfl)) ?_)
    | ((with_reducible show OM (rNotInD _) _ _ _ _); first | refine om (x_niP (x_v rfl) (x_v rfl)) ?_)
    | ((with_reducible show OM (rInTD _) _ _ _ _); first | refine om (x_inTP (x_v rfl) (x_v rfl)) ?_)
    | ((with_reducible show OM rIsB _ _ _ _); first | refine om (x_isB (x_v rfl) (x_v rfl)) ?_)
    | ((with_reducible show OM rNotB _ _ _ _); first | refine om (x_isNB (x_v rfl) (x_v rfl)) ?_)
    | ((with_reducible show OM (fun _ _ _ _ => _ ∧ _) _ _ _ _); first | refine om_isN0 ?_ | refine om_notN0 ?_ | refine om_isN1 (by wtm_at "nn") ?_ | refine om_notN1 (by wtm_at "nn") ?_)
    | ((with_reducible show OM rRep _ _ _ _); first | refine om_rep (by wtm_at "s") (by wtm_at "s") ?_)
    | ((with_reducible show OM rCat _ _ _ _); first | refine om_cat (by wtm_at "s") ?_ | refine om (x_catm (x_v rfl) (x_v rfl) (by wtm_at "s")) ?_))
local macro_rules | `(tactic| wtm_at "a") => `(tactic| first
    | ((with_reducible show AM (rLenS _) _ _ _); first | refine am1 (x_lenLn (x_v rfl)) ?_ | refine am1 (x_lenTn (x_v rfl)) ?_ | refine am1 (x_lenB (x_v rfl)) ?_ | refine am1 (x_lenLL (x_v rfl)) ?_ | refine am1 (x_lenLm (x_v rfl)) ?_ | refine am1 (x_lenTm (x_v rfl)) ?_ | refine am_own 0 rfl (x_lenLm (x_v rfl)) ?_ | refine am_own 1 rfl (x_lenLm (x_v rfl)) ?_ | refine am_own 2 rfl (x_lenLm (x_v rfl)) ?_ | refine am_own 3 rfl (x_lenLm (x_v rfl)) ?_ | refine am_own 1 rfl (x_lenLm' (x_v rfl)) ?_ | refine am_own 2 rfl (x_lenLm' (x_v rfl)) ?_ | refine am1 (x_lenL (x_v rfl)) ?_ | refine am1 (x_lenT (x_v rfl)) ?_)
    | ((with_reducible show AM (rTupO _) _ _ _); first | refine am1 (x_tupL (x_v rfl)) ?_)
    | ((with_reducible show AM (rListS _) _ _ _); first | refine am_listL ?_ | refine am_listT ?_ | refine am_listOwn 0 rfl ?_ | refine am_listOwn 1 rfl ?_ | refine am_listOwn 2 rfl ?_)
    | ((with_reducible show AM (rIsi _) _ _ _); first | refine am2c (x_isInt (x_v rfl)) ?_ | refine am2c (x_isList (x_v rfl)) ?_ | refine am2c (x_isTup (x_v rfl)) ?_ | refine am2c (x_isTab (Tx.ic_Table (by assumption)) (x_v rfl)) ?_ | refine am2c (x_isIns (by assumption) (by assumption) (x_v rfl)) ?_)
    | ((with_reducible show AM _ _ _ _); first | refine am1 (x_int (x_v rfl)) ?_ | refine mk_tab (by assumption) (by wtm_at "s") (by wtm_at "s") ?_))
local macro_rules | `(tactic| wtm_at "c") => `(tactic| fail)
local macro_rules | `(tactic| wtm_at "c") => `(tactic| refine c_bits (by assumption) (by wtm_at "s") ?_)
local macro_rules | `(tactic| wtm_at "c") => `(tactic| refine c_all_words _  ?_)
local macro_rules | `(tactic| wtm_at "c") => `(tactic| refine xe_check_person _ (by wtm_at "s") (by wtm_at "s") (by assumption) ?_)
local macro_rules | `(tactic| wtm_at "c") => `(tactic| refine xq_check_person _ (by wtm_at "s") (by wtm_at "s") (by assumption) ?_)
local macro_rules | `(tactic| wtm_at "c") => `(tactic| refine c_check_person _ (by wtm_at "s") (by wtm_at "s") (by assumption) ?_)
local macro_rules | `(tactic| wtm_at "c") => `(tactic| refine me_Person__init _ (by assumption) (by wtm_at "s") (by wtm_at "s") (by wtm_at "s") (by assumption) ?_)
local macro_rules | `(tactic| wtm_at "c") => `(tactic| refine mk_Person__init _ (by assumption) (by wtm_at "s") (by wtm_at "s") (by wtm_at "s") (by assumption) ?_)
local macro_rules | `(tactic| wtm_at "c") => `(tactic| refine me_Knower__init _ (by assumption) (by wtm_at "s") (by wtm_at "s") (by wtm_at "s") (by wtm_at "s") (by assumption) ?_)
local macro_rules | `(tactic| wtm_at "c") => `(tactic| refine mk_Knower__init _ (by assumption) (by wtm_at "s") (by wtm_at "s") (by wtm_at "s") (by wtm_at "s") (by assumption) ?_)
local macro_rules | `(tactic| wtm_at "c") => `(tactic| refine xe_check_word _  (by assumption) ?_)
local macro_rules | `(tactic| wtm_at "c") => `(tactic| refine xq_check_word _  (by assumption) ?_)
local macro_rules | `(tactic| wtm_at "c") => `(tactic| refine c_check_word _  (by assumption) ?_)
local macro_rules | `(tactic| wtm_at "c") => `(tactic| refine xe_Person_heard _ (by wtm_at "s") (by assumption) ?_)
local macro_rules | `(tactic| wtm_at "c") => `(tactic| refine xq_Person_heard _ (by wtm_at "s") (by assumption) ?_)
local macro_rules | `(tactic| wtm_at "c") => `(tactic| refine c_Person_heard _ (by wtm_at "s") (by assumption) ?_)
local macro_rules | `(tactic| wtm_at "c") => `(tactic| refine xe_Person_said _ (by wtm_at "s") (by wtm_at "s") (by wtm_at "s") (by wtm_at "s") (by wtm_at "s") (by assumption) ?_)
local macro_rules | `(tactic| wtm_at "c") => `(tactic| refine xf_Person_said _ (by wtm_at "s") (by wtm_at "s") (by wtm_at "s") (by wtm_at "s") (by wtm_at "s") (by assumption) ?_)
local macro_rules | `(tactic| wtm_at "c") => `(tactic| refine c_Person_said _ (by wtm_at "s") (by wtm_at "s") (by wtm_at "s") (by wtm_at "s") (by wtm_at "s") (by assumption) ?_)
local macro_rules | `(tactic| wtm_at "c") => `(tactic| refine xe_Doubter_said _ (by wtm_at "s") (by wtm_at "s") (by wtm_at "s") (by wtm_at "s") (by wtm_at "s") (by wtm_at "s") (by wtm_at "s") (by wtm_at "s") (by assumption) ?_)
local macro_rules | `(tactic| wtm_at "c") => `(tactic| refine xf_Doubter_said _ (by wtm_at "s") (by wtm_at "s") (by wtm_at "s") (by wtm_at "s") (by wtm_at "s") (by wtm_at "s") (by wtm_at "s") (by wtm_at "s") (by assumption) ?_)
local macro_rules | `(tactic| wtm_at "c") => `(tactic| refine c_Doubter_said _ (by wtm_at "s") (by wtm_at "s") (by wtm_at "s") (by wtm_at "s") (by wtm_at "s") (by wtm_at "s") (by wtm_at "s") (by wtm_at "s") (by assumption) ?_)
local macro_rules | `(tactic| wtm_at "c") => `(tactic| refine xe_Knower_said _ (by wtm_at "s") (by wtm_at "s") (by wtm_at "s") (by wtm_at "s") (by wtm_at "s") (by wtm_at "s") (by wtm_at "s") (by wtm_at "s") (by wtm_at "s") (by assumption) ?_)
local macro_rules | `(tactic| wtm_at "c") => `(tactic| refine xf_Knower_said _ (by wtm_at "s") (by wtm_at "s") (by wtm_at "s") (by wtm_at "s") (by wtm_at "s") (by wtm_at "s") (by wtm_at "s") (by wtm_at "s") (by wtm_at "s") (by assumption) ?_)
local macro_rules | `(tactic| wtm_at "c") => `(tactic| refine c_Knower_said _ (by wtm_at "s") (by wtm_at "s") (by wtm_at "s") (by wtm_at "s") (by wtm_at "s") (by wtm_at "s") (by wtm_at "s") (by wtm_at "s") (by wtm_at "s") (by assumption) ?_)
local macro_rules | `(tactic| wtm_at "c") => `(tactic| refine xe_KnowingDoubter_said _ (by wtm_at "s") (by wtm_at "s") (by wtm_at "s") (by wtm_at "s") (by wtm_at "s") (by wtm_at "s") (by wtm_at "s") (by wtm_at "s") (by wtm_at "s") (by wtm_at "s") (by assumption) ?_)
local macro_rules | `(tactic| wtm_at "c") => `(tactic| refine xf_KnowingDoubter_said _ (by wtm_at "s") (by wtm_at "s") (by wtm_at "s") (by wtm_at "s") (by wtm_at "s") (by wtm_at "s") (by wtm_at "s") (by wtm_at "s") (by wtm_at "s") (by wtm_at "s") (by assumption) ?_)
local macro_rules | `(tactic| wtm_at "c") => `(tactic| refine c_KnowingDoubter_said _ (by wtm_at "s") (by wtm_at "s") (by wtm_at "s") (by wtm_at "s") (by wtm_at "s") (by wtm_at "s") (by wtm_at "s") (by wtm_at "s") (by wtm_at "s") (by wtm_at "s") (by assumption) ?_)
local macro_rules | `(tactic| wtm_at "f") => `(tactic| first
    | refine f_own 0 rfl (by wtm_at "s") (by wtm_at "s") rfl ?_
    | refine f_ins (by wtm_at "s") (by wtm_at "s") rfl ?_
    | refine f_tab (x_size (x_v rfl) (Tx.c_Table (by assumption)) (Tx.na_Table_size (by assumption))) ?_
    | refine f_tab (x_masks (x_v rfl) (Tx.c_Table (by assumption)) (Tx.na_Table_masks (by assumption))) ?_
    | refine f_tab (x_cells (x_v rfl) (Tx.c_Table (by assumption)) (Tx.na_Table_cells (by assumption))) ?_)
local macro_rules | `(tactic| wtm_at "v") => `(tactic| first
    | ((with_reducible show EW _ _ _ (tVar _) _ _); refine e_v rfl ?_)
    | ((with_reducible show EW _ _ _ (tC (V.int _)) _ _); refine e_cn ?_)
    | ((with_reducible show EW _ _ _ (tC _) _ _); refine e_c ?_)
    | ((with_reducible show EW _ _ _ (tOp _ _ _) _ _); refine e_op ?_)
    | ((with_reducible show EW _ _ _ (tCB _ _) _ _); refine e_cb ?_)
    | ((with_reducible show EW _ _ _ (tCall _ _ _ _) _ _); refine e_call ?_)
    | ((with_reducible show EW _ _ _ (tCallS _ _ _) _ _); refine e_callS ?_)
    | ((with_reducible show EW _ _ _ (tFld _ _ _) _ _); refine e_fld _ ?_)
    | ((with_reducible show EW _ _ _ (tTup _) _ _); refine e_tup (by assumption) ?_)
    | ((with_reducible show EW _ _ _ (tLst _) _ _); refine e_lst (by assumption) ?_)
    | ((with_reducible show EW _ _ _ (tUn _ _) _ _); refine e_un ?_)
    | ((with_reducible show EW _ _ _ (tMake _ (spTab _ _) _ _ _) _ _); refine e_make ?_)
    | ((with_reducible show EW _ _ _ (tMakeS _ _ _ _) _ _); refine e_makeS ?_)
    | ((with_reducible show EW _ _ _ (tMeth _ _ _ _ _ _ _) _ _); refine e_meth ?_)
    | ((with_reducible show EW _ _ _ (tMethS _ _ _ _ _ _) _ _); refine e_methS ?_)
    | ((with_reducible show EW _ _ _ (tProp _ _ _ _ _) _ _); refine e_prop ?_)
    | ((with_reducible show EW _ _ _ (tLc (iList _ _) _ tYes _ _) _ _); apply e_lcL0; (focus (wtm_at "x")); (focus (wtm_at "s")); (focus (intro a ha; wtm_at "x")); (focus (wtm_at "j")))
    | ((with_reducible show EW _ _ _ (tLc (iTup _ _) _ tYes _ _) _ _); apply e_lcT0; (focus (wtm_at "x")); (focus (wtm_at "s")); (focus (intro a ha; wtm_at "x")); (focus (wtm_at "j")))
    | ((with_reducible show EW _ _ _ (tLc (iRng1 _) _ tYes _ _) _ _); apply e_lcR0 (by assumption); (focus (wtm_at "x")); (focus (wtm_at "s")); (focus (intro a ha; wtm_at "x")); (focus (wtm_at "j")))
    | ((with_reducible show EW _ _ _ (tLc (iList _ _) _ _ _ _) _ _); apply e_lcL; (focus (wtm_at "x")); (focus (wtm_at "s")); (focus (intro a ha; wtm_at "tr")); (focus (intro a ha hf; wtm_at "x")); (focus (wtm_at "j")))
    | ((with_reducible show EW _ _ _ (tLc (iTup _ _) _ _ _ _) _ _); apply e_lcT; (focus (wtm_at "x")); (focus (wtm_at "s")); (focus (intro a ha; wtm_at "tr")); (focus (intro a ha hf; wtm_at "x")); (focus (wtm_at "j")))
    | ((with_reducible show EW _ _ _ (tLc (iRng1 _) _ _ _ _) _ _); apply e_lcR (by assumption); (focus (wtm_at "x")); (focus (wtm_at "s")); (focus (intro a ha; wtm_at "tr")); (focus (intro a ha hf; wtm_at "x")); (focus (wtm_at "j")))
    | ((with_reducible show EW _ _ _ (tSl (rSlL _) _ tNoPart (tPart _)) _ _); apply e_slTo; (focus (wtm_at "x")))
    | ((with_reducible show EW _ _ _ (tSl (rSlL _) _ (tPart _) tNoPart) _ _); apply e_slFrom; (focus (wtm_at "x")))
    | ((with_reducible show EW _ _ _ (tAndV _ _) _ _); first | (apply e_and; (focus (wtm_at "x")); (focus (intro hq; wtm_at "x"))) | (apply e_x; (focus (apply x_and0; (focus (wtm_at "x")); wtm_at "bs"))))
    | ((with_reducible show EW _ _ _ (tOrV _ _) _ _); first | (apply e_or; (focus (wtm_at "x")); (focus (intro hq; wtm_at "x"))) | (apply e_x; (focus (apply x_or1; (focus (wtm_at "x")); wtm_at "bs"))))
    | ((with_reducible show EW _ _ _ (tMake _ (spIni _ _) _ _ _) _ _); refine e_makeI ?_ spIni_E)
    | ((with_reducible show EW _ _ _ (tSup _ _ _ _ _ _ _) _ _); refine e_sup rfl (by assumption) ?_)
    | ((with_reducible show EW _ _ _ (tNotV _) _ _); apply e_not; (focus (wtm_at "x")))
    | ((with_reducible show EW _ _ _ (tBM _ _ _ _ _) _ _); first | refine e_app 0 rfl ?_ rfl | refine e_app 1 rfl ?_ rfl | refine e_app 2 rfl ?_ rfl | refine e_app 3 rfl ?_ rfl))
local macro_rules | `(tactic| wtm_at "e1") => `(tactic| first
    | ((with_reducible show EW _ _ _ _ _ _); wtm_at "v")
    | ((with_reducible show EA _ _ _ _ _ _); first | refine a_cons ?_ | refine a_nil ?_)
    | ((with_reducible show OM _ _ _ _ _); first | wtm_at "o" | wtm_at "c")
    | ((with_reducible show AM _ _ _ _); wtm_at "a")
    | ((with_reducible show CM _ _ _ _); wtm_at "c")
    | ((with_reducible show XM _ _ _ _ _); wtm_at "c")
    | ((with_reducible show MkM _ _ _ _ _ _); wtm_at "c")
    | ((with_reducible show UM _ _ _ _); first | wtm_at "f" | refine um (x_neg (x_v rfl)) ?_ | wtm_at "c")
    | ((with_reducible show InsR _ _ _ ∧ _); first | refine ⟨ins_tab rfl, ?_⟩ | refine ⟨ins_ins rfl, ?_⟩ | refine ⟨ins_ins (by assumption), ?_⟩)
    | ((with_reducible show (∀ (v : V) (G : Hp), _ → ∃ a dx fs, _) ∧ _); refine ⟨ins_is, ?_⟩)
    | ((with_reducible show And (@LE.le Nat _ _ _) _); refine ⟨Nat.le_of_ble_eq_true rfl, ?_⟩)
    | ((with_reducible show ∃ rs : List Rp, _ ∧ _ ∧ _); refine ⟨_, rfl, by wtm_at "s", ?_⟩)
    | ((with_reducible show ∃ rs : List Rp, _ = rL _ rs ∧ _); refine ⟨_, rfl, ?_⟩)
    | ((with_reducible show ∃ fs : FL, _ ∧ _ ∧ _ ∧ _); refine ⟨_, rfl, rfl, Nat.le_of_ble_eq_true rfl, ?_⟩)
    | ((with_reducible show _ = _ ∧ _ = ([] : List Re)); first | exact ⟨rfl, rfl⟩ | exact ⟨by wtm_at "q", rfl⟩))
local macro_rules | `(tactic| wtm_at "q") => `(tactic| first | rfl | exact congrArg nI (by omega) | exact congrArg Mu.rI (by omega) | exact congrArg rB (by wtm_at "b"))
local macro_rules | `(tactic| wtm_at "b") => `(tactic| first | rfl | (rw [Bool.eq_iff_iff]; simp; omega))
local macro_rules | `(tactic| wtm_at "e") => `(tactic| repeat wtm_at "e1")
local macro_rules | `(tactic| wtm_at "co") => `(tactic| fail)
local macro_rules | `(tactic| wtm_at "co") => `(tactic| refine xo_Person_said _ (by wtm_at "s") (by wtm_at "s") (by wtm_at "s") (by wtm_at "s") (by wtm_at "s") (by assumption) ?_)
local macro_rules | `(tactic| wtm_at "co") => `(tactic| refine o_Person_said _ (by wtm_at "s") (by wtm_at "s") (by wtm_at "s") (by wtm_at "s") (by wtm_at "s") (by assumption) ?_)
local macro_rules | `(tactic| wtm_at "co") => `(tactic| refine xo_Doubter_said _ (by wtm_at "s") (by wtm_at "s") (by wtm_at "s") (by wtm_at "s") (by wtm_at "s") (by wtm_at "s") (by wtm_at "s") (by wtm_at "s") (by assumption) ?_)
local macro_rules | `(tactic| wtm_at "co") => `(tactic| refine o_Doubter_said _ (by wtm_at "s") (by wtm_at "s") (by wtm_at "s") (by wtm_at "s") (by wtm_at "s") (by wtm_at "s") (by wtm_at "s") (by wtm_at "s") (by assumption) ?_)
local macro_rules | `(tactic| wtm_at "co") => `(tactic| refine xo_Knower_said _ (by wtm_at "s") (by wtm_at "s") (by wtm_at "s") (by wtm_at "s") (by wtm_at "s") (by wtm_at "s") (by wtm_at "s") (by wtm_at "s") (by wtm_at "s") (by assumption) ?_)
local macro_rules | `(tactic| wtm_at "co") => `(tactic| refine o_Knower_said _ (by wtm_at "s") (by wtm_at "s") (by wtm_at "s") (by wtm_at "s") (by wtm_at "s") (by wtm_at "s") (by wtm_at "s") (by wtm_at "s") (by wtm_at "s") (by assumption) ?_)
local macro_rules | `(tactic| wtm_at "co") => `(tactic| refine xo_KnowingDoubter_said _ (by wtm_at "s") (by wtm_at "s") (by wtm_at "s") (by wtm_at "s") (by wtm_at "s") (by wtm_at "s") (by wtm_at "s") (by wtm_at "s") (by wtm_at "s") (by wtm_at "s") (by assumption) ?_)
local macro_rules | `(tactic| wtm_at "co") => `(tactic| refine o_KnowingDoubter_said _ (by wtm_at "s") (by wtm_at "s") (by wtm_at "s") (by wtm_at "s") (by wtm_at "s") (by wtm_at "s") (by wtm_at "s") (by wtm_at "s") (by wtm_at "s") (by wtm_at "s") (by assumption) ?_)
local macro_rules | `(tactic| wtm_at "eo") => `(tactic| repeat first | ((with_reducible show CM _ _ _ _); wtm_at "co") | ((with_reducible show XM _ _ _ _ _); wtm_at "co") | wtm_at "e1")
local macro_rules | `(tactic| wtm_at "x") => `(tactic| first | exact x_v rfl | exact x_c | (apply EvX.by; intro W ε; (wtm_at "e"); done))
local macro_rules | `(tactic| wtm_at "t") => `(tactic| first
    | ((with_reducible show EvTX _ tYes _); exact t_yes)
    | ((with_reducible show EvTX _ (tAnd _ _) _); first | (apply t_and; (focus (wtm_at "t")); (focus (intro hq; wtm_at "t"))) | (apply t_and0; (focus (wtm_at "t")); wtm_at "bs"))
    | ((with_reducible show EvTX _ (tOr _ _) _); first | (apply t_or; (focus (wtm_at "t")); (focus (intro hq; wtm_at "t"))) | (apply t_or1; (focus (wtm_at "t")); wtm_at "bs"))
    | ((with_reducible show EvTX _ (tNot _) _); apply t_not; wtm_at "t")
    | ((with_reducible show EvTX _ (tTest (tChain _ _ _ _ _)) _); apply t_chain; (focus (wtm_at "x")); (focus (wtm_at "x")); (focus (wtm_at "x")))
    | ((with_reducible show EvTX _ (tTest _) _); apply t_T; wtm_at "x")
    | ((with_reducible show EvTX _ (tB _) _); apply t_B; wtm_at "x"))
local macro_rules | `(tactic| wtm_at "tq") => `(tactic| (apply t_is; (focus (wtm_at "t")); try wtm_at "b"))
local macro_rules | `(tactic| wtm_at "if") => `(tactic| (apply w_if; (focus (wtm_at "t"))))
local macro_rules | `(tactic| wtm_at "ifc") => `(tactic| (refine ws_if ?_; (repeat first | refine w_tNot ?_ | refine w_tB ?_ | refine w_t ?_ | wtm_at "e1" | ((with_reducible show ∃ c : Bool, _ = rB c ∧ _); refine ⟨_, rfl, ?_⟩)); refine ⟨?_, ?_⟩))
local macro_rules | `(tactic| wtm_at "w1") => `(tactic| first
    | ((with_reducible show WP _ _ _ (tSeq _ _) _); refine w_seq ?_)
    | ((with_reducible show WP _ _ _ (tAsg _ (gName _)) _); refine ws_set ?_; (wtm_at "e"); dsimp only [List.set])
    | ((with_reducible show WP _ _ _ (tRet _) _); refine ws_ret ?_; (wtm_at "e"))
    | ((with_reducible show WP _ _ _ (sFld _ (tVar _) _ _) _); refine ws_fld 0 rfl rfl (by wtm_at "s") (by wtm_at "s") ?_; (wtm_at "e"); dsimp only [List.set])
    | ((with_reducible show WP _ _ _ (tDrop _) _); refine ws_do ?_; (wtm_at "e"))
    | ((with_reducible show WP _ _ _ tNext _); (refine w_nx ?_))
    | ((with_reducible show WP _ _ _ tRetN _); refine w_ret0 ?_))
local macro_rules | `(tactic| wtm_at "w") => `(tactic| repeat ((try dsimp only); wtm_at "w1"))
theorem sc_Person_table : FnScope ["self", "word"] ["self"] (defScope s_Person_table) := ⟨rfl, rfl, rfl, by decide +kernel, rfl, by decide +kernel, by decide +kernel⟩
theorem b_Person_table (T : Tx P K mg) : Binds K T.fd_Person_table ["self"] [] := T.F_Person_table.bindsN fun _ _ _ _ _ _ us hl => match us, hl with | [_], _ => rfl
/-- a person's data: the kind (0 Person, 1 Knower, 2 Doubter, 3 KnowingDoubter) and the lists -/
structure PD where
  kd : Nat
  h : List Int
  s : List (List Int)
  kn : List Int
def saidP (pd : PD) (w : Nat) : List Nat := match pd.kd with
  | 0 => saidL pd.h pd.s w
  | 1 => knowL pd.kn (saidL pd.h pd.s w) w
  | 2 => doubtL pd.h pd.s w
  | _ => knowL pd.kn (doubtL pd.h pd.s w) w
structure PDok (pd : PD) : Prop where
  kk : pd.kd < 4
  lo : 1 ≤ pd.h.length
  hi : pd.h.length ≤ 6
  sl : pd.s.length = pd.h.length
  hw : ∀ x ∈ pd.h, badW pd.h.length x = false
def rPer (K : PySem.W.Frag) (c0 c1 c2 c3 : Addr) (pd : PD) : Rp := match pd.kd with
  | 0 => rIns c0 (perF K pd.h pd.s ++ ([] : FL))
  | 1 => rIns c1 (perF K pd.h pd.s ++ ([("sure_words", rT K (pd.kn.map Mu.rI))] : FL))
  | 2 => rIns c2 (perF K pd.h pd.s ++ ([] : FL))
  | _ => rIns c3 (perF K pd.h pd.s ++ ([("sure_words", rT K (pd.kn.map Mu.rI))] : FL))
section
variable {K : PySem.W.Frag} {c0 c1 c2 c3 : Addr} {pd : PD} {w : Nat}
theorem rPer0 (h : pd.kd = 0) : rPer K c0 c1 c2 c3 pd = rIns c0 (perF K pd.h pd.s ++ ([] : FL)) := by unfold rPer; rw [h]; rfl
theorem rPer1 (h : pd.kd = 1) : rPer K c0 c1 c2 c3 pd = rIns c1 (perF K pd.h pd.s ++ ([("sure_words", rT K (pd.kn.map Mu.rI))] : FL)) := by unfold rPer; rw [h]; rfl
theorem rPer2 (h : pd.kd = 2) : rPer K c0 c1 c2 c3 pd = rIns c2 (perF K pd.h pd.s ++ ([] : FL)) := by unfold rPer; rw [h]; rfl
theorem rPer3 (h : pd.kd = 3) : rPer K c0 c1 c2 c3 pd = rIns c3 (perF K pd.h pd.s ++ ([("sure_words", rT K (pd.kn.map Mu.rI))] : FL)) := by unfold rPer; rw [h]; rfl
theorem saidP0 (h : pd.kd = 0) : saidP pd w = saidL pd.h pd.s w := by unfold saidP; rw [h]; rfl
theorem saidP1 (h : pd.kd = 1) : saidP pd w = knowL pd.kn (saidL pd.h pd.s w) w := by unfold saidP; rw [h]; rfl
theorem saidP2 (h : pd.kd = 2) : saidP pd w = doubtL pd.h pd.s w := by unfold saidP; rw [h]; rfl
theorem saidP3 (h : pd.kd = 3) : saidP pd w = knowL pd.kn (doubtL pd.h pd.s w) w := by unfold saidP; rw [h]; rfl
end
theorem bad_nat {n w : Nat} (h : w < n) : badW n (w : Int) = false := by
  unfold badW
  simp
  omega
theorem bits_filter (n : Nat) (f : Nat → Bool) : bitsN (maskN ((List.range n).filter f)) = (List.range n).filter f := by
  have lt : maskN ((List.range n).filter f) < 2 ^ n := maskN_lt fun o ho => List.mem_range.mp (List.mem_filter.mp ho).1
  rw [← bits_eq lt]
  refine List.filter_congr fun o ho => ?_
  rw [maskN_bit, Bool.eq_iff_iff, decide_eq_true_iff, List.mem_filter]
  exact ⟨fun z => z.2, fun z => ⟨ho, z⟩⟩
/-- what is said is a part of range(n) -/
theorem saidP_filter (pd : PD) {w : Nat} (hw : w < pd.h.length) : ∃ f : Nat → Bool, saidP pd w = (List.range pd.h.length).filter f := by
  have one : [w] = (List.range pd.h.length).filter fun o => decide (o = w) := by
    refine (List.Perm.eq_of_pairwise (le := fun a b : Nat => a < b) (fun a b _ _ h1 h2 => absurd h1 (by omega)) (by simp) (List.Pairwise.filter _ List.pairwise_lt_range) ?_)
    refine (List.perm_ext_iff_of_nodup (by simp) ((List.nodup_range).filter _)).mpr fun a => ?_
    rw [List.mem_filter, List.mem_range, decide_eq_true_iff, List.mem_singleton]
    exact ⟨fun e => ⟨by rw [e]; exact hw, e⟩, fun e => e.2⟩
  have kn : ∀ (b : List Nat), (∃ f, b = (List.range pd.h.length).filter f) → ∃ f : Nat → Bool, knowL pd.kn b w = (List.range pd.h.length).filter f := fun b hb => by
    unfold knowL
    split
    · exact ⟨_, one⟩
    · exact hb
  unfold saidP
  split
  · exact ⟨_, rfl⟩
  · exact kn _ ⟨_, rfl⟩
  · exact ⟨_, rfl⟩
  · exact kn _ ⟨_, rfl⟩
def saidPM (pd : PD) : List Nat := (List.range pd.h.length).map fun w => maskN (saidP pd w)
theorem saidPM_wf (pd : PD) (ok : PDok pd) : Wf pd.h.length (saidPM pd) := ⟨by unfold saidPM; rw [List.length_map, List.length_range], fun x hx => by
  obtain ⟨w, hw, rfl⟩ := List.mem_map.mp hx
  obtain ⟨f, e⟩ := saidP_filter pd (List.mem_range.mp hw)
  rw [e]
  exact maskN_lt fun o ho => List.mem_range.mp (List.mem_filter.mp ho).1⟩
theorem saidP_map (pd : PD) : (saidPM pd).map bitsN = (List.range pd.h.length).map (saidP pd) := by
  unfold saidPM
  rw [List.map_map]
  refine List.map_congr_left fun w hw => ?_
  obtain ⟨f, e⟩ := saidP_filter pd (List.mem_range.mp hw)
  show bitsN (maskN (saidP pd w)) = _
  rw [e]
  exact bits_filter _ _
theorem saidP_rows {K : PySem.W.Frag} (pd : PD) (ok : PDok pd) : rL K ((List.range pd.h.length).map fun w => rLn K (saidP pd w)) = rLL K ((saidPM pd).map bitsN) := by
  rw [saidP_map]
  unfold rLL
  rw [List.map_map]
  rfl

def R_Person_table (T : Tx P K mg) : List V → Hp → Rp → Prop := fun vs G r => ∃ (pd : PD), RA G vs [rPer K T.C_Person T.C_Knower T.C_Doubter T.C_KnowingDoubter pd] ∧ (PDok pd) ∧ r = rTab K T.C_Table (saidPM pd)
theorem ok_Person_table (T : Tx P K mg) : FnOk P w K mg base CX0 9 T.f_Person_table T.fd_Person_table ["self"] (spD (R_Person_table T)) := by
  refine T.F_Person_table.ok sc_Person_table (fun vs H Q E h => ?_) (fun cdv A outer s H vs Q E hr h => ?_)
  · obtain ⟨G, r, _, ⟨pd, ra, _⟩, _⟩ := h
    exact ra.len
  · obtain ⟨G, r, e, ⟨pd, ra, q0, rfl⟩, k⟩ := h
    have hh : ∀ C, Cls K C → NoAttr K C "size" → NoAttr K C "ears" → NoAttr K C "mouths" → Meth K C "heard" T.f_Person_heard → PerC K T.f_Person_heard C := fun C a b c d e => ⟨a, b, c, d, e⟩
    have ok1 := q0.lo
    have ok2 := q0.hi
    have ok3 := q0.sl
    have ok4 := q0.hw
    have ok5 := q0.kk
    rcases (by omega : pd.kd = 0 ∨ pd.kd = 1 ∨ pd.kd = 2 ∨ pd.kd = 3) with hk | hk | hk | hk
    · have cc := (hh T.C_Person T.c_Person T.na_Person_size T.na_Person_ears T.na_Person_mouths T.M_Person_heard)
      have c0 := cc.cls
      have c1 := cc.size
      refine ⟨_, PSs.nox (pss_one (ps_ret (pe_make T.mk_Table (ok_Table___init__ T) (hr.mono (by decide)) (by rfl) T.g_Table (b_Table___init__ T) .nil pass0 (pa_cons (pe_lc (own := [("word", 1)]) (by rfl) sc_Person_table.nd (pi_range1 (by rfl) T.m_range (pa_cons (pe_fldK K (pv 0)) pa_nil)) (blkOk_by (N := ["self", "word"]) (sc := defScope s_Person_table) (by decide +kernel)) (fun _ _ _ _ _ => (pg_name (i := 1) sc_Person_table.nd rfl (Or.inl rfl))) (fun _ _ _ _ _ => pts_nil) (fun _ _ _ _ _ => (pe_meth (pv 0) T.c_Person T.M_Person_said (ok_Person_said T) (hr.mono (by decide)) (b_Person_said T) .nil passF (pa_cons (pv 1) pa_nil)))) pa_nil)))), ?_⟩
      refine run_D (W := fun _ _ _ _ => False) (Γ := [some (rPer K T.C_Person T.C_Knower T.C_Doubter T.C_KnowingDoubter pd), none]) ?_ e (En.start (k := 1) _ (rs := [rPer K T.C_Person T.C_Knower T.C_Doubter T.C_KnowingDoubter pd]) ra (by rw [ra.len]; rfl)) k
      clear ra e k
      rw [rPer0 hk]
      refine ws_ret (e_make (a_cons ?_))
      refine e_lcR0 K (rr := fun w => rLn K (saidP pd w)) (by wtm_at "x") (by omega) (fun w hw => ?_) (by wtm_at "j") ?_
      · apply EvX.by
        intro W ε
        have e1 : wordO T.C_UnknownWord pd.h.length ((w : Nat) : Int) (.inl ((saidL pd.h pd.s ((w : Nat) : Int).toNat).map nI)) = .inl ((saidP pd w).map nI) := by
          rw [word_good (by rw [bad_nat hw]; decide), Int.toNat_natCast, saidP0 hk]
          first | done | rfl
        wtm_at "e"
      refine a_nil ?_
      rw [saidP_rows pd q0]
      exact mk_tab (saidPM_wf pd q0) ok1 ok2 rfl
    · have cc := (hh T.C_Knower T.c_Knower T.na_Knower_size T.na_Knower_ears T.na_Knower_mouths T.M_Knower_heard)
      have c0 := cc.cls
      have c1 := cc.size
      have n1 := T.na_Knower_sure_words
      have n2 : false = false → SupF K T.C_Knower T.C_Knower "said" T.f_Person_said := fun _ => T.sup_Knower_Knower_said
      have n3 : false = true → SupF K T.C_Knower T.C_Knower "said" T.f_Doubter_said ∧ SupF K T.C_Knower T.C_Doubter "said" T.f_Person_said := fun z => nomatch z
      refine ⟨_, PSs.nox (pss_one (ps_ret (pe_make T.mk_Table (ok_Table___init__ T) (hr.mono (by decide)) (by rfl) T.g_Table (b_Table___init__ T) .nil pass0 (pa_cons (pe_lc (own := [("word", 1)]) (by rfl) sc_Person_table.nd (pi_range1 (by rfl) T.m_range (pa_cons (pe_fldK K (pv 0)) pa_nil)) (blkOk_by (N := ["self", "word"]) (sc := defScope s_Person_table) (by decide +kernel)) (fun _ _ _ _ _ => (pg_name (i := 1) sc_Person_table.nd rfl (Or.inl rfl))) (fun _ _ _ _ _ => pts_nil) (fun _ _ _ _ _ => (pe_meth (pv 0) T.c_Knower T.M_Knower_said (ok_Knower_said T) (hr.mono (by decide)) (b_Knower_said T) .nil passF (pa_cons (pv 1) pa_nil)))) pa_nil)))), ?_⟩
      refine run_D (W := fun _ _ _ _ => False) (Γ := [some (rPer K T.C_Person T.C_Knower T.C_Doubter T.C_KnowingDoubter pd), none]) ?_ e (En.start (k := 1) _ (rs := [rPer K T.C_Person T.C_Knower T.C_Doubter T.C_KnowingDoubter pd]) ra (by rw [ra.len]; rfl)) k
      clear ra e k
      rw [rPer1 hk]
      refine ws_ret (e_make (a_cons ?_))
      refine e_lcR0 K (rr := fun w => rLn K (saidP pd w)) (by wtm_at "x") (by omega) (fun w hw => ?_) (by wtm_at "j") ?_
      · apply EvX.by
        intro W ε
        have e1 : wordO T.C_UnknownWord pd.h.length ((w : Nat) : Int) (.inl ((knowL pd.kn (baseL false pd.h pd.s ((w : Nat) : Int).toNat) ((w : Nat) : Int).toNat).map nI)) = .inl ((saidP pd w).map nI) := by
          rw [word_good (by rw [bad_nat hw]; decide), Int.toNat_natCast, saidP1 hk]
          first | done | rfl
        wtm_at "e"
      refine a_nil ?_
      rw [saidP_rows pd q0]
      exact mk_tab (saidPM_wf pd q0) ok1 ok2 rfl
    · have cc := (hh T.C_Doubter T.c_Doubter T.na_Doubter_size T.na_Doubter_ears T.na_Doubter_mouths T.M_Doubter_heard)
      have c0 := cc.cls
      have c1 := cc.size
      have n1 := T.sup_Doubter_Doubter_said
      refine ⟨_, PSs.nox (pss_one (ps_ret (pe_make T.mk_Table (ok_Table___init__ T) (hr.mono (by decide)) (by rfl) T.g_Table (b_Table___init__ T) .nil pass0 (pa_cons (pe_lc (own := [("word", 1)]) (by rfl) sc_Person_table.nd (pi_range1 (by rfl) T.m_range (pa_cons (pe_fldK K (pv 0)) pa_nil)) (blkOk_by (N := ["self", "word"]) (sc := defScope s_Person_table) (by decide +kernel)) (fun _ _ _ _ _ => (pg_name (i := 1) sc_Person_table.nd rfl (Or.inl rfl))) (fun _ _ _ _ _ => pts_nil) (fun _ _ _ _ _ => (pe_meth (pv 0) T.c_Doubter T.M_Doubter_said (ok_Doubter_said T) (hr.mono (by decide)) (b_Doubter_said T) .nil passF (pa_cons (pv 1) pa_nil)))) pa_nil)))), ?_⟩
      refine run_D (W := fun _ _ _ _ => False) (Γ := [some (rPer K T.C_Person T.C_Knower T.C_Doubter T.C_KnowingDoubter pd), none]) ?_ e (En.start (k := 1) _ (rs := [rPer K T.C_Person T.C_Knower T.C_Doubter T.C_KnowingDoubter pd]) ra (by rw [ra.len]; rfl)) k
      clear ra e k
      rw [rPer2 hk]
      refine ws_ret (e_make (a_cons ?_))
      refine e_lcR0 K (rr := fun w => rLn K (saidP pd w)) (by wtm_at "x") (by omega) (fun w hw => ?_) (by wtm_at "j") ?_
      · apply EvX.by
        intro W ε
        have e1 : wordO T.C_UnknownWord pd.h.length ((w : Nat) : Int) (.inl ((doubtL pd.h pd.s ((w : Nat) : Int).toNat).map nI)) = .inl ((saidP pd w).map nI) := by
          rw [word_good (by rw [bad_nat hw]; decide), Int.toNat_natCast, saidP2 hk]
          first | done | rfl
        wtm_at "e"
      refine a_nil ?_
      rw [saidP_rows pd q0]
      exact mk_tab (saidPM_wf pd q0) ok1 ok2 rfl
    · have cc := (hh T.C_KnowingDoubter T.c_KnowingDoubter T.na_KnowingDoubter_size T.na_KnowingDoubter_ears T.na_KnowingDoubter_mouths T.M_KnowingDoubter_heard)
      have c0 := cc.cls
      have c1 := cc.size
      have n1 := T.na_KnowingDoubter_sure_words
      have n2 : true = false → SupF K T.C_KnowingDoubter T.C_Knower "said" T.f_Person_said := fun z => nomatch z
      have n3 : true = true → SupF K T.C_KnowingDoubter T.C_Knower "said" T.f_Doubter_said ∧ SupF K T.C_KnowingDoubter T.C_Doubter "said" T.f_Person_said := fun _ => ⟨T.sup_KnowingDoubter_Knower_said, T.sup_KnowingDoubter_Doubter_said⟩
      have n4 := T.sup_KnowingDoubter_KnowingDoubter_said
      refine ⟨_, PSs.nox (pss_one (ps_ret (pe_make T.mk_Table (ok_Table___init__ T) (hr.mono (by decide)) (by rfl) T.g_Table (b_Table___init__ T) .nil pass0 (pa_cons (pe_lc (own := [("word", 1)]) (by rfl) sc_Person_table.nd (pi_range1 (by rfl) T.m_range (pa_cons (pe_fldK K (pv 0)) pa_nil)) (blkOk_by (N := ["self", "word"]) (sc := defScope s_Person_table) (by decide +kernel)) (fun _ _ _ _ _ => (pg_name (i := 1) sc_Person_table.nd rfl (Or.inl rfl))) (fun _ _ _ _ _ => pts_nil) (fun _ _ _ _ _ => (pe_meth (pv 0) T.c_KnowingDoubter T.M_KnowingDoubter_said (ok_KnowingDoubter_said T) (hr.mono (by decide)) (b_KnowingDoubter_said T) .nil passF (pa_cons (pv 1) pa_nil)))) pa_nil)))), ?_⟩
      refine run_D (W := fun _ _ _ _ => False) (Γ := [some (rPer K T.C_Person T.C_Knower T.C_Doubter T.C_KnowingDoubter pd), none]) ?_ e (En.start (k := 1) _ (rs := [rPer K T.C_Person T.C_Knower T.C_Doubter T.C_KnowingDoubter pd]) ra (by rw [ra.len]; rfl)) k
      clear ra e k
      rw [rPer3 hk]
      refine ws_ret (e_make (a_cons ?_))
      refine e_lcR0 K (rr := fun w => rLn K (saidP pd w)) (by wtm_at "x") (by omega) (fun w hw => ?_) (by wtm_at "j") ?_
      · apply EvX.by
        intro W ε
        have e1 : wordO T.C_UnknownWord pd.h.length ((w : Nat) : Int) (.inl ((knowL pd.kn (baseL true pd.h pd.s ((w : Nat) : Int).toNat) ((w : Nat) : Int).toNat).map nI)) = .inl ((saidP pd w).map nI) := by
          rw [word_good (by rw [bad_nat hw]; decide), Int.toNat_natCast, saidP3 hk]
          first | done | rfl
        wtm_at "e"
      refine a_nil ?_
      rw [saidP_rows pd q0]
      exact mk_tab (saidPM_wf pd q0) ok1 ok2 rfl
theorem c_Person_table (T : Tx P K mg) {M : List Re} {κ : KV} {pd : PD} (q0 : PDok pd) (k : κ (rTab K T.C_Table (saidPM pd)) M) : CM (spD (R_Person_table T)) [rPer K T.C_Person T.C_Knower T.C_Doubter T.C_KnowingDoubter pd] M κ := cm (fun vs G ra => SpD.of ⟨pd, ra, q0, rfl⟩) k

theorem cq_Person_table (T : Tx P K mg) {M : List Re} {κ : KV} {pd : PD} {r : Rp} (er : r = rPer K T.C_Person T.C_Knower T.C_Doubter T.C_KnowingDoubter pd) (ok : PDok pd) (k : κ (rTab K T.C_Table (saidPM pd)) M) : CM (spD (R_Person_table T)) [r] M κ := by
  subst er
  exact c_Person_table T ok k
local macro_rules | `(tactic| wtm_at "c") => `(tactic| refine c_Person_table _ (by wtm_at "s") ?_)
local macro_rules | `(tactic| wtm_at "c") => `(tactic| refine cq_Person_table _ (by assumption) (by assumption) ?_)
theorem sc_Knower_known : FnScope ["self", "word"] ["self"] (defScope s_Knower_known) := ⟨rfl, rfl, rfl, by decide +kernel, rfl, by decide +kernel, by decide +kernel⟩
theorem b_Knower_known (T : Tx P K mg) : Binds K T.fd_Knower_known ["self"] [] := T.F_Knower_known.bindsN fun _ _ _ _ _ _ us hl => match us, hl with | [_], _ => rfl
def knownL (h kn : List Int) : List Nat := (List.range h.length).filter fun o => decide ((o : Int) ∈ kn)

def R_Knower_known (T : Tx P K mg) : List V → Hp → List Rp → Prop := fun vs G r => ∃ (Cp : Addr) (h : List Int) (s : List (List Int)) (kn : List Int), RA G vs [rIns Cp (perF K h s ++ ([("sure_words", rT K (kn.map Mu.rI))] : FL))] ∧ (Cls K Cp) ∧ (NoAttr K Cp "size") ∧ (NoAttr K Cp "sure_words") ∧ (h.length ≤ 6) ∧ r = (knownL h kn).map nI
theorem ok_Knower_known (T : Tx P K mg) : FnOk P w K mg base CX0 1 T.f_Knower_known T.fd_Knower_known ["self"] (spN (R_Knower_known T)) := by
  refine T.F_Knower_known.ok sc_Knower_known (fun vs H Q E h => ?_) (fun cdv A outer s H vs Q E hr h => ?_)
  · obtain ⟨G, r, _, ⟨Cp, h, s, kn, ra, _⟩, _⟩ := h
    exact ra.len
  · obtain ⟨G, r, e, ⟨Cp, h, s, kn, ra, q0, q1, q2, q3, rfl⟩, k⟩ := h
    refine ⟨_, PSs.nox (pss_one (ps_ret (pe_lc (own := [("word", 1)]) (by rfl) sc_Knower_known.nd (pi_range1 (by rfl) T.m_range (pa_cons (pe_fldK K (pv 0)) pa_nil)) (blkOk_by (N := ["self", "word"]) (sc := defScope s_Knower_known) (by decide +kernel)) (fun _ _ _ _ _ => (pg_name (i := 1) sc_Knower_known.nd rfl (Or.inl rfl))) (fun _ _ _ _ _ => (pts_one (pt_cmpR (op_inK K) (pv 1) (pe_fldK K (pv 0)) rfl))) (fun _ _ _ _ _ => (pv 1))))), ?_⟩
    refine run_N (W := fun _ _ _ _ => False) (Γ := [some (rIns Cp (perF K h s ++ ([("sure_words", rT K (kn.map Mu.rI))] : FL))), none]) ?_ e (En.start (k := 1) _ (rs := [rIns Cp (perF K h s ++ ([("sure_words", rT K (kn.map Mu.rI))] : FL))]) ra (by rw [ra.len]; rfl)) k
    clear ra e k
    refine ws_ret (e_n (xn_lcR h.length (fun o => decide ((o : Int) ∈ kn)) nI (by wtm_at "x") (by omega) (fun o ho => by wtm_at "tq") (fun o ho _ => by wtm_at "x")) fun p => ?_)
    exact ⟨p, rfl, rfl⟩
theorem c_Knower_known (T : Tx P K mg) {M : List Re} {κ : KV} {Cp : Addr} {h : List Int} {s : List (List Int)} {kn : List Int} (q0 : Cls K Cp) (q1 : NoAttr K Cp "size") (q2 : NoAttr K Cp "sure_words") (q3 : h.length ≤ 6) (k : κ (rL K ((knownL h kn).map nI)) M) : CM (spN (R_Knower_known T)) [rIns Cp (perF K h s ++ ([("sure_words", rT K (kn.map Mu.rI))] : FL))] M κ := cmn (fun vs G ra => SpN.of ⟨Cp, h, s, kn, ra, q0, q1, q2, q3, rfl⟩) k
theorem o_Knower_known (T : Tx P K mg) {M : List Re} {κ : KV} {Cp : Addr} {h : List Int} {s : List (List Int)} {kn : List Int} (q0 : Cls K Cp) (q1 : NoAttr K Cp "size") (q2 : NoAttr K Cp "sure_words") (q3 : h.length ≤ 6) (k : ∀ p, κ (rV (.ref p)) (M ++ [lstR p ((knownL h kn).map nI)])) : CM (spN (R_Knower_known T)) [rIns Cp (perF K h s ++ ([("sure_words", rT K (kn.map Mu.rI))] : FL))] M κ := cmo (fun vs G ra => SpN.of ⟨Cp, h, s, kn, ra, q0, q1, q2, q3, rfl⟩) k
local macro_rules | `(tactic| wtm_at "co") => `(tactic| refine o_Knower_known _ (by wtm_at "s") (by wtm_at "s") (by wtm_at "s") (by wtm_at "s") ?_)
local macro_rules | `(tactic| wtm_at "c") => `(tactic| refine c_Knower_known _ (by wtm_at "s") (by wtm_at "s") (by wtm_at "s") (by wtm_at "s") ?_)
end
end MuL

namespace MuL
open PySem PySem.Spec PyProof.Rows L2 He Evl Mu
section
variable {P : Program} {w : World} {K : PySem.W.Frag} {mg : Str → Option Value} {base : Heap}
local macro_rules | `(tactic| wtm_at "s") => `(tactic| first | assumption | omega | exact rfl | decide | wtm_at "s2")
local macro_rules | `(tactic| wtm_at "s2") => `(tactic| (simp only [List.length_map, List.length_range, List.length_cons, List.length_nil, List.length_append]; omega))
local macro_rules | `(tactic| wtm_at "j") => `(tactic| first | exact List.mem_cons_self | (simp; done))
local macro_rules | `(tactic| wtm_at "tr") => `(tactic| (apply t_is; (focus (wtm_at "t")); exact rfl))
local macro_rules | `(tactic| wtm_at "bs") => `(tactic| first | exact rfl | (simp; done) | (simp [*]; done))
local macro_rules | `(tactic| wtm_at "yes") => `(tactic| (apply w_yes; (focus (apply t_is; (focus (wtm_at "t")); first | exact rfl | (simp; done) | (simp [*]; done)))))
local macro_rules | `(tactic| wtm_at "no") => `(tactic| (apply w_no; (focus (apply t_is; (focus (wtm_at "t")); first | exact rfl | (simp; done) | (simp [*]; done)))))
local macro_rules | `(tactic| wtm_at "nn") => `(tactic| first | exact nn_tab | exact nn_L | exact nn_T | exact nn_I)
local macro_rules | `(tactic| wtm_at "sub") => `(tactic| repeat' first | exact Paired.nil | refine Paired.cons (Or.inr rfl) ?_ | refine Paired.cons (Or.inl rfl) ?_)
local macro_rules | `(tactic| wtm_at "o") => `(tactic| first
    | ((with_reducible show OM (rI0 _) _ _ _ _); first | refine om (x_addN (x_v rfl) (x_v rfl)) ?_ | refine om (x_subN (x_v rfl) (x_v rfl) (by wtm_at "s")) ?_ | refine om (x_bandN (x_v rfl) (x_v rfl)) ?_ | refine om (x_borN (x_v rfl) (x_v rfl)) ?_ | refine om (x_ltN (x_v rfl) (x_v rfl)) ?_ | refine om (x_leN (x_v rfl) (x_v rfl)) ?_ | refine om (x_gtN (x_v rfl) (x_v rfl)) ?_ | refine om (x_geN (x_v rfl) (x_v rfl)) ?_ | refine om (x_I0 (x_v rfl) (x_v rfl)) ?_)
    | ((with_reducible show OM (L2.rI _ _) _ _ _ _); first | refine om (x_powN (x_v rfl) (x_v rfl) (by wtm_at "s") (by wtm_at "s")) ?_ | refine om (x_shrN (x_v rfl) (x_v rfl)) ?_ | refine om (x_shlN1 (x_v rfl) (x_v rfl) (by wtm_at "s")) ?_ | refine om (x_I (x_v rfl) (x_v rfl) (by wtm_at "s")) ?_)
    | ((with_reducible show OM rEq _ _ _ _); first | refine om (x_eqN (x_v rfl) (x_v rfl)) ?_ | refine om (x_eqI (x_v rfl) (x_v rfl)) ?_ | refine om (x_eqV (x_v rfl) (x_v rfl) rfl) ?_)
    | ((with_reducible show OM rNe _ _ _ _); first | refine om (x_neN (x_v rfl) (x_v rfl)) ?_ | refine om (x_neI (x_v rfl) (x_v rfl)) ?_ | refine om (x_neV (x_v rfl) (x_v rfl) rfl) ?_)
    | ((with_reducible show OM (rIxT _) _ _ _ _); first | refine om (x_ixTn (x_v rfl) (x_v rfl) (by wtm_at "s")) ?_ | refine om (x_ixT (x_v rfl) (x_v rfl) rfl) ?_ | refine om (x_ixTm default (x_v rfl) (x_v rfl) (by wtm_at "s")) ?_)
    | ((with_reducible show OM (rIxL _) _ _ _ _); first | refine om (x_ixB (x_v rfl) (x_v rfl) (by wtm_at "s")) ?_ | refine om (x_ixLn (x_v rfl) (x_v rfl) (by wtm_at "s")) ?_ | refine om (x_ixLL (x_v rfl) (x_v rfl) (by wtm_at "s")) ?_ | refine om_ixOwn 0 rfl (by wtm_at "s") ?_ | refine om_ixOwn 1 rfl (by wtm_at "s") ?_ | refine om_ixOwn 2 rfl (by wtm_at "s") ?_ | refine om_ixOwn 3 rfl (by wtm_at "s") ?_ | refine om (x_ixL (x_v rfl) (x_v rfl) rfl) ?_ | refine om (x_ixL (x_v rfl) (x_v rfl) (by assumption)) ?_ | refine om (x_ixLm default (x_v rfl) (x_v rfl) (by wtm_at "s")) ?_)
    | ((with_reducible show OM (rIn _ _) _ _ _ _); first | refine om (x_inLn (l := [_, _]) (x_v rfl) (x_v rfl)) ?_ | refine om (x_inLn (l := [_, _, _]) (x_v rfl) (x_v rfl)) ?_ | refine om (x_inLn (x_v rfl) (x_v rfl)) ?_ | refine om (x_niLn (x_v rfl) (x_v rfl)) ?_ | refine om (x_inTi true (x_v rfl) (x_v rfl)) ?_ | refine om (x_inTi false (x_v rfl) (x_v rfl)) ?_ | refine om (x_inLi true (x_v rfl) (x_v rfl)) ?_ | refine om (x_inLi false (x_v rfl) (x_v rfl)) ?_)
    | ((with_reducible show OM (rEqD _) _ _ _ _); first | refine om (x_eqLn0 (x_v rfl) (x_v rfl)) ?_ | refine om (x_eqLn (x_v rfl) (x_v rfl)) ?_ | refine om (x_eqTn (x_v rfl) (x_v rfl)) ?_ | refine om (x_eqLL (x_v rfl) (x_v rfl)) ?_)
    | ((with_reducible show OM (rNeD _) _ _ _ _); first | refine om (x_neLn0 (x_v rfl) (x_v rfl)) ?_ | refine om (x_neLn (x_v rfl) (x_v rfl)) ?_ | refine om (x_neTn (x_v rfl) (x_v rfl)) ?_ | refine om (x_neLL (x_v rfl) (x_v rfl)) ?_ | refine om (x_neP (x_v rfl) (x_v rfl)) ?_)
    | ((with_reducible show OM (rInD _) _ _ _ _); first | refine om (x_inP (x_v rfl) (x_v rfl)) ?_)
    | ((with_reducible show OM (rNotInD _) _ _ _ _); first | refine om (x_niP (x_v rfl) (x_v rfl)) ?_)
    | ((with_reducible show OM (rInTD _) _ _ _ _); first | refine om (x_inTP (x_v rfl) (x_v rfl)) ?_)
    | ((with_reducible show OM rIsB _ _ _ _); first | refine om (x_isB (x_v rfl) (x_v rfl)) ?_)
    | ((with_reducible show OM rNotB _ _ _ _); first | refine om (x_isNB (x_v rfl) (x_v rfl)) ?_)
    | ((with_reducible show OM (fun _ _ _ _ => _ ∧ _) _ _ _ _); first | refine om_isN0 ?_ | refine om_notN0 ?_ | refine om_isN1 (by wtm_at "nn") ?_ | refine om_notN1 (by wtm_at "nn") ?_)
    | ((with_reducible show OM rRep _ _ _ _); first | refine om_rep (by wtm_at "s") (by wtm_at "s") ?_)
    | ((with_reducible show OM rCat _ _ _ _); first | refine om_cat (by wtm_at "s") ?_ | refine om (x_catm (x_v rfl) (x_v rfl) (by wtm_at "s")) ?_))
local macro_rules | `(tactic| wtm_at "a") => `(tactic| first
    | ((with_reducible show AM (rLenS _) _ _ _); first | refine am1 (x_lenLn (x_v rfl)) ?_ | refine am1 (x_lenTn (x_v rfl)) ?_ | refine am1 (x_lenB (x_v rfl)) ?_ | refine am1 (x_lenLL (x_v rfl)) ?_ | refine am1 (x_lenLm (x_v rfl)) ?_ | refine am1 (x_lenTm (x_v rfl)) ?_ | refine am_own 0 rfl (x_lenLm (x_v rfl)) ?_ | refine am_own 1 rfl (x_lenLm (x_v rfl)) ?_ | refine am_own 2 rfl (x_lenLm (x_v rfl)) ?_ | refine am_own 3 rfl (x_lenLm (x_v rfl)) ?_ | refine am_own 1 rfl (x_lenLm' (x_v rfl)) ?_ | refine am_own 2 rfl (x_lenLm' (x_v rfl)) ?_ | refine am1 (x_lenL (x_v rfl)) ?_ | refine am1 (x_lenT (x_v rfl)) ?_)
    | ((with_reducible show AM (rTupO _) _ _ _); first | refine am1 (x_tupL (x_v rfl)) ?_)
    | ((with_reducible show AM (rListS _) _ _ _); first | refine am_listL ?_ | refine am_listT ?_ | refine am_listOwn 0 rfl ?_ | refine am_listOwn 1 rfl ?_ | refine am_listOwn 2 rfl ?_)
    | ((with_reducible show AM (rIsi _) _ _ _); first | refine am2c (x_isInt (x_v rfl)) ?_ | refine am2c (x_isList (x_v rfl)) ?_ | refine am2c (x_isTup (x_v rfl)) ?_ | refine am2c (x_isTab (Tx.ic_Table (by assumption)) (x_v rfl)) ?_ | refine am2c (x_isIns (by assumption) (by assumption) (x_v rfl)) ?_)
    | ((with_reducible show AM _ _ _ _); first | refine am1 (x_int (x_v rfl)) ?_ | refine mk_tab (by assumption) (by wtm_at "s") (by wtm_at "s") ?_))
local macro_rules | `(tactic| wtm_at "c") => `(tactic| fail)
local macro_rules | `(tactic| wtm_at "c") => `(tactic| refine c_bits (by assumption) (by wtm_at "s") ?_)
local macro_rules | `(tactic| wtm_at "c") => `(tactic| refine c_all_words _  ?_)
local macro_rules | `(tactic| wtm_at "c") => `(tactic| refine xe_check_person _ (by wtm_at "s") (by wtm_at "s") (by assumption) ?_)
local macro_rules | `(tactic| wtm_at "c") => `(tactic| refine xq_check_person _ (by wtm_at "s") (by wtm_at "s") (by assumption) ?_)
local macro_rules | `(tactic| wtm_at "c") => `(tactic| refine c_check_person _ (by wtm_at "s") (by wtm_at "s") (by assumption) ?_)
local macro_rules | `(tactic| wtm_at "c") => `(tactic| refine me_Person__init _ (by assumption) (by wtm_at "s") (by wtm_at "s") (by wtm_at "s") (by assumption) ?_)
local macro_rules | `(tactic| wtm_at "c") => `(tactic| refine mk_Person__init _ (by assumption) (by wtm_at "s") (by wtm_at "s") (by wtm_at "s") (by assumption) ?_)
local macro_rules | `(tactic| wtm_at "c") => `(tactic| refine me_Knower__init _ (by assumption) (by wtm_at "s") (by wtm_at "s") (by wtm_at "s") (by wtm_at "s") (by assumption) ?_)
local macro_rules | `(tactic| wtm_at "c") => `(tactic| refine mk_Knower__init _ (by assumption) (by wtm_at "s") (by wtm_at "s") (by wtm_at "s") (by wtm_at "s") (by assumption) ?_)
local macro_rules | `(tactic| wtm_at "c") => `(tactic| refine xe_check_word _  (by assumption) ?_)
local macro_rules | `(tactic| wtm_at "c") => `(tactic| refine xq_check_word _  (by assumption) ?_)
local macro_rules | `(tactic| wtm_at "c") => `(tactic| refine c_check_word _  (by assumption) ?_)
local macro_rules | `(tactic| wtm_at "c") => `(tactic| refine xe_Person_heard _ (by wtm_at "s") (by assumption) ?_)
local macro_rules | `(tactic| wtm_at "c") => `(tactic| refine xq_Person_heard _ (by wtm_at "s") (by assumption) ?_)
local macro_rules | `(tactic| wtm_at "c") => `(tactic| refine c_Person_heard _ (by wtm_at "s") (by assumption) ?_)
local macro_rules | `(tactic| wtm_at "c") => `(tactic| refine xe_Person_said _ (by wtm_at "s") (by wtm_at "s") (by wtm_at "s") (by wtm_at "s") (by wtm_at "s") (by assumption) ?_)
local macro_rules | `(tactic| wtm_at "c") => `(tactic| refine xf_Person_said _ (by wtm_at "s") (by wtm_at "s") (by wtm_at "s") (by wtm_at "s") (by wtm_at "s") (by assumption) ?_)
local macro_rules | `(tactic| wtm_at "c") => `(tactic| refine c_Person_said _ (by wtm_at "s") (by wtm_at "s") (by wtm_at "s") (by wtm_at "s") (by wtm_at "s") (by assumption) ?_)
local macro_rules | `(tactic| wtm_at "c") => `(tactic| refine xe_Doubter_said _ (by wtm_at "s") (by wtm_at "s") (by wtm_at "s") (by wtm_at "s") (by wtm_at "s") (by wtm_at "s") (by wtm_at "s") (by wtm_at "s") (by assumption) ?_)
local macro_rules | `(tactic| wtm_at "c") => `(tactic| refine xf_Doubter_said _ (by wtm_at "s") (by wtm_at "s") (by wtm_at "s") (by wtm_at "s") (by wtm_at "s") (by wtm_at "s") (by wtm_at "s") (by wtm_at "s") (by assumption) ?_)
local macro_rules | `(tactic| wtm_at "c") => `(tactic| refine c_Doubter_said _ (by wtm_at "s") (by wtm_at "s") (by wtm_at "s") (by wtm_at "s") (by wtm_at "s") (by wtm_at "s") (by wtm_at "s") (by wtm_at "s") (by assumption) ?_)
local macro_rules | `(tactic| wtm_at "c") => `(tactic| refine xe_Knower_said _ (by wtm_at "s") (by wtm_at "s") (by wtm_at "s") (by wtm_at "s") (by wtm_at "s") (by wtm_at "s") (by wtm_at "s") (by wtm_at "s") (by wtm_at "s") (by assumption) ?_)
local macro_rules | `(tactic| wtm_at "c") => `(tactic| refine xf_Knower_said _ (by wtm_at "s") (by wtm_at "s") (by wtm_at "s") (by wtm_at "s") (by wtm_at "s") (by wtm_at "s") (by wtm_at "s") (by wtm_at "s") (by wtm_at "s") (by assumption) ?_)
local macro_rules | `(tactic| wtm_at "c") => `(tactic| refine c_Knower_said _ (by wtm_at "s") (by wtm_at "s") (by wtm_at "s") (by wtm_at "s") (by wtm_at "s") (by wtm_at "s") (by wtm_at "s") (by wtm_at "s") (by wtm_at "s") (by assumption) ?_)
local macro_rules | `(tactic| wtm_at "c") => `(tactic| refine xe_KnowingDoubter_said _ (by wtm_at "s") (by wtm_at "s") (by wtm_at "s") (by wtm_at "s") (by wtm_at "s") (by wtm_at "s") (by wtm_at "s") (by wtm_at "s") (by wtm_at "s") (by wtm_at "s") (by assumption) ?_)
local macro_rules | `(tactic| wtm_at "c") => `(tactic| refine xf_KnowingDoubter_said _ (by wtm_at "s") (by wtm_at "s") (by wtm_at "s") (by wtm_at "s") (by wtm_at "s") (by wtm_at "s") (by wtm_at "s") (by wtm_at "s") (by wtm_at "s") (by wtm_at "s") (by assumption) ?_)
local macro_rules | `(tactic| wtm_at "c") => `(tactic| refine c_KnowingDoubter_said _ (by wtm_at "s") (by wtm_at "s") (by wtm_at "s") (by wtm_at "s") (by wtm_at "s") (by wtm_at "s") (by wtm_at "s") (by wtm_at "s") (by wtm_at "s") (by wtm_at "s") (by assumption) ?_)
local macro_rules | `(tactic| wtm_at "c") => `(tactic| refine c_Person_table _ (by wtm_at "s") ?_)
local macro_rules | `(tactic| wtm_at "c") => `(tactic| refine cq_Person_table _ (by assumption) (by assumption) ?_)
local macro_rules | `(tactic| wtm_at "c") => `(tactic| refine c_Knower_known _ (by wtm_at "s") (by wtm_at "s") (by wtm_at "s") (by wtm_at "s") ?_)
local macro_rules | `(tactic| wtm_at "f") => `(tactic| first
    | refine f_own 0 rfl (by wtm_at "s") (by wtm_at "s") rfl ?_
    | refine f_ins (by wtm_at "s") (by wtm_at "s") rfl ?_
    | refine f_tab (x_size (x_v rfl) (Tx.c_Table (by assumption)) (Tx.na_Table_size (by assumption))) ?_
    | refine f_tab (x_masks (x_v rfl) (Tx.c_Table (by assumption)) (Tx.na_Table_masks (by assumption))) ?_
    | refine f_tab (x_cells (x_v rfl) (Tx.c_Table (by assumption)) (Tx.na_Table_cells (by assumption))) ?_)
local macro_rules | `(tactic| wtm_at "v") => `(tactic| first
    | ((with_reducible show EW _ _ _ (tVar _) _ _); refine e_v rfl ?_)
    | ((with_reducible show EW _ _ _ (tC (V.int _)) _ _); refine e_cn ?_)
    | ((with_reducible show EW _ _ _ (tC _) _ _); refine e_c ?_)
    | ((with_reducible show EW _ _ _ (tOp _ _ _) _ _); refine e_op ?_)
    | ((with_reducible show EW _ _ _ (tCB _ _) _ _); refine e_cb ?_)
    | ((with_reducible show EW _ _ _ (tCall _ _ _ _) _ _); refine e_call ?_)
    | ((with_reducible show EW _ _ _ (tCallS _ _ _) _ _); refine e_callS ?_)
    | ((with_reducible show EW _ _ _ (tFld _ _ _) _ _); refine e_fld _ ?_)
    | ((with_reducible show EW _ _ _ (tTup _) _ _); refine e_tup (by assumption) ?_)
    | ((with_reducible show EW _ _ _ (tLst _) _ _); refine e_lst (by assumption) ?_)
    | ((with_reducible show EW _ _ _ (tUn _ _) _ _); refine e_un ?_)
    | ((with_reducible show EW _ _ _ (tMake _ (spTab _ _) _ _ _) _ _); refine e_make ?_)
    | ((with_reducible show EW _ _ _ (tMakeS _ _ _ _) _ _); refine e_makeS ?_)
    | ((with_reducible show EW _ _ _ (tMeth _ _ _ _ _ _ _) _ _); refine e_meth ?_)
    | ((with_reducible show EW _ _ _ (tMethS _ _ _ _ _ _) _ _); refine e_methS ?_)
    | ((with_reducible show EW _ _ _ (tProp _ _ _ _ _) _ _); refine e_prop ?_)
    | ((with_reducible show EW _ _ _ (tLc (iList _ _) _ tYes _ _) _ _); apply e_lcL0; (focus (wtm_at "x")); (focus (wtm_at "s")); (focus (intro a ha; wtm_at "x")); (focus (wtm_at "j")))
    | ((with_reducible show EW _ _ _ (tLc (iTup _ _) _ tYes _ _) _ _); apply e_lcT0; (focus (wtm_at "x")); (focus (wtm_at "s")); (focus (intro a ha; wtm_at "x")); (focus (wtm_at "j")))
    | ((with_reducible show EW _ _ _ (tLc (iRng1 _) _ tYes _ _) _ _); apply e_lcR0 (by assumption); (focus (wtm_at "x")); (focus (wtm_at "s")); (focus (intro a ha; wtm_at "x")); (focus (wtm_at "j")))
    | ((with_reducible show EW _ _ _ (tLc (iList _ _) _ _ _ _) _ _); apply e_lcL; (focus (wtm_at "x")); (focus (wtm_at "s")); (focus (intro a ha; wtm_at "tr")); (focus (intro a ha hf; wtm_at "x")); (focus (wtm_at "j")))
    | ((with_reducible show EW _ _ _ (tLc (iTup _ _) _ _ _ _) _ _); apply e_lcT; (focus (wtm_at "x")); (focus (wtm_at "s")); (focus (intro a ha; wtm_at "tr")); (focus (intro a ha hf; wtm_at "x")); (focus (wtm_at "j")))
    | ((with_reducible show EW _ _ _ (tLc (iRng1 _) _ _ _ _) _ _); apply e_lcR (by assumption); (focus (wtm_at "x")); (focus (wtm_at "s")); (focus (intro a ha; wtm_at "tr")); (focus (intro a ha hf; wtm_at "x")); (focus (wtm_at "j")))
    | ((with_reducible show EW _ _ _ (tSl (rSlL _) _ tNoPart (tPart _)) _ _); apply e_slTo; (focus (wtm_at "x")))
    | ((with_reducible show EW _ _ _ (tSl (rSlL _) _ (tPart _) tNoPart) _ _); apply e_slFrom; (focus (wtm_at "x")))
    | ((with_reducible show EW _ _ _ (tAndV _ _) _ _); first | (apply e_and; (focus (wtm_at "x")); (focus (intro hq; wtm_at "x"))) | (apply e_x; (focus (apply x_and0; (focus (wtm_at "x")); wtm_at "bs"))))
    | ((with_reducible show EW _ _ _ (tOrV _ _) _ _); first | (apply e_or; (focus (wtm_at "x")); (focus (intro hq; wtm_at "x"))) | (apply e_x; (focus (apply x_or1; (focus (wtm_at "x")); wtm_at "bs"))))
    | ((with_reducible show EW _ _ _ (tMake _ (spIni _ _) _ _ _) _ _); refine e_makeI ?_ spIni_E)
    | ((with_reducible show EW _ _ _ (tSup _ _ _ _ _ _ _) _ _); refine e_sup rfl (by assumption) ?_)
    | ((with_reducible show EW _ _ _ (tNotV _) _ _); apply e_not; (focus (wtm_at "x")))
    | ((with_reducible show EW _ _ _ (tBM _ _ _ _ _) _ _); first | refine e_app 0 rfl ?_ rfl | refine e_app 1 rfl ?_ rfl | refine e_app 2 rfl ?_ rfl | refine e_app 3 rfl ?_ rfl))
local macro_rules | `(tactic| wtm_at "e1") => `(tactic| first
    | ((with_reducible show EW _ _ _ _ _ _); wtm_at "v")
    | ((with_reducible show EA _ _ _ _ _ _); first | refine a_cons ?_ | refine a_nil ?_)
    | ((with_reducible show OM _ _ _ _ _); first | wtm_at "o" | wtm_at "c")
    | ((with_reducible show AM _ _ _ _); wtm_at "a")
    | ((with_reducible show CM _ _ _ _); wtm_at "c")
    | ((with_reducible show XM _ _ _ _ _); wtm_at "c")
    | ((with_reducible show MkM _ _ _ _ _ _); wtm_at "c")
    | ((with_reducible show UM _ _ _ _); first | wtm_at "f" | refine um (x_neg (x_v rfl)) ?_ | wtm_at "c")
    | ((with_reducible show InsR _ _ _ ∧ _); first | refine ⟨ins_tab rfl, ?_⟩ | refine ⟨ins_ins rfl, ?_⟩ | refine ⟨ins_ins (by assumption), ?_⟩)
    | ((with_reducible show (∀ (v : V) (G : Hp), _ → ∃ a dx fs, _) ∧ _); refine ⟨ins_is, ?_⟩)
    | ((with_reducible show And (@LE.le Nat _ _ _) _); refine ⟨Nat.le_of_ble_eq_true rfl, ?_⟩)
    | ((with_reducible show ∃ rs : List Rp, _ ∧ _ ∧ _); refine ⟨_, rfl, by wtm_at "s", ?_⟩)
    | ((with_reducible show ∃ rs : List Rp, _ = rL _ rs ∧ _); refine ⟨_, rfl, ?_⟩)
    | ((with_reducible show ∃ fs : FL, _ ∧ _ ∧ _ ∧ _); refine ⟨_, rfl, rfl, Nat.le_of_ble_eq_true rfl, ?_⟩)
    | ((with_reducible show _ = _ ∧ _ = ([] : List Re)); first | exact ⟨rfl, rfl⟩ | exact ⟨by wtm_at "q", rfl⟩))
local macro_rules | `(tactic| wtm_at "q") => `(tactic| first | rfl | exact congrArg nI (by omega) | exact congrArg Mu.rI (by omega) | exact congrArg rB (by wtm_at "b"))
local macro_rules | `(tactic| wtm_at "b") => `(tactic| first | rfl | (rw [Bool.eq_iff_iff]; simp; omega))
local macro_rules | `(tactic| wtm_at "e") => `(tactic| repeat wtm_at "e1")
local macro_rules | `(tactic| wtm_at "co") => `(tactic| fail)
local macro_rules | `(tactic| wtm_at "co") => `(tactic| refine xo_Person_said _ (by wtm_at "s") (by wtm_at "s") (by wtm_at "s") (by wtm_at "s") (by wtm_at "s") (by assumption) ?_)
local macro_rules | `(tactic| wtm_at "co") => `(tactic| refine o_Person_said _ (by wtm_at "s") (by wtm_at "s") (by wtm_at "s") (by wtm_at "s") (by wtm_at "s") (by assumption) ?_)
local macro_rules | `(tactic| wtm_at "co") => `(tactic| refine xo_Doubter_said _ (by wtm_at "s") (by wtm_at "s") (by wtm_at "s") (by wtm_at "s") (by wtm_at "s") (by wtm_at "s") (by wtm_at "s") (by wtm_at "s") (by assumption) ?_)
local macro_rules | `(tactic| wtm_at "co") => `(tactic| refine o_Doubter_said _ (by wtm_at "s") (by wtm_at "s") (by wtm_at "s") (by wtm_at "s") (by wtm_at "s") (by wtm_at "s") (by wtm_at "s") (by wtm_at "s") (by assumption) ?_)
local macro_rules | `(tactic| wtm_at "co") => `(tactic| refine xo_Knower_said _ (by wtm_at "s") (by wtm_at "s") (by wtm_at "s") (by wtm_at "s") (by wtm_at "s") (by wtm_at "s") (by wtm_at "s") (by wtm_at "s") (by wtm_at "s") (by assumption) ?_)
local macro_rules | `(tactic| wtm_at "co") => `(tactic| refine o_Knower_said _ (by wtm_at "s") (by wtm_at "s") (by wtm_at "s") (by wtm_at "s") (by wtm_at "s") (by wtm_at "s") (by wtm_at "s") (by wtm_at "s") (by wtm_at "s") (by assumption) ?_)
local macro_rules | `(tactic| wtm_at "co") => `(tactic| refine xo_KnowingDoubter_said _ (by wtm_at "s") (by wtm_at "s") (by wtm_at "s") (by wtm_at "s") (by wtm_at "s") (by wtm_at "s") (by wtm_at "s") (by wtm_at "s") (by wtm_at "s") (by wtm_at "s") (by assumption) ?_)
local macro_rules | `(tactic| wtm_at "co") => `(tactic| refine o_KnowingDoubter_said _ (by wtm_at "s") (by wtm_at "s") (by wtm_at "s") (by wtm_at "s") (by wtm_at "s") (by wtm_at "s") (by wtm_at "s") (by wtm_at "s") (by wtm_at "s") (by wtm_at "s") (by assumption) ?_)
local macro_rules | `(tactic| wtm_at "co") => `(tactic| refine o_Knower_known _ (by wtm_at "s") (by wtm_at "s") (by wtm_at "s") (by wtm_at "s") ?_)
local macro_rules | `(tactic| wtm_at "eo") => `(tactic| repeat first | ((with_reducible show CM _ _ _ _); wtm_at "co") | ((with_reducible show XM _ _ _ _ _); wtm_at "co") | wtm_at "e1")
local macro_rules | `(tactic| wtm_at "x") => `(tactic| first | exact x_v rfl | exact x_c | (apply EvX.by; intro W ε; (wtm_at "e"); done))
local macro_rules | `(tactic| wtm_at "t") => `(tactic| first
    | ((with_reducible show EvTX _ tYes _); exact t_yes)
    | ((with_reducible show EvTX _ (tAnd _ _) _); first | (apply t_and; (focus (wtm_at "t")); (focus (intro hq; wtm_at "t"))) | (apply t_and0; (focus (wtm_at "t")); wtm_at "bs"))
    | ((with_reducible show EvTX _ (tOr _ _) _); first | (apply t_or; (focus (wtm_at "t")); (focus (intro hq; wtm_at "t"))) | (apply t_or1; (focus (wtm_at "t")); wtm_at "bs"))
    | ((with_reducible show EvTX _ (tNot _) _); apply t_not; wtm_at "t")
    | ((with_reducible show EvTX _ (tTest (tChain _ _ _ _ _)) _); apply t_chain; (focus (wtm_at "x")); (focus (wtm_at "x")); (focus (wtm_at "x")))
    | ((with_reducible show EvTX _ (tTest _) _); apply t_T; wtm_at "x")
    | ((with_reducible show EvTX _ (tB _) _); apply t_B; wtm_at "x"))
local macro_rules | `(tactic| wtm_at "tq") => `(tactic| (apply t_is; (focus (wtm_at "t")); try wtm_at "b"))
local macro_rules | `(tactic| wtm_at "if") => `(tactic| (apply w_if; (focus (wtm_at "t"))))
local macro_rules | `(tactic| wtm_at "ifc") => `(tactic| (refine ws_if ?_; (repeat first | refine w_tNot ?_ | refine w_tB ?_ | refine w_t ?_ | wtm_at "e1" | ((with_reducible show ∃ c : Bool, _ = rB c ∧ _); refine ⟨_, rfl, ?_⟩)); refine ⟨?_, ?_⟩))
local macro_rules | `(tactic| wtm_at "w1") => `(tactic| first
    | ((with_reducible show WP _ _ _ (tSeq _ _) _); refine w_seq ?_)
    | ((with_reducible show WP _ _ _ (tAsg _ (gName _)) _); refine ws_set ?_; (wtm_at "e"); dsimp only [List.set])
    | ((with_reducible show WP _ _ _ (tRet _) _); refine ws_ret ?_; (wtm_at "e"))
    | ((with_reducible show WP _ _ _ (sFld _ (tVar _) _ _) _); refine ws_fld 0 rfl rfl (by wtm_at "s") (by wtm_at "s") ?_; (wtm_at "e"); dsimp only [List.set])
    | ((with_reducible show WP _ _ _ (tDrop _) _); refine ws_do ?_; (wtm_at "e"))
    | ((with_reducible show WP _ _ _ tNext _); (refine w_nx ?_))
    | ((with_reducible show WP _ _ _ tRetN _); refine w_ret0 ?_))
local macro_rules | `(tactic| wtm_at "w") => `(tactic| repeat ((try dsimp only); wtm_at "w1"))
theorem sc__law_is_int : FnScope ["_law_value"] ["_law_value"] (defScope s__law_is_int) := ⟨rfl, rfl, rfl, by decide +kernel, rfl, by decide +kernel, by decide +kernel⟩
theorem b__law_is_int (T : Tx P K mg) : Binds K T.fd__law_is_int ["_law_value"] [] := T.F__law_is_int.bindsN fun _ _ _ _ _ _ us hl => match us, hl with | [_], _ => rfl
def R_is_int : List V → Hp → Rp → Prop := fun vs _ r => ∃ i : Int, vs = [.int i] ∧ r = rB true
theorem ok__law_is_int (T : Tx P K mg) : FnOk P w K mg base CX0 1 T.f__law_is_int T.fd__law_is_int ["_law_value"] (spD R_is_int) := by
  refine T.F__law_is_int.ok sc__law_is_int (fun vs H Q E h => ?_) (fun cdv A outer s H vs Q E hr h => ?_)
  · obtain ⟨G, r, _, ⟨i, rfl, _⟩, _⟩ := h
    rfl
  · obtain ⟨G, r, e, ⟨i, rfl, rfl⟩, k⟩ := h
    refine ⟨_, PSs.nox (pss_one (ps_ret (pe_and (pe_callB (call_isiK K) (by rfl) T.m_isinstance (by decide +kernel) (pa_cons (pv 0) (pa_cons (pe_bltn (v := .ty "int") (by rfl) T.m_int (by decide +kernel) rfl) pa_nil))) (pe_one (pe_not (pe_callB (call_isiK K) (by rfl) T.m_isinstance (by decide +kernel) (pa_cons (pv 0) (pa_cons (pe_bltn (v := .ty "bool") (by rfl) T.m_bool (by decide +kernel) rfl) pa_nil)))))))), ?_⟩
    refine s_retE e (ev_andV (is_int (ev_var rfl)) fun _ => ev_notV (is_bool_int (ev_var rfl))) fun H1 e1 => k _ G H1 ((Gr.refl e).more e1) rfl

theorem c_is_int (T : Tx P K mg) {M : List Re} {κ : KV} {a : Int} (k : κ (rB true) M) : CM (spD R_is_int) [Mu.rI a] M κ := cm (fun vs G ra => by
  obtain ⟨x, rfl, hx⟩ := ra1 ra
  obtain rfl : x = V.int a := hx
  exact SpD.of ⟨a, rfl, rfl⟩) k
local macro_rules | `(tactic| wtm_at "c") => `(tactic| refine c_is_int (by assumption) ?_)
theorem sc__law_is_words : FnScope ["_law_value", "_law_one"] ["_law_value"] (defScope s__law_is_words) := ⟨rfl, rfl, rfl, by decide +kernel, rfl, by decide +kernel, by decide +kernel⟩
theorem b__law_is_words (T : Tx P K mg) : Binds K T.fd__law_is_words ["_law_value"] [] := T.F__law_is_words.bindsN fun _ _ _ _ _ _ us hl => match us, hl with | [_], _ => rfl
def R_is_words (K : PySem.W.Frag) : List V → Hp → Rp → Prop := fun vs G r => ∃ (x : V) (l : List Nat), vs = [x] ∧ (rLn K l).p x G ∧ r = rB true
theorem ok__law_is_words (T : Tx P K mg) : FnOk P w K mg base CX0 2 T.f__law_is_words T.fd__law_is_words ["_law_value"] (spD (R_is_words K)) := by
  refine T.F__law_is_words.ok sc__law_is_words (fun vs H Q E h => ?_) (fun cdv A outer s H vs Q E hr h => ?_)
  · obtain ⟨G, r, _, ⟨x, l, rfl, _⟩, _⟩ := h
    rfl
  · obtain ⟨G, r, e, ⟨x, l, rfl, hx, rfl⟩, k⟩ := h
    refine ⟨_, PSs.nox (pss_cons (ps_if (pt_not (pt_val (pe_callB (call_isiK K) (by rfl) T.m_isinstance (by decide +kernel) (pa_cons (pv 0) (pa_cons (pe_bltn (v := .ty "list") (by rfl) T.m_list (by decide +kernel) rfl) pa_nil))))) (pss_one (ps_ret pe_bl)) pss_nil)
      (pss_cons (ps_for PassesOwn.never rfl (pi_listK K (pv 0)) (pg_name (i := 1) sc__law_is_words.nd rfl (Or.inl rfl)) (pss_one (ps_if (pt_not (pt_val (pe_call (ok__law_is_int T) (hr.mono (by decide)) (by rfl) T.g__law_is_int T.F__law_is_int.kp (b__law_is_int T) .nil pass0 (pa_cons (pv 1) pa_nil)))) (pss_one (ps_ret pe_bl)) pss_nil)))
      (pss_one (ps_ret pe_bl)))), ?_⟩
    refine sq (s_ifE e (et_not (et_B (is_list (ed_var rfl hx)))) (fun hb H1 e1 => ?_) (fun hb H1 e1 => ?_))
    · cases hb
    refine nxt ?_
    dsimp only
    refine sq (Mu.s_forL l nI (e.trans e1) (ed_var rfl hx) (fun G1 i σ' H' => Ex G1 H' ∧ Ex H H' ∧ ∃ u, σ' = [some x, u]) (fun G1 H2 g => ⟨g.i, e1.trans g.h, none, rfl⟩) (fun _ _ _ _ p => p.1) ?_ ?_)
    · rintro G1 i w y σ' H' eG hi hy ⟨e2, e3, u, rfl⟩
      obtain rfl : y = V.int (w : Int) := hy
      refine s_ifE (Ex.refl H') (et_not (et_B (ev_callD (v := .bl true) (ead_cons (Ev.d (ev_var rfl)) ead_nil) fun vs G2 e4 ra => ?_))) (fun hb H4 e4 => ?_) (fun hb H4 e4 => ?_)
      · obtain ⟨z, rfl, hz⟩ := ra1 ra
        obtain rfl : z = V.int (w : Int) := hz
        exact SpD.of ⟨_, rfl, rfl⟩
      · cases hb
      · exact nxt ⟨e2.trans e4, e3.trans e4, _, rfl⟩
    · rintro G1 σ' H' eG ⟨e2, e3, u, rfl⟩
      dsimp only
      refine s_retE (v := .bl true) (Ex.refl H') ev_c fun H4 e4 => ?_
      exact k _ G H4 ((Gr.refl e).more (e3.trans e4)) rfl

theorem c_is_words (T : Tx P K mg) {M : List Re} {κ : KV} {l : List Nat} (k : κ (rB true) M) : CM (spD (R_is_words K)) [rLn K l] M κ := cm (fun vs G ra => by
  obtain ⟨x, rfl, hx⟩ := ra1 ra
  exact SpD.of ⟨x, l, rfl, hx, rfl⟩) k
local macro_rules | `(tactic| wtm_at "c") => `(tactic| refine c_is_words (by assumption) ?_)
theorem sc__law_same : FnScope ["_law_table", "_law_rows", "_law_told", "_law_k"] ["_law_table", "_law_rows"] (defScope s__law_same) := ⟨rfl, rfl, rfl, by decide +kernel, rfl, by decide +kernel, by decide +kernel⟩
theorem b__law_same (T : Tx P K mg) : Binds K T.fd__law_same ["_law_table", "_law_rows"] [] := T.F__law_same.bindsN fun _ _ _ _ _ _ us hl => match us, hl with | [_, _], _ => rfl
def R_same (K : PySem.W.Frag) (C : Addr) : List V → Hp → Rp → Prop := fun vs G r => ∃ (x y : V) (m : List Nat), vs = [x, y] ∧ (rTab K C m).p x G ∧ (rLL K (m.map bitsN)).p y G ∧ m.length ≤ 1000 ∧ (∀ q ∈ m, q < 2 ^ 64) ∧ r = rB true
theorem ok__law_same (T : Tx P K mg) : FnOk P w K mg base CX0 3 T.f__law_same T.fd__law_same ["_law_table", "_law_rows"] (spD (R_same K T.C_Table)) := by
  refine T.F__law_same.ok sc__law_same (fun vs H Q E h => ?_) (fun cdv A outer s H vs Q E hr h => ?_)
  · obtain ⟨G, r, _, ⟨x, y, m, rfl, _⟩, _⟩ := h
    rfl
  · obtain ⟨G, r, e, ⟨x, y, m, rfl, hx, hy, hn, hw, rfl⟩, k⟩ := h
    have hlen : ((m.map bitsN).map (rLn K)).length = m.length := by rw [List.length_map, List.length_map]
    refine ⟨_, PSs.nox (pss_cons (ps_if (PW.pt (pw_or (pt_not (pt_val (pe_callB (call_isiK K) (by rfl) T.m_isinstance (by decide +kernel) (pa_cons (pv 0) (pa_cons (pe_glob (v := .ref T.C_Table) (by rfl) T.g_Table rfl) pa_nil))))) (pw_or (pt_not (pt_val (pe_call (ok__law_is_int T) (hr.mono (by decide)) (by rfl) T.g__law_is_int T.F__law_is_int.kp (b__law_is_int T) .nil pass0 (pa_cons (pe_fldK K (pv 0)) pa_nil)))) (pw_or1 (pt_cmpR op_ne (pe_fldK K (pv 0)) (pe_callB (call_lenK K) (by rfl) T.m_len PySem.boot_len (pa_cons (pv 1) pa_nil)) (nomark _)))))) (pss_one (ps_ret pe_bl)) pss_nil)
      (pss_cons (ps_set (i := 2) sc__law_same.nd rfl (Or.inl rfl) (pe_meth0 (pv 0) T.c_Table T.M_Table_rows (ok_Table_rows T) (hr.mono (by decide)) (b_Table_rows T) .nil pass0))
      (pss_cons (ps_if (PW.pt (pw_or (pt_not (pt_val (pe_callB (call_isiK K) (by rfl) T.m_isinstance (by decide +kernel) (pa_cons (pv 2) (pa_cons (pe_bltn (v := .ty "list") (by rfl) T.m_list (by decide +kernel) rfl) pa_nil))))) (pw_or1 (pt_cmpR op_ne (pe_callB (call_lenK K) (by rfl) T.m_len PySem.boot_len (pa_cons (pv 2) pa_nil)) (pe_callB (call_lenK K) (by rfl) T.m_len PySem.boot_len (pa_cons (pv 1) pa_nil)) (nomark _))))) (pss_one (ps_ret pe_bl)) pss_nil)
      (pss_cons (ps_for PassesOwn.never rfl (pi_range1 (by rfl) T.m_range (pa_cons (pe_callB (call_lenK K) (by rfl) T.m_len PySem.boot_len (pa_cons (pv 1) pa_nil)) pa_nil)) (pg_name (i := 3) sc__law_same.nd rfl (Or.inl rfl)) (pss_one (ps_if (PW.pt (pw_or (pt_not (pt_val (pe_call (ok__law_is_words T) (hr.mono (by decide)) (by rfl) T.g__law_is_words T.F__law_is_words.kp (b__law_is_words T) .nil pass0 (pa_cons (pe_ix (ix_listK K) (pv 2) (pv 3) (fun _ _ => rfl)) pa_nil)))) (pw_or1 (pt_cmpR (op_neK K hr.units) (pe_ix (ix_listK K) (pv 2) (pv 3) (fun _ _ => rfl)) (pe_ix (ix_listK K) (pv 1) (pv 3) (fun _ _ => rfl)) (nomark _))))) (pss_one (ps_ret pe_bl)) pss_nil)))
      (pss_one (ps_ret pe_bl)))))), ?_⟩
    refine sq (s_ifE (b := false) e (et_is (et_or (et_not (et_B (is_tab T.ic_Table (ed_var rfl hx)))) fun _ => et_or (et_not (et_B (ev_callD (v := .bl true) (ead_cons (Ev.d (ev_size (ed_var rfl hx) T.c_Table T.na_Table_size)) ead_nil) fun vs G2 e4 ra => ?_))) fun _ => et_ne (ev_size (ed_var rfl hx) T.c_Table T.na_Table_size) (ev_lenL (ed_var rfl hy) hlen) rfl) (by simp)) (fun hb H1 e1 => ?_) (fun hb H1 e1 => ?_))
    · obtain ⟨z, rfl, hz⟩ := ra1 ra
      obtain rfl : z = V.int (m.length : Int) := hz
      exact SpD.of ⟨_, rfl, rfl⟩
    · cases hb
    refine nxt ?_
    dsimp only
    refine sq (s_setN (e.trans e1) (en_meth (C := T.C_Table) (ed_var rfl hx) (by decide +kernel) fun v G2 e2 hv => SpN.of ⟨v, m, rfl, hv, hn, hw, rfl⟩) fun p vs G2 H2 g hp gp h2 ra => ?_)
    have eP : Ex (upd G2 p (.lst vs)) H2 := ex_add g.i h2
    have eG : Ex G (upd G2 p (.lst vs)) := g.g.trans (Ex.new gp)
    have ht : (rLL K (m.map bitsN)).p (.ref p) (upd G2 p (.lst vs)) := ⟨p, vs, rfl, upd_same, ra.mono (Ex.new gp)⟩
    have hy2 := (rLL K (m.map bitsN)).mono eG hy
    refine sq (s_ifE (b := false) eP (et_is (et_or (et_not (et_B (is_list (ed_var rfl ht)))) fun _ => et_ne (ev_lenL (ed_var rfl ht) hlen) (ev_lenL (ed_var rfl hy2) hlen) rfl) (by simp)) (fun hb H3 e3 => ?_) (fun hb H3 e3 => ?_))
    · cases hb
    refine nxt ?_
    dsimp only
    refine sq (Mu.s_forR m.length (eP.trans e3) (ea_cons (ev_lenL (ed_var rfl hy2) hlen) ea_nil) (by omega) (fun i σ' H' => Ex H3 H' ∧ ∃ u, σ' = [some x, some y, some (.ref p), u]) (fun H4 e4 => ⟨e4, none, rfl⟩) ?_ ?_)
    · rintro i σ' H' hi ⟨e4, u, rfl⟩
      have e5 : Ex (upd G2 p (.lst vs)) H' := (eP.trans e3).trans e4
      have hget : ((m.map bitsN).map (rLn K))[i]? = some (rLn K (bitsN (m.getD i 0))) := by
        rw [List.map_map, List.getElem?_map, List.getD_eq_getElem?_getD, List.getElem?_eq_getElem hi]; rfl
      have h1 : EvD (tOp (rIxL K) (tVar 2) (tVar 3)) [some x, some y, some (.ref p), some (.int (i : Int))] (upd G2 p (.lst vs)) (rLn K (bitsN (m.getD i 0))) := ed_ixL (ed_var rfl ht) (ev_var rfl) hget
      have h2' : EvD (tOp (rIxL K) (tVar 1) (tVar 3)) [some x, some y, some (.ref p), some (.int (i : Int))] (upd G2 p (.lst vs)) (rLn K (bitsN (m.getD i 0))) := ed_ixL (ed_var rfl hy2) (ev_var rfl) hget
      refine s_ifE (b := false) e5 (et_is (et_or (et_not (et_B (ev_callD (v := .bl true) (ead_cons h1 ead_nil) fun vs G2 e4 ra => ?_))) fun _ => et_neLn h1 h2') (by simp)) (fun hb H4 e6 => ?_) (fun hb H4 e6 => ?_)
      · obtain ⟨z, rfl, hz⟩ := ra1 ra
        exact SpD.of ⟨z, _, rfl, hz, rfl⟩
      · cases hb
      · exact nxt ⟨e4.trans e6, _, rfl⟩
    · rintro σ' H' ⟨e4, u, rfl⟩
      dsimp only
      refine s_retE (v := .bl true) (Ex.refl H') ev_c fun H5 e5 => ?_
      exact k _ G H5 ((Gr.refl e).more ((e1.trans g.h).trans ((e3.trans e4).trans e5))) rfl

theorem x_same (T : Tx P K mg) {Γ : Mu.Ctx} {ta tb : TE} {E : XK} {m : List Nat} {n : Nat} (ha : EvX Γ ta (rTab K T.C_Table m)) (hb : EvX Γ tb (rLL K (m.map bitsN))) (wm : Wf n m) (h6 : n ≤ 6) : EvX Γ (tCall (spD (R_same K T.C_Table)) [] E (tCons ta (tCons tb tNil))) (rB true) := x_call (xa_cons ha (xa_cons hb xa_nil)) fun vs G ra => by
  obtain ⟨a, b, rfl, ha, hb⟩ := ra2 ra
  exact SpD.of ⟨a, b, m, rfl, ha, hb, by rw [wm.len]; omega, fun q hq => Nat.lt_of_lt_of_le (wm.lt q hq) (Nat.pow_le_pow_right (by decide) (by omega)), rfl⟩

theorem c_same (T : Tx P K mg) {M : List Re} {κ : KV} {m : List Nat} {n : Nat} (wm : Wf n m) (h6 : n ≤ 6) (k : κ (rB true) M) : CM (spD (R_same K T.C_Table)) [rTab K T.C_Table m, rLL K (m.map bitsN)] M κ := cm (fun vs G ra => by
  obtain ⟨a, b, rfl, ha, hb⟩ := ra2 ra
  exact SpD.of ⟨a, b, m, rfl, ha, hb, by rw [wm.len]; omega, fun q hq => Nat.lt_of_lt_of_le (wm.lt q hq) (Nat.pow_le_pow_right (by decide) (by omega)), rfl⟩) k
local macro_rules | `(tactic| wtm_at "c") => `(tactic| refine c_same _ (by assumption) (by wtm_at "s") ?_)
theorem sc__law_box : FnScope ["_law_script", "_law_cell"] ["_law_script"] (defScope s__law_box) := ⟨rfl, rfl, rfl, by decide +kernel, rfl, by decide +kernel, by decide +kernel⟩
theorem b__law_box (T : Tx P K mg) : Binds K T.fd__law_box ["_law_script"] [] := T.F__law_box.bindsN fun _ _ _ _ _ _ us hl => match us, hl with | [_], _ => rfl
theorem ok__law_box (T : Tx P K mg) : FnOk P w K mg base CX0 1 T.f__law_box T.fd__law_box ["_law_script"] (spBoxMk K) := by
  refine T.F__law_box.ok sc__law_box (fun vs H Q E h => ?_) (fun cdv A outer s H vs Q E hr h => ?_)
  · obtain ⟨a, ns, rfl, _⟩ := h
    rfl
  · obtain ⟨a, ns, rfl, hS, hl, k⟩ := h
    refine ⟨_, PSs.nox (pss_one (ps_ret (pe_lst (pa_cons (pe_lc (own := [("_law_cell", 1)]) (by rfl) sc__law_box.nd (pi_listK K (pe_slice (sl_listK K) (pv 0) po_none (po_some pe_int))) (blkOk_by (N := ["_law_script", "_law_cell"]) (sc := defScope s__law_box) (by decide +kernel)) (fun _ _ _ _ _ => (pg_name (i := 1) sc__law_box.nd rfl (Or.inl rfl))) (fun _ _ _ _ _ => pts_nil) (fun _ _ _ _ _ => (pe_callB call_abs (by rfl) T.m_abs (by decide +kernel) (pa_cons (pe_callTy call_int1 (by rfl) T.m_int (by decide +kernel) (pa_cons (pv 1) pa_nil)) pa_nil)))) (pa_cons pe_int (pa_cons pe_int (pa_cons pe_int pa_nil))))))), ?_⟩
    have hcut : cutR (ns.map Mu.rI) none (some 63) = (cutR ns none (some 63)).map Mu.rI := cutR_map _ _ _ _
    have hcl : (cutR ns none (some 63)).length ≤ 63 := by
      unfold cutR
      rw [List.length_take, List.length_drop]; omega
    have src : EvD (tSl (rSlL K) (tVar 0) tNoPart (tPart (tC (.int 63)))) [some (V.ref a), none] H (rL K ((cutR ns none (some 63)).map Mu.rI)) := hcut ▸ EvN.d (en_slL (ed_var (r := rLs K (ns.map Mu.rI)) rfl ⟨a, _, rfl, hS, ra_ints⟩) (fun _ _ => eo_none) (fun _ _ => eo_some ev_c))
    have lc := en_lcL0 (cutR ns none (some 63)) Mu.rI (fun i => Mu.rI (if i < 0 then -i else i)) src (by omega) (vs := [1]) (j := 1) (fun _ => rfl) (te := tCB (fun xs H Q => ∃ i, xs = [.int i] ∧ Q (.int (if i < 0 then -i else i)) H) (tCons (tCB (fun xs H Q => (∃ i, xs = [.int i] ∧ Q (.int i) H) ∨ ∃ k, xs = [.bl k] ∧ Q (.int (if k then 1 else 0)) H) (tCons (tVar 1) tNil)) tNil)) fun i y G1 hi e1 hy => by
      obtain rfl : y = V.int i := hy
      exact Ev.d (ev_abs (ev_int (ev_var rfl)))
    refine s_retN (Ex.refl H) (en_lst (ead_cons (EvN.d (K := K) lc) (ead_cons (Ev.d ev_c) (ead_cons (Ev.d ev_c) (ead_cons (Ev.d ev_c) ead_nil)))) (by show 4 ≤ 100000; decide)) fun p vs G2 H2 g hp gp h2 ra => ?_
    cases ra with
    | cons h1 t1 =>
      obtain ⟨x, y, z, rfl, hx, hy, hz⟩ := ra3 t1
      obtain rfl : x = V.int 0 := hx
      obtain rfl : y = V.int 0 := hy
      obtain rfl : z = V.int 0 := hz
      obtain ⟨c, ws, rfl, hc, rc⟩ := h1
      rw [show (cutR ns none (some 63)).map (fun i => Mu.rI (if i < 0 then -i else i)) = ((cutR ns none (some 63)).map (fun i => if i < 0 then -i else i)).map Mu.rI by rw [List.map_map]; rfl] at rc
      have ew := ra_ints_eq rc
      subst ew
      refine k p G2 H2 g.g g.i hp gp ⟨c, _, 0, 0, 0, h2, hc, fun z hz => ?_, by omega, by omega, by omega, by omega⟩
      obtain ⟨i, _, rfl⟩ := List.mem_map.mp hz
      split <;> omega
theorem sc__law_take : FnScope ["_law_box_here", "_law_many", "_law_digit", "_law_cell"] ["_law_box_here", "_law_many"] (defScope s__law_take) := ⟨rfl, rfl, rfl, by decide +kernel, rfl, by decide +kernel, by decide +kernel⟩
theorem b__law_take (T : Tx P K mg) : Binds K T.fd__law_take ["_law_box_here", "_law_many"] [] := T.F__law_take.bindsN fun _ _ _ _ _ _ us hl => match us, hl with | [_, _], _ => rfl
theorem ok__law_take (T : Tx P K mg) : FnOk P w K mg base CX0 1 T.f__law_take T.fd__law_take ["_law_box_here", "_law_many"] (spT K) := by
  refine T.F__law_take.ok sc__law_take (fun vs H Q E h => ?_) (fun cdv A outer s H vs Q E hr h => ?_)
  · obtain ⟨G, b, m, rfl, _⟩ := h
    rfl
  · obtain ⟨G, b, m, rfl, e, gb, hbox, h0, h1, k⟩ := h
    obtain ⟨c, cells, i, x, y, hb, hc, hcp, hi, hx, hy, hy2⟩ := hbox.ex
    refine ⟨_, PSs.nox (pss_cons (ps_if (pt_cmpR op_gt (pe_ix (ix_listK K) (pv 0) pe_int (fun _ _ => rfl)) pe_int (nomark _)) (pss_cons (ps_set (i := 2) sc__law_take.nd rfl (Or.inl rfl) (pe_op op_mod (pe_callTy call_int1 (by rfl) T.m_int (by decide +kernel) (pa_cons (pe_ix (ix_listK K) (pv 0) pe_int (fun _ _ => rfl)) pa_nil)) (pv 1)))
      (pss_cons (ps_asg (pe_op op_fdiv (pe_ix (ix_listK K) (pv 0) pe_int (fun _ _ => rfl)) (pv 1)) (pg_sub (pv 0) pe_int set_list))
      (pss_one (ps_ret (pv 2))))) pss_nil)
      (pss_cons (ps_set (i := 3) sc__law_take.nd rfl (Or.inl rfl) pe_int)
      (pss_cut (ps_if (pt_cmpR op_lt (pe_ix (ix_listK K) (pv 0) pe_int (fun _ _ => rfl)) (pe_callB (call_lenK K) (by rfl) T.m_len PySem.boot_len (pa_cons (pe_ix (ix_listK K) (pv 0) pe_int (fun _ _ => rfl)) pa_nil)) (nomark _)) (pss_cons (ps_set (i := 3) sc__law_take.nd rfl (Or.inl rfl) (pe_ix (ix_listK K) (pe_ix (ix_listK K) (pv 0) pe_int (fun _ _ => rfl)) (pe_ix (ix_listK K) (pv 0) pe_int (fun _ _ => rfl)) (fun _ _ => rfl)))
      (pss_one (ps_asg (pe_op op_add (pe_ix (ix_listK K) (pv 0) pe_int (fun _ _ => rfl)) pe_int) (pg_sub (pv 0) pe_int set_list)))) pss_nil)
      (pss_cons (ps_if (pt_cmpR op_ge (pv 3) (pe_op op_pow pe_int pe_int) (nomark _)) (pss_cons (ps_asg (pe_op op_fdiv (pv 3) (pv 1)) (pg_sub (pv 0) pe_int set_list))
      (pss_one (ps_ret (pe_op op_mod (pe_callTy call_int1 (by rfl) T.m_int (by decide +kernel) (pa_cons (pv 3) pa_nil)) (pv 1))))) pss_nil)
      (pss_cons (ps_asg (pe_op op_mod (pe_callTy call_int1 (by rfl) T.m_int (by decide +kernel) (pa_cons (pe_op op_add (pe_op op_mul (pe_ix (ix_listK K) (pv 0) pe_int (fun _ _ => rfl)) pe_int) (pv 3)) pa_nil)) pe_int) (pg_sub (pv 0) pe_int set_list))
      (pss_one (ps_ret (pe_op op_mod (pe_callTy call_int1 (by rfl) T.m_int (by decide +kernel) (pa_cons (pe_op op_fdiv (pe_op op_mod (pe_callTy call_int1 (by rfl) T.m_int (by decide +kernel) (pa_cons (pe_op op_mul (pe_ix (ix_listK K) (pv 0) pe_int (fun _ _ => rfl)) pe_int) pa_nil)) pe_int) pe_int) pa_nil)) (pv 1))))))))), ?_⟩
    have fin : ∀ (i' x' y' : Int) (H' : Hp) (d : Int), H' b = some (.lst [.ref c, .int i', .int x', .int y']) → 0 ≤ i' → 0 ≤ x' → 0 ≤ y' → y' < 2147483647 → (∀ a o, H a = some o → a ≠ b → H' a = some o) → 0 ≤ d → d < (m : Int) → Q (.int d) H' := by
      intro i' x' y' H' d h1 h2 h3 h4 h5 h6 h7 h8
      have z := k d.toNat H' (by omega) h6 fun G' hb' => by
        obtain ⟨c2, cells2, i2, x2, y2, b1, b2, b3, _⟩ := hb'.ex
        rw [hb] at b1
        injection b1 with b1
        injection b1 with b1
        injection b1 with b1 _
        injection b1 with b1
        subst b1
        exact ⟨c, cells2, i', x', y', h1, b2, b3, h2, h3, h4, h5⟩
      rwa [Int.toNat_of_nonneg h7] at z
    have mp : (0 : Int) < (m : Int) := by omega
    have md : CDiv x (m : Int) := ⟨mp, by omega⟩
    -- if box[2] > 0
    refine sq (s_ifE (Ex.refl H) (et_cmp (ev_op (ev_var rfl) ev_c (rv_ixL (sq_of hb) rfl)) ev_c) (fun hb1 H1 e1 => ?_) (fun hb1 H1 e1 => ?_))
    · refine sq (Mu.s_set e1 (ev_op (ev_int (ev_op (ev_var rfl) ev_c (rv_ixL (sq_of hb) rfl))) (ev_var rfl) (rv_I mp)) fun H2 e2 => ?_)
      have hb2 := e2 _ _ (e1 _ _ hb)
      refine sq (s_setL (j := 2) hb2 (ev_op (ev_op (ev_var rfl) ev_c (rv_ixL (sq_of hb2) rfl)) (ev_var rfl) (rv_I md)) (ev_var rfl) ev_c (by show 2 < 4; decide) fun H3 e3 => ?_)
      refine s_retE (Ex.refl _) (ev_var rfl) fun H4 e4 => ?_
      refine fin i (x / (m : Int)) y H4 _ (e4 _ _ upd_same) hi (Int.ediv_nonneg hx (by omega)) hy hy2 (fun a o z n => e4 _ _ (by rw [upd_ne n]; exact e3 _ _ (e2 _ _ (e1 _ _ z)))) (Int.emod_nonneg _ (by omega)) (Int.emod_lt_of_pos _ mp)
    -- cell = 0
    refine nxt ?_
    dsimp only
    refine sq (Mu.s_set e1 ev_c fun H2 e2 => ?_)
    have hb2 := e2 _ _ (e1 _ _ hb)
    have eG2 : Ex G H2 := e.trans (e1.trans e2)
    have hx0 : x ≤ 0 := by
      have q := of_decide_eq_false hb1
      omega
    have hcl : EvD (tOp (rIxL K) (tVar 0) (tC (.int 0))) [some (V.ref b), some (V.int (m : Int)), none, some (V.int 0)] (upd G b (.lst [.ref c, .int i, .int x, .int y])) (rL K (cells.map Mu.rI)) := fun H' e' Q' q' => by
      refine ⟨.ref b, rfl, b, _, 0, .ref c, rfl, rfl, sq_of (e' _ _ upd_same), rfl, q' (.ref c) _ H' (Gr.refl e') ⟨c, _, rfl, (Ex.new gb) _ _ hc, ra_ints⟩⟩
    have eB : Ex (upd G b (.lst [.ref c, .int i, .int x, .int y])) H2 := ex_add eG2 hb2
    -- if box[1] < len(box[0])
    refine ⟨fun σ' H' => ∃ i' cell : Int, σ' = [some (V.ref b), some (V.int (m : Int)), none, some (V.int cell)] ∧ H' b = some (.lst [.ref c, .int i', .int x, .int y]) ∧ 0 ≤ i' ∧ 0 ≤ cell ∧ (∀ a o, H a = some o → a ≠ b → H' a = some o), s_ifE eB (et_cmp (ev_op (ev_var rfl) ev_c (rv_ixL (sq_of upd_same) rfl)) (ev_lenL hcl (List.length_map _))) (fun hb3 H3 e3 => ?_) (fun hb3 H3 e3 => ?_), ?_⟩
    · have hlt : i < (cells.length : Int) := of_decide_eq_true hb3
      have hil : i.toNat < cells.length := by omega
      have ei : ((i.toNat : Nat) : Int) = i := Int.toNat_of_nonneg hi
      have hget : (cells.map Mu.rI)[i.toNat]? = some (Mu.rI cells[i.toNat]) := by rw [List.getElem?_map, List.getElem?_eq_getElem hil]; rfl
      refine sq (Mu.s_set (eB.trans e3) (EvD.ev (ed_ixL hcl (by rw [ei]; exact ev_op (ev_var rfl) ev_c (rv_ixL (sq_of upd_same) rfl)) hget)) fun H4 e4 => ?_)
      have hb4 := e4 _ _ (e3 _ _ hb2)
      refine s_setL (j := 1) hb4 (ev_op (ev_op (ev_var rfl) ev_c (rv_ixL (sq_of hb4) rfl)) ev_c rv_I0) (ev_var rfl) ev_c (by show 1 < 4; decide) fun H5 e5 => ?_
      exact ⟨i + 1, cells[i.toNat], rfl, upd_same, by omega, hcp _ (List.getElem_mem hil), fun a o z n => by rw [upd_ne n]; exact e5 _ _ (e4 _ _ (e3 _ _ (e2 _ _ (e1 _ _ z))))⟩
    · exact nxt ⟨i, 0, rfl, e3 _ _ hb2, hi, by omega, fun a o z n => e3 _ _ (e2 _ _ (e1 _ _ z))⟩
    · rintro σ' H3 ⟨i', cell, rfl, hb3, hi3, hcell, keep⟩
      refine sq (s_ifE (Ex.refl H3) (et_cmp (ev_var rfl) (ev_op ev_c ev_c (rv_I ⟨by decide, by decide, by decide⟩))) (fun hb4 H4 e4 => ?_) (fun hb4 H4 e4 => ?_))
      · have hb4' := e4 _ _ hb3
        refine sq (s_setL (j := 2) hb4' (ev_op (ev_var rfl) (ev_var rfl) (rv_I ⟨mp, by omega⟩)) (ev_var rfl) ev_c (by show 2 < 4; decide) fun H5 e5 => ?_)
        dsimp only
        refine s_retE (Ex.refl _) (ev_op (ev_int (ev_var rfl)) (ev_var rfl) (rv_I mp)) fun H6 e6 => ?_
        exact fin i' (cell / (m : Int)) y H6 _ (e6 _ _ upd_same) hi3 (Int.ediv_nonneg hcell (by omega)) hy hy2 (fun a o z n => e6 _ _ (by rw [upd_ne n]; exact e5 _ _ (e4 _ _ (keep a o z n)))) (Int.emod_nonneg _ (by omega)) (Int.emod_lt_of_pos _ mp)
      · have hb4' := e4 _ _ hb3
        have hc18 : cell < 10 ^ 18 := by
          have q := of_decide_eq_false hb4
          have q2 : ¬ ((10 : Int) ^ (18 : Int).toNat ≤ cell) := q
          have q3 : (10 : Int) ^ (18 : Int).toNat = 10 ^ 18 := rfl
          rw [q3] at q2
          omega
        refine nxt ?_
        dsimp only
        refine sq (s_setL (j := 3) hb4' (ev_op (ev_int (ev_op (ev_op (ev_op (ev_var rfl) ev_c (rv_ixL (sq_of hb4') rfl)) ev_c (rv_I (Or.inl ⟨by omega, by omega⟩))) (ev_var rfl) rv_I0)) ev_c (rv_I (by decide))) (ev_var rfl) ev_c (by show 3 < 4; decide) fun H5 e5 => ?_)
        have ny0 : (0 : Int) ≤ (y * 48271 + cell) % 2147483647 := Int.emod_nonneg _ (by decide)
        have ny1 : (y * 48271 + cell) % 2147483647 < 2147483647 := Int.emod_lt_of_pos _ (by decide)
        have hb6 : (upd H5 b (.lst ([V.ref c, .int i', .int x, .int y].set 3 (.int ((y * 48271 + cell) % 2147483647))))) b = some (.lst [.ref c, .int i', .int x, .int ((y * 48271 + cell) % 2147483647)]) := upd_same
        dsimp only
        refine s_retE (Ex.refl _) (ev_op (ev_int (ev_op (ev_op (ev_int (ev_op (ev_op (ev_var rfl) ev_c (rv_ixL (sq_of hb6) rfl)) ev_c (rv_I (Or.inl ⟨by omega, by omega⟩)))) ev_c (rv_I (by decide))) ev_c (rv_I ⟨by decide, by decide⟩))) (ev_var rfl) (rv_I mp)) fun H6 e6 => ?_
        exact fin i' x _ H6 _ (e6 _ _ hb6) hi3 hx ny0 ny1 (fun a o z n => e6 _ _ (by rw [upd_ne n]; exact e5 _ _ (e4 _ _ (keep a o z n)))) (Int.emod_nonneg _ (by omega)) (Int.emod_lt_of_pos _ mp)
local macro_rules | `(tactic| wtm_at "c") => `(tactic| refine c_take 0 rfl (by wtm_at "s") (by wtm_at "s") ?_)
local macro_rules | `(tactic| wtm_at "c") => `(tactic| refine c_take 1 rfl (by wtm_at "s") (by wtm_at "s") ?_)
theorem sc__law_words : FnScope ["_law_box_here", "_law_n", "_law_least", "_law_mask", "_law_word"] ["_law_box_here", "_law_n", "_law_least"] (defScope s__law_words) := ⟨rfl, rfl, rfl, by decide +kernel, rfl, by decide +kernel, by decide +kernel⟩
theorem b__law_words (T : Tx P K mg) : Binds K T.fd__law_words ["_law_box_here", "_law_n", "_law_least"] [] := T.F__law_words.bindsN fun _ _ _ _ _ _ us hl => match us, hl with | [_, _, _], _ => rfl
def R_words : List V → Hp → (List Rp → Prop) → Prop := fun ws _ PP => ∃ n least : Nat, ws = [.int (n : Int), .int (least : Int)] ∧ n ≤ 6 ∧ least < 2 ^ n ∧ PP = fun rs => ∃ mask, least ≤ mask ∧ mask < 2 ^ n ∧ rs = (bitsN mask).map nI
theorem ok__law_words (T : Tx P K mg) : FnOk P w K mg base CX0 2 T.f__law_words T.fd__law_words ["_law_box_here", "_law_n", "_law_least"] (spBN K R_words) := by
  refine T.F__law_words.ok sc__law_words (fun vs H Q E h => ?_) (fun cdv A outer s H vs Q E hr h => ?_)
  · obtain ⟨G, b, ws, PP, rfl, _, _, _, ⟨n, least, rfl, _⟩, _⟩ := h
    rfl
  · obtain ⟨G, b, ws, PP, rfl, e, gb, hbox, ⟨n, least, rfl, hn, hl, rfl⟩, k⟩ := h
    refine ⟨_, PSs.nox (pss_cons (ps_set (i := 3) sc__law_words.nd rfl (Or.inr rfl) (pe_op op_add (pv 2) (pe_call (ok__law_take T) (hr.mono (by decide)) (by rfl) T.g__law_take T.F__law_take.kp (b__law_take T) .nil pass0 (pa_cons (pv 0) (pa_cons (pe_op op_sub (pe_ix (ix_listK K) (pe_lst (pa_cons pe_int (pa_cons pe_int (pa_cons pe_int (pa_cons pe_int (pa_cons pe_int (pa_cons pe_int (pa_cons pe_int pa_nil)))))))) (pv 1) (fun _ _ => rfl)) (pv 2)) pa_nil)))))
      (pss_one (ps_ret (pe_lc (own := [("_law_word", 4)]) (by rfl) sc__law_words.nd (pi_range1 (by rfl) T.m_range (pa_cons (pv 1) pa_nil)) (blkOk_by (N := ["_law_box_here", "_law_n", "_law_least", "_law_mask", "_law_word"]) (sc := defScope s__law_words) (by decide +kernel)) (fun _ _ _ _ _ => (pg_name (i := 4) sc__law_words.nd rfl (Or.inl rfl))) (fun _ _ _ _ _ => (pts_one (pt_cmpR op_eq (pe_op op_mod (pe_callTy call_int1 (by rfl) T.m_int (by decide +kernel) (pa_cons (pe_op op_fdiv (pv 3) (pe_ix (ix_listK K) (pe_lst (pa_cons pe_int (pa_cons pe_int (pa_cons pe_int (pa_cons pe_int (pa_cons pe_int (pa_cons pe_int pa_nil))))))) (pv 4) (fun _ _ => rfl))) pa_nil)) pe_int) pe_int (nomark _)))) (fun _ _ _ _ _ => (pv 4)))))), ?_⟩
    have p6 : (2 : Nat) ^ n ≤ 2 ^ 6 := Nat.pow_le_pow_right (by decide) hn
    have e0 : ((2 ^ n : Nat) : Int) - (least : Int) = ((2 ^ n - least : Nat) : Int) := by omega
    refine sq (s_setB e gb hbox (eb_opN (ev_var rfl) (eb_take (m := 2 ^ n - least) rfl (by rw [← e0]; exact ev_op (EvD.ev (ed_ixL (K := K) (EvN.d (en_lst (ead_cons (Ev.d ev_c) (ead_cons (Ev.d ev_c) (ead_cons (Ev.d ev_c) (ead_cons (Ev.d ev_c) (ead_cons (Ev.d ev_c) (ead_cons (Ev.d ev_c) (ead_cons (Ev.d ev_c) ead_nil))))))) (by show 7 ≤ 100000; decide))) (ev_var rfl) (pow_list hn))) (ev_var rfl) rv_I0) (by omega) (by omega)) (fun d => .int ((least : Int) + (d : Int))) fun d _ H Q q => ⟨_, _, rfl, rfl, q⟩) fun r v G2 H2 hP g hb2 hv => ?_)
    obtain ⟨d, hd, rfl⟩ := hP
    obtain rfl : v = V.int ((least : Int) + (d : Int)) := hv
    have em : (least : Int) + (d : Int) = ((least + d : Nat) : Int) := by omega
    rw [em]
    refine s_retN (rs := (bitsN (least + d)).map nI) g.i (en_is (en_lcR n (fun w => (least + d).testBit w) nI (ea_cons (ev_var rfl) ea_nil) (by omega) (fun _ => rfl) (fun w G1 hw e1 => ?_) (fun w G1 hw _ e1 => Ev.d (ev_var rfl))) ?_) fun p vs G3 H3 g3 hp gp h3 ra => ?_
    · refine et_is (et_eq (ev_op (ev_int (ev_op (ev_var rfl) (EvD.ev (ed_ixL (K := K) (EvN.d (en_lst (ead_cons (Ev.d ev_c) (ead_cons (Ev.d ev_c) (ead_cons (Ev.d ev_c) (ead_cons (Ev.d ev_c) (ead_cons (Ev.d ev_c) (ead_cons (Ev.d ev_c) ead_nil)))))) (by show 6 ≤ 100000; decide))) (ev_var rfl) (pow_list6 (by omega)))) (rv_I ⟨?_, ?_⟩))) ev_c (rv_I (by decide))) ev_c rfl) ?_
      · have := Nat.two_pow_pos w; omega
      · have : (2 : Nat) ^ w ≤ 2 ^ 5 := Nat.pow_le_pow_right (by decide) (by omega)
        omega
      · rw [← test_div]
        simp
    · rw [bits_eq (show least + d < 2 ^ n by omega)]
    · have hpH := (g.fresh hb2.at_ hp).1
      exact k _ p vs G3 H3 ⟨least + d, by omega, by omega, rfl⟩ (g.trans gb hbox.at_ g3.b hb2.at_) (hb2.mono g3.g g3.h) hpH gp h3 ra

theorem c_words (T : Tx P K mg) {M : List Re} {κ : KV} {b : Addr} {n least : Nat} (hk : M[0]? = some (boxR K b)) (h6 : n ≤ 6) (hl : least < 2 ^ n) (k : ∀ mask, least ≤ mask → mask < 2 ^ n → κ (rLn K (bitsN mask)) M) : CM (spBN K R_words) [rV (.ref b), nI n, nI least] M κ := c_BNf K 0 hk (fun ws G ra => by
  obtain ⟨x, y, rfl, hx, hy⟩ := ra2 ra
  obtain rfl : x = V.int (n : Int) := hx
  obtain rfl : y = V.int (least : Int) := hy
  exact ⟨n, least, rfl, h6, hl, rfl⟩) fun ss h => by
  obtain ⟨m, w, hm, rfl⟩ := h
  exact k m w hm
theorem o_words (T : Tx P K mg) {M : List Re} {κ : KV} {b : Addr} {n least : Nat} (hk : M[0]? = some (boxR K b)) (h6 : n ≤ 6) (hl : least < 2 ^ n) (k : ∀ mask, least ≤ mask → mask < 2 ^ n → ∀ p, κ (rV (.ref p)) (M ++ [lstR p ((bitsN mask).map nI)])) : CM (spBN K R_words) [rV (.ref b), nI n, nI least] M κ := c_BN 0 hk (fun ws G ra => by
  obtain ⟨x, y, rfl, hx, hy⟩ := ra2 ra
  obtain rfl : x = V.int (n : Int) := hx
  obtain rfl : y = V.int (least : Int) := hy
  exact ⟨n, least, rfl, h6, hl, rfl⟩) fun ss h p => by
  obtain ⟨m, w, hm, rfl⟩ := h
  exact k m w hm p
local macro_rules | `(tactic| wtm_at "co") => `(tactic| refine o_words (by assumption) rfl (by wtm_at "s") (by wtm_at "s") ?_)
local macro_rules | `(tactic| wtm_at "c") => `(tactic| refine c_words (by assumption) rfl (by wtm_at "s") (by wtm_at "s") ?_)
end
end MuL

namespace MuL
open PySem PySem.Spec PyProof.Rows L2 He Evl Mu
section
variable {P : Program} {w : World} {K : PySem.W.Frag} {mg : Str → Option Value} {base : Heap}
local macro_rules | `(tactic| wtm_at "s") => `(tactic| first | assumption | omega | exact rfl | decide | wtm_at "s2")
local macro_rules | `(tactic| wtm_at "s2") => `(tactic| (simp only [List.length_map, List.length_range, List.length_cons, List.length_nil, List.length_append]; omega))
local macro_rules | `(tactic| wtm_at "j") => `(tactic| first | exact List.mem_cons_self | (simp; done))
local macro_rules | `(tactic| wtm_at "tr") => `(tactic| (apply t_is; (focus (wtm_at "t")); exact rfl))
local macro_rules | `(tactic| wtm_at "bs") => `(tactic| first | exact rfl | (simp; done) | (simp [*]; done))
local macro_rules | `(tactic| wtm_at "yes") => `(tactic| (apply w_yes; (focus (apply t_is; (focus (wtm_at "t")); first | exact rfl | (simp; done) | (simp [*]; done)))))
local macro_rules | `(tactic| wtm_at "no") => `(tactic| (apply w_no; (focus (apply t_is; (focus (wtm_at "t")); first | exact rfl | (simp; done) | (simp [*]; done)))))
local macro_rules | `(tactic| wtm_at "nn") => `(tactic| first | exact nn_tab | exact nn_L | exact nn_T | exact nn_I)
local macro_rules | `(tactic| wtm_at "sub") => `(tactic| repeat' first | exact Paired.nil | refine Paired.cons (Or.inr rfl) ?_ | refine Paired.cons (Or.inl rfl) ?_)
local macro_rules | `(tactic| wtm_at "o") => `(tactic| first
    | ((with_reducible show OM (rI0 _) _ _ _ _); first | refine om (x_addN (x_v rfl) (x_v rfl)) ?_ | refine om (x_subN (x_v rfl) (x_v rfl) (by wtm_at "s")) ?_ | refine om (x_bandN (x_v rfl) (x_v rfl)) ?_ | refine om (x_borN (x_v rfl) (x_v rfl)) ?_ | refine om (x_ltN (x_v rfl) (x_v rfl)) ?_ | refine om (x_leN (x_v rfl) (x_v rfl)) ?_ | refine om (x_gtN (x_v rfl) (x_v rfl)) ?_ | refine om (x_geN (x_v rfl) (x_v rfl)) ?_ | refine om (x_I0 (x_v rfl) (x_v rfl)) ?_)
    | ((with_reducible show OM (L2.rI _ _) _ _ _ _); first | refine om (x_powN (x_v rfl) (x_v rfl) (by wtm_at "s") (by wtm_at "s")) ?_ | refine om (x_shrN (x_v rfl) (x_v rfl)) ?_ | refine om (x_shlN1 (x_v rfl) (x_v rfl) (by wtm_at "s")) ?_ | refine om (x_I (x_v rfl) (x_v rfl) (by wtm_at "s")) ?_)
    | ((with_reducible show OM rEq _ _ _ _); first | refine om (x_eqN (x_v rfl) (x_v rfl)) ?_ | refine om (x_eqI (x_v rfl) (x_v rfl)) ?_ | refine om (x_eqV (x_v rfl) (x_v rfl) rfl) ?_)
    | ((with_reducible show OM rNe _ _ _ _); first | refine om (x_neN (x_v rfl) (x_v rfl)) ?_ | refine om (x_neI (x_v rfl) (x_v rfl)) ?_ | refine om (x_neV (x_v rfl) (x_v rfl) rfl) ?_)
    | ((with_reducible show OM (rIxT _) _ _ _ _); first | refine om (x_ixTn (x_v rfl) (x_v rfl) (by wtm_at "s")) ?_ | refine om (x_ixT (x_v rfl) (x_v rfl) rfl) ?_ | refine om (x_ixTm default (x_v rfl) (x_v rfl) (by wtm_at "s")) ?_)
    | ((with_reducible show OM (rIxL _) _ _ _ _); first | refine om (x_ixB (x_v rfl) (x_v rfl) (by wtm_at "s")) ?_ | refine om (x_ixLn (x_v rfl) (x_v rfl) (by wtm_at "s")) ?_ | refine om (x_ixLL (x_v rfl) (x_v rfl) (by wtm_at "s")) ?_ | refine om_ixOwn 0 rfl (by wtm_at "s") ?_ | refine om_ixOwn 1 rfl (by wtm_at "s") ?_ | refine om_ixOwn 2 rfl (by wtm_at "s") ?_ | refine om_ixOwn 3 rfl (by wtm_at "s") ?_ | refine om (x_ixL (x_v rfl) (x_v rfl) rfl) ?_ | refine om (x_ixL (x_v rfl) (x_v rfl) (by assumption)) ?_ | refine om (x_ixLm default (x_v rfl) (x_v rfl) (by wtm_at "s")) ?_)
    | ((with_reducible show OM (rIn _ _) _ _ _ _); first | refine om (x_inLn (l := [_, _]) (x_v rfl) (x_v rfl)) ?_ | refine om (x_inLn (l := [_, _, _]) (x_v rfl) (x_v rfl)) ?_ | refine om (x_inLn (x_v rfl) (x_v rfl)) ?_ | refine om (x_niLn (x_v rfl) (x_v rfl)) ?_ | refine om (x_inTi true (x_v rfl) (x_v rfl)) ?_ | refine om (x_inTi false (x_v rfl) (x_v rfl)) ?_ | refine om (x_inLi true (x_v rfl) (x_v rfl)) ?_ | refine om (x_inLi false (x_v rfl) (x_v rfl)) ?_)
    | ((with_reducible show OM (rEqD _) _ _ _ _); first | refine om (x_eqLn0 (x_v rfl) (x_v rfl)) ?_ | refine om (x_eqLn (x_v rfl) (x_v rfl)) ?_ | refine om (x_eqTn (x_v rfl) (x_v rfl)) ?_ | refine om (x_eqLL (x_v rfl) (x_v rfl)) ?_)
    | ((with_reducible show OM (rNeD _) _ _ _ _); first | refine om (x_neLn0 (x_v rfl) (x_v rfl)) ?_ | refine om (x_neLn (x_v rfl) (x_v rfl)) ?_ | refine om (x_neTn (x_v rfl) (x_v rfl)) ?_ | refine om (x_neLL (x_v rfl) (x_v rfl)) ?_ | refine om (x_neP (x_v rfl) (x_v rfl)) ?_)
    | ((with_reducible show OM (rInD _) _ _ _ _); first | refine om (x_inP (x_v rfl) (x_v rfl)) ?_)
    | ((with_reducible show OM (rNotInD _) _ _ _ _); first | refine om (x_niP (x_v rfl) (x_v rfl)) ?_)
    | ((with_reducible show OM (rInTD _) _ _ _ _); first | refine om (x_inTP (x_v rfl) (x_v rfl)) ?_)
    | ((with_reducible show OM rIsB _ _ _ _); first | refine om (x_isB (x_v rfl) (x_v rfl)) ?_)
    | ((with_reducible show OM rNotB _ _ _ _); first | refine om (x_isNB (x_v rfl) (x_v rfl)) ?_)
    | ((with_reducible show OM (fun _ _ _ _ => _ ∧ _) _ _ _ _); first | refine om_isN0 ?_ | refine om_notN0 ?_ | refine om_isN1 (by wtm_at "nn") ?_ | refine om_notN1 (by wtm_at "nn") ?_)
    | ((with_reducible show OM rRep _ _ _ _); first | refine om_rep (by wtm_at "s") (by wtm_at "s") ?_)
    | ((with_reducible show OM rCat _ _ _ _); first | refine om_cat (by wtm_at "s") ?_ | refine om (x_catm (x_v rfl) (x_v rfl) (by wtm_at "s")) ?_))
local macro_rules | `(tactic| wtm_at "a") => `(tactic| first
    | ((with_reducible show AM (rLenS _) _ _ _); first | refine am1 (x_lenLn (x_v rfl)) ?_ | refine am1 (x_lenTn (x_v rfl)) ?_ | refine am1 (x_lenB (x_v rfl)) ?_ | refine am1 (x_lenLL (x_v rfl)) ?_ | refine am1 (x_lenLm (x_v rfl)) ?_ | refine am1 (x_lenTm (x_v rfl)) ?_ | refine am_own 0 rfl (x_lenLm (x_v rfl)) ?_ | refine am_own 1 rfl (x_lenLm (x_v rfl)) ?_ | refine am_own 2 rfl (x_lenLm (x_v rfl)) ?_ | refine am_own 3 rfl (x_lenLm (x_v rfl)) ?_ | refine am_own 1 rfl (x_lenLm' (x_v rfl)) ?_ | refine am_own 2 rfl (x_lenLm' (x_v rfl)) ?_ | refine am1 (x_lenL (x_v rfl)) ?_ | refine am1 (x_lenT (x_v rfl)) ?_)
    | ((with_reducible show AM (rTupO _) _ _ _); first | refine am1 (x_tupL (x_v rfl)) ?_)
    | ((with_reducible show AM (rListS _) _ _ _); first | refine am_listL ?_ | refine am_listT ?_ | refine am_listOwn 0 rfl ?_ | refine am_listOwn 1 rfl ?_ | refine am_listOwn 2 rfl ?_)
    | ((with_reducible show AM (rIsi _) _ _ _); first | refine am2c (x_isInt (x_v rfl)) ?_ | refine am2c (x_isList (x_v rfl)) ?_ | refine am2c (x_isTup (x_v rfl)) ?_ | refine am2c (x_isTab (Tx.ic_Table (by assumption)) (x_v rfl)) ?_ | refine am2c (x_isIns (by assumption) (by assumption) (x_v rfl)) ?_)
    | ((with_reducible show AM _ _ _ _); first | refine am1 (x_int (x_v rfl)) ?_ | refine mk_tab (by assumption) (by wtm_at "s") (by wtm_at "s") ?_))
local macro_rules | `(tactic| wtm_at "c") => `(tactic| fail)
local macro_rules | `(tactic| wtm_at "c") => `(tactic| refine c_bits (by assumption) (by wtm_at "s") ?_)
local macro_rules | `(tactic| wtm_at "c") => `(tactic| refine c_all_words _  ?_)
local macro_rules | `(tactic| wtm_at "c") => `(tactic| refine xe_check_person _ (by wtm_at "s") (by wtm_at "s") (by assumption) ?_)
local macro_rules | `(tactic| wtm_at "c") => `(tactic| refine xq_check_person _ (by wtm_at "s") (by wtm_at "s") (by assumption) ?_)
local macro_rules | `(tactic| wtm_at "c") => `(tactic| refine c_check_person _ (by wtm_at "s") (by wtm_at "s") (by assumption) ?_)
local macro_rules | `(tactic| wtm_at "c") => `(tactic| refine me_Person__init _ (by assumption) (by wtm_at "s") (by wtm_at "s") (by wtm_at "s") (by assumption) ?_)
local macro_rules | `(tactic| wtm_at "c") => `(tactic| refine mk_Person__init _ (by assumption) (by wtm_at "s") (by wtm_at "s") (by wtm_at "s") (by assumption) ?_)
local macro_rules | `(tactic| wtm_at "c") => `(tactic| refine me_Knower__init _ (by assumption) (by wtm_at "s") (by wtm_at "s") (by wtm_at "s") (by wtm_at "s") (by assumption) ?_)
local macro_rules | `(tactic| wtm_at "c") => `(tactic| refine mk_Knower__init _ (by assumption) (by wtm_at "s") (by wtm_at "s") (by wtm_at "s") (by wtm_at "s") (by assumption) ?_)
local macro_rules | `(tactic| wtm_at "c") => `(tactic| refine xe_check_word _  (by assumption) ?_)
local macro_rules | `(tactic| wtm_at "c") => `(tactic| refine xq_check_word _  (by assumption) ?_)
local macro_rules | `(tactic| wtm_at "c") => `(tactic| refine c_check_word _  (by assumption) ?_)
local macro_rules | `(tactic| wtm_at "c") => `(tactic| refine xe_Person_heard _ (by wtm_at "s") (by assumption) ?_)
local macro_rules | `(tactic| wtm_at "c") => `(tactic| refine xq_Person_heard _ (by wtm_at "s") (by assumption) ?_)
local macro_rules | `(tactic| wtm_at "c") => `(tactic| refine c_Person_heard _ (by wtm_at "s") (by assumption) ?_)
local macro_rules | `(tactic| wtm_at "c") => `(tactic| refine xe_Person_said _ (by wtm_at "s") (by wtm_at "s") (by wtm_at "s") (by wtm_at "s") (by wtm_at "s") (by assumption) ?_)
local macro_rules | `(tactic| wtm_at "c") => `(tactic| refine xf_Person_said _ (by wtm_at "s") (by wtm_at "s") (by wtm_at "s") (by wtm_at "s") (by wtm_at "s") (by assumption) ?_)
local macro_rules | `(tactic| wtm_at "c") => `(tactic| refine c_Person_said _ (by wtm_at "s") (by wtm_at "s") (by wtm_at "s") (by wtm_at "s") (by wtm_at "s") (by assumption) ?_)
local macro_rules | `(tactic| wtm_at "c") => `(tactic| refine xe_Doubter_said _ (by wtm_at "s") (by wtm_at "s") (by wtm_at "s") (by wtm_at "s") (by wtm_at "s") (by wtm_at "s") (by wtm_at "s") (by wtm_at "s") (by assumption) ?_)
local macro_rules | `(tactic| wtm_at "c") => `(tactic| refine xf_Doubter_said _ (by wtm_at "s") (by wtm_at "s") (by wtm_at "s") (by wtm_at "s") (by wtm_at "s") (by wtm_at "s") (by wtm_at "s") (by wtm_at "s") (by assumption) ?_)
local macro_rules | `(tactic| wtm_at "c") => `(tactic| refine c_Doubter_said _ (by wtm_at "s") (by wtm_at "s") (by wtm_at "s") (by wtm_at "s") (by wtm_at "s") (by wtm_at "s") (by wtm_at "s") (by wtm_at "s") (by assumption) ?_)
local macro_rules | `(tactic| wtm_at "c") => `(tactic| refine xe_Knower_said _ (by wtm_at "s") (by wtm_at "s") (by wtm_at "s") (by wtm_at "s") (by wtm_at "s") (by wtm_at "s") (by wtm_at "s") (by wtm_at "s") (by wtm_at "s") (by assumption) ?_)
local macro_rules | `(tactic| wtm_at "c") => `(tactic| refine xf_Knower_said _ (by wtm_at "s") (by wtm_at "s") (by wtm_at "s") (by wtm_at "s") (by wtm_at "s") (by wtm_at "s") (by wtm_at "s") (by wtm_at "s") (by wtm_at "s") (by assumption) ?_)
local macro_rules | `(tactic| wtm_at "c") => `(tactic| refine c_Knower_said _ (by wtm_at "s") (by wtm_at "s") (by wtm_at "s") (by wtm_at "s") (by wtm_at "s") (by wtm_at "s") (by wtm_at "s") (by wtm_at "s") (by wtm_at "s") (by assumption) ?_)
local macro_rules | `(tactic| wtm_at "c") => `(tactic| refine xe_KnowingDoubter_said _ (by wtm_at "s") (by wtm_at "s") (by wtm_at "s") (by wtm_at "s") (by wtm_at "s") (by wtm_at "s") (by wtm_at "s") (by wtm_at "s") (by wtm_at "s") (by wtm_at "s") (by assumption) ?_)
local macro_rules | `(tactic| wtm_at "c") => `(tactic| refine xf_KnowingDoubter_said _ (by wtm_at "s") (by wtm_at "s") (by wtm_at "s") (by wtm_at "s") (by wtm_at "s") (by wtm_at "s") (by wtm_at "s") (by wtm_at "s") (by wtm_at "s") (by wtm_at "s") (by assumption) ?_)
local macro_rules | `(tactic| wtm_at "c") => `(tactic| refine c_KnowingDoubter_said _ (by wtm_at "s") (by wtm_at "s") (by wtm_at "s") (by wtm_at "s") (by wtm_at "s") (by wtm_at "s") (by wtm_at "s") (by wtm_at "s") (by wtm_at "s") (by wtm_at "s") (by assumption) ?_)
local macro_rules | `(tactic| wtm_at "c") => `(tactic| refine c_Person_table _ (by wtm_at "s") ?_)
local macro_rules | `(tactic| wtm_at "c") => `(tactic| refine cq_Person_table _ (by assumption) (by assumption) ?_)
local macro_rules | `(tactic| wtm_at "c") => `(tactic| refine c_Knower_known _ (by wtm_at "s") (by wtm_at "s") (by wtm_at "s") (by wtm_at "s") ?_)
local macro_rules | `(tactic| wtm_at "c") => `(tactic| refine c_is_int (by assumption) ?_)
local macro_rules | `(tactic| wtm_at "c") => `(tactic| refine c_is_words (by assumption) ?_)
local macro_rules | `(tactic| wtm_at "c") => `(tactic| refine c_same _ (by assumption) (by wtm_at "s") ?_)
local macro_rules | `(tactic| wtm_at "c") => `(tactic| refine c_take 0 rfl (by wtm_at "s") (by wtm_at "s") ?_)
local macro_rules | `(tactic| wtm_at "c") => `(tactic| refine c_take 1 rfl (by wtm_at "s") (by wtm_at "s") ?_)
local macro_rules | `(tactic| wtm_at "c") => `(tactic| refine c_words (by assumption) rfl (by wtm_at "s") (by wtm_at "s") ?_)
local macro_rules | `(tactic| wtm_at "f") => `(tactic| first
    | refine f_own 0 rfl (by wtm_at "s") (by wtm_at "s") rfl ?_
    | refine f_ins (by wtm_at "s") (by wtm_at "s") rfl ?_
    | refine f_tab (x_size (x_v rfl) (Tx.c_Table (by assumption)) (Tx.na_Table_size (by assumption))) ?_
    | refine f_tab (x_masks (x_v rfl) (Tx.c_Table (by assumption)) (Tx.na_Table_masks (by assumption))) ?_
    | refine f_tab (x_cells (x_v rfl) (Tx.c_Table (by assumption)) (Tx.na_Table_cells (by assumption))) ?_)
local macro_rules | `(tactic| wtm_at "v") => `(tactic| first
    | ((with_reducible show EW _ _ _ (tVar _) _ _); refine e_v rfl ?_)
    | ((with_reducible show EW _ _ _ (tC (V.int _)) _ _); refine e_cn ?_)
    | ((with_reducible show EW _ _ _ (tC _) _ _); refine e_c ?_)
    | ((with_reducible show EW _ _ _ (tOp _ _ _) _ _); refine e_op ?_)
    | ((with_reducible show EW _ _ _ (tCB _ _) _ _); refine e_cb ?_)
    | ((with_reducible show EW _ _ _ (tCall _ _ _ _) _ _); refine e_call ?_)
    | ((with_reducible show EW _ _ _ (tCallS _ _ _) _ _); refine e_callS ?_)
    | ((with_reducible show EW _ _ _ (tFld _ _ _) _ _); refine e_fld _ ?_)
    | ((with_reducible show EW _ _ _ (tTup _) _ _); refine e_tup (by assumption) ?_)
    | ((with_reducible show EW _ _ _ (tLst _) _ _); refine e_lst (by assumption) ?_)
    | ((with_reducible show EW _ _ _ (tUn _ _) _ _); refine e_un ?_)
    | ((with_reducible show EW _ _ _ (tMake _ (spTab _ _) _ _ _) _ _); refine e_make ?_)
    | ((with_reducible show EW _ _ _ (tMakeS _ _ _ _) _ _); refine e_makeS ?_)
    | ((with_reducible show EW _ _ _ (tMeth _ _ _ _ _ _ _) _ _); refine e_meth ?_)
    | ((with_reducible show EW _ _ _ (tMethS _ _ _ _ _ _) _ _); refine e_methS ?_)
    | ((with_reducible show EW _ _ _ (tProp _ _ _ _ _) _ _); refine e_prop ?_)
    | ((with_reducible show EW _ _ _ (tLc (iList _ _) _ tYes _ _) _ _); apply e_lcL0; (focus (wtm_at "x")); (focus (wtm_at "s")); (focus (intro a ha; wtm_at "x")); (focus (wtm_at "j")))
    | ((with_reducible show EW _ _ _ (tLc (iTup _ _) _ tYes _ _) _ _); apply e_lcT0; (focus (wtm_at "x")); (focus (wtm_at "s")); (focus (intro a ha; wtm_at "x")); (focus (wtm_at "j")))
    | ((with_reducible show EW _ _ _ (tLc (iRng1 _) _ tYes _ _) _ _); apply e_lcR0 (by assumption); (focus (wtm_at "x")); (focus (wtm_at "s")); (focus (intro a ha; wtm_at "x")); (focus (wtm_at "j")))
    | ((with_reducible show EW _ _ _ (tLc (iList _ _) _ _ _ _) _ _); apply e_lcL; (focus (wtm_at "x")); (focus (wtm_at "s")); (focus (intro a ha; wtm_at "tr")); (focus (intro a ha hf; wtm_at "x")); (focus (wtm_at "j")))
    | ((with_reducible show EW _ _ _ (tLc (iTup _ _) _ _ _ _) _ _); apply e_lcT; (focus (wtm_at "x")); (focus (wtm_at "s")); (focus (intro a ha; wtm_at "tr")); (focus (intro a ha hf; wtm_at "x")); (focus (wtm_at "j")))
    | ((with_reducible show EW _ _ _ (tLc (iRng1 _) _ _ _ _) _ _); apply e_lcR (by assumption); (focus (wtm_at "x")); (focus (wtm_at "s")); (focus (intro a ha; wtm_at "tr")); (focus (intro a ha hf; wtm_at "x")); (focus (wtm_at "j")))
    | ((with_reducible show EW _ _ _ (tSl (rSlL _) _ tNoPart (tPart _)) _ _); apply e_slTo; (focus (wtm_at "x")))
    | ((with_reducible show EW _ _ _ (tSl (rSlL _) _ (tPart _) tNoPart) _ _); apply e_slFrom; (focus (wtm_at "x")))
    | ((with_reducible show EW _ _ _ (tAndV _ _) _ _); first | (apply e_and; (focus (wtm_at "x")); (focus (intro hq; wtm_at "x"))) | (apply e_x; (focus (apply x_and0; (focus (wtm_at "x")); wtm_at "bs"))))
    | ((with_reducible show EW _ _ _ (tOrV _ _) _ _); first | (apply e_or; (focus (wtm_at "x")); (focus (intro hq; wtm_at "x"))) | (apply e_x; (focus (apply x_or1; (focus (wtm_at "x")); wtm_at "bs"))))
    | ((with_reducible show EW _ _ _ (tMake _ (spIni _ _) _ _ _) _ _); refine e_makeI ?_ spIni_E)
    | ((with_reducible show EW _ _ _ (tSup _ _ _ _ _ _ _) _ _); refine e_sup rfl (by assumption) ?_)
    | ((with_reducible show EW _ _ _ (tNotV _) _ _); apply e_not; (focus (wtm_at "x")))
    | ((with_reducible show EW _ _ _ (tBM _ _ _ _ _) _ _); first | refine e_app 0 rfl ?_ rfl | refine e_app 1 rfl ?_ rfl | refine e_app 2 rfl ?_ rfl | refine e_app 3 rfl ?_ rfl))
local macro_rules | `(tactic| wtm_at "e1") => `(tactic| first
    | ((with_reducible show EW _ _ _ _ _ _); wtm_at "v")
    | ((with_reducible show EA _ _ _ _ _ _); first | refine a_cons ?_ | refine a_nil ?_)
    | ((with_reducible show OM _ _ _ _ _); first | wtm_at "o" | wtm_at "c")
    | ((with_reducible show AM _ _ _ _); wtm_at "a")
    | ((with_reducible show CM _ _ _ _); wtm_at "c")
    | ((with_reducible show XM _ _ _ _ _); wtm_at "c")
    | ((with_reducible show MkM _ _ _ _ _ _); wtm_at "c")
    | ((with_reducible show UM _ _ _ _); first | wtm_at "f" | refine um (x_neg (x_v rfl)) ?_ | wtm_at "c")
    | ((with_reducible show InsR _ _ _ ∧ _); first | refine ⟨ins_tab rfl, ?_⟩ | refine ⟨ins_ins rfl, ?_⟩ | refine ⟨ins_ins (by assumption), ?_⟩)
    | ((with_reducible show (∀ (v : V) (G : Hp), _ → ∃ a dx fs, _) ∧ _); refine ⟨ins_is, ?_⟩)
    | ((with_reducible show And (@LE.le Nat _ _ _) _); refine ⟨Nat.le_of_ble_eq_true rfl, ?_⟩)
    | ((with_reducible show ∃ rs : List Rp, _ ∧ _ ∧ _); refine ⟨_, rfl, by wtm_at "s", ?_⟩)
    | ((with_reducible show ∃ rs : List Rp, _ = rL _ rs ∧ _); refine ⟨_, rfl, ?_⟩)
    | ((with_reducible show ∃ fs : FL, _ ∧ _ ∧ _ ∧ _); refine ⟨_, rfl, rfl, Nat.le_of_ble_eq_true rfl, ?_⟩)
    | ((with_reducible show _ = _ ∧ _ = ([] : List Re)); first | exact ⟨rfl, rfl⟩ | exact ⟨by wtm_at "q", rfl⟩))
local macro_rules | `(tactic| wtm_at "q") => `(tactic| first | rfl | exact congrArg nI (by omega) | exact congrArg Mu.rI (by omega) | exact congrArg rB (by wtm_at "b"))
local macro_rules | `(tactic| wtm_at "b") => `(tactic| first | rfl | (rw [Bool.eq_iff_iff]; simp; omega))
local macro_rules | `(tactic| wtm_at "e") => `(tactic| repeat wtm_at "e1")
local macro_rules | `(tactic| wtm_at "co") => `(tactic| fail)
local macro_rules | `(tactic| wtm_at "co") => `(tactic| refine xo_Person_said _ (by wtm_at "s") (by wtm_at "s") (by wtm_at "s") (by wtm_at "s") (by wtm_at "s") (by assumption) ?_)
local macro_rules | `(tactic| wtm_at "co") => `(tactic| refine o_Person_said _ (by wtm_at "s") (by wtm_at "s") (by wtm_at "s") (by wtm_at "s") (by wtm_at "s") (by assumption) ?_)
local macro_rules | `(tactic| wtm_at "co") => `(tactic| refine xo_Doubter_said _ (by wtm_at "s") (by wtm_at "s") (by wtm_at "s") (by wtm_at "s") (by wtm_at "s") (by wtm_at "s") (by wtm_at "s") (by wtm_at "s") (by assumption) ?_)
local macro_rules | `(tactic| wtm_at "co") => `(tactic| refine o_Doubter_said _ (by wtm_at "s") (by wtm_at "s") (by wtm_at "s") (by wtm_at "s") (by wtm_at "s") (by wtm_at "s") (by wtm_at "s") (by wtm_at "s") (by assumption) ?_)
local macro_rules | `(tactic| wtm_at "co") => `(tactic| refine xo_Knower_said _ (by wtm_at "s") (by wtm_at "s") (by wtm_at "s") (by wtm_at "s") (by wtm_at "s") (by wtm_at "s") (by wtm_at "s") (by wtm_at "s") (by wtm_at "s") (by assumption) ?_)
local macro_rules | `(tactic| wtm_at "co") => `(tactic| refine o_Knower_said _ (by wtm_at "s") (by wtm_at "s") (by wtm_at "s") (by wtm_at "s") (by wtm_at "s") (by wtm_at "s") (by wtm_at "s") (by wtm_at "s") (by wtm_at "s") (by assumption) ?_)
local macro_rules | `(tactic| wtm_at "co") => `(tactic| refine xo_KnowingDoubter_said _ (by wtm_at "s") (by wtm_at "s") (by wtm_at "s") (by wtm_at "s") (by wtm_at "s") (by wtm_at "s") (by wtm_at "s") (by wtm_at "s") (by wtm_at "s") (by wtm_at "s") (by assumption) ?_)
local macro_rules | `(tactic| wtm_at "co") => `(tactic| refine o_KnowingDoubter_said _ (by wtm_at "s") (by wtm_at "s") (by wtm_at "s") (by wtm_at "s") (by wtm_at "s") (by wtm_at "s") (by wtm_at "s") (by wtm_at "s") (by wtm_at "s") (by wtm_at "s") (by assumption) ?_)
local macro_rules | `(tactic| wtm_at "co") => `(tactic| refine o_Knower_known _ (by wtm_at "s") (by wtm_at "s") (by wtm_at "s") (by wtm_at "s") ?_)
local macro_rules | `(tactic| wtm_at "co") => `(tactic| refine o_words (by assumption) rfl (by wtm_at "s") (by wtm_at "s") ?_)
local macro_rules | `(tactic| wtm_at "eo") => `(tactic| repeat first | ((with_reducible show CM _ _ _ _); wtm_at "co") | ((with_reducible show XM _ _ _ _ _); wtm_at "co") | wtm_at "e1")
local macro_rules | `(tactic| wtm_at "x") => `(tactic| first | exact x_v rfl | exact x_c | (apply EvX.by; intro W ε; (wtm_at "e"); done))
local macro_rules | `(tactic| wtm_at "t") => `(tactic| first
    | ((with_reducible show EvTX _ tYes _); exact t_yes)
    | ((with_reducible show EvTX _ (tAnd _ _) _); first | (apply t_and; (focus (wtm_at "t")); (focus (intro hq; wtm_at "t"))) | (apply t_and0; (focus (wtm_at "t")); wtm_at "bs"))
    | ((with_reducible show EvTX _ (tOr _ _) _); first | (apply t_or; (focus (wtm_at "t")); (focus (intro hq; wtm_at "t"))) | (apply t_or1; (focus (wtm_at "t")); wtm_at "bs"))
    | ((with_reducible show EvTX _ (tNot _) _); apply t_not; wtm_at "t")
    | ((with_reducible show EvTX _ (tTest (tChain _ _ _ _ _)) _); apply t_chain; (focus (wtm_at "x")); (focus (wtm_at "x")); (focus (wtm_at "x")))
    | ((with_reducible show EvTX _ (tTest _) _); apply t_T; wtm_at "x")
    | ((with_reducible show EvTX _ (tB _) _); apply t_B; wtm_at "x"))
local macro_rules | `(tactic| wtm_at "tq") => `(tactic| (apply t_is; (focus (wtm_at "t")); try wtm_at "b"))
local macro_rules | `(tactic| wtm_at "if") => `(tactic| (apply w_if; (focus (wtm_at "t"))))
local macro_rules | `(tactic| wtm_at "ifc") => `(tactic| (refine ws_if ?_; (repeat first | refine w_tNot ?_ | refine w_tB ?_ | refine w_t ?_ | wtm_at "e1" | ((with_reducible show ∃ c : Bool, _ = rB c ∧ _); refine ⟨_, rfl, ?_⟩)); refine ⟨?_, ?_⟩))
local macro_rules | `(tactic| wtm_at "w1") => `(tactic| first
    | ((with_reducible show WP _ _ _ (tSeq _ _) _); refine w_seq ?_)
    | ((with_reducible show WP _ _ _ (tAsg _ (gName _)) _); refine ws_set ?_; (wtm_at "e"); dsimp only [List.set])
    | ((with_reducible show WP _ _ _ (tRet _) _); refine ws_ret ?_; (wtm_at "e"))
    | ((with_reducible show WP _ _ _ (sFld _ (tVar _) _ _) _); refine ws_fld 0 rfl rfl (by wtm_at "s") (by wtm_at "s") ?_; (wtm_at "e"); dsimp only [List.set])
    | ((with_reducible show WP _ _ _ (tDrop _) _); refine ws_do ?_; (wtm_at "e"))
    | ((with_reducible show WP _ _ _ tNext _); (refine w_nx ?_))
    | ((with_reducible show WP _ _ _ tRetN _); refine w_ret0 ?_))
local macro_rules | `(tactic| wtm_at "w") => `(tactic| repeat ((try dsimp only); wtm_at "w1"))
theorem sc__law_outs : FnScope ["_law_box_here", "_law_n", "_law_kind", "_law_outs_here"] ["_law_box_here", "_law_n"] (defScope s__law_outs) := ⟨rfl, rfl, rfl, by decide +kernel, rfl, by decide +kernel, by decide +kernel⟩
theorem b__law_outs (T : Tx P K mg) : Binds K T.fd__law_outs ["_law_box_here", "_law_n"] [] := T.F__law_outs.bindsN fun _ _ _ _ _ _ us hl => match us, hl with | [_, _], _ => rfl
def R_law_outs (K : PySem.W.Frag) : List V → Hp → (List Rp → Prop) → Prop := fun vs G PP => ∃ (n : Nat), RA G vs [nI n] ∧ (1 ≤ n) ∧ (n ≤ 6) ∧ PP = fun rs => ∃ (l : List Nat), (l ≠ [] ∧ l.length ≤ 6 ∧ ∀ w ∈ l, w < n) ∧ rs = l.map nI
theorem ok__law_outs (T : Tx P K mg) : FnOk P w K mg base CX0 3 T.f__law_outs T.fd__law_outs ["_law_box_here", "_law_n"] (spBN K (R_law_outs K)) := by
  refine T.F__law_outs.ok sc__law_outs (fun vs H Q E h => ?_) (fun cdv A outer s H vs Q E hr h => ?_)
  · obtain ⟨G, b, ws, PP, rfl, _, _, _, ⟨n, ra, _⟩, _⟩ := h
    show ws.length + 1 = _
    rw [ra.len]; rfl
  · obtain ⟨G, b, ws, PP, rfl, e, gb, hbox, ⟨n, ra, q0, q1, rfl⟩, k⟩ := h
    refine ⟨_, PSs.nox (pss_cons (ps_set (i := 2) sc__law_outs.nd rfl (Or.inl rfl) (pe_call (ok__law_take T) (hr.mono (by decide)) (by rfl) T.g__law_take T.F__law_take.kp (b__law_take T) .nil pass0 (pa_cons (pv 0) (pa_cons pe_int pa_nil))))
      (pss_cons (ps_if (pt_cmpR op_eq (pv 2) pe_int (nomark _)) (pss_one (ps_ret (pe_call (ok__law_words T) (hr.mono (by decide)) (by rfl) T.g__law_words T.F__law_words.kp (b__law_words T) .nil pass0 (pa_cons (pv 0) (pa_cons (pv 1) (pa_cons pe_int pa_nil)))))) pss_nil)
      (pss_cons (ps_set (i := 3) sc__law_outs.nd rfl (Or.inl rfl) (pe_lst (pa_cons (pe_call (ok__law_take T) (hr.mono (by decide)) (by rfl) T.g__law_take T.F__law_take.kp (b__law_take T) .nil pass0 (pa_cons (pv 0) (pa_cons (pv 1) pa_nil))) pa_nil)))
      (pss_cons (ps_if (pt_cmpR op_eq (pv 2) pe_int (nomark _)) (pss_one (ps_expr (pe_bm PySem.F.plainAttrs_list PySem.F.slot_list_append PySem.F.type_list_append mt_append (pv 3) (pa_cons (pe_call (ok__law_take T) (hr.mono (by decide)) (by rfl) T.g__law_take T.F__law_take.kp (b__law_take T) .nil pass0 (pa_cons (pv 0) (pa_cons (pv 1) pa_nil))) pa_nil)))) pss_nil)
      (pss_one (ps_ret (pv 3))))))), ?_⟩
    refine run_BN (W := fun _ _ _ _ => False) (K := K) (b := b) (P := fun rs => ∃ (l : List Nat), (l ≠ [] ∧ l.length ≤ 6 ∧ ∀ w ∈ l, w < n) ∧ rs = l.map nI) (Γ := [some (rV (.ref b)), some (nI n), none, none]) ?_ e gb hbox (En.start (k := 2) _ (rs := rV (.ref b) :: [nI n]) (.cons rfl ra) (by show _ - (ws.length + 1) = _; rw [ra.len]; rfl)) k
    clear ra e k gb hbox
    have hp2 : 1 < 2 ^ n := Nat.one_lt_two_pow (by omega)
    refine w_seq (ws_set ?_)
    wtm_at "e"
    intro kd hkd
    try dsimp only [List.set]
    refine w_seq ?_
    wtm_at "if"
    all_goals intro hb
    · refine ws_ret ?_
      wtm_at "eo"
      intro mask hm1 hm2 p
      refine ⟨_, p, ⟨bitsN mask, ⟨fun z => ?_, Nat.le_trans (bits_len hm2) q1, fun w hw => bit_lt hm2 (mem_bits.mp hw)⟩, rfl⟩, rfl, rfl⟩
      have : maskN (bitsN mask) = mask := maskN_bits mask
      rw [z] at this
      simp [maskN] at this
      omega
    refine w_nx ?_
    refine w_seq (ws_set (e_lstN ?_))
    wtm_at "e"
    intro d hd
    wtm_at "e"
    intro p
    try dsimp only [List.set, List.cons_append, List.nil_append]
    refine w_seq ?_
    wtm_at "if"
    all_goals intro hb2
    · wtm_at "w"
      intro d2 hd2
      wtm_at "e"
      wtm_at "w"
      exact ⟨_, p, ⟨[d, d2], ⟨by simp, by simp, fun w hw => by simp at hw; omega⟩, rfl⟩, rfl, rfl⟩
    · wtm_at "w"
      exact ⟨_, p, ⟨[d], ⟨by simp, by simp, fun w hw => by simp at hw; omega⟩, rfl⟩, rfl, rfl⟩
theorem c_law_outs (T : Tx P K mg) {M : List Re} {κ : KV} {b : Addr} {n : Nat} (hk : M[0]? = some (boxR K b)) (q0 : 1 ≤ n) (q1 : n ≤ 6) (k : ∀ (l : List Nat), (l ≠ [] ∧ l.length ≤ 6 ∧ ∀ w ∈ l, w < n) → κ (rL K (l.map nI)) M) : CM (spBN K (R_law_outs K)) (rV (.ref b) :: [nI n]) M κ := c_BNf K 0 hk (fun vs G ra => ⟨n, ra, q0, q1, rfl⟩) fun ss h => by
  obtain ⟨l, hc, rfl⟩ := h
  exact k l hc
theorem o_law_outs (T : Tx P K mg) {M : List Re} {κ : KV} {b : Addr} {n : Nat} (hk : M[0]? = some (boxR K b)) (q0 : 1 ≤ n) (q1 : n ≤ 6) (k : ∀ (l : List Nat), (l ≠ [] ∧ l.length ≤ 6 ∧ ∀ w ∈ l, w < n) → ∀ p, κ (rV (.ref p)) (M ++ [lstR p (l.map nI)])) : CM (spBN K (R_law_outs K)) (rV (.ref b) :: [nI n]) M κ := c_BN 0 hk (fun vs G ra => ⟨n, ra, q0, q1, rfl⟩) fun ss h p => by
  obtain ⟨l, hc, rfl⟩ := h
  exact k l hc p
local macro_rules | `(tactic| wtm_at "co") => `(tactic| refine o_law_outs (by assumption) rfl (by wtm_at "s") (by wtm_at "s") ?_)
local macro_rules | `(tactic| wtm_at "c") => `(tactic| refine c_law_outs (by assumption) rfl (by wtm_at "s") (by wtm_at "s") ?_)
theorem sc__law_person : FnScope ["_law_box_here", "_law_n", "_law_hears", "_law_k", "_law_says", "_law_rows", "_law_word", "_law_out"] ["_law_box_here", "_law_n"] (defScope s__law_person) := ⟨rfl, rfl, rfl, by decide +kernel, rfl, by decide +kernel, by decide +kernel⟩
theorem b__law_person (T : Tx P K mg) : Binds K T.fd__law_person ["_law_box_here", "_law_n"] [] := T.F__law_person.bindsN fun _ _ _ _ _ _ us hl => match us, hl with | [_, _], _ => rfl
structure PerOk (n : Nat) (h : List Nat) (s : List (List Nat)) : Prop where
  hl : h.length = n
  hw : ∀ w ∈ h, w < n
  sl : s.length = n
  sw : ∀ l ∈ s, l ≠ [] ∧ l.length ≤ 6 ∧ ∀ w ∈ l, w < n
def perRow (n : Nat) (h : List Nat) (s : List (List Nat)) (w : Nat) : List Nat := (List.range n).filter fun o => decide (o ∈ s.getD (h.getD w 0) [])
def perRs (K : PySem.W.Frag) (n : Nat) (h : List Nat) (s : List (List Nat)) : List Rp := [rLn K h, rLL K s, rLL K ((List.range n).map (perRow n h s))]

def R_law_person (K : PySem.W.Frag) : List V → Hp → (List Rp → Prop) → Prop := fun vs G PP => ∃ (n : Nat), RA G vs [nI n] ∧ (1 ≤ n) ∧ (n ≤ 6) ∧ PP = fun rs => ∃ (h : List Nat) (s : List (List Nat)), (PerOk n h s) ∧ rs = perRs K n h s
theorem ok__law_person (T : Tx P K mg) : FnOk P w K mg base CX0 4 T.f__law_person T.fd__law_person ["_law_box_here", "_law_n"] (spBN K (R_law_person K)) := by
  refine T.F__law_person.ok sc__law_person (fun vs H Q E h => ?_) (fun cdv A outer s H vs Q E hr h => ?_)
  · obtain ⟨G, b, ws, PP, rfl, _, _, _, ⟨n, ra, _⟩, _⟩ := h
    show ws.length + 1 = _
    rw [ra.len]; rfl
  · obtain ⟨G, b, ws, PP, rfl, e, gb, hbox, ⟨n, ra, q0, q1, rfl⟩, k⟩ := h
    refine ⟨_, PSs.nox (pss_cons (ps_set (i := 2) sc__law_person.nd rfl (Or.inr rfl) (pe_listRg (by rfl) (by rfl) T.m_list (prg_1 (by rfl) T.m_range (pv 1))))
      (pss_cons (ps_if (pt_cmpR op_eq (pe_call (ok__law_take T) (hr.mono (by decide)) (by rfl) T.g__law_take T.F__law_take.kp (b__law_take T) .nil pass0 (pa_cons (pv 0) (pa_cons pe_int pa_nil))) pe_int (nomark _)) (pss_one (ps_set (i := 2) sc__law_person.nd rfl (Or.inr rfl) (pe_lc (own := [("_law_k", 3)]) (by rfl) sc__law_person.nd (pi_range1 (by rfl) T.m_range (pa_cons (pv 1) pa_nil)) (blkOk_by (N := ["_law_box_here", "_law_n", "_law_hears", "_law_k", "_law_says", "_law_rows", "_law_word", "_law_out"]) (sc := defScope s__law_person) (by decide +kernel)) (fun _ _ _ _ _ => (pg_name (i := 3) sc__law_person.nd rfl (Or.inl rfl))) (fun _ _ _ _ _ => pts_nil) (fun _ _ _ _ _ => (pe_call (ok__law_take T) (hr.mono (by decide)) (by rfl) T.g__law_take T.F__law_take.kp (b__law_take T) .nil pass0 (pa_cons (pv 0) (pa_cons (pv 1) pa_nil))))))) pss_nil)
      (pss_cons (ps_set (i := 4) sc__law_person.nd rfl (Or.inr rfl) (pe_lc (own := [("_law_k", 3)]) (by rfl) sc__law_person.nd (pi_range1 (by rfl) T.m_range (pa_cons (pv 1) pa_nil)) (blkOk_by (N := ["_law_box_here", "_law_n", "_law_hears", "_law_k", "_law_says", "_law_rows", "_law_word", "_law_out"]) (sc := defScope s__law_person) (by decide +kernel)) (fun _ _ _ _ _ => (pg_name (i := 3) sc__law_person.nd rfl (Or.inl rfl))) (fun _ _ _ _ _ => pts_nil) (fun _ _ _ _ _ => (pe_call (ok__law_outs T) (hr.mono (by decide)) (by rfl) T.g__law_outs T.F__law_outs.kp (b__law_outs T) .nil pass0 (pa_cons (pv 0) (pa_cons (pv 1) pa_nil))))))
      (pss_cons (ps_set (i := 5) sc__law_person.nd rfl (Or.inl rfl) (pe_lst pa_nil))
      (pss_cons (ps_for PassesOwn.never rfl (pi_range1 (by rfl) T.m_range (pa_cons (pv 1) pa_nil)) (pg_name (i := 6) sc__law_person.nd rfl (Or.inr rfl)) (pss_one (ps_expr (pe_bm PySem.F.plainAttrs_list PySem.F.slot_list_append PySem.F.type_list_append mt_append (pv 5) (pa_cons (pe_lc (own := [("_law_out", 7)]) (by rfl) sc__law_person.nd (pi_range1 (by rfl) T.m_range (pa_cons (pv 1) pa_nil)) (blkOk_by (N := ["_law_box_here", "_law_n", "_law_hears", "_law_k", "_law_says", "_law_rows", "_law_word", "_law_out"]) (sc := defScope s__law_person) (by decide +kernel)) (fun _ _ _ _ _ => (pg_name (i := 7) sc__law_person.nd rfl (Or.inl rfl))) (fun _ _ _ _ _ => (pts_one (pt_cmpR (op_inK K) (pv 7) (pe_ix (ix_listK K) (pv 4) (pe_ix (ix_listK K) (pv 2) (pv 6) (fun _ _ => rfl)) (fun _ _ => rfl)) rfl))) (fun _ _ _ _ _ => (pv 7))) pa_nil)))))
      (pss_one (ps_ret (pe_lst (pa_cons (pv 2) (pa_cons (pv 4) (pa_cons (pv 5) pa_nil))))))))))), ?_⟩
    refine run_BN (W := fun _ _ _ _ => False) (K := K) (b := b) (P := fun rs => ∃ (h : List Nat) (s : List (List Nat)), (PerOk n h s) ∧ rs = perRs K n h s) (Γ := [some (rV (.ref b)), some (nI n), none, none, none, none, none, none]) ?_ e gb hbox (En.start (k := 6) _ (rs := rV (.ref b) :: [nI n]) (.cons rfl ra) (by show _ - (ws.length + 1) = _; rw [ra.len]; rfl)) k
    clear ra e k gb hbox
    refine w_seq (ws_set (e_xn K (xn_listRg (x_v rfl) (by omega)) ?_))
    try dsimp only [List.set]
    refine w_cut (fun h : List Nat => h.length = n ∧ ∀ w ∈ h, w < n) (fun h => [some (rV (.ref b)), some (nI n), some (rLn K h), none, none, none, none, none]) ?_ fun h hh => ?_
    · refine ws_if ?_
      refine w_t ?_
      wtm_at "e"
      intro d hd
      wtm_at "e"
      refine ⟨_, rfl, fun hb => ?_, fun hb => ?_⟩
      · refine ws_set (e_lcDf (fun d : Nat => d < n) nI K (by wtm_at "x") (by omega) (fun i R W hi => ?_) (by wtm_at "j") fun l hl1 hl2 => ?_)
        · wtm_at "e"
          intro d hd
          exact ⟨⟨d, hd, rfl⟩, rfl⟩
        · exact ⟨l, ⟨hl1, hl2⟩, by wtm_at "sub", rfl⟩
      · exact w_nx ⟨List.range n, ⟨List.length_range, fun w hw => List.mem_range.mp hw⟩, by wtm_at "sub", rfl⟩
    obtain ⟨hh1, hh2⟩ := hh
    refine w_seq (ws_set (e_lcDf (fun l : List Nat => l ≠ [] ∧ l.length ≤ 6 ∧ ∀ w ∈ l, w < n) (rLn K) K (by wtm_at "x") (by omega) (fun i R W hi => ?_) (by wtm_at "j") fun s hs1 hs2 => ?_))
    · wtm_at "e"
      intro l hl
      exact ⟨⟨l, hl, rfl⟩, rfl⟩
    try dsimp only [List.set]
    rw [show rL K (s.map (rLn K)) = rLL K s from rfl]
    refine w_seq (ws_set (e_lstN (a_nil ⟨by decide, fun p => ?_⟩)))
    try dsimp only [List.set, List.cons_append, List.nil_append]
    refine w_seq (w_forR n (fun i (_ : Unit) => True) (fun _ _ => [some (rV (.ref b)), some (nI n), some (rLn K h), none, some (rLL K s), some (rV (.ref p)), none, none]) (fun i _ => [boxR K b, lstR p ((List.range i).map fun w => rLn K (perRow n h s w))]) (by wtm_at "x") (by omega) () trivial (by wtm_at "sub") rfl (fun i _ hi _ => ?_) (fun _ _ => ?_))
    · dsimp only [List.set]
      have hg : h.getD i 0 < s.length := by
        rw [hs1]
        have : i < h.length := by omega
        rw [List.getD_eq_getElem?_getD, List.getElem?_eq_getElem this]
        exact hh2 _ (List.getElem_mem _)
      refine ws_do ?_
      wtm_at "e"
      refine ⟨(), trivial, by wtm_at "sub", ?_⟩
      dsimp only [List.set]
      rw [List.range_succ, List.map_append]
      rfl
    · refine w_frz K 1 5 rfl rfl ?_
      dsimp only [List.set, List.eraseIdx]
      refine ws_ret (e_lstN ?_)
      wtm_at "e"
      intro q
      refine ⟨_, q, ⟨h, s, ⟨hh1, hh2, hs1, hs2⟩, ?_⟩, rfl, rfl⟩
      unfold perRs
      rw [show ((List.range n).map fun w => rLn K (perRow n h s w)) = ((List.range n).map (perRow n h s)).map (rLn K) by rw [List.map_map]; rfl]
      rfl
theorem c_law_person (T : Tx P K mg) {M : List Re} {κ : KV} {b : Addr} {n : Nat} (hk : M[0]? = some (boxR K b)) (q0 : 1 ≤ n) (q1 : n ≤ 6) (k : ∀ (h : List Nat) (s : List (List Nat)), (PerOk n h s) → κ (rL K (perRs K n h s)) M) : CM (spBN K (R_law_person K)) (rV (.ref b) :: [nI n]) M κ := c_BNf K 0 hk (fun vs G ra => ⟨n, ra, q0, q1, rfl⟩) fun ss h => by
  obtain ⟨h, s, hc, rfl⟩ := h
  exact k h s hc
theorem o_law_person (T : Tx P K mg) {M : List Re} {κ : KV} {b : Addr} {n : Nat} (hk : M[0]? = some (boxR K b)) (q0 : 1 ≤ n) (q1 : n ≤ 6) (k : ∀ (h : List Nat) (s : List (List Nat)), (PerOk n h s) → ∀ p, κ (rV (.ref p)) (M ++ [lstR p (perRs K n h s)])) : CM (spBN K (R_law_person K)) (rV (.ref b) :: [nI n]) M κ := c_BN 0 hk (fun vs G ra => ⟨n, ra, q0, q1, rfl⟩) fun ss h p => by
  obtain ⟨h, s, hc, rfl⟩ := h
  exact k h s hc p
local macro_rules | `(tactic| wtm_at "co") => `(tactic| refine o_law_person (by assumption) rfl (by wtm_at "s") (by wtm_at "s") ?_)
local macro_rules | `(tactic| wtm_at "c") => `(tactic| refine c_law_person (by assumption) rfl (by wtm_at "s") (by wtm_at "s") ?_)
theorem sc__law_mixed : FnScope ["_law_box_here", "_law_words_here", "_law_given"] ["_law_box_here", "_law_words_here"] (defScope s__law_mixed) := ⟨rfl, rfl, rfl, by decide +kernel, rfl, by decide +kernel, by decide +kernel⟩
theorem b__law_mixed (T : Tx P K mg) : Binds K T.fd__law_mixed ["_law_box_here", "_law_words_here"] [] := T.F__law_mixed.bindsN fun _ _ _ _ _ _ us hl => match us, hl with | [_, _], _ => rfl
def R_mixed (K : PySem.W.Frag) : List V → Hp → (List Rp → Prop) → Prop := fun ws G PP => ∃ (x : V) (l : List Nat), ws = [x] ∧ (rLn K l).p x G ∧ l.length ≤ 100 ∧ PP = fun rs => ∃ l' : List Nat, (∀ w, w ∈ l' ↔ w ∈ l) ∧ l'.length ≤ l.length + 1 ∧ rs = l'.map nI
theorem ok__law_mixed (T : Tx P K mg) : FnOk P w K mg base CX0 2 T.f__law_mixed T.fd__law_mixed ["_law_box_here", "_law_words_here"] (spBN K (R_mixed K)) := by
  refine T.F__law_mixed.ok sc__law_mixed (fun vs H Q E h => ?_) (fun cdv A outer s H vs Q E hr h => ?_)
  · obtain ⟨G, b, ws, PP, rfl, _, _, _, ⟨x, l, rfl, _⟩, _⟩ := h
    rfl
  · obtain ⟨G, b, ws, PP, rfl, e, gb, hbox, ⟨x, l, rfl, hx, hl, rfl⟩, k⟩ := h
    refine ⟨_, PSs.nox (pss_cons (ps_set (i := 2) sc__law_mixed.nd rfl (Or.inl rfl) (pe_callTy (call_listK K) (by rfl) T.m_list (by decide +kernel) (pa_cons (pv 1) pa_nil)))
      (pss_cut (ps_if (pt_cmpR op_eq (pe_call (ok__law_take T) (hr.mono (by decide)) (by rfl) T.g__law_take T.F__law_take.kp (b__law_take T) .nil pass0 (pa_cons (pv 0) (pa_cons pe_int pa_nil))) pe_int (nomark _)) (pss_one (ps_expr (pe_bm0 PySem.F.plainAttrs_list PySem.F.slot_list_reverse PySem.F.type_list_reverse mt_reverse (pv 2)))) pss_nil)
      (pss_cons (ps_if (PW.pt (pw_and (pt_cmpR (op_neK K hr.units) (pv 2) (pe_lst pa_nil) (nomark _)) (pw_and1 (pt_cmpR op_eq (pe_call (ok__law_take T) (hr.mono (by decide)) (by rfl) T.g__law_take T.F__law_take.kp (b__law_take T) .nil pass0 (pa_cons (pv 0) (pa_cons pe_int pa_nil))) pe_int (nomark _))))) (pss_one (ps_expr (pe_bm PySem.F.plainAttrs_list PySem.F.slot_list_append PySem.F.type_list_append mt_append (pv 2) (pa_cons (pe_ix (ix_listK K) (pv 2) (pe_call (ok__law_take T) (hr.mono (by decide)) (by rfl) T.g__law_take T.F__law_take.kp (b__law_take T) .nil pass0 (pa_cons (pv 0) (pa_cons (pe_callB (call_lenK K) (by rfl) T.m_len PySem.boot_len (pa_cons (pv 2) pa_nil)) pa_nil))) (fun _ _ => rfl)) pa_nil)))) pss_nil)
      (pss_one (ps_ret (pv 2)))))), ?_⟩
    refine sq (s_setN e (en_listL (ed_var rfl hx)) fun p vs G1 H1 g1 hp gp h1 ra => ?_)
    have ev := ra_nats_eq ra
    subst ev
    have hpb : p ≠ b := fun z => by
      subst z
      obtain ⟨o, z2⟩ := hbox.at_
      rw [z2] at hp; cases hp
    have gb1 : G1 b = none := by obtain ⟨o, z⟩ := hbox.at_; exact g1.n b o z gb
    refine ⟨fun σ' H' => ∃ (G' : Hp) (l' : List Nat), σ' = [some (V.ref b), some x, some (.ref p)] ∧ GrB b G H G' H' ∧ Box K G' H' b ∧ G' p = none ∧ H' p = some (.lst (l'.map fun (n : Nat) => V.int (n : Int))) ∧ (∀ w, w ∈ l' ↔ w ∈ l) ∧ l'.length = l.length, ?_, ?_⟩
    · refine s_ifB g1.i gb1 (hbox.mono g1.g g1.h) (et_bN (f := fun d => decide (V.int (d : Int) = V.int 1)) (eb_opN' (eb_take (m := 2) rfl ev_c (by decide) (by decide)) (fun _ _ => ev_c) (fun d => .bl (decide (V.int (d : Int) = V.int 1))) fun d _ H Q q => ⟨rfl, q⟩)) (fun _ G2 H2 g2 hb2 => ?_) (fun _ G2 H2 g2 hb2 => ?_)
      · have g12 := g1.b.trans gb hbox.at_ g2 (hbox.mono g1.g g1.h).at_
        have gp2 : G2 p = none := g2.n _ _ h1 gp
        refine s_rev (g2.h _ _ h1 hpb) (ev_var rfl) fun H3 e3 => ?_
        refine ⟨G2, l.reverse, rfl, g12.app hp gb hbox.at_ hb2.at_ (Ex.refl G2) (fun a o z n nb => by rw [upd_ne n]; exact e3 _ _ z) (Ex.mut (g2.i.trans e3) gp2) (fun _ _ _ z => z), hb2.mono' (Ex.refl G2) (fun o z => by rw [upd_ne (Ne.symm hpb)]; exact e3 _ _ z), gp2, by rw [upd_same, List.map_reverse], fun w => List.mem_reverse, List.length_reverse⟩
      · exact nxt ⟨G2, l, rfl, g1.b.trans gb hbox.at_ g2 (hbox.mono g1.g g1.h).at_, hb2, g2.n _ _ h1 gp, g2.h _ _ h1 hpb, fun _ => Iff.rfl, rfl⟩
    · rintro σ' H' ⟨G', l', rfl, g, hbx, gp', hp', hm, hlen⟩
      have gb' : G' b = none := g.out gb hbox.at_
      have gbu : (upd G' p (.lst (l'.map fun (n : Nat) => V.int (n : Int)))) b = none := by rw [upd_ne (Ne.symm hpb)]; exact gb'
      have hself : (rLn K l').p (.ref p) (upd G' p (.lst (l'.map fun (n : Nat) => V.int (n : Int)))) := ⟨p, _, rfl, upd_same, ra_nats⟩
      refine sq (s_ifBI (ex_add g.i hp') gbu (hbx.mono (Ex.new gp') (Ex.refl H')) (etbi_and (et_neLn (ed_var rfl hself) (EvN.d (rs := ([] : List Nat).map nI) (en_lst ead_nil (by decide)))) fun _ => etbi_eq (ebi_take (m := 3) rfl ev_c (by decide) (by decide))) (fun hP H2 k2 s2 => ?_) (fun _ H2 k2 s2 => ?_))
      · have hne : l' ≠ [] := by
          rcases hP with ⟨_, z⟩ | ⟨z, _⟩
          · cases z
          · intro q; rw [q] at z; simp at z
        have hpos : 0 < l'.length := List.length_pos_iff.mpr hne
        have g2 := g.same gb' k2
        refine s_appBI g2.i gb' (s2 G' hbx) (k2 _ _ hp' hpb) gp' hpb rfl (ebi_ix rfl hself (ebi_take rfl (ev_lenL (ed_var rfl hself) (List.length_map _)) hpos (by omega)) (Nat.le_refl _)) (by rw [List.length_map]; omega) fun v H3 hv k3 hb3 hp3 => ?_
        obtain ⟨w, hw, rfl⟩ := hv
        dsimp only
        refine s_retE (Ex.refl H3) (ev_var rfl) fun H4 e4 => ?_
        have g3 : GrB b G H G' H3 := g2.app hp gb hbox.at_ (s2 G' hbx).at_ (Ex.refl G') k3 (fun a o z => k3 a o (g2.i a o z) (fun q => by subst q; rw [gp'] at z; cases z) (fun q => by subst q; rw [gb'] at z; cases z)) (fun _ _ _ z => z)
        refine k _ p _ G' H4 ⟨l' ++ [w], fun u => ?_, by rw [List.length_append, hlen]; exact Nat.le_refl _, rfl⟩ (g3.more e4) (hb3.mono (Ex.refl G') e4) hp gp' (e4 _ _ hp3) ?_
        · rw [List.mem_append, hm u]
          constructor
          · rintro (z | z)
            · exact z
            · simp at z; rw [z]; exact (hm w).mp hw
          · exact .inl
        · rw [List.map_append]; exact ra_nats.append (.cons rfl .nil)
      · refine nxt ?_
        dsimp only
        refine s_retE (Ex.refl H2) (ev_var rfl) fun H4 e4 => ?_
        exact k _ p _ G' H4 ⟨l', hm, by omega, rfl⟩ ((g.same gb' k2).more e4) ((s2 G' hbx).mono (Ex.refl G') e4) hp gp' (e4 _ _ (k2 _ _ hp' hpb)) ra_nats

theorem o_mixed (T : Tx P K mg) {M : List Re} {κ : KV} {b : Addr} {l : List Nat} (hk : M[0]? = some (boxR K b)) (hl : l.length ≤ 100) (k : ∀ l' : List Nat, (∀ w, w ∈ l' ↔ w ∈ l) → l'.length ≤ l.length + 1 → ∀ p, κ (rV (.ref p)) (M ++ [lstR p (l'.map nI)])) : CM (spBN K (R_mixed K)) [rV (.ref b), rLn K l] M κ := c_BN 0 hk (fun ws G ra => by
  obtain ⟨x, rfl, hx⟩ := ra1 ra
  exact ⟨x, l, rfl, hx, hl, rfl⟩) fun ss h p => by
  obtain ⟨m, w, hm, rfl⟩ := h
  exact k m w hm p
theorem c_mixed (T : Tx P K mg) {M : List Re} {κ : KV} {b : Addr} {l : List Nat} (hk : M[0]? = some (boxR K b)) (hl : l.length ≤ 100) (k : ∀ l' : List Nat, (∀ w, w ∈ l' ↔ w ∈ l) → l'.length ≤ l.length + 1 → κ (rLn K l') M) : CM (spBN K (R_mixed K)) [rV (.ref b), rLn K l] M κ := c_BNf K 0 hk (fun ws G ra => by
  obtain ⟨x, rfl, hx⟩ := ra1 ra
  exact ⟨x, l, rfl, hx, hl, rfl⟩) fun ss h => by
  obtain ⟨m, w, hm, rfl⟩ := h
  exact k m w hm
local macro_rules | `(tactic| wtm_at "co") => `(tactic| refine o_mixed (by assumption) rfl (by wtm_at "s") ?_)
local macro_rules | `(tactic| wtm_at "c") => `(tactic| refine c_mixed (by assumption) rfl (by wtm_at "s") ?_)
theorem sc__law_far : FnScope ["_law_box_here", "_law_n"] ["_law_box_here", "_law_n"] (defScope s__law_far) := ⟨rfl, rfl, rfl, by decide +kernel, rfl, by decide +kernel, by decide +kernel⟩
theorem b__law_far (T : Tx P K mg) : Binds K T.fd__law_far ["_law_box_here", "_law_n"] [] := T.F__law_far.bindsN fun _ _ _ _ _ _ us hl => match us, hl with | [_, _], _ => rfl
def R_law_far (K : PySem.W.Frag) : List V → Hp → (Rp → Prop) → Prop := fun vs G PP => ∃ (n : Nat), RA G vs [nI n] ∧ PP = fun r => ∃ (a : Int), (badW n a = true) ∧ r = Mu.rI a
theorem ok__law_far (T : Tx P K mg) : FnOk P w K mg base CX0 2 T.f__law_far T.fd__law_far ["_law_box_here", "_law_n"] (spB K (R_law_far K)) := by
  refine T.F__law_far.ok sc__law_far (fun vs H Q E h => ?_) (fun cdv A outer s H vs Q E hr h => ?_)
  · obtain ⟨G, b, ws, PP, rfl, _, _, _, ⟨n, ra, _⟩, _⟩ := h
    show ws.length + 1 = _
    rw [ra.len]; rfl
  · obtain ⟨G, b, ws, PP, rfl, e, gb, hbox, ⟨n, ra, rfl⟩, k⟩ := h
    refine ⟨_, PSs.nox (pss_cons (ps_if (pt_cmpR op_eq (pe_call (ok__law_take T) (hr.mono (by decide)) (by rfl) T.g__law_take T.F__law_take.kp (b__law_take T) .nil pass0 (pa_cons (pv 0) (pa_cons pe_int pa_nil))) pe_int (nomark _)) (pss_one (ps_ret (pe_op op_sub (pe_un un_neg pe_int) (pe_call (ok__law_take T) (hr.mono (by decide)) (by rfl) T.g__law_take T.F__law_take.kp (b__law_take T) .nil pass0 (pa_cons (pv 0) (pa_cons (pe_op op_pow pe_int pe_int) pa_nil)))))) pss_nil)
      (pss_one (ps_ret (pe_op op_add (pv 1) (pe_call (ok__law_take T) (hr.mono (by decide)) (by rfl) T.g__law_take T.F__law_take.kp (b__law_take T) .nil pass0 (pa_cons (pv 0) (pa_cons (pe_op op_pow pe_int pe_int) pa_nil))))))), ?_⟩
    refine run_B (W := fun _ _ _ _ => False) (K := K) (b := b) (P := fun r => ∃ (a : Int), (badW n a = true) ∧ r = Mu.rI a) (Γ := [some (rV (.ref b)), some (nI n)]) ?_ e gb hbox (En.start (k := 0) _ (rs := rV (.ref b) :: [nI n]) (.cons rfl ra) (by show _ - (ws.length + 1) = _; rw [ra.len]; rfl)) k
    clear ra e k gb hbox
    refine w_seq ?_
    refine ws_if ?_
    refine w_t ?_
    wtm_at "e"
    intro d hd
    wtm_at "e"
    refine ⟨_, rfl, fun hb => ?_, fun hb => ?_⟩
    · wtm_at "w"
      intro d2 hd2
      wtm_at "e"
      exact ⟨⟨_, by unfold badW; simp; omega, rfl⟩, rfl⟩
    · refine w_nx ?_
      wtm_at "w"
      intro d2 hd2
      wtm_at "e"
      exact ⟨⟨((n + d2 : Nat) : Int), by unfold badW; simp; omega, rfl⟩, rfl⟩
theorem c_law_far (T : Tx P K mg) {M : List Re} {κ : KV} {b : Addr} {n : Nat} (hk : M[0]? = some (boxR K b))  (k : ∀ (a : Int), (badW n a = true) → κ (Mu.rI a) M) : CM (spB K (R_law_far K)) (rV (.ref b) :: [nI n]) M κ := c_B 0 hk (fun vs G ra => ⟨n, ra, rfl⟩) fun ss h => by
  obtain ⟨a, hc, rfl⟩ := h
  exact k a hc
local macro_rules | `(tactic| wtm_at "c") => `(tactic| refine c_law_far (by assumption) rfl  ?_)
theorem sc__law_single : FnScope ["_law_e", "_law_kinds", "_law_kind"] ["_law_e"] (defScope s__law_single) := ⟨rfl, rfl, rfl, by decide +kernel, rfl, by decide +kernel, by decide +kernel⟩
theorem b__law_single (T : Tx P K mg) : Binds K T.fd__law_single ["_law_e"] [] := T.F__law_single.bindsN fun _ _ _ _ _ _ us hl => match us, hl with | [_], _ => rfl
theorem ok__law_single (T : Tx P K mg) : FnE P w K mg base CX0 1 T.f__law_single T.fd__law_single ["_law_e"] (spSingle K [T.C_BadSize, T.C_BadTable, T.C_UnknownWord, T.C_SizeMismatch, T.C_BadCount, T.C_BadPerson, T.C_BadLetter, T.C_UnknownPerson, T.C_TooMany, T.C_BadPattern, T.C_SameWord, T.C_UnknownClue, T.C_BadPlace, T.C_TooLong, T.C_Melted, T.C_NothingToUndo, T.C_NothingToRedo, T.C_Refused, T.C_BadLine] T.C_MurmurError) := by
  refine fn_ofE T.F__law_single sc__law_single (fun p vs H Q E h => ?_) (fun cdv A outer s H vs Q E p hot hr h => ?_)
  · obtain ⟨D, d, fs, G, rfl, _⟩ := h
    rfl
  · obtain ⟨D, d, fs, G, rfl, hz, hf, sg, e, hx, k⟩ := h
    have hotc : L2H.HotC (L2H.cxH CX0 P w K mg base ["_law_e", "_law_kinds", "_law_kind"] "_law_single" (defScope s__law_single) T.f__law_single cdv A outer s H E p).nox := ⟨p, ⟨hot.1, hot.2⟩, by show p ∈ [p]; simp⟩
    have hp : p ∈ [p] := by simp
    have cp := fun (X : Cx) (hK : X.K = K) (h : (p.1, p.2) ∈ X.pn) => call_isP (X := X) (a := p.1) (d := d) (oe := p.2) (hK ▸ sg.is) h hz hf
    refine ⟨_, PSs.nox (pss_cons (ps_set (i := 1) sc__law_single.nd rfl (Or.inl rfl) (pe_lst (pa_cons (pe_callB (cp _ rfl hp) (by rfl) T.m_isinstance (by decide +kernel) (pa_cons (pv 0) (pa_cons (pe_glob (v := .ref T.C_BadSize) (by rfl) T.g_BadSize rfl) pa_nil))) (pa_cons (pe_callB (cp _ rfl hp) (by rfl) T.m_isinstance (by decide +kernel) (pa_cons (pv 0) (pa_cons (pe_glob (v := .ref T.C_BadTable) (by rfl) T.g_BadTable rfl) pa_nil))) (pa_cons (pe_callB (cp _ rfl hp) (by rfl) T.m_isinstance (by decide +kernel) (pa_cons (pv 0) (pa_cons (pe_glob (v := .ref T.C_UnknownWord) (by rfl) T.g_UnknownWord rfl) pa_nil))) (pa_cons (pe_callB (cp _ rfl hp) (by rfl) T.m_isinstance (by decide +kernel) (pa_cons (pv 0) (pa_cons (pe_glob (v := .ref T.C_SizeMismatch) (by rfl) T.g_SizeMismatch rfl) pa_nil))) pa_nil))))))
      (pss_cons (ps_set (i := 1) sc__law_single.nd rfl (Or.inl rfl) (pe_op op_cat (pv 1) (pe_lst (pa_cons (pe_callB (cp _ rfl hp) (by rfl) T.m_isinstance (by decide +kernel) (pa_cons (pv 0) (pa_cons (pe_glob (v := .ref T.C_BadCount) (by rfl) T.g_BadCount rfl) pa_nil))) (pa_cons (pe_callB (cp _ rfl hp) (by rfl) T.m_isinstance (by decide +kernel) (pa_cons (pv 0) (pa_cons (pe_glob (v := .ref T.C_BadPerson) (by rfl) T.g_BadPerson rfl) pa_nil))) (pa_cons (pe_callB (cp _ rfl hp) (by rfl) T.m_isinstance (by decide +kernel) (pa_cons (pv 0) (pa_cons (pe_glob (v := .ref T.C_BadLetter) (by rfl) T.g_BadLetter rfl) pa_nil))) pa_nil))))))
      (pss_cons (ps_set (i := 1) sc__law_single.nd rfl (Or.inl rfl) (pe_op op_cat (pv 1) (pe_lst (pa_cons (pe_callB (cp _ rfl hp) (by rfl) T.m_isinstance (by decide +kernel) (pa_cons (pv 0) (pa_cons (pe_glob (v := .ref T.C_UnknownPerson) (by rfl) T.g_UnknownPerson rfl) pa_nil))) (pa_cons (pe_callB (cp _ rfl hp) (by rfl) T.m_isinstance (by decide +kernel) (pa_cons (pv 0) (pa_cons (pe_glob (v := .ref T.C_TooMany) (by rfl) T.g_TooMany rfl) pa_nil))) (pa_cons (pe_callB (cp _ rfl hp) (by rfl) T.m_isinstance (by decide +kernel) (pa_cons (pv 0) (pa_cons (pe_glob (v := .ref T.C_BadPattern) (by rfl) T.g_BadPattern rfl) pa_nil))) pa_nil))))))
      (pss_cons (ps_set (i := 1) sc__law_single.nd rfl (Or.inl rfl) (pe_op op_cat (pv 1) (pe_lst (pa_cons (pe_callB (cp _ rfl hp) (by rfl) T.m_isinstance (by decide +kernel) (pa_cons (pv 0) (pa_cons (pe_glob (v := .ref T.C_SameWord) (by rfl) T.g_SameWord rfl) pa_nil))) (pa_cons (pe_callB (cp _ rfl hp) (by rfl) T.m_isinstance (by decide +kernel) (pa_cons (pv 0) (pa_cons (pe_glob (v := .ref T.C_UnknownClue) (by rfl) T.g_UnknownClue rfl) pa_nil))) (pa_cons (pe_callB (cp _ rfl hp) (by rfl) T.m_isinstance (by decide +kernel) (pa_cons (pv 0) (pa_cons (pe_glob (v := .ref T.C_BadPlace) (by rfl) T.g_BadPlace rfl) pa_nil))) pa_nil))))))
      (pss_cons (ps_set (i := 1) sc__law_single.nd rfl (Or.inl rfl) (pe_op op_cat (pv 1) (pe_lst (pa_cons (pe_callB (cp _ rfl hp) (by rfl) T.m_isinstance (by decide +kernel) (pa_cons (pv 0) (pa_cons (pe_glob (v := .ref T.C_TooLong) (by rfl) T.g_TooLong rfl) pa_nil))) (pa_cons (pe_callB (cp _ rfl hp) (by rfl) T.m_isinstance (by decide +kernel) (pa_cons (pv 0) (pa_cons (pe_glob (v := .ref T.C_Melted) (by rfl) T.g_Melted rfl) pa_nil))) (pa_cons (pe_callB (cp _ rfl hp) (by rfl) T.m_isinstance (by decide +kernel) (pa_cons (pv 0) (pa_cons (pe_glob (v := .ref T.C_NothingToUndo) (by rfl) T.g_NothingToUndo rfl) pa_nil))) pa_nil))))))
      (pss_cons (ps_set (i := 1) sc__law_single.nd rfl (Or.inl rfl) (pe_op op_cat (pv 1) (pe_lst (pa_cons (pe_callB (cp _ rfl hp) (by rfl) T.m_isinstance (by decide +kernel) (pa_cons (pv 0) (pa_cons (pe_glob (v := .ref T.C_NothingToRedo) (by rfl) T.g_NothingToRedo rfl) pa_nil))) (pa_cons (pe_callB (cp _ rfl hp) (by rfl) T.m_isinstance (by decide +kernel) (pa_cons (pv 0) (pa_cons (pe_glob (v := .ref T.C_Refused) (by rfl) T.g_Refused rfl) pa_nil))) (pa_cons (pe_callB (cp _ rfl hp) (by rfl) T.m_isinstance (by decide +kernel) (pa_cons (pv 0) (pa_cons (pe_glob (v := .ref T.C_BadLine) (by rfl) T.g_BadLine rfl) pa_nil))) pa_nil))))))
      (pss_one (ps_ret (pe_and (pe_callB (cp _ rfl hp) (by rfl) T.m_isinstance (by decide +kernel) (pa_cons (pv 0) (pa_cons (pe_glob (v := .ref T.C_MurmurError) (by rfl) T.g_MurmurError rfl) pa_nil))) (pe_and (pe_callB (cp _ rfl hp) (by rfl) T.m_isinstance (by decide +kernel) (pa_cons (pv 0) (pa_cons (pe_bltn (v := .ty "ValueError") (by rfl) T.m_ValueError (by decide +kernel) rfl) pa_nil))) (pe_one (pe_cmpR op_eq (pe_callB (call_lenK K) (by rfl) T.m_len PySem.boot_len (pa_cons (pe_lcH (own := [("_law_kind", 2)]) hotc sc__law_single.nd (pv 1) (blkOk_by (N := ["_law_e", "_law_kinds", "_law_kind"]) (sc := defScope s__law_single) (by decide +kernel)) (fun _ _ _ _ _ => (pg_name (i := 2) sc__law_single.nd rfl (Or.inl rfl))) (fun _ _ _ _ _ => (pts_one (pt_val (pv 2)))) (fun _ _ _ _ _ => pe_int)) pa_nil)) pe_int (nomark _))))))))))))), ?_⟩
    refine run_D (W := fun _ _ _ _ => False) (Γ := [some (rE p.1 fs d), none, none]) (r := rB true) ?_ e (En.start (k := 2) _ (rs := [rE p.1 fs d]) (.cons ⟨rfl, hx⟩ .nil) rfl) k
    refine w_seq (w_set (EvNX.d (K := K) (xn_lst (xa_cons (x_isP (x_v rfl) (.own _) (sg.kb _ (by simp))) (xa_cons (x_isP (x_v rfl) (.own _) (sg.kb _ (by simp))) (xa_cons (x_isP (x_v rfl) (.own _) (sg.kb _ (by simp))) (xa_cons (x_isP (x_v rfl) (.own _) (sg.kb _ (by simp))) xa_nil)))) (by show 4 ≤ 100000; decide))) ?_)
    dsimp only [List.set]
    refine w_seq (w_set (EvNX.d (K := K) (xn_cat (K := K) (x_v rfl) (EvNX.d (K := K) (xn_lst (xa_cons (x_isP (x_v rfl) (.own _) (sg.kb _ (by simp))) (xa_cons (x_isP (x_v rfl) (.own _) (sg.kb _ (by simp))) (xa_cons (x_isP (x_v rfl) (.own _) (sg.kb _ (by simp))) xa_nil))) (by show 3 ≤ 100000; decide))) (by simp))) ?_)
    dsimp only [List.set]
    refine w_seq (w_set (EvNX.d (K := K) (xn_cat (K := K) (x_v rfl) (EvNX.d (K := K) (xn_lst (xa_cons (x_isP (x_v rfl) (.own _) (sg.kb _ (by simp))) (xa_cons (x_isP (x_v rfl) (.own _) (sg.kb _ (by simp))) (xa_cons (x_isP (x_v rfl) (.own _) (sg.kb _ (by simp))) xa_nil))) (by show 3 ≤ 100000; decide))) (by simp))) ?_)
    dsimp only [List.set]
    refine w_seq (w_set (EvNX.d (K := K) (xn_cat (K := K) (x_v rfl) (EvNX.d (K := K) (xn_lst (xa_cons (x_isP (x_v rfl) (.own _) (sg.kb _ (by simp))) (xa_cons (x_isP (x_v rfl) (.own _) (sg.kb _ (by simp))) (xa_cons (x_isP (x_v rfl) (.own _) (sg.kb _ (by simp))) xa_nil))) (by show 3 ≤ 100000; decide))) (by simp))) ?_)
    dsimp only [List.set]
    refine w_seq (w_set (EvNX.d (K := K) (xn_cat (K := K) (x_v rfl) (EvNX.d (K := K) (xn_lst (xa_cons (x_isP (x_v rfl) (.own _) (sg.kb _ (by simp))) (xa_cons (x_isP (x_v rfl) (.own _) (sg.kb _ (by simp))) (xa_cons (x_isP (x_v rfl) (.own _) (sg.kb _ (by simp))) xa_nil))) (by show 3 ≤ 100000; decide))) (by simp))) ?_)
    dsimp only [List.set]
    refine w_seq (w_set (EvNX.d (K := K) (xn_cat (K := K) (x_v rfl) (EvNX.d (K := K) (xn_lst (xa_cons (x_isP (x_v rfl) (.own _) (sg.kb _ (by simp))) (xa_cons (x_isP (x_v rfl) (.own _) (sg.kb _ (by simp))) (xa_cons (x_isP (x_v rfl) (.own _) (sg.kb _ (by simp))) xa_nil))) (by show 3 ≤ 100000; decide))) (by simp))) ?_)
    dsimp only [List.set]
    refine w_ret (x_and (x_isP (x_v rfl) (.own _) sg.mu) fun _ => x_and (x_isP (x_v rfl) (.ty _) sg.ve) fun _ => x_eqV (x_lenL (K := K) (EvNX.d (K := K) (xn_lcL [T.C_BadSize, T.C_BadTable, T.C_UnknownWord, T.C_SizeMismatch, T.C_BadCount, T.C_BadPerson, T.C_BadLetter, T.C_UnknownPerson, T.C_TooMany, T.C_BadPattern, T.C_SameWord, T.C_UnknownClue, T.C_BadPlace, T.C_TooLong, T.C_Melted, T.C_NothingToUndo, T.C_NothingToRedo, T.C_Refused, T.C_BadLine] (fun c => rB (decide (PySem.W.kitOne K (.ref D) (.ref c) = some true))) (fun c => decide (PySem.W.kitOne K (.ref D) (.ref c) = some true)) (fun _ => rV (.int 1)) (x_v rfl) (by show 19 ≤ 40000; decide) (fun c _ => t_B (x_v rfl)) (fun c _ _ => x_c)))) x_c) ?_
    dsimp only
    rw [List.length_map, sg.one]
    rfl
theorem pe_single {X : Cx} {q pos : Pos} {e : Expr} {i : Nat} {a : Addr} {oe : Obj} {cls : Value} {d : Option Addr} {pn : List (Addr × Obj)} (T : Tx P K mg) (hr : Room 1 X.A) (hz : L2N.Zn cls d oe) (hf : ∃ vs, oe.data = .fields vs) (ha : PE (X.suite a ((a, oe) :: pn)) e (tVar i))
    (hP : X.prog = P := by rfl) (hw : X.w = w := by rfl) (hK : X.K = K := by rfl) (hm : X.mg = mg := by rfl) (hb : X.base = base := by rfl) (hg : Gl (X.suite a ((a, oe) :: pn)) "_law_single" := by rfl) (he : starEach [e] X.env = (false, eval e X.env) :: starEach [] X.env := by rfl) :
    PE (X.suite a ((a, oe) :: pn)) (.Call (.Name "_law_single" q) [e] [] pos) (tSg K [T.C_BadSize, T.C_BadTable, T.C_UnknownWord, T.C_SizeMismatch, T.C_BadCount, T.C_BadPerson, T.C_BadLetter, T.C_UnknownPerson, T.C_TooMany, T.C_BadPattern, T.C_SameWord, T.C_UnknownClue, T.C_BadPlace, T.C_TooLong, T.C_Melted, T.C_NothingToUndo, T.C_NothingToRedo, T.C_Refused, T.C_BadLine] T.C_MurmurError a cls d (tCons (tVar i) tNil)) := by
  subst hP hw hK hm hb
  obtain ⟨vs, hv⟩ := hf
  refine pe_imp (pe_callE (p := (a, oe)) (E := fun _ _ _ _ => False) (X := X.suite a ((a, oe) :: pn)) (ok__law_single (w := X.w) (base := X.base) T) (⟨hr.dp, hr.un⟩ : L2H.RoomH 1 (X.A.mark (some (.ref a)))) ⟨rfl, vs, hv, hz.2.2 vs hv⟩ (by simp) hg T.g__law_single T.F__law_single.kp (b__law_single T) (fun _ _ _ _ _ _ _ z => z.elim) (pa_cons ha pa_nil (hs := he)) (by decide) he) fun σ H Q z => ?_
  obtain ⟨v, hv1, D, fs, G, e1, rfl, sg, ex, xd, k⟩ := z
  exact ⟨v, hv1, D, d, fs, G, e1, hz.zc, ⟨vs, hv⟩, sg, ex, xd, k⟩
end
end MuL

namespace MuL
open PySem PySem.Spec PyProof.Rows L2 He Evl Mu
section
variable {P : Program} {w : World} {K : PySem.W.Frag} {mg : Str → Option Value} {base : Heap}
local macro_rules | `(tactic| wtm_at "s") => `(tactic| first | assumption | omega | exact rfl | decide | wtm_at "s2")
local macro_rules | `(tactic| wtm_at "s2") => `(tactic| (simp only [List.length_map, List.length_range, List.length_cons, List.length_nil, List.length_append]; omega))
local macro_rules | `(tactic| wtm_at "j") => `(tactic| first | exact List.mem_cons_self | (simp; done))
local macro_rules | `(tactic| wtm_at "tr") => `(tactic| (apply t_is; (focus (wtm_at "t")); exact rfl))
local macro_rules | `(tactic| wtm_at "bs") => `(tactic| first | exact rfl | (simp; done) | (simp [*]; done))
local macro_rules | `(tactic| wtm_at "yes") => `(tactic| (apply w_yes; (focus (apply t_is; (focus (wtm_at "t")); first | exact rfl | (simp; done) | (simp [*]; done)))))
local macro_rules | `(tactic| wtm_at "no") => `(tactic| (apply w_no; (focus (apply t_is; (focus (wtm_at "t")); first | exact rfl | (simp; done) | (simp [*]; done)))))
local macro_rules | `(tactic| wtm_at "nn") => `(tactic| first | exact nn_tab | exact nn_L | exact nn_T | exact nn_I)
local macro_rules | `(tactic| wtm_at "sub") => `(tactic| repeat' first | exact Paired.nil | refine Paired.cons (Or.inr rfl) ?_ | refine Paired.cons (Or.inl rfl) ?_)
local macro_rules | `(tactic| wtm_at "o") => `(tactic| first
    | ((with_reducible show OM (rI0 _) _ _ _ _); first | refine om (x_addN (x_v rfl) (x_v rfl)) ?_ | refine om (x_subN (x_v rfl) (x_v rfl) (by wtm_at "s")) ?_ | refine om (x_bandN (x_v rfl) (x_v rfl)) ?_ | refine om (x_borN (x_v rfl) (x_v rfl)) ?_ | refine om (x_ltN (x_v rfl) (x_v rfl)) ?_ | refine om (x_leN (x_v rfl) (x_v rfl)) ?_ | refine om (x_gtN (x_v rfl) (x_v rfl)) ?_ | refine om (x_geN (x_v rfl) (x_v rfl)) ?_ | refine om (x_I0 (x_v rfl) (x_v rfl)) ?_)
    | ((with_reducible show OM (L2.rI _ _) _ _ _ _); first | refine om (x_powN (x_v rfl) (x_v rfl) (by wtm_at "s") (by wtm_at "s")) ?_ | refine om (x_shrN (x_v rfl) (x_v rfl)) ?_ | refine om (x_shlN1 (x_v rfl) (x_v rfl) (by wtm_at "s")) ?_ | refine om (x_I (x_v rfl) (x_v rfl) (by wtm_at "s")) ?_)
    | ((with_reducible show OM rEq _ _ _ _); first | refine om (x_eqN (x_v rfl) (x_v rfl)) ?_ | refine om (x_eqI (x_v rfl) (x_v rfl)) ?_ | refine om (x_eqV (x_v rfl) (x_v rfl) rfl) ?_)
    | ((with_reducible show OM rNe _ _ _ _); first | refine om (x_neN (x_v rfl) (x_v rfl)) ?_ | refine om (x_neI (x_v rfl) (x_v rfl)) ?_ | refine om (x_neV (x_v rfl) (x_v rfl) rfl) ?_)
    | ((with_reducible show OM (rIxT _) _ _ _ _); first | refine om (x_ixTn (x_v rfl) (x_v rfl) (by wtm_at "s")) ?_ | refine om (x_ixT (x_v rfl) (x_v rfl) rfl) ?_ | refine om (x_ixTm default (x_v rfl) (x_v rfl) (by wtm_at "s")) ?_)
    | ((with_reducible show OM (rIxL _) _ _ _ _); first | refine om (x_ixB (x_v rfl) (x_v rfl) (by wtm_at "s")) ?_ | refine om (x_ixLn (x_v rfl) (x_v rfl) (by wtm_at "s")) ?_ | refine om (x_ixLL (x_v rfl) (x_v rfl) (by wtm_at "s")) ?_ | refine om_ixOwn 0 rfl (by wtm_at "s") ?_ | refine om_ixOwn 1 rfl (by wtm_at "s") ?_ | refine om_ixOwn 2 rfl (by wtm_at "s") ?_ | refine om_ixOwn 3 rfl (by wtm_at "s") ?_ | refine om (x_ixL (x_v rfl) (x_v rfl) rfl) ?_ | refine om (x_ixL (x_v rfl) (x_v rfl) (by assumption)) ?_ | refine om (x_ixLm default (x_v rfl) (x_v rfl) (by wtm_at "s")) ?_)
    | ((with_reducible show OM (rIn _ _) _ _ _ _); first | refine om (x_inLn (l := [_, _]) (x_v rfl) (x_v rfl)) ?_ | refine om (x_inLn (l := [_, _, _]) (x_v rfl) (x_v rfl)) ?_ | refine om (x_inLn (x_v rfl) (x_v rfl)) ?_ | refine om (x_niLn (x_v rfl) (x_v rfl)) ?_ | refine om (x_inTi true (x_v rfl) (x_v rfl)) ?_ | refine om (x_inTi false (x_v rfl) (x_v rfl)) ?_ | refine om (x_inLi true (x_v rfl) (x_v rfl)) ?_ | refine om (x_inLi false (x_v rfl) (x_v rfl)) ?_)
    | ((with_reducible show OM (rEqD _) _ _ _ _); first | refine om (x_eqLn0 (x_v rfl) (x_v rfl)) ?_ | refine om (x_eqLn (x_v rfl) (x_v rfl)) ?_ | refine om (x_eqTn (x_v rfl) (x_v rfl)) ?_ | refine om (x_eqLL (x_v rfl) (x_v rfl)) ?_)
    | ((with_reducible show OM (rNeD _) _ _ _ _); first | refine om (x_neLn0 (x_v rfl) (x_v rfl)) ?_ | refine om (x_neLn (x_v rfl) (x_v rfl)) ?_ | refine om (x_neTn (x_v rfl) (x_v rfl)) ?_ | refine om (x_neLL (x_v rfl) (x_v rfl)) ?_ | refine om (x_neP (x_v rfl) (x_v rfl)) ?_)
    | ((with_reducible show OM (rInD _) _ _ _ _); first | refine om (x_inP (x_v rfl) (x_v rfl)) ?_)
    | ((with_reducible show OM (rNotInD _) _ _ _ _); first | refine om (x_niP (x_v rfl) (x_v rfl)) ?_)
    | ((with_reducible show OM (rInTD _) _ _ _ _); first | refine om (x_inTP (x_v rfl) (x_v rfl)) ?_)
    | ((with_reducible show OM rIsB _ _ _ _); first | refine om (x_isB (x_v rfl) (x_v rfl)) ?_)
    | ((with_reducible show OM rNotB _ _ _ _); first | refine om (x_isNB (x_v rfl) (x_v rfl)) ?_)
    | ((with_reducible show OM (fun _ _ _ _ => _ ∧ _) _ _ _ _); first | refine om_isN0 ?_ | refine om_notN0 ?_ | refine om_isN1 (by wtm_at "nn") ?_ | refine om_notN1 (by wtm_at "nn") ?_)
    | ((with_reducible show OM rRep _ _ _ _); first | refine om_rep (by wtm_at "s") (by wtm_at "s") ?_)
    | ((with_reducible show OM rCat _ _ _ _); first | refine om_cat (by wtm_at "s") ?_ | refine om (x_catm (x_v rfl) (x_v rfl) (by wtm_at "s")) ?_))
local macro_rules | `(tactic| wtm_at "a") => `(tactic| first
    | ((with_reducible show AM (rLenS _) _ _ _); first | refine am1 (x_lenLn (x_v rfl)) ?_ | refine am1 (x_lenTn (x_v rfl)) ?_ | refine am1 (x_lenB (x_v rfl)) ?_ | refine am1 (x_lenLL (x_v rfl)) ?_ | refine am1 (x_lenLm (x_v rfl)) ?_ | refine am1 (x_lenTm (x_v rfl)) ?_ | refine am_own 0 rfl (x_lenLm (x_v rfl)) ?_ | refine am_own 1 rfl (x_lenLm (x_v rfl)) ?_ | refine am_own 2 rfl (x_lenLm (x_v rfl)) ?_ | refine am_own 3 rfl (x_lenLm (x_v rfl)) ?_ | refine am_own 1 rfl (x_lenLm' (x_v rfl)) ?_ | refine am_own 2 rfl (x_lenLm' (x_v rfl)) ?_ | refine am1 (x_lenL (x_v rfl)) ?_ | refine am1 (x_lenT (x_v rfl)) ?_)
    | ((with_reducible show AM (rTupO _) _ _ _); first | refine am1 (x_tupL (x_v rfl)) ?_)
    | ((with_reducible show AM (rListS _) _ _ _); first | refine am_listL ?_ | refine am_listT ?_ | refine am_listOwn 0 rfl ?_ | refine am_listOwn 1 rfl ?_ | refine am_listOwn 2 rfl ?_)
    | ((with_reducible show AM (rIsi _) _ _ _); first | refine am2c (x_isInt (x_v rfl)) ?_ | refine am2c (x_isList (x_v rfl)) ?_ | refine am2c (x_isTup (x_v rfl)) ?_ | refine am2c (x_isTab (Tx.ic_Table (by assumption)) (x_v rfl)) ?_ | refine am2c (x_isIns (by assumption) (by assumption) (x_v rfl)) ?_)
    | ((with_reducible show AM _ _ _ _); first | refine am1 (x_int (x_v rfl)) ?_ | refine mk_tab (by assumption) (by wtm_at "s") (by wtm_at "s") ?_))
local macro_rules | `(tactic| wtm_at "c") => `(tactic| fail)
local macro_rules | `(tactic| wtm_at "c") => `(tactic| refine c_bits (by assumption) (by wtm_at "s") ?_)
local macro_rules | `(tactic| wtm_at "c") => `(tactic| refine c_all_words _  ?_)
local macro_rules | `(tactic| wtm_at "c") => `(tactic| refine xe_check_person _ (by wtm_at "s") (by wtm_at "s") (by assumption) ?_)
local macro_rules | `(tactic| wtm_at "c") => `(tactic| refine xq_check_person _ (by wtm_at "s") (by wtm_at "s") (by assumption) ?_)
local macro_rules | `(tactic| wtm_at "c") => `(tactic| refine c_check_person _ (by wtm_at "s") (by wtm_at "s") (by assumption) ?_)
local macro_rules | `(tactic| wtm_at "c") => `(tactic| refine me_Person__init _ (by assumption) (by wtm_at "s") (by wtm_at "s") (by wtm_at "s") (by assumption) ?_)
local macro_rules | `(tactic| wtm_at "c") => `(tactic| refine mk_Person__init _ (by assumption) (by wtm_at "s") (by wtm_at "s") (by wtm_at "s") (by assumption) ?_)
local macro_rules | `(tactic| wtm_at "c") => `(tactic| refine me_Knower__init _ (by assumption) (by wtm_at "s") (by wtm_at "s") (by wtm_at "s") (by wtm_at "s") (by assumption) ?_)
local macro_rules | `(tactic| wtm_at "c") => `(tactic| refine mk_Knower__init _ (by assumption) (by wtm_at "s") (by wtm_at "s") (by wtm_at "s") (by wtm_at "s") (by assumption) ?_)
local macro_rules | `(tactic| wtm_at "c") => `(tactic| refine xe_check_word _  (by assumption) ?_)
local macro_rules | `(tactic| wtm_at "c") => `(tactic| refine xq_check_word _  (by assumption) ?_)
local macro_rules | `(tactic| wtm_at "c") => `(tactic| refine c_check_word _  (by assumption) ?_)
local macro_rules | `(tactic| wtm_at "c") => `(tactic| refine xe_Person_heard _ (by wtm_at "s") (by assumption) ?_)
local macro_rules | `(tactic| wtm_at "c") => `(tactic| refine xq_Person_heard _ (by wtm_at "s") (by assumption) ?_)
local macro_rules | `(tactic| wtm_at "c") => `(tactic| refine c_Person_heard _ (by wtm_at "s") (by assumption) ?_)
local macro_rules | `(tactic| wtm_at "c") => `(tactic| refine xe_Person_said _ (by wtm_at "s") (by wtm_at "s") (by wtm_at "s") (by wtm_at "s") (by wtm_at "s") (by assumption) ?_)
local macro_rules | `(tactic| wtm_at "c") => `(tactic| refine xf_Person_said _ (by wtm_at "s") (by wtm_at "s") (by wtm_at "s") (by wtm_at "s") (by wtm_at "s") (by assumption) ?_)
local macro_rules | `(tactic| wtm_at "c") => `(tactic| refine c_Person_said _ (by wtm_at "s") (by wtm_at "s") (by wtm_at "s") (by wtm_at "s") (by wtm_at "s") (by assumption) ?_)
local macro_rules | `(tactic| wtm_at "c") => `(tactic| refine xe_Doubter_said _ (by wtm_at "s") (by wtm_at "s") (by wtm_at "s") (by wtm_at "s") (by wtm_at "s") (by wtm_at "s") (by wtm_at "s") (by wtm_at "s") (by assumption) ?_)
local macro_rules | `(tactic| wtm_at "c") => `(tactic| refine xf_Doubter_said _ (by wtm_at "s") (by wtm_at "s") (by wtm_at "s") (by wtm_at "s") (by wtm_at "s") (by wtm_at "s") (by wtm_at "s") (by wtm_at "s") (by assumption) ?_)
local macro_rules | `(tactic| wtm_at "c") => `(tactic| refine c_Doubter_said _ (by wtm_at "s") (by wtm_at "s") (by wtm_at "s") (by wtm_at "s") (by wtm_at "s") (by wtm_at "s") (by wtm_at "s") (by wtm_at "s") (by assumption) ?_)
local macro_rules | `(tactic| wtm_at "c") => `(tactic| refine xe_Knower_said _ (by wtm_at "s") (by wtm_at "s") (by wtm_at "s") (by wtm_at "s") (by wtm_at "s") (by wtm_at "s") (by wtm_at "s") (by wtm_at "s") (by wtm_at "s") (by assumption) ?_)
local macro_rules | `(tactic| wtm_at "c") => `(tactic| refine xf_Knower_said _ (by wtm_at "s") (by wtm_at "s") (by wtm_at "s") (by wtm_at "s") (by wtm_at "s") (by wtm_at "s") (by wtm_at "s") (by wtm_at "s") (by wtm_at "s") (by assumption) ?_)
local macro_rules | `(tactic| wtm_at "c") => `(tactic| refine c_Knower_said _ (by wtm_at "s") (by wtm_at "s") (by wtm_at "s") (by wtm_at "s") (by wtm_at "s") (by wtm_at "s") (by wtm_at "s") (by wtm_at "s") (by wtm_at "s") (by assumption) ?_)
local macro_rules | `(tactic| wtm_at "c") => `(tactic| refine xe_KnowingDoubter_said _ (by wtm_at "s") (by wtm_at "s") (by wtm_at "s") (by wtm_at "s") (by wtm_at "s") (by wtm_at "s") (by wtm_at "s") (by wtm_at "s") (by wtm_at "s") (by wtm_at "s") (by assumption) ?_)
local macro_rules | `(tactic| wtm_at "c") => `(tactic| refine xf_KnowingDoubter_said _ (by wtm_at "s") (by wtm_at "s") (by wtm_at "s") (by wtm_at "s") (by wtm_at "s") (by wtm_at "s") (by wtm_at "s") (by wtm_at "s") (by wtm_at "s") (by wtm_at "s") (by assumption) ?_)
local macro_rules | `(tactic| wtm_at "c") => `(tactic| refine c_KnowingDoubter_said _ (by wtm_at "s") (by wtm_at "s") (by wtm_at "s") (by wtm_at "s") (by wtm_at "s") (by wtm_at "s") (by wtm_at "s") (by wtm_at "s") (by wtm_at "s") (by wtm_at "s") (by assumption) ?_)
local macro_rules | `(tactic| wtm_at "c") => `(tactic| refine c_Person_table _ (by wtm_at "s") ?_)
local macro_rules | `(tactic| wtm_at "c") => `(tactic| refine cq_Person_table _ (by assumption) (by assumption) ?_)
local macro_rules | `(tactic| wtm_at "c") => `(tactic| refine c_Knower_known _ (by wtm_at "s") (by wtm_at "s") (by wtm_at "s") (by wtm_at "s") ?_)
local macro_rules | `(tactic| wtm_at "c") => `(tactic| refine c_is_int (by assumption) ?_)
local macro_rules | `(tactic| wtm_at "c") => `(tactic| refine c_is_words (by assumption) ?_)
local macro_rules | `(tactic| wtm_at "c") => `(tactic| refine c_same _ (by assumption) (by wtm_at "s") ?_)
local macro_rules | `(tactic| wtm_at "c") => `(tactic| refine c_take 0 rfl (by wtm_at "s") (by wtm_at "s") ?_)
local macro_rules | `(tactic| wtm_at "c") => `(tactic| refine c_take 1 rfl (by wtm_at "s") (by wtm_at "s") ?_)
local macro_rules | `(tactic| wtm_at "c") => `(tactic| refine c_words (by assumption) rfl (by wtm_at "s") (by wtm_at "s") ?_)
local macro_rules | `(tactic| wtm_at "c") => `(tactic| refine c_law_outs (by assumption) rfl (by wtm_at "s") (by wtm_at "s") ?_)
local macro_rules | `(tactic| wtm_at "c") => `(tactic| refine c_law_person (by assumption) rfl (by wtm_at "s") (by wtm_at "s") ?_)
local macro_rules | `(tactic| wtm_at "c") => `(tactic| refine c_mixed (by assumption) rfl (by wtm_at "s") ?_)
local macro_rules | `(tactic| wtm_at "c") => `(tactic| refine c_law_far (by assumption) rfl  ?_)
local macro_rules | `(tactic| wtm_at "f") => `(tactic| first
    | refine f_own 0 rfl (by wtm_at "s") (by wtm_at "s") rfl ?_
    | refine f_ins (by wtm_at "s") (by wtm_at "s") rfl ?_
    | refine f_tab (x_size (x_v rfl) (Tx.c_Table (by assumption)) (Tx.na_Table_size (by assumption))) ?_
    | refine f_tab (x_masks (x_v rfl) (Tx.c_Table (by assumption)) (Tx.na_Table_masks (by assumption))) ?_
    | refine f_tab (x_cells (x_v rfl) (Tx.c_Table (by assumption)) (Tx.na_Table_cells (by assumption))) ?_)
local macro_rules | `(tactic| wtm_at "v") => `(tactic| first
    | ((with_reducible show EW _ _ _ (tVar _) _ _); refine e_v rfl ?_)
    | ((with_reducible show EW _ _ _ (tC (V.int _)) _ _); refine e_cn ?_)
    | ((with_reducible show EW _ _ _ (tC _) _ _); refine e_c ?_)
    | ((with_reducible show EW _ _ _ (tOp _ _ _) _ _); refine e_op ?_)
    | ((with_reducible show EW _ _ _ (tCB _ _) _ _); refine e_cb ?_)
    | ((with_reducible show EW _ _ _ (tCall _ _ _ _) _ _); refine e_call ?_)
    | ((with_reducible show EW _ _ _ (tCallS _ _ _) _ _); refine e_callS ?_)
    | ((with_reducible show EW _ _ _ (tFld _ _ _) _ _); refine e_fld _ ?_)
    | ((with_reducible show EW _ _ _ (tTup _) _ _); refine e_tup (by assumption) ?_)
    | ((with_reducible show EW _ _ _ (tLst _) _ _); refine e_lst (by assumption) ?_)
    | ((with_reducible show EW _ _ _ (tUn _ _) _ _); refine e_un ?_)
    | ((with_reducible show EW _ _ _ (tMake _ (spTab _ _) _ _ _) _ _); refine e_make ?_)
    | ((with_reducible show EW _ _ _ (tMakeS _ _ _ _) _ _); refine e_makeS ?_)
    | ((with_reducible show EW _ _ _ (tMeth _ _ _ _ _ _ _) _ _); refine e_meth ?_)
    | ((with_reducible show EW _ _ _ (tMethS _ _ _ _ _ _) _ _); refine e_methS ?_)
    | ((with_reducible show EW _ _ _ (tProp _ _ _ _ _) _ _); refine e_prop ?_)
    | ((with_reducible show EW _ _ _ (tLc (iList _ _) _ tYes _ _) _ _); apply e_lcL0; (focus (wtm_at "x")); (focus (wtm_at "s")); (focus (intro a ha; wtm_at "x")); (focus (wtm_at "j")))
    | ((with_reducible show EW _ _ _ (tLc (iTup _ _) _ tYes _ _) _ _); apply e_lcT0; (focus (wtm_at "x")); (focus (wtm_at "s")); (focus (intro a ha; wtm_at "x")); (focus (wtm_at "j")))
    | ((with_reducible show EW _ _ _ (tLc (iRng1 _) _ tYes _ _) _ _); apply e_lcR0 (by assumption); (focus (wtm_at "x")); (focus (wtm_at "s")); (focus (intro a ha; wtm_at "x")); (focus (wtm_at "j")))
    | ((with_reducible show EW _ _ _ (tLc (iList _ _) _ _ _ _) _ _); apply e_lcL; (focus (wtm_at "x")); (focus (wtm_at "s")); (focus (intro a ha; wtm_at "tr")); (focus (intro a ha hf; wtm_at "x")); (focus (wtm_at "j")))
    | ((with_reducible show EW _ _ _ (tLc (iTup _ _) _ _ _ _) _ _); apply e_lcT; (focus (wtm_at "x")); (focus (wtm_at "s")); (focus (intro a ha; wtm_at "tr")); (focus (intro a ha hf; wtm_at "x")); (focus (wtm_at "j")))
    | ((with_reducible show EW _ _ _ (tLc (iRng1 _) _ _ _ _) _ _); apply e_lcR (by assumption); (focus (wtm_at "x")); (focus (wtm_at "s")); (focus (intro a ha; wtm_at "tr")); (focus (intro a ha hf; wtm_at "x")); (focus (wtm_at "j")))
    | ((with_reducible show EW _ _ _ (tSl (rSlL _) _ tNoPart (tPart _)) _ _); apply e_slTo; (focus (wtm_at "x")))
    | ((with_reducible show EW _ _ _ (tSl (rSlL _) _ (tPart _) tNoPart) _ _); apply e_slFrom; (focus (wtm_at "x")))
    | ((with_reducible show EW _ _ _ (tAndV _ _) _ _); first | (apply e_and; (focus (wtm_at "x")); (focus (intro hq; wtm_at "x"))) | (apply e_x; (focus (apply x_and0; (focus (wtm_at "x")); wtm_at "bs"))))
    | ((with_reducible show EW _ _ _ (tOrV _ _) _ _); first | (apply e_or; (focus (wtm_at "x")); (focus (intro hq; wtm_at "x"))) | (apply e_x; (focus (apply x_or1; (focus (wtm_at "x")); wtm_at "bs"))))
    | ((with_reducible show EW _ _ _ (tMake _ (spIni _ _) _ _ _) _ _); refine e_makeI ?_ spIni_E)
    | ((with_reducible show EW _ _ _ (tSup _ _ _ _ _ _ _) _ _); refine e_sup rfl (by assumption) ?_)
    | ((with_reducible show EW _ _ _ (tNotV _) _ _); apply e_not; (focus (wtm_at "x")))
    | ((with_reducible show EW _ _ _ (tBM _ _ _ _ _) _ _); first | refine e_app 0 rfl ?_ rfl | refine e_app 1 rfl ?_ rfl | refine e_app 2 rfl ?_ rfl | refine e_app 3 rfl ?_ rfl))
local macro_rules | `(tactic| wtm_at "e1") => `(tactic| first
    | ((with_reducible show EW _ _ _ _ _ _); wtm_at "v")
    | ((with_reducible show EA _ _ _ _ _ _); first | refine a_cons ?_ | refine a_nil ?_)
    | ((with_reducible show OM _ _ _ _ _); first | wtm_at "o" | wtm_at "c")
    | ((with_reducible show AM _ _ _ _); wtm_at "a")
    | ((with_reducible show CM _ _ _ _); wtm_at "c")
    | ((with_reducible show XM _ _ _ _ _); wtm_at "c")
    | ((with_reducible show MkM _ _ _ _ _ _); wtm_at "c")
    | ((with_reducible show UM _ _ _ _); first | wtm_at "f" | refine um (x_neg (x_v rfl)) ?_ | wtm_at "c")
    | ((with_reducible show InsR _ _ _ ∧ _); first | refine ⟨ins_tab rfl, ?_⟩ | refine ⟨ins_ins rfl, ?_⟩ | refine ⟨ins_ins (by assumption), ?_⟩)
    | ((with_reducible show (∀ (v : V) (G : Hp), _ → ∃ a dx fs, _) ∧ _); refine ⟨ins_is, ?_⟩)
    | ((with_reducible show And (@LE.le Nat _ _ _) _); refine ⟨Nat.le_of_ble_eq_true rfl, ?_⟩)
    | ((with_reducible show ∃ rs : List Rp, _ ∧ _ ∧ _); refine ⟨_, rfl, by wtm_at "s", ?_⟩)
    | ((with_reducible show ∃ rs : List Rp, _ = rL _ rs ∧ _); refine ⟨_, rfl, ?_⟩)
    | ((with_reducible show ∃ fs : FL, _ ∧ _ ∧ _ ∧ _); refine ⟨_, rfl, rfl, Nat.le_of_ble_eq_true rfl, ?_⟩)
    | ((with_reducible show _ = _ ∧ _ = ([] : List Re)); first | exact ⟨rfl, rfl⟩ | exact ⟨by wtm_at "q", rfl⟩))
local macro_rules | `(tactic| wtm_at "q") => `(tactic| first | rfl | exact congrArg nI (by omega) | exact congrArg Mu.rI (by omega) | exact congrArg rB (by wtm_at "b"))
local macro_rules | `(tactic| wtm_at "b") => `(tactic| first | rfl | (rw [Bool.eq_iff_iff]; simp; omega))
local macro_rules | `(tactic| wtm_at "e") => `(tactic| repeat wtm_at "e1")
local macro_rules | `(tactic| wtm_at "co") => `(tactic| fail)
local macro_rules | `(tactic| wtm_at "co") => `(tactic| refine xo_Person_said _ (by wtm_at "s") (by wtm_at "s") (by wtm_at "s") (by wtm_at "s") (by wtm_at "s") (by assumption) ?_)
local macro_rules | `(tactic| wtm_at "co") => `(tactic| refine o_Person_said _ (by wtm_at "s") (by wtm_at "s") (by wtm_at "s") (by wtm_at "s") (by wtm_at "s") (by assumption) ?_)
local macro_rules | `(tactic| wtm_at "co") => `(tactic| refine xo_Doubter_said _ (by wtm_at "s") (by wtm_at "s") (by wtm_at "s") (by wtm_at "s") (by wtm_at "s") (by wtm_at "s") (by wtm_at "s") (by wtm_at "s") (by assumption) ?_)
local macro_rules | `(tactic| wtm_at "co") => `(tactic| refine o_Doubter_said _ (by wtm_at "s") (by wtm_at "s") (by wtm_at "s") (by wtm_at "s") (by wtm_at "s") (by wtm_at "s") (by wtm_at "s") (by wtm_at "s") (by assumption) ?_)
local macro_rules | `(tactic| wtm_at "co") => `(tactic| refine xo_Knower_said _ (by wtm_at "s") (by wtm_at "s") (by wtm_at "s") (by wtm_at "s") (by wtm_at "s") (by wtm_at "s") (by wtm_at "s") (by wtm_at "s") (by wtm_at "s") (by assumption) ?_)
local macro_rules | `(tactic| wtm_at "co") => `(tactic| refine o_Knower_said _ (by wtm_at "s") (by wtm_at "s") (by wtm_at "s") (by wtm_at "s") (by wtm_at "s") (by wtm_at "s") (by wtm_at "s") (by wtm_at "s") (by wtm_at "s") (by assumption) ?_)
local macro_rules | `(tactic| wtm_at "co") => `(tactic| refine xo_KnowingDoubter_said _ (by wtm_at "s") (by wtm_at "s") (by wtm_at "s") (by wtm_at "s") (by wtm_at "s") (by wtm_at "s") (by wtm_at "s") (by wtm_at "s") (by wtm_at "s") (by wtm_at "s") (by assumption) ?_)
local macro_rules | `(tactic| wtm_at "co") => `(tactic| refine o_KnowingDoubter_said _ (by wtm_at "s") (by wtm_at "s") (by wtm_at "s") (by wtm_at "s") (by wtm_at "s") (by wtm_at "s") (by wtm_at "s") (by wtm_at "s") (by wtm_at "s") (by wtm_at "s") (by assumption) ?_)
local macro_rules | `(tactic| wtm_at "co") => `(tactic| refine o_Knower_known _ (by wtm_at "s") (by wtm_at "s") (by wtm_at "s") (by wtm_at "s") ?_)
local macro_rules | `(tactic| wtm_at "co") => `(tactic| refine o_words (by assumption) rfl (by wtm_at "s") (by wtm_at "s") ?_)
local macro_rules | `(tactic| wtm_at "co") => `(tactic| refine o_law_outs (by assumption) rfl (by wtm_at "s") (by wtm_at "s") ?_)
local macro_rules | `(tactic| wtm_at "co") => `(tactic| refine o_law_person (by assumption) rfl (by wtm_at "s") (by wtm_at "s") ?_)
local macro_rules | `(tactic| wtm_at "co") => `(tactic| refine o_mixed (by assumption) rfl (by wtm_at "s") ?_)
local macro_rules | `(tactic| wtm_at "eo") => `(tactic| repeat first | ((with_reducible show CM _ _ _ _); wtm_at "co") | ((with_reducible show XM _ _ _ _ _); wtm_at "co") | wtm_at "e1")
local macro_rules | `(tactic| wtm_at "x") => `(tactic| first | exact x_v rfl | exact x_c | (apply EvX.by; intro W ε; (wtm_at "e"); done))
local macro_rules | `(tactic| wtm_at "t") => `(tactic| first
    | ((with_reducible show EvTX _ tYes _); exact t_yes)
    | ((with_reducible show EvTX _ (tAnd _ _) _); first | (apply t_and; (focus (wtm_at "t")); (focus (intro hq; wtm_at "t"))) | (apply t_and0; (focus (wtm_at "t")); wtm_at "bs"))
    | ((with_reducible show EvTX _ (tOr _ _) _); first | (apply t_or; (focus (wtm_at "t")); (focus (intro hq; wtm_at "t"))) | (apply t_or1; (focus (wtm_at "t")); wtm_at "bs"))
    | ((with_reducible show EvTX _ (tNot _) _); apply t_not; wtm_at "t")
    | ((with_reducible show EvTX _ (tTest (tChain _ _ _ _ _)) _); apply t_chain; (focus (wtm_at "x")); (focus (wtm_at "x")); (focus (wtm_at "x")))
    | ((with_reducible show EvTX _ (tTest _) _); apply t_T; wtm_at "x")
    | ((with_reducible show EvTX _ (tB _) _); apply t_B; wtm_at "x"))
local macro_rules | `(tactic| wtm_at "tq") => `(tactic| (apply t_is; (focus (wtm_at "t")); try wtm_at "b"))
local macro_rules | `(tactic| wtm_at "if") => `(tactic| (apply w_if; (focus (wtm_at "t"))))
local macro_rules | `(tactic| wtm_at "ifc") => `(tactic| (refine ws_if ?_; (repeat first | refine w_tNot ?_ | refine w_tB ?_ | refine w_t ?_ | wtm_at "e1" | ((with_reducible show ∃ c : Bool, _ = rB c ∧ _); refine ⟨_, rfl, ?_⟩)); refine ⟨?_, ?_⟩))
local macro_rules | `(tactic| wtm_at "w1") => `(tactic| first
    | ((with_reducible show WP _ _ _ (tSeq _ _) _); refine w_seq ?_)
    | ((with_reducible show WP _ _ _ (tAsg _ (gName _)) _); refine ws_set ?_; (wtm_at "e"); dsimp only [List.set])
    | ((with_reducible show WP _ _ _ (tRet _) _); refine ws_ret ?_; (wtm_at "e"))
    | ((with_reducible show WP _ _ _ (sFld _ (tVar _) _ _) _); refine ws_fld 0 rfl rfl (by wtm_at "s") (by wtm_at "s") ?_; (wtm_at "e"); dsimp only [List.set])
    | ((with_reducible show WP _ _ _ (tDrop _) _); refine ws_do ?_; (wtm_at "e"))
    | ((with_reducible show WP _ _ _ tNext _); (refine w_nx ?_))
    | ((with_reducible show WP _ _ _ tRetN _); refine w_ret0 ?_))
local macro_rules | `(tactic| wtm_at "w") => `(tactic| repeat ((try dsimp only); wtm_at "w1"))
theorem sc__law_spoil : FnScope ["_law_hears", "_law_says", "_law_k", "_law_row"] ["_law_hears", "_law_says"] (defScope s__law_spoil) := ⟨rfl, rfl, rfl, by decide +kernel, rfl, by decide +kernel, by decide +kernel⟩
theorem b__law_spoil (T : Tx P K mg) : Binds K T.fd__law_spoil ["_law_hears", "_law_says"] [] := T.F__law_spoil.bindsN fun _ _ _ _ _ _ us hl => match us, hl with | [_, _], _ => rfl
def R_law_spoil (T : Tx P K mg) : List V → Hp → List Re → KV → KX → Prop := fun vs G M κ ε => ∃ (b pk p p2 : Addr) (kn z1 : List Rp) (qs : List Addr) (z2 : List (List Rp)), RA G vs [rV (.ref p), rV (.ref p2)] ∧ (M = boxR K b :: lstR pk kn :: lstR p z1 :: lstR p2 (qs.map fun q => rV (.ref q)) :: List.zipWith lstR qs z2) ∧ (z1.length ≤ 6) ∧ (1 ≤ z1.length) ∧ (qs.length = z1.length) ∧ (z2.length = z1.length) ∧ (∀ r ∈ z2, r.length ≤ 1000) ∧ (∀ z1 z2, κ (rV .non) (boxR K b :: lstR pk kn :: lstR p z1 :: lstR p2 (qs.map fun q => rV (.ref q)) :: List.zipWith lstR qs z2))
theorem ok__law_spoil (T : Tx P K mg) : FnOk P w K mg base CX0 1 T.f__law_spoil T.fd__law_spoil ["_law_hears", "_law_says"] (spC (R_law_spoil T)) := by
  refine T.F__law_spoil.ok sc__law_spoil (fun vs H Q E h => ?_) (fun cdv A outer s H vs Q E hr h => ?_)
  · obtain ⟨B, G, M, κ, ε, _, ⟨b, pk, p, p2, kn, z1, qs, z2, ra, _⟩, _⟩ := h
    exact ra.len
  · obtain ⟨B, G, M, κ, ε, ok, ⟨b, pk, p, p2, kn, z1, qs, z2, ra, q0, q1, q2, q3, q4, q5, z0⟩, k1, k2⟩ := h
    refine ⟨_, PSs.nox (pss_one (ps_for PassesOwn.never rfl (pi_range1 (by rfl) T.m_range (pa_cons (pe_callB (call_lenK K) (by rfl) T.m_len PySem.boot_len (pa_cons (pv 0) pa_nil)) pa_nil)) (pg_name (i := 2) sc__law_spoil.nd rfl (Or.inl rfl)) (pss_cons (ps_asg (pe_op op_sub (pe_callB (call_lenK K) (by rfl) T.m_len PySem.boot_len (pa_cons (pv 0) pa_nil)) pe_int) (pg_sub (pv 0) (pv 2) set_list))
      (pss_cons (ps_set (i := 3) sc__law_spoil.nd rfl (Or.inl rfl) (pe_ix (ix_listK K) (pv 1) (pv 2) (fun _ _ => rfl)))
      (pss_one (ps_expr (pe_bm PySem.F.plainAttrs_list PySem.F.slot_list_append PySem.F.type_list_append mt_append (pv 3) (pa_cons (pv 2) pa_nil)))))))), ?_⟩
    refine run_C (Γ := [some (rV (.ref p)), some (rV (.ref p2)), none, none]) ?_ ok (En.start (k := 2) _ (rs := [rV (.ref p), rV (.ref p2)]) ra (by rw [ra.len]; rfl)) k1 k2
    clear ra ok k1 k2
    subst q0
    obtain ⟨n, hn⟩ : ∃ n, n = z1.length := ⟨_, rfl⟩
    refine w_forRB n (fun i (z : List Rp × List (List Rp)) => z.1.length = n ∧ z.2.length = n ∧ ∀ r ∈ z.2, r.length ≤ 1000 + i) (fun _ _ => [some (rV (.ref p)), some (rV (.ref p2)), none, none]) (fun _ z => boxR K b :: lstR pk kn :: lstR p z.1 :: lstR p2 (qs.map fun q => rV (.ref q)) :: List.zipWith lstR qs z.2) (bc_set (i := 0) bc_refl rfl (br_lst1 (K := K) (k := 2) rfl)) (by rw [hn]; exact x_lenLm' (x_v rfl)) (by omega) (z1, z2) ⟨hn.symm, by show z2.length = n; omega, fun r hr => by have := q5 r hr; omega⟩ (by wtm_at "sub") rfl (fun i z hi hz => ?_) (fun z hz => ?_)
    · obtain ⟨h1, h2, h3⟩ := hz
      dsimp only [List.set]
      have hi1 : i < z.1.length := by omega
      have hi2 : 1 ≤ z.1.length := by omega
      obtain ⟨q, hqi⟩ : ∃ q, qs[i]? = some q := ⟨_, List.getElem?_eq_getElem (by omega)⟩
      obtain ⟨rs, hri⟩ : ∃ rs, z.2[i]? = some rs := ⟨_, List.getElem?_eq_getElem (by omega)⟩
      have hqm : (qs.map fun q => rV (V.ref q))[i]? = some (rV (.ref q)) := by rw [List.getElem?_map, hqi]; rfl
      have hrl := h3 rs (List.mem_of_getElem? hri)
      refine w_seq (ws_setI 2 rfl (by wtm_at "x") ?_)
      wtm_at "e"
      dsimp only [List.set]
      refine w_seq (ws_set ?_)
      wtm_at "e"
      dsimp only [List.set]
      refine ws_do (e_app (i + 1 + 1 + 1 + 1) rfl ?_ (own_get hqi hri))
      wtm_at "e"
      refine ⟨rs, own_get hqi hri, by omega, (z.1.set i (nI (z.1.length - 1)), z.2.set i (rs ++ [nI i])), ⟨by rw [List.length_set]; exact h1, by rw [List.length_set]; exact h2, fun r hr => ?_⟩, by wtm_at "sub", ?_⟩
      · rcases List.mem_or_eq_of_mem_set hr with y | y
        · have := h3 r y; omega
        · rw [y, List.length_append]; show rs.length + 1 ≤ _; omega
      · show boxR K b :: _ :: _ :: _ :: (List.zipWith lstR qs z.2).set i _ = _
        rw [own_set hqi]
    · exact z0 z.1 z.2
theorem x_law_spoil (T : Tx P K mg) {M : List Re} {κ : KV} {ε : KX} {b pk p p2 : Addr} {kn z1 : List Rp} {qs : List Addr} {z2 : List (List Rp)} (q0 : M = boxR K b :: lstR pk kn :: lstR p z1 :: lstR p2 (qs.map fun q => rV (.ref q)) :: List.zipWith lstR qs z2) (q1 : z1.length ≤ 6) (q2 : 1 ≤ z1.length) (q3 : qs.length = z1.length) (q4 : z2.length = z1.length) (q5 : ∀ r ∈ z2, r.length ≤ 1000) (z0 : ∀ z1 z2, κ (rV .non) (boxR K b :: lstR pk kn :: lstR p z1 :: lstR p2 (qs.map fun q => rV (.ref q)) :: List.zipWith lstR qs z2)) : XM (spC (R_law_spoil T)) [rV (.ref p), rV (.ref p2)] M κ ε := xmC fun vs G ra => ⟨b, pk, p, p2, kn, z1, qs, z2, ra, q0, q1, q2, q3, q4, q5, z0⟩
theorem c_law_spoil (T : Tx P K mg) {M : List Re} {κ : KV} {b pk p p2 : Addr} {kn z1 : List Rp} {qs : List Addr} {z2 : List (List Rp)} (q0 : M = boxR K b :: lstR pk kn :: lstR p z1 :: lstR p2 (qs.map fun q => rV (.ref q)) :: List.zipWith lstR qs z2) (q1 : z1.length ≤ 6) (q2 : 1 ≤ z1.length) (q3 : qs.length = z1.length) (q4 : z2.length = z1.length) (q5 : ∀ r ∈ z2, r.length ≤ 1000) (z0 : ∀ z1 z2, κ (rV .non) (boxR K b :: lstR pk kn :: lstR p z1 :: lstR p2 (qs.map fun q => rV (.ref q)) :: List.zipWith lstR qs z2)) : CM (spC (R_law_spoil T)) [rV (.ref p), rV (.ref p2)] M κ := cmC fun vs G ra => ⟨b, pk, p, p2, kn, z1, qs, z2, ra, q0, q1, q2, q3, q4, q5, z0⟩
theorem sc__law_is_kind : FnScope ["_law_one", "_law_rows", "_law_heard", "_law_word", "_law_told"] ["_law_one", "_law_rows", "_law_heard"] (defScope s__law_is_kind) := ⟨rfl, rfl, rfl, by decide +kernel, rfl, by decide +kernel, by decide +kernel⟩
theorem b__law_is_kind (T : Tx P K mg) : Binds K T.fd__law_is_kind ["_law_one", "_law_rows", "_law_heard"] [] := T.F__law_is_kind.bindsN fun _ _ _ _ _ _ us hl => match us, hl with | [_, _, _], _ => rfl
theorem saidP_len (pd : PD) {w : Nat} (hw : w < pd.h.length) : (saidP pd w).length ≤ pd.h.length := by
  obtain ⟨f, e⟩ := saidP_filter pd hw
  rw [e]
  exact Nat.le_trans (List.length_filter_le _ _) (by rw [List.length_range]; exact Nat.le_refl _)
theorem saidP_get (pd : PD) {w : Nat} (hw : w < pd.h.length) : bitsN ((saidPM pd).getD w 0) = saidP pd w := by
  unfold saidPM
  rw [List.getD_eq_getElem?_getD, List.getElem?_map, List.getElem?_range hw]
  show bitsN (maskN (saidP pd w)) = _
  obtain ⟨f, e⟩ := saidP_filter pd hw
  rw [e]
  exact bits_filter _ _

def R_law_is_kind (T : Tx P K mg) : List V → Hp → Rp → Prop := fun vs G r => ∃ (pd : PD), RA G vs [rPer K T.C_Person T.C_Knower T.C_Doubter T.C_KnowingDoubter pd, rLL K ((saidPM pd).map bitsN), rLi K pd.h] ∧ (PDok pd) ∧ (1 ≤ pd.kd) ∧ r = rB true
theorem ok__law_is_kind (T : Tx P K mg) : FnOk P w K mg base CX0 11 T.f__law_is_kind T.fd__law_is_kind ["_law_one", "_law_rows", "_law_heard"] (spD (R_law_is_kind T)) := by
  refine T.F__law_is_kind.ok sc__law_is_kind (fun vs H Q E h => ?_) (fun cdv A outer s H vs Q E hr h => ?_)
  · obtain ⟨G, r, _, ⟨pd, ra, _⟩, _⟩ := h
    exact ra.len
  · obtain ⟨G, r, e, ⟨pd, ra, q0, q1, rfl⟩, k⟩ := h
    have hh : ∀ C, Cls K C → NoAttr K C "size" → NoAttr K C "ears" → NoAttr K C "mouths" → Meth K C "heard" T.f_Person_heard → PerC K T.f_Person_heard C := fun C a b c d e => ⟨a, b, c, d, e⟩
    have ok1 := q0.lo
    have ok2 := q0.hi
    have ok3 := q0.sl
    have ok4 := q0.hw
    have ok5 := q0.kk
    have wS := saidPM_wf pd q0
    have hsm := wS.len
    have hlm : ((saidPM pd).map bitsN).length = pd.h.length := by rw [List.length_map, hsm]
    rcases (by omega : pd.kd = 1 ∨ pd.kd = 2 ∨ pd.kd = 3) with hk | hk | hk
    · have cc := (hh T.C_Knower T.c_Knower T.na_Knower_size T.na_Knower_ears T.na_Knower_mouths T.M_Knower_heard)
      have c0 := cc.cls
      have c1 := cc.size
      have n1 := T.na_Knower_sure_words
      have n2 : false = false → SupF K T.C_Knower T.C_Knower "said" T.f_Person_said := fun _ => T.sup_Knower_Knower_said
      have n3 : false = true → SupF K T.C_Knower T.C_Knower "said" T.f_Doubter_said ∧ SupF K T.C_Knower T.C_Doubter "said" T.f_Person_said := fun z => nomatch z
      have ic := T.ic_Knower
      have kt := T.kit_Knower_Person
      refine ⟨_, PSs.nox (pss_cons (ps_if (PW.pt (pw_or (pt_not (pt_val (pe_callB (call_isiK K) (by rfl) T.m_isinstance (by decide +kernel) (pa_cons (pv 0) (pa_cons (pe_glob (v := .ref T.C_Person) (by rfl) T.g_Person rfl) pa_nil))))) (pw_or (pt_cmpR op_ne (pe_fldK K (pv 0)) (pe_callB (call_lenK K) (by rfl) T.m_len PySem.boot_len (pa_cons (pv 1) pa_nil)) (nomark _)) (pw_or1 (pt_not (pt_val (pe_call (ok__law_same T) (hr.mono (by decide)) (by rfl) T.g__law_same T.F__law_same.kp (b__law_same T) .nil pass0 (pa_cons (pe_propG (pv 0) T.c_Knower T.pr_Knower_table (ok_Person_table T) (hr.mono (by decide)) (b_Person_table T) pass0) (pa_cons (pv 1) pa_nil))))))))) (pss_one (ps_ret pe_bl)) pss_nil)
      (pss_cons (ps_for PassesOwn.never rfl (pi_range1 (by rfl) T.m_range (pa_cons (pe_callB (call_lenK K) (by rfl) T.m_len PySem.boot_len (pa_cons (pv 1) pa_nil)) pa_nil)) (pg_name (i := 3) sc__law_is_kind.nd rfl (Or.inl rfl)) (pss_cons (ps_set (i := 4) sc__law_is_kind.nd rfl (Or.inl rfl) (pe_meth (pv 0) T.c_Knower T.M_Knower_said (ok_Knower_said T) (hr.mono (by decide)) (b_Knower_said T) .nil passF (pa_cons (pv 3) pa_nil)))
      (pss_cons (ps_if (PW.pt (pw_or (pt_not (pt_val (pe_call (ok__law_is_words T) (hr.mono (by decide)) (by rfl) T.g__law_is_words T.F__law_is_words.kp (b__law_is_words T) .nil pass0 (pa_cons (pv 4) pa_nil)))) (pw_or (pt_cmpR (op_neK K hr.units) (pv 4) (pe_ix (ix_listK K) (pv 1) (pv 3) (fun _ _ => rfl)) (nomark _)) (pw_or1 (pt_cmpR op_ne (pe_meth (pv 0) T.c_Knower T.M_Knower_heard (ok_Person_heard T) (hr.mono (by decide)) (b_Person_heard T) .nil passF (pa_cons (pv 3) pa_nil)) (pe_ix (ix_listK K) (pv 2) (pv 3) (fun _ _ => rfl)) (nomark _)))))) (pss_one (ps_ret pe_bl)) pss_nil)
      (pss_one (ps_expr (pe_bm PySem.F.plainAttrs_list PySem.F.slot_list_append PySem.F.type_list_append mt_append (pv 4) (pa_cons (pv 3) pa_nil)))))))
      (pss_one (ps_ret pe_bl)))), ?_⟩
      refine run_D (W := fun _ _ _ _ => False) (Γ := [some (rPer K T.C_Person T.C_Knower T.C_Doubter T.C_KnowingDoubter pd), some (rLL K ((saidPM pd).map bitsN)), some (rLi K pd.h), none, none]) ?_ e (En.start (k := 2) _ (rs := [rPer K T.C_Person T.C_Knower T.C_Doubter T.C_KnowingDoubter pd, rLL K ((saidPM pd).map bitsN), rLi K pd.h]) ra (by rw [ra.len]; rfl)) k
      clear ra e k
      have er := (rPer1 (K := K) (c0 := T.C_Person) (c1 := T.C_Knower) (c2 := T.C_Doubter) (c3 := T.C_KnowingDoubter) hk).symm
      rw [rPer1 hk]
      refine w_seq ?_
      wtm_at "no"
      refine w_nx ?_
      try dsimp only
      refine w_seq (w_forR ((saidPM pd).map bitsN).length (fun _ (_ : Unit) => True) (fun _ _ => [some (rIns T.C_Knower (perF K pd.h pd.s ++ ([("sure_words", rT K (pd.kn.map Mu.rI))] : FL))), some (rLL K ((saidPM pd).map bitsN)), some (rLi K pd.h), none, none]) (fun _ _ => []) (by wtm_at "x") (by rw [hlm]; omega) () trivial (by wtm_at "sub") rfl (fun w _ hw _ => ?_) (fun _ _ => ?_))
      · dsimp only [List.set]
        rw [hlm] at hw
        have hwl : w < ((saidPM pd).map bitsN).length := by rw [hlm]; exact hw
        have e1 : wordO T.C_UnknownWord pd.h.length ((w : Nat) : Int) (.inl ((knowL pd.kn (baseL false pd.h pd.s ((w : Nat) : Int).toNat) ((w : Nat) : Int).toNat).map nI)) = .inl ((saidP pd w).map nI) := by
          rw [word_good (by rw [bad_nat hw]; decide), Int.toNat_natCast, saidP1 hk]
          first | done | rfl
        have e3 : wordO T.C_UnknownWord pd.h.length ((w : Nat) : Int) (.inl (Mu.rI (pd.h.getD ((w : Nat) : Int).toNat 0))) = .inl (Mu.rI (pd.h.getD w 0)) := by
          rw [word_good (by rw [bad_nat hw]; decide), Int.toNat_natCast]
        have hge : (pd.h.map Mu.rI)[w]? = some (Mu.rI (pd.h.getD w 0)) := by
          rw [List.getElem?_map, List.getD_eq_getElem?_getD, List.getElem?_eq_getElem hw]; rfl
        have hsl := saidP_len pd hw
        refine w_seq (ws_set ?_)
        wtm_at "eo"
        intro q
        try dsimp only [List.set, List.cons_append, List.nil_append]
        refine w_seq (ws_if (et_bor (c := false) (bc_set (i := 4) bc_refl rfl (br_lst1 (K := K) (k := 0) rfl)) ?_ ⟨(fun z => nomatch z), fun _ => ?_⟩))
        · dsimp only [List.set]
          rw [show rL K ((saidP pd w).map nI) = rLn K (saidP pd w) from rfl]
          apply t_is
          · wtm_at "t"
          · rw [saidP_get pd hw]; simp
        refine w_nx ?_
        try dsimp only
        refine ws_do (EW.few (e_app 0 rfl ?_ rfl))
        wtm_at "e"
        exact ⟨[], [_], rfl, (), trivial, by wtm_at "sub", rfl⟩
      · wtm_at "w"
        rfl
    · have cc := (hh T.C_Doubter T.c_Doubter T.na_Doubter_size T.na_Doubter_ears T.na_Doubter_mouths T.M_Doubter_heard)
      have c0 := cc.cls
      have c1 := cc.size
      have n1 := T.sup_Doubter_Doubter_said
      have ic := T.ic_Doubter
      have kt := T.kit_Doubter_Person
      refine ⟨_, PSs.nox (pss_cons (ps_if (PW.pt (pw_or (pt_not (pt_val (pe_callB (call_isiK K) (by rfl) T.m_isinstance (by decide +kernel) (pa_cons (pv 0) (pa_cons (pe_glob (v := .ref T.C_Person) (by rfl) T.g_Person rfl) pa_nil))))) (pw_or (pt_cmpR op_ne (pe_fldK K (pv 0)) (pe_callB (call_lenK K) (by rfl) T.m_len PySem.boot_len (pa_cons (pv 1) pa_nil)) (nomark _)) (pw_or1 (pt_not (pt_val (pe_call (ok__law_same T) (hr.mono (by decide)) (by rfl) T.g__law_same T.F__law_same.kp (b__law_same T) .nil pass0 (pa_cons (pe_propG (pv 0) T.c_Doubter T.pr_Doubter_table (ok_Person_table T) (hr.mono (by decide)) (b_Person_table T) pass0) (pa_cons (pv 1) pa_nil))))))))) (pss_one (ps_ret pe_bl)) pss_nil)
      (pss_cons (ps_for PassesOwn.never rfl (pi_range1 (by rfl) T.m_range (pa_cons (pe_callB (call_lenK K) (by rfl) T.m_len PySem.boot_len (pa_cons (pv 1) pa_nil)) pa_nil)) (pg_name (i := 3) sc__law_is_kind.nd rfl (Or.inl rfl)) (pss_cons (ps_set (i := 4) sc__law_is_kind.nd rfl (Or.inl rfl) (pe_meth (pv 0) T.c_Doubter T.M_Doubter_said (ok_Doubter_said T) (hr.mono (by decide)) (b_Doubter_said T) .nil passF (pa_cons (pv 3) pa_nil)))
      (pss_cons (ps_if (PW.pt (pw_or (pt_not (pt_val (pe_call (ok__law_is_words T) (hr.mono (by decide)) (by rfl) T.g__law_is_words T.F__law_is_words.kp (b__law_is_words T) .nil pass0 (pa_cons (pv 4) pa_nil)))) (pw_or (pt_cmpR (op_neK K hr.units) (pv 4) (pe_ix (ix_listK K) (pv 1) (pv 3) (fun _ _ => rfl)) (nomark _)) (pw_or1 (pt_cmpR op_ne (pe_meth (pv 0) T.c_Doubter T.M_Doubter_heard (ok_Person_heard T) (hr.mono (by decide)) (b_Person_heard T) .nil passF (pa_cons (pv 3) pa_nil)) (pe_ix (ix_listK K) (pv 2) (pv 3) (fun _ _ => rfl)) (nomark _)))))) (pss_one (ps_ret pe_bl)) pss_nil)
      (pss_one (ps_expr (pe_bm PySem.F.plainAttrs_list PySem.F.slot_list_append PySem.F.type_list_append mt_append (pv 4) (pa_cons (pv 3) pa_nil)))))))
      (pss_one (ps_ret pe_bl)))), ?_⟩
      refine run_D (W := fun _ _ _ _ => False) (Γ := [some (rPer K T.C_Person T.C_Knower T.C_Doubter T.C_KnowingDoubter pd), some (rLL K ((saidPM pd).map bitsN)), some (rLi K pd.h), none, none]) ?_ e (En.start (k := 2) _ (rs := [rPer K T.C_Person T.C_Knower T.C_Doubter T.C_KnowingDoubter pd, rLL K ((saidPM pd).map bitsN), rLi K pd.h]) ra (by rw [ra.len]; rfl)) k
      clear ra e k
      have er := (rPer2 (K := K) (c0 := T.C_Person) (c1 := T.C_Knower) (c2 := T.C_Doubter) (c3 := T.C_KnowingDoubter) hk).symm
      rw [rPer2 hk]
      refine w_seq ?_
      wtm_at "no"
      refine w_nx ?_
      try dsimp only
      refine w_seq (w_forR ((saidPM pd).map bitsN).length (fun _ (_ : Unit) => True) (fun _ _ => [some (rIns T.C_Doubter (perF K pd.h pd.s ++ ([] : FL))), some (rLL K ((saidPM pd).map bitsN)), some (rLi K pd.h), none, none]) (fun _ _ => []) (by wtm_at "x") (by rw [hlm]; omega) () trivial (by wtm_at "sub") rfl (fun w _ hw _ => ?_) (fun _ _ => ?_))
      · dsimp only [List.set]
        rw [hlm] at hw
        have hwl : w < ((saidPM pd).map bitsN).length := by rw [hlm]; exact hw
        have e1 : wordO T.C_UnknownWord pd.h.length ((w : Nat) : Int) (.inl ((doubtL pd.h pd.s ((w : Nat) : Int).toNat).map nI)) = .inl ((saidP pd w).map nI) := by
          rw [word_good (by rw [bad_nat hw]; decide), Int.toNat_natCast, saidP2 hk]
          first | done | rfl
        have e3 : wordO T.C_UnknownWord pd.h.length ((w : Nat) : Int) (.inl (Mu.rI (pd.h.getD ((w : Nat) : Int).toNat 0))) = .inl (Mu.rI (pd.h.getD w 0)) := by
          rw [word_good (by rw [bad_nat hw]; decide), Int.toNat_natCast]
        have hge : (pd.h.map Mu.rI)[w]? = some (Mu.rI (pd.h.getD w 0)) := by
          rw [List.getElem?_map, List.getD_eq_getElem?_getD, List.getElem?_eq_getElem hw]; rfl
        have hsl := saidP_len pd hw
        refine w_seq (ws_set ?_)
        wtm_at "eo"
        intro q
        try dsimp only [List.set, List.cons_append, List.nil_append]
        refine w_seq (ws_if (et_bor (c := false) (bc_set (i := 4) bc_refl rfl (br_lst1 (K := K) (k := 0) rfl)) ?_ ⟨(fun z => nomatch z), fun _ => ?_⟩))
        · dsimp only [List.set]
          rw [show rL K ((saidP pd w).map nI) = rLn K (saidP pd w) from rfl]
          apply t_is
          · wtm_at "t"
          · rw [saidP_get pd hw]; simp
        refine w_nx ?_
        try dsimp only
        refine ws_do (EW.few (e_app 0 rfl ?_ rfl))
        wtm_at "e"
        exact ⟨[], [_], rfl, (), trivial, by wtm_at "sub", rfl⟩
      · wtm_at "w"
        rfl
    · have cc := (hh T.C_KnowingDoubter T.c_KnowingDoubter T.na_KnowingDoubter_size T.na_KnowingDoubter_ears T.na_KnowingDoubter_mouths T.M_KnowingDoubter_heard)
      have c0 := cc.cls
      have c1 := cc.size
      have n1 := T.na_KnowingDoubter_sure_words
      have n2 : true = false → SupF K T.C_KnowingDoubter T.C_Knower "said" T.f_Person_said := fun z => nomatch z
      have n3 : true = true → SupF K T.C_KnowingDoubter T.C_Knower "said" T.f_Doubter_said ∧ SupF K T.C_KnowingDoubter T.C_Doubter "said" T.f_Person_said := fun _ => ⟨T.sup_KnowingDoubter_Knower_said, T.sup_KnowingDoubter_Doubter_said⟩
      have n4 := T.sup_KnowingDoubter_KnowingDoubter_said
      have ic := T.ic_KnowingDoubter
      have kt := T.kit_KnowingDoubter_Person
      refine ⟨_, PSs.nox (pss_cons (ps_if (PW.pt (pw_or (pt_not (pt_val (pe_callB (call_isiK K) (by rfl) T.m_isinstance (by decide +kernel) (pa_cons (pv 0) (pa_cons (pe_glob (v := .ref T.C_Person) (by rfl) T.g_Person rfl) pa_nil))))) (pw_or (pt_cmpR op_ne (pe_fldK K (pv 0)) (pe_callB (call_lenK K) (by rfl) T.m_len PySem.boot_len (pa_cons (pv 1) pa_nil)) (nomark _)) (pw_or1 (pt_not (pt_val (pe_call (ok__law_same T) (hr.mono (by decide)) (by rfl) T.g__law_same T.F__law_same.kp (b__law_same T) .nil pass0 (pa_cons (pe_propG (pv 0) T.c_KnowingDoubter T.pr_KnowingDoubter_table (ok_Person_table T) (hr.mono (by decide)) (b_Person_table T) pass0) (pa_cons (pv 1) pa_nil))))))))) (pss_one (ps_ret pe_bl)) pss_nil)
      (pss_cons (ps_for PassesOwn.never rfl (pi_range1 (by rfl) T.m_range (pa_cons (pe_callB (call_lenK K) (by rfl) T.m_len PySem.boot_len (pa_cons (pv 1) pa_nil)) pa_nil)) (pg_name (i := 3) sc__law_is_kind.nd rfl (Or.inl rfl)) (pss_cons (ps_set (i := 4) sc__law_is_kind.nd rfl (Or.inl rfl) (pe_meth (pv 0) T.c_KnowingDoubter T.M_KnowingDoubter_said (ok_KnowingDoubter_said T) (hr.mono (by decide)) (b_KnowingDoubter_said T) .nil passF (pa_cons (pv 3) pa_nil)))
      (pss_cons (ps_if (PW.pt (pw_or (pt_not (pt_val (pe_call (ok__law_is_words T) (hr.mono (by decide)) (by rfl) T.g__law_is_words T.F__law_is_words.kp (b__law_is_words T) .nil pass0 (pa_cons (pv 4) pa_nil)))) (pw_or (pt_cmpR (op_neK K hr.units) (pv 4) (pe_ix (ix_listK K) (pv 1) (pv 3) (fun _ _ => rfl)) (nomark _)) (pw_or1 (pt_cmpR op_ne (pe_meth (pv 0) T.c_KnowingDoubter T.M_KnowingDoubter_heard (ok_Person_heard T) (hr.mono (by decide)) (b_Person_heard T) .nil passF (pa_cons (pv 3) pa_nil)) (pe_ix (ix_listK K) (pv 2) (pv 3) (fun _ _ => rfl)) (nomark _)))))) (pss_one (ps_ret pe_bl)) pss_nil)
      (pss_one (ps_expr (pe_bm PySem.F.plainAttrs_list PySem.F.slot_list_append PySem.F.type_list_append mt_append (pv 4) (pa_cons (pv 3) pa_nil)))))))
      (pss_one (ps_ret pe_bl)))), ?_⟩
      refine run_D (W := fun _ _ _ _ => False) (Γ := [some (rPer K T.C_Person T.C_Knower T.C_Doubter T.C_KnowingDoubter pd), some (rLL K ((saidPM pd).map bitsN)), some (rLi K pd.h), none, none]) ?_ e (En.start (k := 2) _ (rs := [rPer K T.C_Person T.C_Knower T.C_Doubter T.C_KnowingDoubter pd, rLL K ((saidPM pd).map bitsN), rLi K pd.h]) ra (by rw [ra.len]; rfl)) k
      clear ra e k
      have er := (rPer3 (K := K) (c0 := T.C_Person) (c1 := T.C_Knower) (c2 := T.C_Doubter) (c3 := T.C_KnowingDoubter) hk).symm
      rw [rPer3 hk]
      refine w_seq ?_
      wtm_at "no"
      refine w_nx ?_
      try dsimp only
      refine w_seq (w_forR ((saidPM pd).map bitsN).length (fun _ (_ : Unit) => True) (fun _ _ => [some (rIns T.C_KnowingDoubter (perF K pd.h pd.s ++ ([("sure_words", rT K (pd.kn.map Mu.rI))] : FL))), some (rLL K ((saidPM pd).map bitsN)), some (rLi K pd.h), none, none]) (fun _ _ => []) (by wtm_at "x") (by rw [hlm]; omega) () trivial (by wtm_at "sub") rfl (fun w _ hw _ => ?_) (fun _ _ => ?_))
      · dsimp only [List.set]
        rw [hlm] at hw
        have hwl : w < ((saidPM pd).map bitsN).length := by rw [hlm]; exact hw
        have e1 : wordO T.C_UnknownWord pd.h.length ((w : Nat) : Int) (.inl ((knowL pd.kn (baseL true pd.h pd.s ((w : Nat) : Int).toNat) ((w : Nat) : Int).toNat).map nI)) = .inl ((saidP pd w).map nI) := by
          rw [word_good (by rw [bad_nat hw]; decide), Int.toNat_natCast, saidP3 hk]
          first | done | rfl
        have e3 : wordO T.C_UnknownWord pd.h.length ((w : Nat) : Int) (.inl (Mu.rI (pd.h.getD ((w : Nat) : Int).toNat 0))) = .inl (Mu.rI (pd.h.getD w 0)) := by
          rw [word_good (by rw [bad_nat hw]; decide), Int.toNat_natCast]
        have hge : (pd.h.map Mu.rI)[w]? = some (Mu.rI (pd.h.getD w 0)) := by
          rw [List.getElem?_map, List.getD_eq_getElem?_getD, List.getElem?_eq_getElem hw]; rfl
        have hsl := saidP_len pd hw
        refine w_seq (ws_set ?_)
        wtm_at "eo"
        intro q
        try dsimp only [List.set, List.cons_append, List.nil_append]
        refine w_seq (ws_if (et_bor (c := false) (bc_set (i := 4) bc_refl rfl (br_lst1 (K := K) (k := 0) rfl)) ?_ ⟨(fun z => nomatch z), fun _ => ?_⟩))
        · dsimp only [List.set]
          rw [show rL K ((saidP pd w).map nI) = rLn K (saidP pd w) from rfl]
          apply t_is
          · wtm_at "t"
          · rw [saidP_get pd hw]; simp
        refine w_nx ?_
        try dsimp only
        refine ws_do (EW.few (e_app 0 rfl ?_ rfl))
        wtm_at "e"
        exact ⟨[], [_], rfl, (), trivial, by wtm_at "sub", rfl⟩
      · wtm_at "w"
        rfl
theorem c_law_is_kind (T : Tx P K mg) {M : List Re} {κ : KV} {pd : PD} (q0 : PDok pd) (q1 : 1 ≤ pd.kd) (k : κ (rB true) M) : CM (spD (R_law_is_kind T)) [rPer K T.C_Person T.C_Knower T.C_Doubter T.C_KnowingDoubter pd, rLL K ((saidPM pd).map bitsN), rLi K pd.h] M κ := cm (fun vs G ra => SpD.of ⟨pd, ra, q0, q1, rfl⟩) k
local macro_rules | `(tactic| wtm_at "c") => `(tactic| refine c_law_is_kind _ (by wtm_at "s") (by wtm_at "s") ?_)
end
end MuL

namespace MuL
open PySem PySem.Spec PyProof.Rows L2 He Evl Mu
section
variable {P : Program} {w : World} {K : PySem.W.Frag} {mg : Str → Option Value} {base : Heap}
local macro_rules | `(tactic| wtm_at "s") => `(tactic| first | assumption | omega | exact rfl | decide | wtm_at "s2")
local macro_rules | `(tactic| wtm_at "s2") => `(tactic| (simp only [List.length_map, List.length_range, List.length_cons, List.length_nil, List.length_append]; omega))
local macro_rules | `(tactic| wtm_at "j") => `(tactic| first | exact List.mem_cons_self | (simp; done))
local macro_rules | `(tactic| wtm_at "tr") => `(tactic| (apply t_is; (focus (wtm_at "t")); exact rfl))
local macro_rules | `(tactic| wtm_at "bs") => `(tactic| first | exact rfl | (simp; done) | (simp [*]; done))
local macro_rules | `(tactic| wtm_at "yes") => `(tactic| (apply w_yes; (focus (apply t_is; (focus (wtm_at "t")); first | exact rfl | (simp; done) | (simp [*]; done)))))
local macro_rules | `(tactic| wtm_at "no") => `(tactic| (apply w_no; (focus (apply t_is; (focus (wtm_at "t")); first | exact rfl | (simp; done) | (simp [*]; done)))))
local macro_rules | `(tactic| wtm_at "nn") => `(tactic| first | exact nn_tab | exact nn_L | exact nn_T | exact nn_I)
local macro_rules | `(tactic| wtm_at "sub") => `(tactic| repeat' first | exact Paired.nil | refine Paired.cons (Or.inr rfl) ?_ | refine Paired.cons (Or.inl rfl) ?_)
local macro_rules | `(tactic| wtm_at "o") => `(tactic| first
    | ((with_reducible show OM (rI0 _) _ _ _ _); first | refine om (x_addN (x_v rfl) (x_v rfl)) ?_ | refine om (x_subN (x_v rfl) (x_v rfl) (by wtm_at "s")) ?_ | refine om (x_bandN (x_v rfl) (x_v rfl)) ?_ | refine om (x_borN (x_v rfl) (x_v rfl)) ?_ | refine om (x_ltN (x_v rfl) (x_v rfl)) ?_ | refine om (x_leN (x_v rfl) (x_v rfl)) ?_ | refine om (x_gtN (x_v rfl) (x_v rfl)) ?_ | refine om (x_geN (x_v rfl) (x_v rfl)) ?_ | refine om (x_I0 (x_v rfl) (x_v rfl)) ?_)
    | ((with_reducible show OM (L2.rI _ _) _ _ _ _); first | refine om (x_powN (x_v rfl) (x_v rfl) (by wtm_at "s") (by wtm_at "s")) ?_ | refine om (x_shrN (x_v rfl) (x_v rfl)) ?_ | refine om (x_shlN1 (x_v rfl) (x_v rfl) (by wtm_at "s")) ?_ | refine om (x_I (x_v rfl) (x_v rfl) (by wtm_at "s")) ?_)
    | ((with_reducible show OM rEq _ _ _ _); first | refine om (x_eqN (x_v rfl) (x_v rfl)) ?_ | refine om (x_eqI (x_v rfl) (x_v rfl)) ?_ | refine om (x_eqV (x_v rfl) (x_v rfl) rfl) ?_)
    | ((with_reducible show OM rNe _ _ _ _); first | refine om (x_neN (x_v rfl) (x_v rfl)) ?_ | refine om (x_neI (x_v rfl) (x_v rfl)) ?_ | refine om (x_neV (x_v rfl) (x_v rfl) rfl) ?_)
    | ((with_reducible show OM (rIxT _) _ _ _ _); first | refine om (x_ixTn (x_v rfl) (x_v rfl) (by wtm_at "s")) ?_ | refine om (x_ixT (x_v rfl) (x_v rfl) rfl) ?_ | refine om (x_ixTm default (x_v rfl) (x_v rfl) (by wtm_at "s")) ?_)
    | ((with_reducible show OM (rIxL _) _ _ _ _); first | refine om (x_ixB (x_v rfl) (x_v rfl) (by wtm_at "s")) ?_ | refine om (x_ixLn (x_v rfl) (x_v rfl) (by wtm_at "s")) ?_ | refine om (x_ixLL (x_v rfl) (x_v rfl) (by wtm_at "s")) ?_ | refine om_ixOwn 0 rfl (by wtm_at "s") ?_ | refine om_ixOwn 1 rfl (by wtm_at "s") ?_ | refine om_ixOwn 2 rfl (by wtm_at "s") ?_ | refine om_ixOwn 3 rfl (by wtm_at "s") ?_ | refine om (x_ixL (x_v rfl) (x_v rfl) rfl) ?_ | refine om (x_ixL (x_v rfl) (x_v rfl) (by assumption)) ?_ | refine om (x_ixLm default (x_v rfl) (x_v rfl) (by wtm_at "s")) ?_)
    | ((with_reducible show OM (rIn _ _) _ _ _ _); first | refine om (x_inLn (l := [_, _]) (x_v rfl) (x_v rfl)) ?_ | refine om (x_inLn (l := [_, _, _]) (x_v rfl) (x_v rfl)) ?_ | refine om (x_inLn (x_v rfl) (x_v rfl)) ?_ | refine om (x_niLn (x_v rfl) (x_v rfl)) ?_ | refine om (x_inTi true (x_v rfl) (x_v rfl)) ?_ | refine om (x_inTi false (x_v rfl) (x_v rfl)) ?_ | refine om (x_inLi true (x_v rfl) (x_v rfl)) ?_ | refine om (x_inLi false (x_v rfl) (x_v rfl)) ?_)
    | ((with_reducible show OM (rEqD _) _ _ _ _); first | refine om (x_eqLn0 (x_v rfl) (x_v rfl)) ?_ | refine om (x_eqLn (x_v rfl) (x_v rfl)) ?_ | refine om (x_eqTn (x_v rfl) (x_v rfl)) ?_ | refine om (x_eqLL (x_v rfl) (x_v rfl)) ?_)
    | ((with_reducible show OM (rNeD _) _ _ _ _); first | refine om (x_neLn0 (x_v rfl) (x_v rfl)) ?_ | refine om (x_neLn (x_v rfl) (x_v rfl)) ?_ | refine om (x_neTn (x_v rfl) (x_v rfl)) ?_ | refine om (x_neLL (x_v rfl) (x_v rfl)) ?_ | refine om (x_neP (x_v rfl) (x_v rfl)) ?_)
    | ((with_reducible show OM (rInD _) _ _ _ _); first | refine om (x_inP (x_v rfl) (x_v rfl)) ?_)
    | ((with_reducible show OM (rNotInD _) _ _ _ _); first | refine om (x_niP (x_v rfl) (x_v rfl)) ?_)
    | ((with_reducible show OM (rInTD _) _ _ _ _); first | refine om (x_inTP (x_v rfl) (x_v rfl)) ?_)
    | ((with_reducible show OM rIsB _ _ _ _); first | refine om (x_isB (x_v rfl) (x_v rfl)) ?_)
    | ((with_reducible show OM rNotB _ _ _ _); first | refine om (x_isNB (x_v rfl) (x_v rfl)) ?_)
    | ((with_reducible show OM (fun _ _ _ _ => _ ∧ _) _ _ _ _); first | refine om_isN0 ?_ | refine om_notN0 ?_ | refine om_isN1 (by wtm_at "nn") ?_ | refine om_notN1 (by wtm_at "nn") ?_)
    | ((with_reducible show OM rRep _ _ _ _); first | refine om_rep (by wtm_at "s") (by wtm_at "s") ?_)
    | ((with_reducible show OM rCat _ _ _ _); first | refine om_cat (by wtm_at "s") ?_ | refine om (x_catm (x_v rfl) (x_v rfl) (by wtm_at "s")) ?_))
local macro_rules | `(tactic| wtm_at "a") => `(tactic| first
    | ((with_reducible show AM (rLenS _) _ _ _); first | refine am1 (x_lenLn (x_v rfl)) ?_ | refine am1 (x_lenTn (x_v rfl)) ?_ | refine am1 (x_lenB (x_v rfl)) ?_ | refine am1 (x_lenLL (x_v rfl)) ?_ | refine am1 (x_lenLm (x_v rfl)) ?_ | refine am1 (x_lenTm (x_v rfl)) ?_ | refine am_own 0 rfl (x_lenLm (x_v rfl)) ?_ | refine am_own 1 rfl (x_lenLm (x_v rfl)) ?_ | refine am_own 2 rfl (x_lenLm (x_v rfl)) ?_ | refine am_own 3 rfl (x_lenLm (x_v rfl)) ?_ | refine am_own 1 rfl (x_lenLm' (x_v rfl)) ?_ | refine am_own 2 rfl (x_lenLm' (x_v rfl)) ?_ | refine am1 (x_lenL (x_v rfl)) ?_ | refine am1 (x_lenT (x_v rfl)) ?_)
    | ((with_reducible show AM (rTupO _) _ _ _); first | refine am1 (x_tupL (x_v rfl)) ?_)
    | ((with_reducible show AM (rListS _) _ _ _); first | refine am_listL ?_ | refine am_listT ?_ | refine am_listOwn 0 rfl ?_ | refine am_listOwn 1 rfl ?_ | refine am_listOwn 2 rfl ?_)
    | ((with_reducible show AM (rIsi _) _ _ _); first | refine am2c (x_isInt (x_v rfl)) ?_ | refine am2c (x_isList (x_v rfl)) ?_ | refine am2c (x_isTup (x_v rfl)) ?_ | refine am2c (x_isTab (Tx.ic_Table (by assumption)) (x_v rfl)) ?_ | refine am2c (x_isIns (by assumption) (by assumption) (x_v rfl)) ?_)
    | ((with_reducible show AM _ _ _ _); first | refine am1 (x_int (x_v rfl)) ?_ | refine mk_tab (by assumption) (by wtm_at "s") (by wtm_at "s") ?_))
local macro_rules | `(tactic| wtm_at "c") => `(tactic| fail)
local macro_rules | `(tactic| wtm_at "c") => `(tactic| refine c_bits (by assumption) (by wtm_at "s") ?_)
local macro_rules | `(tactic| wtm_at "c") => `(tactic| refine c_all_words _  ?_)
local macro_rules | `(tactic| wtm_at "c") => `(tactic| refine xe_check_person _ (by wtm_at "s") (by wtm_at "s") (by assumption) ?_)
local macro_rules | `(tactic| wtm_at "c") => `(tactic| refine xq_check_person _ (by wtm_at "s") (by wtm_at "s") (by assumption) ?_)
local macro_rules | `(tactic| wtm_at "c") => `(tactic| refine c_check_person _ (by wtm_at "s") (by wtm_at "s") (by assumption) ?_)
local macro_rules | `(tactic| wtm_at "c") => `(tactic| refine me_Person__init _ (by assumption) (by wtm_at "s") (by wtm_at "s") (by wtm_at "s") (by assumption) ?_)
local macro_rules | `(tactic| wtm_at "c") => `(tactic| refine mk_Person__init _ (by assumption) (by wtm_at "s") (by wtm_at "s") (by wtm_at "s") (by assumption) ?_)
local macro_rules | `(tactic| wtm_at "c") => `(tactic| refine me_Knower__init _ (by assumption) (by wtm_at "s") (by wtm_at "s") (by wtm_at "s") (by wtm_at "s") (by assumption) ?_)
local macro_rules | `(tactic| wtm_at "c") => `(tactic| refine mk_Knower__init _ (by assumption) (by wtm_at "s") (by wtm_at "s") (by wtm_at "s") (by wtm_at "s") (by assumption) ?_)
local macro_rules | `(tactic| wtm_at "c") => `(tactic| refine xe_check_word _  (by assumption) ?_)
local macro_rules | `(tactic| wtm_at "c") => `(tactic| refine xq_check_word _  (by assumption) ?_)
local macro_rules | `(tactic| wtm_at "c") => `(tactic| refine c_check_word _  (by assumption) ?_)
local macro_rules | `(tactic| wtm_at "c") => `(tactic| refine xe_Person_heard _ (by wtm_at "s") (by assumption) ?_)
local macro_rules | `(tactic| wtm_at "c") => `(tactic| refine xq_Person_heard _ (by wtm_at "s") (by assumption) ?_)
local macro_rules | `(tactic| wtm_at "c") => `(tactic| refine c_Person_heard _ (by wtm_at "s") (by assumption) ?_)
local macro_rules | `(tactic| wtm_at "c") => `(tactic| refine xe_Person_said _ (by wtm_at "s") (by wtm_at "s") (by wtm_at "s") (by wtm_at "s") (by wtm_at "s") (by assumption) ?_)
local macro_rules | `(tactic| wtm_at "c") => `(tactic| refine xf_Person_said _ (by wtm_at "s") (by wtm_at "s") (by wtm_at "s") (by wtm_at "s") (by wtm_at "s") (by assumption) ?_)
local macro_rules | `(tactic| wtm_at "c") => `(tactic| refine c_Person_said _ (by wtm_at "s") (by wtm_at "s") (by wtm_at "s") (by wtm_at "s") (by wtm_at "s") (by assumption) ?_)
local macro_rules | `(tactic| wtm_at "c") => `(tactic| refine xe_Doubter_said _ (by wtm_at "s") (by wtm_at "s") (by wtm_at "s") (by wtm_at "s") (by wtm_at "s") (by wtm_at "s") (by wtm_at "s") (by wtm_at "s") (by assumption) ?_)
local macro_rules | `(tactic| wtm_at "c") => `(tactic| refine xf_Doubter_said _ (by wtm_at "s") (by wtm_at "s") (by wtm_at "s") (by wtm_at "s") (by wtm_at "s") (by wtm_at "s") (by wtm_at "s") (by wtm_at "s") (by assumption) ?_)
local macro_rules | `(tactic| wtm_at "c") => `(tactic| refine c_Doubter_said _ (by wtm_at "s") (by wtm_at "s") (by wtm_at "s") (by wtm_at "s") (by wtm_at "s") (by wtm_at "s") (by wtm_at "s") (by wtm_at "s") (by assumption) ?_)
local macro_rules | `(tactic| wtm_at "c") => `(tactic| refine xe_Knower_said _ (by wtm_at "s") (by wtm_at "s") (by wtm_at "s") (by wtm_at "s") (by wtm_at "s") (by wtm_at "s") (by wtm_at "s") (by wtm_at "s") (by wtm_at "s") (by assumption) ?_)
local macro_rules | `(tactic| wtm_at "c") => `(tactic| refine xf_Knower_said _ (by wtm_at "s") (by wtm_at "s") (by wtm_at "s") (by wtm_at "s") (by wtm_at "s") (by wtm_at "s") (by wtm_at "s") (by wtm_at "s") (by wtm_at "s") (by assumption) ?_)
local macro_rules | `(tactic| wtm_at "c") => `(tactic| refine c_Knower_said _ (by wtm_at "s") (by wtm_at "s") (by wtm_at "s") (by wtm_at "s") (by wtm_at "s") (by wtm_at "s") (by wtm_at "s") (by wtm_at "s") (by wtm_at "s") (by assumption) ?_)
local macro_rules | `(tactic| wtm_at "c") => `(tactic| refine xe_KnowingDoubter_said _ (by wtm_at "s") (by wtm_at "s") (by wtm_at "s") (by wtm_at "s") (by wtm_at "s") (by wtm_at "s") (by wtm_at "s") (by wtm_at "s") (by wtm_at "s") (by wtm_at "s") (by assumption) ?_)
local macro_rules | `(tactic| wtm_at "c") => `(tactic| refine xf_KnowingDoubter_said _ (by wtm_at "s") (by wtm_at "s") (by wtm_at "s") (by wtm_at "s") (by wtm_at "s") (by wtm_at "s") (by wtm_at "s") (by wtm_at "s") (by wtm_at "s") (by wtm_at "s") (by assumption) ?_)
local macro_rules | `(tactic| wtm_at "c") => `(tactic| refine c_KnowingDoubter_said _ (by wtm_at "s") (by wtm_at "s") (by wtm_at "s") (by wtm_at "s") (by wtm_at "s") (by wtm_at "s") (by wtm_at "s") (by wtm_at "s") (by wtm_at "s") (by wtm_at "s") (by assumption) ?_)
local macro_rules | `(tactic| wtm_at "c") => `(tactic| refine c_Person_table _ (by wtm_at "s") ?_)
local macro_rules | `(tactic| wtm_at "c") => `(tactic| refine cq_Person_table _ (by assumption) (by assumption) ?_)
local macro_rules | `(tactic| wtm_at "c") => `(tactic| refine c_Knower_known _ (by wtm_at "s") (by wtm_at "s") (by wtm_at "s") (by wtm_at "s") ?_)
local macro_rules | `(tactic| wtm_at "c") => `(tactic| refine c_is_int (by assumption) ?_)
local macro_rules | `(tactic| wtm_at "c") => `(tactic| refine c_is_words (by assumption) ?_)
local macro_rules | `(tactic| wtm_at "c") => `(tactic| refine c_same _ (by assumption) (by wtm_at "s") ?_)
local macro_rules | `(tactic| wtm_at "c") => `(tactic| refine c_take 0 rfl (by wtm_at "s") (by wtm_at "s") ?_)
local macro_rules | `(tactic| wtm_at "c") => `(tactic| refine c_take 1 rfl (by wtm_at "s") (by wtm_at "s") ?_)
local macro_rules | `(tactic| wtm_at "c") => `(tactic| refine c_words (by assumption) rfl (by wtm_at "s") (by wtm_at "s") ?_)
local macro_rules | `(tactic| wtm_at "c") => `(tactic| refine c_law_outs (by assumption) rfl (by wtm_at "s") (by wtm_at "s") ?_)
local macro_rules | `(tactic| wtm_at "c") => `(tactic| refine c_law_person (by assumption) rfl (by wtm_at "s") (by wtm_at "s") ?_)
local macro_rules | `(tactic| wtm_at "c") => `(tactic| refine c_mixed (by assumption) rfl (by wtm_at "s") ?_)
local macro_rules | `(tactic| wtm_at "c") => `(tactic| refine c_law_far (by assumption) rfl  ?_)
local macro_rules | `(tactic| wtm_at "c") => `(tactic| refine c_law_is_kind _ (by wtm_at "s") (by wtm_at "s") ?_)
local macro_rules | `(tactic| wtm_at "f") => `(tactic| first
    | refine f_own 0 rfl (by wtm_at "s") (by wtm_at "s") rfl ?_
    | refine f_ins (by wtm_at "s") (by wtm_at "s") rfl ?_
    | refine f_tab (x_size (x_v rfl) (Tx.c_Table (by assumption)) (Tx.na_Table_size (by assumption))) ?_
    | refine f_tab (x_masks (x_v rfl) (Tx.c_Table (by assumption)) (Tx.na_Table_masks (by assumption))) ?_
    | refine f_tab (x_cells (x_v rfl) (Tx.c_Table (by assumption)) (Tx.na_Table_cells (by assumption))) ?_)
local macro_rules | `(tactic| wtm_at "v") => `(tactic| first
    | ((with_reducible show EW _ _ _ (tVar _) _ _); refine e_v rfl ?_)
    | ((with_reducible show EW _ _ _ (tC (V.int _)) _ _); refine e_cn ?_)
    | ((with_reducible show EW _ _ _ (tC _) _ _); refine e_c ?_)
    | ((with_reducible show EW _ _ _ (tOp _ _ _) _ _); refine e_op ?_)
    | ((with_reducible show EW _ _ _ (tCB _ _) _ _); refine e_cb ?_)
    | ((with_reducible show EW _ _ _ (tCall _ _ _ _) _ _); refine e_call ?_)
    | ((with_reducible show EW _ _ _ (tCallS _ _ _) _ _); refine e_callS ?_)
    | ((with_reducible show EW _ _ _ (tFld _ _ _) _ _); refine e_fld _ ?_)
    | ((with_reducible show EW _ _ _ (tTup _) _ _); refine e_tup (by assumption) ?_)
    | ((with_reducible show EW _ _ _ (tLst _) _ _); refine e_lst (by assumption) ?_)
    | ((with_reducible show EW _ _ _ (tUn _ _) _ _); refine e_un ?_)
    | ((with_reducible show EW _ _ _ (tMake _ (spTab _ _) _ _ _) _ _); refine e_make ?_)
    | ((with_reducible show EW _ _ _ (tMakeS _ _ _ _) _ _); refine e_makeS ?_)
    | ((with_reducible show EW _ _ _ (tMeth _ _ _ _ _ _ _) _ _); refine e_meth ?_)
    | ((with_reducible show EW _ _ _ (tMethS _ _ _ _ _ _) _ _); refine e_methS ?_)
    | ((with_reducible show EW _ _ _ (tProp _ _ _ _ _) _ _); refine e_prop ?_)
    | ((with_reducible show EW _ _ _ (tLc (iList _ _) _ tYes _ _) _ _); apply e_lcL0; (focus (wtm_at "x")); (focus (wtm_at "s")); (focus (intro a ha; wtm_at "x")); (focus (wtm_at "j")))
    | ((with_reducible show EW _ _ _ (tLc (iTup _ _) _ tYes _ _) _ _); apply e_lcT0; (focus (wtm_at "x")); (focus (wtm_at "s")); (focus (intro a ha; wtm_at "x")); (focus (wtm_at "j")))
    | ((with_reducible show EW _ _ _ (tLc (iRng1 _) _ tYes _ _) _ _); apply e_lcR0 (by assumption); (focus (wtm_at "x")); (focus (wtm_at "s")); (focus (intro a ha; wtm_at "x")); (focus (wtm_at "j")))
    | ((with_reducible show EW _ _ _ (tLc (iList _ _) _ _ _ _) _ _); apply e_lcL; (focus (wtm_at "x")); (focus (wtm_at "s")); (focus (intro a ha; wtm_at "tr")); (focus (intro a ha hf; wtm_at "x")); (focus (wtm_at "j")))
    | ((with_reducible show EW _ _ _ (tLc (iTup _ _) _ _ _ _) _ _); apply e_lcT; (focus (wtm_at "x")); (focus (wtm_at "s")); (focus (intro a ha; wtm_at "tr")); (focus (intro a ha hf; wtm_at "x")); (focus (wtm_at "j")))
    | ((with_reducible show EW _ _ _ (tLc (iRng1 _) _ _ _ _) _ _); apply e_lcR (by assumption); (focus (wtm_at "x")); (focus (wtm_at "s")); (focus (intro a ha; wtm_at "tr")); (focus (intro a ha hf; wtm_at "x")); (focus (wtm_at "j")))
    | ((with_reducible show EW _ _ _ (tSl (rSlL _) _ tNoPart (tPart _)) _ _); apply e_slTo; (focus (wtm_at "x")))
    | ((with_reducible show EW _ _ _ (tSl (rSlL _) _ (tPart _) tNoPart) _ _); apply e_slFrom; (focus (wtm_at "x")))
    | ((with_reducible show EW _ _ _ (tAndV _ _) _ _); first | (apply e_and; (focus (wtm_at "x")); (focus (intro hq; wtm_at "x"))) | (apply e_x; (focus (apply x_and0; (focus (wtm_at "x")); wtm_at "bs"))))
    | ((with_reducible show EW _ _ _ (tOrV _ _) _ _); first | (apply e_or; (focus (wtm_at "x")); (focus (intro hq; wtm_at "x"))) | (apply e_x; (focus (apply x_or1; (focus (wtm_at "x")); wtm_at "bs"))))
    | ((with_reducible show EW _ _ _ (tMake _ (spIni _ _) _ _ _) _ _); refine e_makeI ?_ spIni_E)
    | ((with_reducible show EW _ _ _ (tSup _ _ _ _ _ _ _) _ _); refine e_sup rfl (by assumption) ?_)
    | ((with_reducible show EW _ _ _ (tNotV _) _ _); apply e_not; (focus (wtm_at "x")))
    | ((with_reducible show EW _ _ _ (tBM _ _ _ _ _) _ _); first | refine e_app 0 rfl ?_ rfl | refine e_app 1 rfl ?_ rfl | refine e_app 2 rfl ?_ rfl | refine e_app 3 rfl ?_ rfl))
local macro_rules | `(tactic| wtm_at "e1") => `(tactic| first
    | ((with_reducible show EW _ _ _ _ _ _); wtm_at "v")
    | ((with_reducible show EA _ _ _ _ _ _); first | refine a_cons ?_ | refine a_nil ?_)
    | ((with_reducible show OM _ _ _ _ _); first | wtm_at "o" | wtm_at "c")
    | ((with_reducible show AM _ _ _ _); wtm_at "a")
    | ((with_reducible show CM _ _ _ _); wtm_at "c")
    | ((with_reducible show XM _ _ _ _ _); wtm_at "c")
    | ((with_reducible show MkM _ _ _ _ _ _); wtm_at "c")
    | ((with_reducible show UM _ _ _ _); first | wtm_at "f" | refine um (x_neg (x_v rfl)) ?_ | wtm_at "c")
    | ((with_reducible show InsR _ _ _ ∧ _); first | refine ⟨ins_tab rfl, ?_⟩ | refine ⟨ins_ins rfl, ?_⟩ | refine ⟨ins_ins (by assumption), ?_⟩)
    | ((with_reducible show (∀ (v : V) (G : Hp), _ → ∃ a dx fs, _) ∧ _); refine ⟨ins_is, ?_⟩)
    | ((with_reducible show And (@LE.le Nat _ _ _) _); refine ⟨Nat.le_of_ble_eq_true rfl, ?_⟩)
    | ((with_reducible show ∃ rs : List Rp, _ ∧ _ ∧ _); refine ⟨_, rfl, by wtm_at "s", ?_⟩)
    | ((with_reducible show ∃ rs : List Rp, _ = rL _ rs ∧ _); refine ⟨_, rfl, ?_⟩)
    | ((with_reducible show ∃ fs : FL, _ ∧ _ ∧ _ ∧ _); refine ⟨_, rfl, rfl, Nat.le_of_ble_eq_true rfl, ?_⟩)
    | ((with_reducible show _ = _ ∧ _ = ([] : List Re)); first | exact ⟨rfl, rfl⟩ | exact ⟨by wtm_at "q", rfl⟩))
local macro_rules | `(tactic| wtm_at "q") => `(tactic| first | rfl | exact congrArg nI (by omega) | exact congrArg Mu.rI (by omega) | exact congrArg rB (by wtm_at "b"))
local macro_rules | `(tactic| wtm_at "b") => `(tactic| first | rfl | (rw [Bool.eq_iff_iff]; simp; omega))
local macro_rules | `(tactic| wtm_at "e") => `(tactic| repeat wtm_at "e1")
local macro_rules | `(tactic| wtm_at "co") => `(tactic| fail)
local macro_rules | `(tactic| wtm_at "co") => `(tactic| refine xo_Person_said _ (by wtm_at "s") (by wtm_at "s") (by wtm_at "s") (by wtm_at "s") (by wtm_at "s") (by assumption) ?_)
local macro_rules | `(tactic| wtm_at "co") => `(tactic| refine o_Person_said _ (by wtm_at "s") (by wtm_at "s") (by wtm_at "s") (by wtm_at "s") (by wtm_at "s") (by assumption) ?_)
local macro_rules | `(tactic| wtm_at "co") => `(tactic| refine xo_Doubter_said _ (by wtm_at "s") (by wtm_at "s") (by wtm_at "s") (by wtm_at "s") (by wtm_at "s") (by wtm_at "s") (by wtm_at "s") (by wtm_at "s") (by assumption) ?_)
local macro_rules | `(tactic| wtm_at "co") => `(tactic| refine o_Doubter_said _ (by wtm_at "s") (by wtm_at "s") (by wtm_at "s") (by wtm_at "s") (by wtm_at "s") (by wtm_at "s") (by wtm_at "s") (by wtm_at "s") (by assumption) ?_)
local macro_rules | `(tactic| wtm_at "co") => `(tactic| refine xo_Knower_said _ (by wtm_at "s") (by wtm_at "s") (by wtm_at "s") (by wtm_at "s") (by wtm_at "s") (by wtm_at "s") (by wtm_at "s") (by wtm_at "s") (by wtm_at "s") (by assumption) ?_)
local macro_rules | `(tactic| wtm_at "co") => `(tactic| refine o_Knower_said _ (by wtm_at "s") (by wtm_at "s") (by wtm_at "s") (by wtm_at "s") (by wtm_at "s") (by wtm_at "s") (by wtm_at "s") (by wtm_at "s") (by wtm_at "s") (by assumption) ?_)
local macro_rules | `(tactic| wtm_at "co") => `(tactic| refine xo_KnowingDoubter_said _ (by wtm_at "s") (by wtm_at "s") (by wtm_at "s") (by wtm_at "s") (by wtm_at "s") (by wtm_at "s") (by wtm_at "s") (by wtm_at "s") (by wtm_at "s") (by wtm_at "s") (by assumption) ?_)
local macro_rules | `(tactic| wtm_at "co") => `(tactic| refine o_KnowingDoubter_said _ (by wtm_at "s") (by wtm_at "s") (by wtm_at "s") (by wtm_at "s") (by wtm_at "s") (by wtm_at "s") (by wtm_at "s") (by wtm_at "s") (by wtm_at "s") (by wtm_at "s") (by assumption) ?_)
local macro_rules | `(tactic| wtm_at "co") => `(tactic| refine o_Knower_known _ (by wtm_at "s") (by wtm_at "s") (by wtm_at "s") (by wtm_at "s") ?_)
local macro_rules | `(tactic| wtm_at "co") => `(tactic| refine o_words (by assumption) rfl (by wtm_at "s") (by wtm_at "s") ?_)
local macro_rules | `(tactic| wtm_at "co") => `(tactic| refine o_law_outs (by assumption) rfl (by wtm_at "s") (by wtm_at "s") ?_)
local macro_rules | `(tactic| wtm_at "co") => `(tactic| refine o_law_person (by assumption) rfl (by wtm_at "s") (by wtm_at "s") ?_)
local macro_rules | `(tactic| wtm_at "co") => `(tactic| refine o_mixed (by assumption) rfl (by wtm_at "s") ?_)
local macro_rules | `(tactic| wtm_at "eo") => `(tactic| repeat first | ((with_reducible show CM _ _ _ _); wtm_at "co") | ((with_reducible show XM _ _ _ _ _); wtm_at "co") | wtm_at "e1")
local macro_rules | `(tactic| wtm_at "x") => `(tactic| first | exact x_v rfl | exact x_c | (apply EvX.by; intro W ε; (wtm_at "e"); done))
local macro_rules | `(tactic| wtm_at "t") => `(tactic| first
    | ((with_reducible show EvTX _ tYes _); exact t_yes)
    | ((with_reducible show EvTX _ (tAnd _ _) _); first | (apply t_and; (focus (wtm_at "t")); (focus (intro hq; wtm_at "t"))) | (apply t_and0; (focus (wtm_at "t")); wtm_at "bs"))
    | ((with_reducible show EvTX _ (tOr _ _) _); first | (apply t_or; (focus (wtm_at "t")); (focus (intro hq; wtm_at "t"))) | (apply t_or1; (focus (wtm_at "t")); wtm_at "bs"))
    | ((with_reducible show EvTX _ (tNot _) _); apply t_not; wtm_at "t")
    | ((with_reducible show EvTX _ (tTest (tChain _ _ _ _ _)) _); apply t_chain; (focus (wtm_at "x")); (focus (wtm_at "x")); (focus (wtm_at "x")))
    | ((with_reducible show EvTX _ (tTest _) _); apply t_T; wtm_at "x")
    | ((with_reducible show EvTX _ (tB _) _); apply t_B; wtm_at "x"))
local macro_rules | `(tactic| wtm_at "tq") => `(tactic| (apply t_is; (focus (wtm_at "t")); try wtm_at "b"))
local macro_rules | `(tactic| wtm_at "if") => `(tactic| (apply w_if; (focus (wtm_at "t"))))
local macro_rules | `(tactic| wtm_at "ifc") => `(tactic| (refine ws_if ?_; (repeat first | refine w_tNot ?_ | refine w_tB ?_ | refine w_t ?_ | wtm_at "e1" | ((with_reducible show ∃ c : Bool, _ = rB c ∧ _); refine ⟨_, rfl, ?_⟩)); refine ⟨?_, ?_⟩))
local macro_rules | `(tactic| wtm_at "w1") => `(tactic| first
    | ((with_reducible show WP _ _ _ (tSeq _ _) _); refine w_seq ?_)
    | ((with_reducible show WP _ _ _ (tAsg _ (gName _)) _); refine ws_set ?_; (wtm_at "e"); dsimp only [List.set])
    | ((with_reducible show WP _ _ _ (tRet _) _); refine ws_ret ?_; (wtm_at "e"))
    | ((with_reducible show WP _ _ _ (sFld _ (tVar _) _ _) _); refine ws_fld 0 rfl rfl (by wtm_at "s") (by wtm_at "s") ?_; (wtm_at "e"); dsimp only [List.set])
    | ((with_reducible show WP _ _ _ (tDrop _) _); refine ws_do ?_; (wtm_at "e"))
    | ((with_reducible show WP _ _ _ tNext _); (refine w_nx ?_))
    | ((with_reducible show WP _ _ _ tRetN _); refine w_ret0 ?_))
local macro_rules | `(tactic| wtm_at "w") => `(tactic| repeat ((try dsimp only); wtm_at "w1"))
theorem sc__law_word_error : FnScope ["_law_which", "_law_person_here", "_law_word", "_law_e"] ["_law_which", "_law_person_here", "_law_word"] (defScope s__law_word_error) := ⟨rfl, rfl, rfl, by decide +kernel, rfl, by decide +kernel, by decide +kernel⟩
theorem b__law_word_error (T : Tx P K mg) : Binds K T.fd__law_word_error ["_law_which", "_law_person_here", "_law_word"] [] := T.F__law_word_error.bindsN fun _ _ _ _ _ _ us hl => match us, hl with | [_, _, _], _ => rfl
def weL (n : Nat) (w : Int) : List Sc := if badW n w = true then [Sc.i w, Sc.b true] else []

def R_law_word_error (T : Tx P K mg) : List V → Hp → Rp → Prop := fun vs G r => ∃ (wh : Nat) (pd : PD) (w : Int), RA G vs [nI wh, rPer K T.C_Person T.C_Knower T.C_Doubter T.C_KnowingDoubter pd, Mu.rI w] ∧ (PDok pd) ∧ (1 ≤ pd.kd) ∧ r = rL K ((weL pd.h.length w).map rSc)
theorem ok__law_word_error (T : Tx P K mg) : FnOk P w K mg base CX0 9 T.f__law_word_error T.fd__law_word_error ["_law_which", "_law_person_here", "_law_word"] (spD (R_law_word_error T)) := by
  refine T.F__law_word_error.ok sc__law_word_error (fun vs H Q E h => ?_) (fun cdv A outer s H vs Q E hr h => ?_)
  · obtain ⟨G, r, _, ⟨wh, pd, w, ra, _⟩, _⟩ := h
    exact ra.len
  · obtain ⟨G, r, e, ⟨wh, pd, w, ra, q0, q1, rfl⟩, k⟩ := h
    have hh : ∀ C, Cls K C → NoAttr K C "size" → NoAttr K C "ears" → NoAttr K C "mouths" → Meth K C "heard" T.f_Person_heard → PerC K T.f_Person_heard C := fun C a b c d e => ⟨a, b, c, d, e⟩
    have ok1 := q0.lo
    have ok2 := q0.hi
    have ok3 := q0.sl
    have ok4 := q0.hw
    have ok5 := q0.kk
    rcases (by omega : pd.kd = 1 ∨ pd.kd = 2 ∨ pd.kd = 3) with hk | hk | hk
    · have cc := (hh T.C_Knower T.c_Knower T.na_Knower_size T.na_Knower_ears T.na_Knower_mouths T.M_Knower_heard)
      have c0 := cc.cls
      have c1 := cc.size
      have n1 := T.na_Knower_sure_words
      have n2 : false = false → SupF K T.C_Knower T.C_Knower "said" T.f_Person_said := fun _ => T.sup_Knower_Knower_said
      have n3 : false = true → SupF K T.C_Knower T.C_Knower "said" T.f_Doubter_said ∧ SupF K T.C_Knower T.C_Doubter "said" T.f_Person_said := fun z => nomatch z
      refine ⟨_, PSs.nox (pss_cons (to_try (L2N.ps_try_as (i := 3) rfl rfl sc__law_word_error.nd rfl rfl ⟨rfl, by decide, .inl T.g_UnknownWord⟩ takesN0 (fun W pn xe tk po => (pss_one (ps_if (pt_cmpR op_eq (pv 0) pe_int (nomark _)) (pss_one (ps_expr (pe_methS (pv 1) T.c_Knower T.M_Knower_heard (ok_Person_heard T) (hr.mono (by decide)) (b_Person_heard T) (fun σ => L2N.passAt tk σ) (pa_cons (pv 2) pa_nil)))) (pss_one (ps_expr (pe_methS (pv 1) T.c_Knower T.M_Knower_said (ok_Knower_said T) (hr.mono (by decide)) (b_Knower_said T) (fun σ => L2N.passAt tk σ) (pa_cons (pv 2) pa_nil))))))) (fun a oe cls d pn hz hf => (pss_one (ps_ret (pe_lst (pa_cons (pe_xf T.err_UnknownWord.xf T.nf_UnknownWord_word hz.zc hf (pv 3)) (pa_cons (pe_single T (hr.mono (by decide)) hz hf (pv 3)) pa_nil))))))))
      (pss_one (ps_ret (pe_lst pa_nil)))), ?_⟩
      refine run_D (W := fun _ _ _ _ => False) (Γ := [some (nI wh), some (rPer K T.C_Person T.C_Knower T.C_Doubter T.C_KnowingDoubter pd), some (Mu.rI w), none]) ?_ e (En.start (k := 1) _ (rs := [nI wh, rPer K T.C_Person T.C_Knower T.C_Doubter T.C_KnowingDoubter pd, Mu.rI w]) ra (by rw [ra.len]; rfl)) k
      clear ra e k
      rw [rPer1 hk]
      refine w_seq (w_tryK fun W' => ?_)
      try dsimp only
      wtm_at "if"
      all_goals intro hb
      · refine ws_do ?_
        by_cases hw : badW pd.h.length w = true
        · have e1 := word_bad (α := Rp) (U := T.C_UnknownWord) (x := .inl (Mu.rI (pd.h.getD w.toNat 0))) hw
          wtm_at "e"
          refine ⟨true, T.xm_UnknownWord, fun _ a d hd => ?_, fun z => nomatch z⟩
          try dsimp only [List.set]
          refine w_ret (r := rL K ([Sc.i w, Sc.b true].map rSc)) (EvNX.d (K := K) (xn_lst (xa_cons (x_xf (x_v rfl) (hd (by simp)) rfl) (xa_cons (x_single (x_v rfl) T.sg_UnknownWord) xa_nil)) (by show 2 ≤ 100000; decide))) ?_
          unfold weL
          rw [if_pos hw]
        · have e1 := word_good (α := Rp) (U := T.C_UnknownWord) (x := .inl (Mu.rI (pd.h.getD w.toNat 0))) hw
          wtm_at "e"
          try dsimp only
          refine w_ret (r := rL K []) (EvNX.d (K := K) (xn_lst xa_nil (by decide))) ?_
          unfold weL
          rw [if_neg hw]; rfl
      · refine ws_do ?_
        by_cases hw : badW pd.h.length w = true
        · have e1 := word_bad (α := List Rp) (U := T.C_UnknownWord) (x := .inl ((knowL pd.kn (baseL false pd.h pd.s w.toNat) w.toNat).map nI)) hw
          wtm_at "e"
          refine ⟨true, T.xm_UnknownWord, fun _ a d hd => ?_, fun z => nomatch z⟩
          try dsimp only [List.set]
          refine w_ret (r := rL K ([Sc.i w, Sc.b true].map rSc)) (EvNX.d (K := K) (xn_lst (xa_cons (x_xf (x_v rfl) (hd (by simp)) rfl) (xa_cons (x_single (x_v rfl) T.sg_UnknownWord) xa_nil)) (by show 2 ≤ 100000; decide))) ?_
          unfold weL
          rw [if_pos hw]
        · have e1 := word_good (α := List Rp) (U := T.C_UnknownWord) (x := .inl ((knowL pd.kn (baseL false pd.h pd.s w.toNat) w.toNat).map nI)) hw
          wtm_at "e"
          try dsimp only
          refine w_ret (r := rL K []) (EvNX.d (K := K) (xn_lst xa_nil (by decide))) ?_
          unfold weL
          rw [if_neg hw]; rfl
    · have cc := (hh T.C_Doubter T.c_Doubter T.na_Doubter_size T.na_Doubter_ears T.na_Doubter_mouths T.M_Doubter_heard)
      have c0 := cc.cls
      have c1 := cc.size
      have n1 := T.sup_Doubter_Doubter_said
      refine ⟨_, PSs.nox (pss_cons (to_try (L2N.ps_try_as (i := 3) rfl rfl sc__law_word_error.nd rfl rfl ⟨rfl, by decide, .inl T.g_UnknownWord⟩ takesN0 (fun W pn xe tk po => (pss_one (ps_if (pt_cmpR op_eq (pv 0) pe_int (nomark _)) (pss_one (ps_expr (pe_methS (pv 1) T.c_Doubter T.M_Doubter_heard (ok_Person_heard T) (hr.mono (by decide)) (b_Person_heard T) (fun σ => L2N.passAt tk σ) (pa_cons (pv 2) pa_nil)))) (pss_one (ps_expr (pe_methS (pv 1) T.c_Doubter T.M_Doubter_said (ok_Doubter_said T) (hr.mono (by decide)) (b_Doubter_said T) (fun σ => L2N.passAt tk σ) (pa_cons (pv 2) pa_nil))))))) (fun a oe cls d pn hz hf => (pss_one (ps_ret (pe_lst (pa_cons (pe_xf T.err_UnknownWord.xf T.nf_UnknownWord_word hz.zc hf (pv 3)) (pa_cons (pe_single T (hr.mono (by decide)) hz hf (pv 3)) pa_nil))))))))
      (pss_one (ps_ret (pe_lst pa_nil)))), ?_⟩
      refine run_D (W := fun _ _ _ _ => False) (Γ := [some (nI wh), some (rPer K T.C_Person T.C_Knower T.C_Doubter T.C_KnowingDoubter pd), some (Mu.rI w), none]) ?_ e (En.start (k := 1) _ (rs := [nI wh, rPer K T.C_Person T.C_Knower T.C_Doubter T.C_KnowingDoubter pd, Mu.rI w]) ra (by rw [ra.len]; rfl)) k
      clear ra e k
      rw [rPer2 hk]
      refine w_seq (w_tryK fun W' => ?_)
      try dsimp only
      wtm_at "if"
      all_goals intro hb
      · refine ws_do ?_
        by_cases hw : badW pd.h.length w = true
        · have e1 := word_bad (α := Rp) (U := T.C_UnknownWord) (x := .inl (Mu.rI (pd.h.getD w.toNat 0))) hw
          wtm_at "e"
          refine ⟨true, T.xm_UnknownWord, fun _ a d hd => ?_, fun z => nomatch z⟩
          try dsimp only [List.set]
          refine w_ret (r := rL K ([Sc.i w, Sc.b true].map rSc)) (EvNX.d (K := K) (xn_lst (xa_cons (x_xf (x_v rfl) (hd (by simp)) rfl) (xa_cons (x_single (x_v rfl) T.sg_UnknownWord) xa_nil)) (by show 2 ≤ 100000; decide))) ?_
          unfold weL
          rw [if_pos hw]
        · have e1 := word_good (α := Rp) (U := T.C_UnknownWord) (x := .inl (Mu.rI (pd.h.getD w.toNat 0))) hw
          wtm_at "e"
          try dsimp only
          refine w_ret (r := rL K []) (EvNX.d (K := K) (xn_lst xa_nil (by decide))) ?_
          unfold weL
          rw [if_neg hw]; rfl
      · refine ws_do ?_
        by_cases hw : badW pd.h.length w = true
        · have e1 := word_bad (α := List Rp) (U := T.C_UnknownWord) (x := .inl ((doubtL pd.h pd.s w.toNat).map nI)) hw
          wtm_at "e"
          refine ⟨true, T.xm_UnknownWord, fun _ a d hd => ?_, fun z => nomatch z⟩
          try dsimp only [List.set]
          refine w_ret (r := rL K ([Sc.i w, Sc.b true].map rSc)) (EvNX.d (K := K) (xn_lst (xa_cons (x_xf (x_v rfl) (hd (by simp)) rfl) (xa_cons (x_single (x_v rfl) T.sg_UnknownWord) xa_nil)) (by show 2 ≤ 100000; decide))) ?_
          unfold weL
          rw [if_pos hw]
        · have e1 := word_good (α := List Rp) (U := T.C_UnknownWord) (x := .inl ((doubtL pd.h pd.s w.toNat).map nI)) hw
          wtm_at "e"
          try dsimp only
          refine w_ret (r := rL K []) (EvNX.d (K := K) (xn_lst xa_nil (by decide))) ?_
          unfold weL
          rw [if_neg hw]; rfl
    · have cc := (hh T.C_KnowingDoubter T.c_KnowingDoubter T.na_KnowingDoubter_size T.na_KnowingDoubter_ears T.na_KnowingDoubter_mouths T.M_KnowingDoubter_heard)
      have c0 := cc.cls
      have c1 := cc.size
      have n1 := T.na_KnowingDoubter_sure_words
      have n2 : true = false → SupF K T.C_KnowingDoubter T.C_Knower "said" T.f_Person_said := fun z => nomatch z
      have n3 : true = true → SupF K T.C_KnowingDoubter T.C_Knower "said" T.f_Doubter_said ∧ SupF K T.C_KnowingDoubter T.C_Doubter "said" T.f_Person_said := fun _ => ⟨T.sup_KnowingDoubter_Knower_said, T.sup_KnowingDoubter_Doubter_said⟩
      have n4 := T.sup_KnowingDoubter_KnowingDoubter_said
      refine ⟨_, PSs.nox (pss_cons (to_try (L2N.ps_try_as (i := 3) rfl rfl sc__law_word_error.nd rfl rfl ⟨rfl, by decide, .inl T.g_UnknownWord⟩ takesN0 (fun W pn xe tk po => (pss_one (ps_if (pt_cmpR op_eq (pv 0) pe_int (nomark _)) (pss_one (ps_expr (pe_methS (pv 1) T.c_KnowingDoubter T.M_KnowingDoubter_heard (ok_Person_heard T) (hr.mono (by decide)) (b_Person_heard T) (fun σ => L2N.passAt tk σ) (pa_cons (pv 2) pa_nil)))) (pss_one (ps_expr (pe_methS (pv 1) T.c_KnowingDoubter T.M_KnowingDoubter_said (ok_KnowingDoubter_said T) (hr.mono (by decide)) (b_KnowingDoubter_said T) (fun σ => L2N.passAt tk σ) (pa_cons (pv 2) pa_nil))))))) (fun a oe cls d pn hz hf => (pss_one (ps_ret (pe_lst (pa_cons (pe_xf T.err_UnknownWord.xf T.nf_UnknownWord_word hz.zc hf (pv 3)) (pa_cons (pe_single T (hr.mono (by decide)) hz hf (pv 3)) pa_nil))))))))
      (pss_one (ps_ret (pe_lst pa_nil)))), ?_⟩
      refine run_D (W := fun _ _ _ _ => False) (Γ := [some (nI wh), some (rPer K T.C_Person T.C_Knower T.C_Doubter T.C_KnowingDoubter pd), some (Mu.rI w), none]) ?_ e (En.start (k := 1) _ (rs := [nI wh, rPer K T.C_Person T.C_Knower T.C_Doubter T.C_KnowingDoubter pd, Mu.rI w]) ra (by rw [ra.len]; rfl)) k
      clear ra e k
      rw [rPer3 hk]
      refine w_seq (w_tryK fun W' => ?_)
      try dsimp only
      wtm_at "if"
      all_goals intro hb
      · refine ws_do ?_
        by_cases hw : badW pd.h.length w = true
        · have e1 := word_bad (α := Rp) (U := T.C_UnknownWord) (x := .inl (Mu.rI (pd.h.getD w.toNat 0))) hw
          wtm_at "e"
          refine ⟨true, T.xm_UnknownWord, fun _ a d hd => ?_, fun z => nomatch z⟩
          try dsimp only [List.set]
          refine w_ret (r := rL K ([Sc.i w, Sc.b true].map rSc)) (EvNX.d (K := K) (xn_lst (xa_cons (x_xf (x_v rfl) (hd (by simp)) rfl) (xa_cons (x_single (x_v rfl) T.sg_UnknownWord) xa_nil)) (by show 2 ≤ 100000; decide))) ?_
          unfold weL
          rw [if_pos hw]
        · have e1 := word_good (α := Rp) (U := T.C_UnknownWord) (x := .inl (Mu.rI (pd.h.getD w.toNat 0))) hw
          wtm_at "e"
          try dsimp only
          refine w_ret (r := rL K []) (EvNX.d (K := K) (xn_lst xa_nil (by decide))) ?_
          unfold weL
          rw [if_neg hw]; rfl
      · refine ws_do ?_
        by_cases hw : badW pd.h.length w = true
        · have e1 := word_bad (α := List Rp) (U := T.C_UnknownWord) (x := .inl ((knowL pd.kn (baseL true pd.h pd.s w.toNat) w.toNat).map nI)) hw
          wtm_at "e"
          refine ⟨true, T.xm_UnknownWord, fun _ a d hd => ?_, fun z => nomatch z⟩
          try dsimp only [List.set]
          refine w_ret (r := rL K ([Sc.i w, Sc.b true].map rSc)) (EvNX.d (K := K) (xn_lst (xa_cons (x_xf (x_v rfl) (hd (by simp)) rfl) (xa_cons (x_single (x_v rfl) T.sg_UnknownWord) xa_nil)) (by show 2 ≤ 100000; decide))) ?_
          unfold weL
          rw [if_pos hw]
        · have e1 := word_good (α := List Rp) (U := T.C_UnknownWord) (x := .inl ((knowL pd.kn (baseL true pd.h pd.s w.toNat) w.toNat).map nI)) hw
          wtm_at "e"
          try dsimp only
          refine w_ret (r := rL K []) (EvNX.d (K := K) (xn_lst xa_nil (by decide))) ?_
          unfold weL
          rw [if_neg hw]; rfl
theorem c_law_word_error (T : Tx P K mg) {M : List Re} {κ : KV} {wh : Nat} {pd : PD} {w : Int} (q0 : PDok pd) (q1 : 1 ≤ pd.kd) (k : κ (rL K ((weL pd.h.length w).map rSc)) M) : CM (spD (R_law_word_error T)) [nI wh, rPer K T.C_Person T.C_Knower T.C_Doubter T.C_KnowingDoubter pd, Mu.rI w] M κ := cm (fun vs G ra => SpD.of ⟨wh, pd, w, ra, q0, q1, rfl⟩) k
local macro_rules | `(tactic| wtm_at "c") => `(tactic| refine c_law_word_error _ (by wtm_at "s") (by wtm_at "s") ?_)
end
end MuL

namespace MuL
open PySem PySem.Spec PyProof.Rows L2 He Evl Mu
section
variable {P : Program} {w : World} {K : PySem.W.Frag} {mg : Str → Option Value} {base : Heap}
local macro_rules | `(tactic| wtm_at "s") => `(tactic| first | assumption | omega | exact rfl | decide | wtm_at "s2")
local macro_rules | `(tactic| wtm_at "s2") => `(tactic| (simp only [List.length_map, List.length_range, List.length_cons, List.length_nil, List.length_append]; omega))
local macro_rules | `(tactic| wtm_at "j") => `(tactic| first | exact List.mem_cons_self | (simp; done))
local macro_rules | `(tactic| wtm_at "tr") => `(tactic| (apply t_is; (focus (wtm_at "t")); exact rfl))
local macro_rules | `(tactic| wtm_at "bs") => `(tactic| first | exact rfl | (simp; done) | (simp [*]; done))
local macro_rules | `(tactic| wtm_at "yes") => `(tactic| (apply w_yes; (focus (apply t_is; (focus (wtm_at "t")); first | exact rfl | (simp; done) | (simp [*]; done)))))
local macro_rules | `(tactic| wtm_at "no") => `(tactic| (apply w_no; (focus (apply t_is; (focus (wtm_at "t")); first | exact rfl | (simp; done) | (simp [*]; done)))))
local macro_rules | `(tactic| wtm_at "nn") => `(tactic| first | exact nn_tab | exact nn_L | exact nn_T | exact nn_I)
local macro_rules | `(tactic| wtm_at "sub") => `(tactic| repeat' first | exact Paired.nil | refine Paired.cons (Or.inr rfl) ?_ | refine Paired.cons (Or.inl rfl) ?_)
local macro_rules | `(tactic| wtm_at "o") => `(tactic| first
    | ((with_reducible show OM (rI0 _) _ _ _ _); first | refine om (x_addN (x_v rfl) (x_v rfl)) ?_ | refine om (x_subN (x_v rfl) (x_v rfl) (by wtm_at "s")) ?_ | refine om (x_bandN (x_v rfl) (x_v rfl)) ?_ | refine om (x_borN (x_v rfl) (x_v rfl)) ?_ | refine om (x_ltN (x_v rfl) (x_v rfl)) ?_ | refine om (x_leN (x_v rfl) (x_v rfl)) ?_ | refine om (x_gtN (x_v rfl) (x_v rfl)) ?_ | refine om (x_geN (x_v rfl) (x_v rfl)) ?_ | refine om (x_I0 (x_v rfl) (x_v rfl)) ?_)
    | ((with_reducible show OM (L2.rI _ _) _ _ _ _); first | refine om (x_powN (x_v rfl) (x_v rfl) (by wtm_at "s") (by wtm_at "s")) ?_ | refine om (x_shrN (x_v rfl) (x_v rfl)) ?_ | refine om (x_shlN1 (x_v rfl) (x_v rfl) (by wtm_at "s")) ?_ | refine om (x_I (x_v rfl) (x_v rfl) (by wtm_at "s")) ?_)
    | ((with_reducible show OM rEq _ _ _ _); first | refine om (x_eqN (x_v rfl) (x_v rfl)) ?_ | refine om (x_eqI (x_v rfl) (x_v rfl)) ?_ | refine om (x_eqV (x_v rfl) (x_v rfl) rfl) ?_)
    | ((with_reducible show OM rNe _ _ _ _); first | refine om (x_neN (x_v rfl) (x_v rfl)) ?_ | refine om (x_neI (x_v rfl) (x_v rfl)) ?_ | refine om (x_neV (x_v rfl) (x_v rfl) rfl) ?_)
    | ((with_reducible show OM (rIxT _) _ _ _ _); first | refine om (x_ixTn (x_v rfl) (x_v rfl) (by wtm_at "s")) ?_ | refine om (x_ixT (x_v rfl) (x_v rfl) rfl) ?_ | refine om (x_ixTm default (x_v rfl) (x_v rfl) (by wtm_at "s")) ?_)
    | ((with_reducible show OM (rIxL _) _ _ _ _); first | refine om (x_ixB (x_v rfl) (x_v rfl) (by wtm_at "s")) ?_ | refine om (x_ixLn (x_v rfl) (x_v rfl) (by wtm_at "s")) ?_ | refine om (x_ixLL (x_v rfl) (x_v rfl) (by wtm_at "s")) ?_ | refine om_ixOwn 0 rfl (by wtm_at "s") ?_ | refine om_ixOwn 1 rfl (by wtm_at "s") ?_ | refine om_ixOwn 2 rfl (by wtm_at "s") ?_ | refine om_ixOwn 3 rfl (by wtm_at "s") ?_ | refine om (x_ixL (x_v rfl) (x_v rfl) rfl) ?_ | refine om (x_ixL (x_v rfl) (x_v rfl) (by assumption)) ?_ | refine om (x_ixLm default (x_v rfl) (x_v rfl) (by wtm_at "s")) ?_)
    | ((with_reducible show OM (rIn _ _) _ _ _ _); first | refine om (x_inLn (l := [_, _]) (x_v rfl) (x_v rfl)) ?_ | refine om (x_inLn (l := [_, _, _]) (x_v rfl) (x_v rfl)) ?_ | refine om (x_inLn (x_v rfl) (x_v rfl)) ?_ | refine om (x_niLn (x_v rfl) (x_v rfl)) ?_ | refine om (x_inTi true (x_v rfl) (x_v rfl)) ?_ | refine om (x_inTi false (x_v rfl) (x_v rfl)) ?_ | refine om (x_inLi true (x_v rfl) (x_v rfl)) ?_ | refine om (x_inLi false (x_v rfl) (x_v rfl)) ?_)
    | ((with_reducible show OM (rEqD _) _ _ _ _); first | refine om (x_eqLn0 (x_v rfl) (x_v rfl)) ?_ | refine om (x_eqLn (x_v rfl) (x_v rfl)) ?_ | refine om (x_eqTn (x_v rfl) (x_v rfl)) ?_ | refine om (x_eqLL (x_v rfl) (x_v rfl)) ?_)
    | ((with_reducible show OM (rNeD _) _ _ _ _); first | refine om (x_neLn0 (x_v rfl) (x_v rfl)) ?_ | refine om (x_neLn (x_v rfl) (x_v rfl)) ?_ | refine om (x_neTn (x_v rfl) (x_v rfl)) ?_ | refine om (x_neLL (x_v rfl) (x_v rfl)) ?_ | refine om (x_neP (x_v rfl) (x_v rfl)) ?_)
    | ((with_reducible show OM (rInD _) _ _ _ _); first | refine om (x_inP (x_v rfl) (x_v rfl)) ?_)
    | ((with_reducible show OM (rNotInD _) _ _ _ _); first | refine om (x_niP (x_v rfl) (x_v rfl)) ?_)
    | ((with_reducible show OM (rInTD _) _ _ _ _); first | refine om (x_inTP (x_v rfl) (x_v rfl)) ?_)
    | ((with_reducible show OM rIsB _ _ _ _); first | refine om (x_isB (x_v rfl) (x_v rfl)) ?_)
    | ((with_reducible show OM rNotB _ _ _ _); first | refine om (x_isNB (x_v rfl) (x_v rfl)) ?_)
    | ((with_reducible show OM (fun _ _ _ _ => _ ∧ _) _ _ _ _); first | refine om_isN0 ?_ | refine om_notN0 ?_ | refine om_isN1 (by wtm_at "nn") ?_ | refine om_notN1 (by wtm_at "nn") ?_)
    | ((with_reducible show OM rRep _ _ _ _); first | refine om_rep (by wtm_at "s") (by wtm_at "s") ?_)
    | ((with_reducible show OM rCat _ _ _ _); first | refine om_cat (by wtm_at "s") ?_ | refine om (x_catm (x_v rfl) (x_v rfl) (by wtm_at "s")) ?_))
local macro_rules | `(tactic| wtm_at "a") => `(tactic| first
    | ((with_reducible show AM (rLenS _) _ _ _); first | refine am1 (x_lenLn (x_v rfl)) ?_ | refine am1 (x_lenTn (x_v rfl)) ?_ | refine am1 (x_lenB (x_v rfl)) ?_ | refine am1 (x_lenLL (x_v rfl)) ?_ | refine am1 (x_lenLm (x_v rfl)) ?_ | refine am1 (x_lenTm (x_v rfl)) ?_ | refine am_own 0 rfl (x_lenLm (x_v rfl)) ?_ | refine am_own 1 rfl (x_lenLm (x_v rfl)) ?_ | refine am_own 2 rfl (x_lenLm (x_v rfl)) ?_ | refine am_own 3 rfl (x_lenLm (x_v rfl)) ?_ | refine am_own 1 rfl (x_lenLm' (x_v rfl)) ?_ | refine am_own 2 rfl (x_lenLm' (x_v rfl)) ?_ | refine am1 (x_lenL (x_v rfl)) ?_ | refine am1 (x_lenT (x_v rfl)) ?_)
    | ((with_reducible show AM (rTupO _) _ _ _); first | refine am1 (x_tupL (x_v rfl)) ?_)
    | ((with_reducible show AM (rListS _) _ _ _); first | refine am_listL ?_ | refine am_listT ?_ | refine am_listOwn 0 rfl ?_ | refine am_listOwn 1 rfl ?_ | refine am_listOwn 2 rfl ?_)
    | ((with_reducible show AM (rIsi _) _ _ _); first | refine am2c (x_isInt (x_v rfl)) ?_ | refine am2c (x_isList (x_v rfl)) ?_ | refine am2c (x_isTup (x_v rfl)) ?_ | refine am2c (x_isTab (Tx.ic_Table (by assumption)) (x_v rfl)) ?_ | refine am2c (x_isIns (by assumption) (by assumption) (x_v rfl)) ?_)
    | ((with_reducible show AM _ _ _ _); first | refine am1 (x_int (x_v rfl)) ?_ | refine mk_tab (by assumption) (by wtm_at "s") (by wtm_at "s") ?_))
local macro_rules | `(tactic| wtm_at "c") => `(tactic| fail)
local macro_rules | `(tactic| wtm_at "c") => `(tactic| refine c_bits (by assumption) (by wtm_at "s") ?_)
local macro_rules | `(tactic| wtm_at "c") => `(tactic| refine c_all_words _  ?_)
local macro_rules | `(tactic| wtm_at "c") => `(tactic| refine xe_check_person _ (by wtm_at "s") (by wtm_at "s") (by assumption) ?_)
local macro_rules | `(tactic| wtm_at "c") => `(tactic| refine xq_check_person _ (by wtm_at "s") (by wtm_at "s") (by assumption) ?_)
local macro_rules | `(tactic| wtm_at "c") => `(tactic| refine c_check_person _ (by wtm_at "s") (by wtm_at "s") (by assumption) ?_)
local macro_rules | `(tactic| wtm_at "c") => `(tactic| refine me_Person__init _ (by assumption) (by wtm_at "s") (by wtm_at "s") (by wtm_at "s") (by assumption) ?_)
local macro_rules | `(tactic| wtm_at "c") => `(tactic| refine mk_Person__init _ (by assumption) (by wtm_at "s") (by wtm_at "s") (by wtm_at "s") (by assumption) ?_)
local macro_rules | `(tactic| wtm_at "c") => `(tactic| refine me_Knower__init _ (by assumption) (by wtm_at "s") (by wtm_at "s") (by wtm_at "s") (by wtm_at "s") (by assumption) ?_)
local macro_rules | `(tactic| wtm_at "c") => `(tactic| refine mk_Knower__init _ (by assumption) (by wtm_at "s") (by wtm_at "s") (by wtm_at "s") (by wtm_at "s") (by assumption) ?_)
local macro_rules | `(tactic| wtm_at "c") => `(tactic| refine xe_check_word _  (by assumption) ?_)
local macro_rules | `(tactic| wtm_at "c") => `(tactic| refine xq_check_word _  (by assumption) ?_)
local macro_rules | `(tactic| wtm_at "c") => `(tactic| refine c_check_word _  (by assumption) ?_)
local macro_rules | `(tactic| wtm_at "c") => `(tactic| refine xe_Person_heard _ (by wtm_at "s") (by assumption) ?_)
local macro_rules | `(tactic| wtm_at "c") => `(tactic| refine xq_Person_heard _ (by wtm_at "s") (by assumption) ?_)
local macro_rules | `(tactic| wtm_at "c") => `(tactic| refine c_Person_heard _ (by wtm_at "s") (by assumption) ?_)
local macro_rules | `(tactic| wtm_at "c") => `(tactic| refine xe_Person_said _ (by wtm_at "s") (by wtm_at "s") (by wtm_at "s") (by wtm_at "s") (by wtm_at "s") (by assumption) ?_)
local macro_rules | `(tactic| wtm_at "c") => `(tactic| refine xf_Person_said _ (by wtm_at "s") (by wtm_at "s") (by wtm_at "s") (by wtm_at "s") (by wtm_at "s") (by assumption) ?_)
local macro_rules | `(tactic| wtm_at "c") => `(tactic| refine c_Person_said _ (by wtm_at "s") (by wtm_at "s") (by wtm_at "s") (by wtm_at "s") (by wtm_at "s") (by assumption) ?_)
local macro_rules | `(tactic| wtm_at "c") => `(tactic| refine xe_Doubter_said _ (by wtm_at "s") (by wtm_at "s") (by wtm_at "s") (by wtm_at "s") (by wtm_at "s") (by wtm_at "s") (by wtm_at "s") (by wtm_at "s") (by assumption) ?_)
local macro_rules | `(tactic| wtm_at "c") => `(tactic| refine xf_Doubter_said _ (by wtm_at "s") (by wtm_at "s") (by wtm_at "s") (by wtm_at "s") (by wtm_at "s") (by wtm_at "s") (by wtm_at "s") (by wtm_at "s") (by assumption) ?_)
local macro_rules | `(tactic| wtm_at "c") => `(tactic| refine c_Doubter_said _ (by wtm_at "s") (by wtm_at "s") (by wtm_at "s") (by wtm_at "s") (by wtm_at "s") (by wtm_at "s") (by wtm_at "s") (by wtm_at "s") (by assumption) ?_)
local macro_rules | `(tactic| wtm_at "c") => `(tactic| refine xe_Knower_said _ (by wtm_at "s") (by wtm_at "s") (by wtm_at "s") (by wtm_at "s") (by wtm_at "s") (by wtm_at "s") (by wtm_at "s") (by wtm_at "s") (by wtm_at "s") (by assumption) ?_)
local macro_rules | `(tactic| wtm_at "c") => `(tactic| refine xf_Knower_said _ (by wtm_at "s") (by wtm_at "s") (by wtm_at "s") (by wtm_at "s") (by wtm_at "s") (by wtm_at "s") (by wtm_at "s") (by wtm_at "s") (by wtm_at "s") (by assumption) ?_)
local macro_rules | `(tactic| wtm_at "c") => `(tactic| refine c_Knower_said _ (by wtm_at "s") (by wtm_at "s") (by wtm_at "s") (by wtm_at "s") (by wtm_at "s") (by wtm_at "s") (by wtm_at "s") (by wtm_at "s") (by wtm_at "s") (by assumption) ?_)
local macro_rules | `(tactic| wtm_at "c") => `(tactic| refine xe_KnowingDoubter_said _ (by wtm_at "s") (by wtm_at "s") (by wtm_at "s") (by wtm_at "s") (by wtm_at "s") (by wtm_at "s") (by wtm_at "s") (by wtm_at "s") (by wtm_at "s") (by wtm_at "s") (by assumption) ?_)
local macro_rules | `(tactic| wtm_at "c") => `(tactic| refine xf_KnowingDoubter_said _ (by wtm_at "s") (by wtm_at "s") (by wtm_at "s") (by wtm_at "s") (by wtm_at "s") (by wtm_at "s") (by wtm_at "s") (by wtm_at "s") (by wtm_at "s") (by wtm_at "s") (by assumption) ?_)
local macro_rules | `(tactic| wtm_at "c") => `(tactic| refine c_KnowingDoubter_said _ (by wtm_at "s") (by wtm_at "s") (by wtm_at "s") (by wtm_at "s") (by wtm_at "s") (by wtm_at "s") (by wtm_at "s") (by wtm_at "s") (by wtm_at "s") (by wtm_at "s") (by assumption) ?_)
local macro_rules | `(tactic| wtm_at "c") => `(tactic| refine c_Person_table _ (by wtm_at "s") ?_)
local macro_rules | `(tactic| wtm_at "c") => `(tactic| refine cq_Person_table _ (by assumption) (by assumption) ?_)
local macro_rules | `(tactic| wtm_at "c") => `(tactic| refine c_Knower_known _ (by wtm_at "s") (by wtm_at "s") (by wtm_at "s") (by wtm_at "s") ?_)
local macro_rules | `(tactic| wtm_at "c") => `(tactic| refine c_is_int (by assumption) ?_)
local macro_rules | `(tactic| wtm_at "c") => `(tactic| refine c_is_words (by assumption) ?_)
local macro_rules | `(tactic| wtm_at "c") => `(tactic| refine c_same _ (by assumption) (by wtm_at "s") ?_)
local macro_rules | `(tactic| wtm_at "c") => `(tactic| refine c_take 0 rfl (by wtm_at "s") (by wtm_at "s") ?_)
local macro_rules | `(tactic| wtm_at "c") => `(tactic| refine c_take 1 rfl (by wtm_at "s") (by wtm_at "s") ?_)
local macro_rules | `(tactic| wtm_at "c") => `(tactic| refine c_words (by assumption) rfl (by wtm_at "s") (by wtm_at "s") ?_)
local macro_rules | `(tactic| wtm_at "c") => `(tactic| refine c_law_outs (by assumption) rfl (by wtm_at "s") (by wtm_at "s") ?_)
local macro_rules | `(tactic| wtm_at "c") => `(tactic| refine c_law_person (by assumption) rfl (by wtm_at "s") (by wtm_at "s") ?_)
local macro_rules | `(tactic| wtm_at "c") => `(tactic| refine c_mixed (by assumption) rfl (by wtm_at "s") ?_)
local macro_rules | `(tactic| wtm_at "c") => `(tactic| refine c_law_far (by assumption) rfl  ?_)
local macro_rules | `(tactic| wtm_at "c") => `(tactic| refine c_law_is_kind _ (by wtm_at "s") (by wtm_at "s") ?_)
local macro_rules | `(tactic| wtm_at "c") => `(tactic| refine c_law_word_error _ (by wtm_at "s") (by wtm_at "s") ?_)
local macro_rules | `(tactic| wtm_at "f") => `(tactic| first
    | refine f_own 0 rfl (by wtm_at "s") (by wtm_at "s") rfl ?_
    | refine f_ins (by wtm_at "s") (by wtm_at "s") rfl ?_
    | refine f_tab (x_size (x_v rfl) (Tx.c_Table (by assumption)) (Tx.na_Table_size (by assumption))) ?_
    | refine f_tab (x_masks (x_v rfl) (Tx.c_Table (by assumption)) (Tx.na_Table_masks (by assumption))) ?_
    | refine f_tab (x_cells (x_v rfl) (Tx.c_Table (by assumption)) (Tx.na_Table_cells (by assumption))) ?_)
local macro_rules | `(tactic| wtm_at "v") => `(tactic| first
    | ((with_reducible show EW _ _ _ (tVar _) _ _); refine e_v rfl ?_)
    | ((with_reducible show EW _ _ _ (tC (V.int _)) _ _); refine e_cn ?_)
    | ((with_reducible show EW _ _ _ (tC _) _ _); refine e_c ?_)
    | ((with_reducible show EW _ _ _ (tOp _ _ _) _ _); refine e_op ?_)
    | ((with_reducible show EW _ _ _ (tCB _ _) _ _); refine e_cb ?_)
    | ((with_reducible show EW _ _ _ (tCall _ _ _ _) _ _); refine e_call ?_)
    | ((with_reducible show EW _ _ _ (tCallS _ _ _) _ _); refine e_callS ?_)
    | ((with_reducible show EW _ _ _ (tFld _ _ _) _ _); refine e_fld _ ?_)
    | ((with_reducible show EW _ _ _ (tTup _) _ _); refine e_tup (by assumption) ?_)
    | ((with_reducible show EW _ _ _ (tLst _) _ _); refine e_lst (by assumption) ?_)
    | ((with_reducible show EW _ _ _ (tUn _ _) _ _); refine e_un ?_)
    | ((with_reducible show EW _ _ _ (tMake _ (spTab _ _) _ _ _) _ _); refine e_make ?_)
    | ((with_reducible show EW _ _ _ (tMakeS _ _ _ _) _ _); refine e_makeS ?_)
    | ((with_reducible show EW _ _ _ (tMeth _ _ _ _ _ _ _) _ _); refine e_meth ?_)
    | ((with_reducible show EW _ _ _ (tMethS _ _ _ _ _ _) _ _); refine e_methS ?_)
    | ((with_reducible show EW _ _ _ (tProp _ _ _ _ _) _ _); refine e_prop ?_)
    | ((with_reducible show EW _ _ _ (tLc (iList _ _) _ tYes _ _) _ _); apply e_lcL0; (focus (wtm_at "x")); (focus (wtm_at "s")); (focus (intro a ha; wtm_at "x")); (focus (wtm_at "j")))
    | ((with_reducible show EW _ _ _ (tLc (iTup _ _) _ tYes _ _) _ _); apply e_lcT0; (focus (wtm_at "x")); (focus (wtm_at "s")); (focus (intro a ha; wtm_at "x")); (focus (wtm_at "j")))
    | ((with_reducible show EW _ _ _ (tLc (iRng1 _) _ tYes _ _) _ _); apply e_lcR0 (by assumption); (focus (wtm_at "x")); (focus (wtm_at "s")); (focus (intro a ha; wtm_at "x")); (focus (wtm_at "j")))
    | ((with_reducible show EW _ _ _ (tLc (iList _ _) _ _ _ _) _ _); apply e_lcL; (focus (wtm_at "x")); (focus (wtm_at "s")); (focus (intro a ha; wtm_at "tr")); (focus (intro a ha hf; wtm_at "x")); (focus (wtm_at "j")))
    | ((with_reducible show EW _ _ _ (tLc (iTup _ _) _ _ _ _) _ _); apply e_lcT; (focus (wtm_at "x")); (focus (wtm_at "s")); (focus (intro a ha; wtm_at "tr")); (focus (intro a ha hf; wtm_at "x")); (focus (wtm_at "j")))
    | ((with_reducible show EW _ _ _ (tLc (iRng1 _) _ _ _ _) _ _); apply e_lcR (by assumption); (focus (wtm_at "x")); (focus (wtm_at "s")); (focus (intro a ha; wtm_at "tr")); (focus (intro a ha hf; wtm_at "x")); (focus (wtm_at "j")))
    | ((with_reducible show EW _ _ _ (tSl (rSlL _) _ tNoPart (tPart _)) _ _); apply e_slTo; (focus (wtm_at "x")))
    | ((with_reducible show EW _ _ _ (tSl (rSlL _) _ (tPart _) tNoPart) _ _); apply e_slFrom; (focus (wtm_at "x")))
    | ((with_reducible show EW _ _ _ (tAndV _ _) _ _); first | (apply e_and; (focus (wtm_at "x")); (focus (intro hq; wtm_at "x"))) | (apply e_x; (focus (apply x_and0; (focus (wtm_at "x")); wtm_at "bs"))))
    | ((with_reducible show EW _ _ _ (tOrV _ _) _ _); first | (apply e_or; (focus (wtm_at "x")); (focus (intro hq; wtm_at "x"))) | (apply e_x; (focus (apply x_or1; (focus (wtm_at "x")); wtm_at "bs"))))
    | ((with_reducible show EW _ _ _ (tMake _ (spIni _ _) _ _ _) _ _); refine e_makeI ?_ spIni_E)
    | ((with_reducible show EW _ _ _ (tSup _ _ _ _ _ _ _) _ _); refine e_sup rfl (by assumption) ?_)
    | ((with_reducible show EW _ _ _ (tNotV _) _ _); apply e_not; (focus (wtm_at "x")))
    | ((with_reducible show EW _ _ _ (tBM _ _ _ _ _) _ _); first | refine e_app 0 rfl ?_ rfl | refine e_app 1 rfl ?_ rfl | refine e_app 2 rfl ?_ rfl | refine e_app 3 rfl ?_ rfl))
local macro_rules | `(tactic| wtm_at "e1") => `(tactic| first
    | ((with_reducible show EW _ _ _ _ _ _); wtm_at "v")
    | ((with_reducible show EA _ _ _ _ _ _); first | refine a_cons ?_ | refine a_nil ?_)
    | ((with_reducible show OM _ _ _ _ _); first | wtm_at "o" | wtm_at "c")
    | ((with_reducible show AM _ _ _ _); wtm_at "a")
    | ((with_reducible show CM _ _ _ _); wtm_at "c")
    | ((with_reducible show XM _ _ _ _ _); wtm_at "c")
    | ((with_reducible show MkM _ _ _ _ _ _); wtm_at "c")
    | ((with_reducible show UM _ _ _ _); first | wtm_at "f" | refine um (x_neg (x_v rfl)) ?_ | wtm_at "c")
    | ((with_reducible show InsR _ _ _ ∧ _); first | refine ⟨ins_tab rfl, ?_⟩ | refine ⟨ins_ins rfl, ?_⟩ | refine ⟨ins_ins (by assumption), ?_⟩)
    | ((with_reducible show (∀ (v : V) (G : Hp), _ → ∃ a dx fs, _) ∧ _); refine ⟨ins_is, ?_⟩)
    | ((with_reducible show And (@LE.le Nat _ _ _) _); refine ⟨Nat.le_of_ble_eq_true rfl, ?_⟩)
    | ((with_reducible show ∃ rs : List Rp, _ ∧ _ ∧ _); refine ⟨_, rfl, by wtm_at "s", ?_⟩)
    | ((with_reducible show ∃ rs : List Rp, _ = rL _ rs ∧ _); refine ⟨_, rfl, ?_⟩)
    | ((with_reducible show ∃ fs : FL, _ ∧ _ ∧ _ ∧ _); refine ⟨_, rfl, rfl, Nat.le_of_ble_eq_true rfl, ?_⟩)
    | ((with_reducible show _ = _ ∧ _ = ([] : List Re)); first | exact ⟨rfl, rfl⟩ | exact ⟨by wtm_at "q", rfl⟩))
local macro_rules | `(tactic| wtm_at "q") => `(tactic| first | rfl | exact congrArg nI (by omega) | exact congrArg Mu.rI (by omega) | exact congrArg rB (by wtm_at "b"))
local macro_rules | `(tactic| wtm_at "b") => `(tactic| first | rfl | (rw [Bool.eq_iff_iff]; simp; omega))
local macro_rules | `(tactic| wtm_at "e") => `(tactic| repeat wtm_at "e1")
local macro_rules | `(tactic| wtm_at "co") => `(tactic| fail)
local macro_rules | `(tactic| wtm_at "co") => `(tactic| refine xo_Person_said _ (by wtm_at "s") (by wtm_at "s") (by wtm_at "s") (by wtm_at "s") (by wtm_at "s") (by assumption) ?_)
local macro_rules | `(tactic| wtm_at "co") => `(tactic| refine o_Person_said _ (by wtm_at "s") (by wtm_at "s") (by wtm_at "s") (by wtm_at "s") (by wtm_at "s") (by assumption) ?_)
local macro_rules | `(tactic| wtm_at "co") => `(tactic| refine xo_Doubter_said _ (by wtm_at "s") (by wtm_at "s") (by wtm_at "s") (by wtm_at "s") (by wtm_at "s") (by wtm_at "s") (by wtm_at "s") (by wtm_at "s") (by assumption) ?_)
local macro_rules | `(tactic| wtm_at "co") => `(tactic| refine o_Doubter_said _ (by wtm_at "s") (by wtm_at "s") (by wtm_at "s") (by wtm_at "s") (by wtm_at "s") (by wtm_at "s") (by wtm_at "s") (by wtm_at "s") (by assumption) ?_)
local macro_rules | `(tactic| wtm_at "co") => `(tactic| refine xo_Knower_said _ (by wtm_at "s") (by wtm_at "s") (by wtm_at "s") (by wtm_at "s") (by wtm_at "s") (by wtm_at "s") (by wtm_at "s") (by wtm_at "s") (by wtm_at "s") (by assumption) ?_)
local macro_rules | `(tactic| wtm_at "co") => `(tactic| refine o_Knower_said _ (by wtm_at "s") (by wtm_at "s") (by wtm_at "s") (by wtm_at "s") (by wtm_at "s") (by wtm_at "s") (by wtm_at "s") (by wtm_at "s") (by wtm_at "s") (by assumption) ?_)
local macro_rules | `(tactic| wtm_at "co") => `(tactic| refine xo_KnowingDoubter_said _ (by wtm_at "s") (by wtm_at "s") (by wtm_at "s") (by wtm_at "s") (by wtm_at "s") (by wtm_at "s") (by wtm_at "s") (by wtm_at "s") (by wtm_at "s") (by wtm_at "s") (by assumption) ?_)
local macro_rules | `(tactic| wtm_at "co") => `(tactic| refine o_KnowingDoubter_said _ (by wtm_at "s") (by wtm_at "s") (by wtm_at "s") (by wtm_at "s") (by wtm_at "s") (by wtm_at "s") (by wtm_at "s") (by wtm_at "s") (by wtm_at "s") (by wtm_at "s") (by assumption) ?_)
local macro_rules | `(tactic| wtm_at "co") => `(tactic| refine o_Knower_known _ (by wtm_at "s") (by wtm_at "s") (by wtm_at "s") (by wtm_at "s") ?_)
local macro_rules | `(tactic| wtm_at "co") => `(tactic| refine o_words (by assumption) rfl (by wtm_at "s") (by wtm_at "s") ?_)
local macro_rules | `(tactic| wtm_at "co") => `(tactic| refine o_law_outs (by assumption) rfl (by wtm_at "s") (by wtm_at "s") ?_)
local macro_rules | `(tactic| wtm_at "co") => `(tactic| refine o_law_person (by assumption) rfl (by wtm_at "s") (by wtm_at "s") ?_)
local macro_rules | `(tactic| wtm_at "co") => `(tactic| refine o_mixed (by assumption) rfl (by wtm_at "s") ?_)
local macro_rules | `(tactic| wtm_at "eo") => `(tactic| repeat first | ((with_reducible show CM _ _ _ _); wtm_at "co") | ((with_reducible show XM _ _ _ _ _); wtm_at "co") | wtm_at "e1")
local macro_rules | `(tactic| wtm_at "x") => `(tactic| first | exact x_v rfl | exact x_c | (apply EvX.by; intro W ε; (wtm_at "e"); done))
local macro_rules | `(tactic| wtm_at "t") => `(tactic| first
    | ((with_reducible show EvTX _ tYes _); exact t_yes)
    | ((with_reducible show EvTX _ (tAnd _ _) _); first | (apply t_and; (focus (wtm_at "t")); (focus (intro hq; wtm_at "t"))) | (apply t_and0; (focus (wtm_at "t")); wtm_at "bs"))
    | ((with_reducible show EvTX _ (tOr _ _) _); first | (apply t_or; (focus (wtm_at "t")); (focus (intro hq; wtm_at "t"))) | (apply t_or1; (focus (wtm_at "t")); wtm_at "bs"))
    | ((with_reducible show EvTX _ (tNot _) _); apply t_not; wtm_at "t")
    | ((with_reducible show EvTX _ (tTest (tChain _ _ _ _ _)) _); apply t_chain; (focus (wtm_at "x")); (focus (wtm_at "x")); (focus (wtm_at "x")))
    | ((with_reducible show EvTX _ (tTest _) _); apply t_T; wtm_at "x")
    | ((with_reducible show EvTX _ (tB _) _); apply t_B; wtm_at "x"))
local macro_rules | `(tactic| wtm_at "tq") => `(tactic| (apply t_is; (focus (wtm_at "t")); try wtm_at "b"))
local macro_rules | `(tactic| wtm_at "if") => `(tactic| (apply w_if; (focus (wtm_at "t"))))
local macro_rules | `(tactic| wtm_at "ifc") => `(tactic| (refine ws_if ?_; (repeat first | refine w_tNot ?_ | refine w_tB ?_ | refine w_t ?_ | wtm_at "e1" | ((with_reducible show ∃ c : Bool, _ = rB c ∧ _); refine ⟨_, rfl, ?_⟩)); refine ⟨?_, ?_⟩))
local macro_rules | `(tactic| wtm_at "w1") => `(tactic| first
    | ((with_reducible show WP _ _ _ (tSeq _ _) _); refine w_seq ?_)
    | ((with_reducible show WP _ _ _ (tAsg _ (gName _)) _); refine ws_set ?_; (wtm_at "e"); dsimp only [List.set])
    | ((with_reducible show WP _ _ _ (tRet _) _); refine ws_ret ?_; (wtm_at "e"))
    | ((with_reducible show WP _ _ _ (sFld _ (tVar _) _ _) _); refine ws_fld 0 rfl rfl (by wtm_at "s") (by wtm_at "s") ?_; (wtm_at "e"); dsimp only [List.set])
    | ((with_reducible show WP _ _ _ (tDrop _) _); refine ws_do ?_; (wtm_at "e"))
    | ((with_reducible show WP _ _ _ tNext _); (refine w_nx ?_))
    | ((with_reducible show WP _ _ _ tRetN _); refine w_ret0 ?_))
local macro_rules | `(tactic| wtm_at "w") => `(tactic| repeat ((try dsimp only); wtm_at "w1"))
theorem sc_law : FnScope ["_law_script", "_law_box_here", "_law_n", "_law_one", "_law_knows", "_law_kept", "_law_hears", "_law_says", "_law_row", "_law_knower", "_law_doubter", "_law_both", "_law_sure", "_law_word", "_law_unsure", "_law_out", "_law_mixed_here", "_law_turn", "_law_person_here", "_law_known", "_law_bad"] ["_law_script"] (defScope s_law) := ⟨rfl, rfl, rfl, by decide +kernel, rfl, by decide +kernel, by decide +kernel⟩
theorem b_law (T : Tx P K mg) : Binds K T.fd_law ["_law_script"] [] := T.F_law.bindsN fun _ _ _ _ _ _ us hl => match us, hl with | [_], _ => rfl
def sp_law (K : PySem.W.Frag) : Sp := fun vs H Q _ => ∃ (a : Addr) (ns : List Int), vs = [.ref a] ∧ SqL K H a (ns.map V.int) ∧ ns.length ≤ 63 ∧ ∀ H', Q (.bl true) H'

abbrev toI (l : List Nat) : List Int := l.map fun (w : Nat) => (w : Int)
abbrev toII (l : List (List Nat)) : List (List Int) := l.map toI
theorem any_nat {n : Nat} {l : List Nat} (h : ∀ w ∈ l, w < n) : (toI l).any (badW n) = false := by
  rw [List.any_eq_false]
  intro x hx
  obtain ⟨w, hw, rfl⟩ := List.mem_map.mp hx
  rw [bad_nat (h w hw)]; decide
theorem goodH {n : Nat} {h : List Nat} (h1 : 1 ≤ n) (h6 : n ≤ 6) (hl : h.length = n) (hw : ∀ w ∈ h, w < n) : badH (toI h) = false := by
  unfold badH
  rw [show (toI h).length = n by rw [List.length_map, hl], any_nat hw, decide_eq_false (by omega), decide_eq_false (by omega)]
  rfl
theorem goodS {n : Nat} {s : List (List Nat)} (hl : s.length = n) (hw : ∀ l ∈ s, l ≠ [] ∧ l.length ≤ 6 ∧ ∀ w ∈ l, w < n) : badS n (toII s) = false := by
  unfold badS
  rw [decide_eq_true (show (toII s).length = n by rw [List.length_map, hl])]
  have : (toII s).any (badRow n) = false := by
    rw [List.any_eq_false]
    intro r hr
    obtain ⟨l, hl, rfl⟩ := List.mem_map.mp hr
    unfold badRow
    have := List.length_pos_iff.mpr (hw l hl).1
    rw [any_nat (hw l hl).2.2, decide_eq_false (by rw [List.length_map]; omega)]
    decide
  rw [this]; rfl
theorem per_good {α : Type} {U : Addr} {n : Nat} {h : List Nat} {s : List (List Nat)} (h1 : 1 ≤ n) (h6 : n ≤ 6) (hp : PerOk n h s) (x : α ⊕ (Value × List (Str × V))) : perO U (toI h) (toII s) x = x := by
  unfold perO
  rw [goodH h1 h6 hp.hl hp.hw, show (toI h).length = n by rw [List.length_map, hp.hl], goodS hp.sl hp.sw]
  rfl
theorem mem_toI {o : Nat} {l : List Nat} : (o : Int) ∈ toI l ↔ o ∈ l := by
  rw [List.mem_map]
  exact ⟨fun ⟨a, h1, h2⟩ => by rw [← Int.ofNat.inj h2]; exact h1, fun h => ⟨o, h, rfl⟩⟩
theorem getD_toI (l : List Nat) (i : Nat) : (toI l).getD i 0 = ((l.getD i 0 : Nat) : Int) := by
  rw [List.getD_eq_getElem?_getD, List.getD_eq_getElem?_getD, List.getElem?_map]
  cases l[i]? <;> rfl
theorem getD_toII (l : List (List Nat)) (i : Nat) : (toII l).getD i [] = toI (l.getD i []) := by
  rw [List.getD_eq_getElem?_getD, List.getD_eq_getElem?_getD, List.getElem?_map]
  cases l[i]? <;> rfl
theorem said_per {n : Nat} {h : List Nat} {s : List (List Nat)} (hl : h.length = n) (w : Nat) : saidL (toI h) (toII s) w = perRow n h s w := by
  unfold saidL perRow
  rw [show (toI h).length = n by rw [List.length_map, hl]]
  refine List.filter_congr fun o _ => ?_
  rw [getD_toI, Int.toNat_natCast, getD_toII, Bool.eq_iff_iff, decide_eq_true_iff, decide_eq_true_iff]
  exact mem_toI
theorem own_snoc {qs : List Addr} {rss : List (List Rp)} {q : Addr} {rs : List Rp} (hl : qs.length = rss.length) : List.zipWith lstR qs rss ++ [lstR q rs] = List.zipWith lstR (qs ++ [q]) (rss ++ [rs]) := by
  rw [List.zipWith_append hl]; rfl

theorem kn_good {K : PySem.W.Frag} {U : Addr} {n : Nat} {h kn : List Nat} {s : List (List Nat)} (h1 : 1 ≤ n) (h6 : n ≤ 6) (hp : PerOk n h s) (hk : ∀ w ∈ kn, w < n) : knO K U (toI h) (toII s) (toI kn) = .inl (perF K (toI h) (toII s) ++ ([("sure_words", rT K ((toI kn).map Mu.rI))] : FL)) := by
  unfold knO
  rw [per_good h1 h6 hp]
  dsimp only
  rw [show (toI h).length = n by rw [List.length_map, hp.hl], any_nat hk]
  rfl
theorem doubt_per {n : Nat} {h : List Nat} {s : List (List Nat)} (hl : h.length = n) (w : Nat) : doubtL (toI h) (toII s) w = (List.range n).filter fun o => decide (o ∈ perRow n h s w) || decide (o = w) := by
  unfold doubtL
  rw [show (toI h).length = n by rw [List.length_map, hl], said_per hl]

theorem ok_law (T : Tx P K mg) : FnOk P w K mg base CX0 12 T.f_law T.fd_law ["_law_script"] (sp_law K) := by
  refine T.F_law.ok sc_law (fun vs H Q E h => ?_) (fun cdv A outer s H vs Q E hr h => ?_)
  · obtain ⟨a, ns, rfl, _⟩ := h
    rfl
  · obtain ⟨a, ns, rfl, hS, hl, k⟩ := h
    refine ⟨_, PSs.nox (pss_cons (ps_set (i := 1) sc_law.nd rfl (Or.inl rfl) (pe_call (ok__law_box T) (hr.mono (by decide)) (by rfl) T.g__law_box T.F__law_box.kp (b__law_box T) .nil pass0 (pa_cons (pv 0) pa_nil)))
      (pss_cons (ps_set (i := 2) sc_law.nd rfl (Or.inr rfl) (pe_op op_add pe_int (pe_call (ok__law_take T) (hr.mono (by decide)) (by rfl) T.g__law_take T.F__law_take.kp (b__law_take T) .nil pass0 (pa_cons (pv 1) (pa_cons pe_int pa_nil)))))
      (pss_cons (ps_set (i := 3) sc_law.nd rfl (Or.inr rfl) (pe_call (ok__law_person T) (hr.mono (by decide)) (by rfl) T.g__law_person T.F__law_person.kp (b__law_person T) .nil pass0 (pa_cons (pv 1) (pa_cons (pv 2) pa_nil))))
      (pss_cons (ps_set (i := 4) sc_law.nd rfl (Or.inl rfl) (pe_call (ok__law_mixed T) (hr.mono (by decide)) (by rfl) T.g__law_mixed T.F__law_mixed.kp (b__law_mixed T) .nil pass0 (pa_cons (pv 1) (pa_cons (pe_call (ok__law_words T) (hr.mono (by decide)) (by rfl) T.g__law_words T.F__law_words.kp (b__law_words T) .nil pass0 (pa_cons (pv 1) (pa_cons (pv 2) (pa_cons pe_int pa_nil)))) pa_nil))))
      (pss_cons (ps_set (i := 5) sc_law.nd rfl (Or.inr rfl) (pe_callTy (call_listK K) (by rfl) T.m_list (by decide +kernel) (pa_cons (pv 4) pa_nil)))
      (pss_cons (ps_set (i := 6) sc_law.nd rfl (Or.inl rfl) (pe_callTy (call_listK K) (by rfl) T.m_list (by decide +kernel) (pa_cons (pe_ix (ix_listK K) (pv 3) pe_int (fun _ _ => rfl)) pa_nil)))
      (pss_cons (ps_setLc (i := 7) (own := [("_law_row", 8)]) (by rfl) sc_law.nd rfl rfl (sw_true rfl rfl rfl (by decide +kernel)) (pi_listK K (pe_ix (ix_listK K) (pv 3) pe_int (fun _ _ => rfl))) (blkOk_by (N := ["_law_script", "_law_box_here", "_law_n", "_law_one", "_law_knows", "_law_kept", "_law_hears", "_law_says", "_law_row", "_law_knower", "_law_doubter", "_law_both", "_law_sure", "_law_word", "_law_unsure", "_law_out", "_law_mixed_here", "_law_turn", "_law_person_here", "_law_known", "_law_bad"]) (sc := defScope s_law) (by decide +kernel)) (fun _ _ _ _ _ => (pg_name (i := 8) sc_law.nd rfl (Or.inl rfl))) (fun _ _ _ _ _ => pts_nil) (fun _ _ _ _ _ => (pe_callTy (call_listK K) (by rfl) T.m_list (by decide +kernel) (pa_cons (pv 8) pa_nil))))
      (pss_cons (ps_set (i := 9) sc_law.nd rfl (Or.inl rfl) (pe_make T.mk_Knower (ok_Knower___init__ T) (hr.mono (by decide)) (by rfl) T.g_Knower (b_Knower___init__ T) .nil passF (pa_cons (pv 6) (pa_cons (pv 7) (pa_cons (pv 4) pa_nil)))))
      (pss_cons (ps_set (i := 10) sc_law.nd rfl (Or.inl rfl) (pe_make T.mk_Doubter (ok_Person___init__ T) (hr.mono (by decide)) (by rfl) T.g_Doubter (b_Person___init__ T) .nil passF (pa_cons (pv 6) (pa_cons (pv 7) pa_nil))))
      (pss_cons (ps_set (i := 11) sc_law.nd rfl (Or.inl rfl) (pe_make T.mk_KnowingDoubter (ok_Knower___init__ T) (hr.mono (by decide)) (by rfl) T.g_KnowingDoubter (b_Knower___init__ T) .nil passF (pa_cons (pv 6) (pa_cons (pv 7) (pa_cons (pv 4) pa_nil)))))
      (pss_cons (ps_if (pt_cmpR (op_neK K hr.units) (pe_lst (pa_cons (pv 6) (pa_cons (pv 7) (pa_cons (pv 4) pa_nil)))) (pe_lst (pa_cons (pe_ix (ix_listK K) (pv 3) pe_int (fun _ _ => rfl)) (pa_cons (pe_ix (ix_listK K) (pv 3) pe_int (fun _ _ => rfl)) (pa_cons (pv 5) pa_nil)))) (nomark _)) (pss_one (ps_ret pe_bl)) pss_nil)
      (pss_cons (ps_expr (pe_bm PySem.F.plainAttrs_list PySem.F.slot_list_append PySem.F.type_list_append mt_append (pv 4) (pa_cons (pe_op op_sub (pv 2) pe_int) pa_nil)))
      (pss_cons (ps_expr (pe_call (ok__law_spoil T) (hr.mono (by decide)) (by rfl) T.g__law_spoil T.F__law_spoil.kp (b__law_spoil T) .nil pass0 (pa_cons (pv 6) (pa_cons (pv 7) pa_nil))))
      (pss_cons (ps_setLc (i := 12) (own := [("_law_word", 13)]) (by rfl) sc_law.nd rfl rfl (sw_true rfl rfl rfl (by decide +kernel)) (pi_range1 (by rfl) T.m_range (pa_cons (pv 2) pa_nil)) (blkOk_by (N := ["_law_script", "_law_box_here", "_law_n", "_law_one", "_law_knows", "_law_kept", "_law_hears", "_law_says", "_law_row", "_law_knower", "_law_doubter", "_law_both", "_law_sure", "_law_word", "_law_unsure", "_law_out", "_law_mixed_here", "_law_turn", "_law_person_here", "_law_known", "_law_bad"]) (sc := defScope s_law) (by decide +kernel)) (fun _ _ _ _ _ => (pg_name (i := 13) sc_law.nd rfl (Or.inl rfl))) (fun _ _ _ _ _ => pts_nil) (fun _ _ _ _ _ => (pe_ifExp (pt_cmpR (op_inK K) (pv 13) (pv 5) rfl) (pe_lst (pa_cons (pv 13) pa_nil)) (pe_ix (ix_listK K) (pe_ix (ix_listK K) (pv 3) pe_int (fun _ _ => rfl)) (pv 13) (fun _ _ => rfl)))))
      (pss_cons (ps_set (i := 14) sc_law.nd rfl (Or.inr rfl) (pe_lc (own := [("_law_word", 13)]) (by rfl) sc_law.nd (pi_range1 (by rfl) T.m_range (pa_cons (pv 2) pa_nil)) (blkOk_by (N := ["_law_script", "_law_box_here", "_law_n", "_law_one", "_law_knows", "_law_kept", "_law_hears", "_law_says", "_law_row", "_law_knower", "_law_doubter", "_law_both", "_law_sure", "_law_word", "_law_unsure", "_law_out", "_law_mixed_here", "_law_turn", "_law_person_here", "_law_known", "_law_bad"]) (sc := defScope s_law) (by decide +kernel)) (fun _ _ _ _ _ => (pg_name (i := 13) sc_law.nd rfl (Or.inr rfl))) (fun _ _ _ _ _ => pts_nil) (fun _ _ _ _ _ => (pe_lc (own := [("_law_out", 15)]) (by rfl) sc_law.nd (pi_range1 (by rfl) T.m_range (pa_cons (pv 2) pa_nil)) (blkOk_re (blkOk_by (N := ["_law_script", "_law_box_here", "_law_n", "_law_one", "_law_knows", "_law_kept", "_law_hears", "_law_says", "_law_row", "_law_knower", "_law_doubter", "_law_both", "_law_sure", "_law_word", "_law_unsure", "_law_out", "_law_mixed_here", "_law_turn", "_law_person_here", "_law_known", "_law_bad"]) (sc := { kind := .function, names := [(".0", .local), ("_law_word", .cell), ("range", .globalImplicit), ("_law_n", .free), ("_law_one", .free)], isGenerator := false, isCoroutine := false }) (by decide +kernel))) (fun _ _ _ _ _ => (pg_name (i := 15) sc_law.nd rfl (Or.inl rfl))) (fun _ _ _ _ _ => (pts_one (PW.pt (pw_or (pt_cmpR (op_inK K) (pvB (sc := { kind := .function, names := [(".0", .local), ("_law_out", .local), ("_law_one", .free), ("_law_word", .free)], isGenerator := false, isCoroutine := false }) 15) (pe_ix (ix_listK K) (pe_ix (ix_listK K) (pvB (sc := { kind := .function, names := [(".0", .local), ("_law_out", .local), ("_law_one", .free), ("_law_word", .free)], isGenerator := false, isCoroutine := false }) 3) pe_int (fun _ _ => rfl)) (pvB (sc := { kind := .function, names := [(".0", .local), ("_law_out", .local), ("_law_one", .free), ("_law_word", .free)], isGenerator := false, isCoroutine := false }) 13) (fun _ _ => rfl)) rfl) (pw_or1 (pt_cmpR op_eq (pvB (sc := { kind := .function, names := [(".0", .local), ("_law_out", .local), ("_law_one", .free), ("_law_word", .free)], isGenerator := false, isCoroutine := false }) 15) (pvB (sc := { kind := .function, names := [(".0", .local), ("_law_out", .local), ("_law_one", .free), ("_law_word", .free)], isGenerator := false, isCoroutine := false }) 13) (nomark _))))))) (fun _ _ _ _ _ => (pvB (sc := { kind := .function, names := [(".0", .local), ("_law_out", .local), ("_law_one", .free), ("_law_word", .free)], isGenerator := false, isCoroutine := false }) 15))))))
      (pss_cons (ps_setLc (i := 16) (own := [("_law_word", 13)]) (by rfl) sc_law.nd rfl rfl (sw_true rfl rfl rfl (by decide +kernel)) (pi_range1 (by rfl) T.m_range (pa_cons (pv 2) pa_nil)) (blkOk_by (N := ["_law_script", "_law_box_here", "_law_n", "_law_one", "_law_knows", "_law_kept", "_law_hears", "_law_says", "_law_row", "_law_knower", "_law_doubter", "_law_both", "_law_sure", "_law_word", "_law_unsure", "_law_out", "_law_mixed_here", "_law_turn", "_law_person_here", "_law_known", "_law_bad"]) (sc := defScope s_law) (by decide +kernel)) (fun _ _ _ _ _ => (pg_name (i := 13) sc_law.nd rfl (Or.inl rfl))) (fun _ _ _ _ _ => pts_nil) (fun _ _ _ _ _ => (pe_ifExp (pt_cmpR (op_inK K) (pv 13) (pv 5) rfl) (pe_lst (pa_cons (pv 13) pa_nil)) (pe_ix (ix_listK K) (pv 14) (pv 13) (fun _ _ => rfl)))))
      (pss_cons (ps_for PassesOwn.never rfl (pi_range1 (by rfl) T.m_range (pa_cons pe_int pa_nil)) (pg_name (i := 17) sc_law.nd rfl (Or.inl rfl)) (pss_cons (ps_if (PW.pt (pw_or (pt_not (pt_val (pe_call (ok__law_is_kind T) (hr.mono (by decide)) (by rfl) T.g__law_is_kind T.F__law_is_kind.kp (b__law_is_kind T) .nil pass0 (pa_cons (pv 9) (pa_cons (pv 12) (pa_cons (pe_ix (ix_listK K) (pv 3) pe_int (fun _ _ => rfl)) pa_nil)))))) (pw_or1 (pt_not (pt_val (pe_call (ok__law_is_kind T) (hr.mono (by decide)) (by rfl) T.g__law_is_kind T.F__law_is_kind.kp (b__law_is_kind T) .nil pass0 (pa_cons (pv 10) (pa_cons (pv 14) (pa_cons (pe_ix (ix_listK K) (pv 3) pe_int (fun _ _ => rfl)) pa_nil))))))))) (pss_one (ps_ret pe_bl)) pss_nil)
      (pss_cons (ps_if (pt_not (pt_val (pe_call (ok__law_is_kind T) (hr.mono (by decide)) (by rfl) T.g__law_is_kind T.F__law_is_kind.kp (b__law_is_kind T) .nil pass0 (pa_cons (pv 11) (pa_cons (pv 16) (pa_cons (pe_ix (ix_listK K) (pv 3) pe_int (fun _ _ => rfl)) pa_nil)))))) (pss_one (ps_ret pe_bl)) pss_nil)
      (pss_one (ps_for PassesOwn.never rfl (pi_listK K (pe_lst (pa_cons (pv 9) (pa_cons (pv 11) pa_nil)))) (pg_name (i := 18) sc_law.nd rfl (Or.inl rfl)) (pss_cons (ps_set (i := 19) sc_law.nd rfl (Or.inl rfl) (pe_propD (pv 18) K (ok_Knower_known T) (hr.mono (by decide)) (b_Knower_known T) pass0))
      (pss_cons (ps_if (PW.pt (pw_or (pt_not (pt_val (pe_call (ok__law_is_words T) (hr.mono (by decide)) (by rfl) T.g__law_is_words T.F__law_is_words.kp (b__law_is_words T) .nil pass0 (pa_cons (pv 19) pa_nil)))) (pw_or1 (pt_cmpR (op_neK K hr.units) (pv 19) (pe_lc (own := [("_law_word", 13)]) (by rfl) sc_law.nd (pi_range1 (by rfl) T.m_range (pa_cons (pv 2) pa_nil)) (blkOk_by (N := ["_law_script", "_law_box_here", "_law_n", "_law_one", "_law_knows", "_law_kept", "_law_hears", "_law_says", "_law_row", "_law_knower", "_law_doubter", "_law_both", "_law_sure", "_law_word", "_law_unsure", "_law_out", "_law_mixed_here", "_law_turn", "_law_person_here", "_law_known", "_law_bad"]) (sc := defScope s_law) (by decide +kernel)) (fun _ _ _ _ _ => (pg_name (i := 13) sc_law.nd rfl (Or.inl rfl))) (fun _ _ _ _ _ => (pts_one (pt_cmpR (op_inK K) (pv 13) (pv 5) rfl))) (fun _ _ _ _ _ => (pv 13))) (nomark _))))) (pss_one (ps_ret pe_bl)) pss_nil)
      (pss_one (ps_expr (pe_bm PySem.F.plainAttrs_list PySem.F.slot_list_append PySem.F.type_list_append mt_append (pv 19) (pa_cons (pv 2) pa_nil)))))))))))
      (pss_cons (ps_set (i := 20) sc_law.nd rfl (Or.inl rfl) (pe_call (ok__law_far T) (hr.mono (by decide)) (by rfl) T.g__law_far T.F__law_far.kp (b__law_far T) .nil pass0 (pa_cons (pv 1) (pa_cons (pv 2) pa_nil))))
      (pss_cons (ps_for PassesOwn.never rfl (pi_listK K (pe_lst (pa_cons (pv 9) (pa_cons (pv 10) (pa_cons (pv 11) pa_nil))))) (pg_name (i := 18) sc_law.nd rfl (Or.inl rfl)) (pss_one (ps_if (PW.pt (pw_or (pt_cmpR (op_neK K hr.units) (pe_call (ok__law_word_error T) (hr.mono (by decide)) (by rfl) T.g__law_word_error T.F__law_word_error.kp (b__law_word_error T) .nil pass0 (pa_cons pe_int (pa_cons (pv 18) (pa_cons (pv 20) pa_nil)))) (pe_lst (pa_cons (pv 20) (pa_cons pe_bl pa_nil))) (nomark _)) (pw_or1 (pt_cmpR (op_neK K hr.units) (pe_call (ok__law_word_error T) (hr.mono (by decide)) (by rfl) T.g__law_word_error T.F__law_word_error.kp (b__law_word_error T) .nil pass0 (pa_cons pe_int (pa_cons (pv 18) (pa_cons (pv 20) pa_nil)))) (pe_lst (pa_cons (pv 20) (pa_cons pe_bl pa_nil))) (nomark _))))) (pss_one (ps_ret pe_bl)) pss_nil)))
      (pss_cons (ps_if (PW.pt (pw_or (pt_val (pe_callB (call_isiK K) (by rfl) T.m_isinstance (by decide +kernel) (pa_cons (pv 9) (pa_cons (pe_glob (v := .ref T.C_Doubter) (by rfl) T.g_Doubter rfl) pa_nil)))) (pw_or1 (pt_val (pe_callB (call_isiK K) (by rfl) T.m_isinstance (by decide +kernel) (pa_cons (pv 10) (pa_cons (pe_glob (v := .ref T.C_Knower) (by rfl) T.g_Knower rfl) pa_nil))))))) (pss_one (ps_ret pe_bl)) pss_nil)
      (pss_one (ps_ret (pe_and (pe_callB (call_isiK K) (by rfl) T.m_isinstance (by decide +kernel) (pa_cons (pv 11) (pa_cons (pe_glob (v := .ref T.C_Knower) (by rfl) T.g_Knower rfl) pa_nil))) (pe_one (pe_callB (call_isiK K) (by rfl) T.m_isinstance (by decide +kernel) (pa_cons (pv 11) (pa_cons (pe_glob (v := .ref T.C_Doubter) (by rfl) T.g_Doubter rfl) pa_nil))))))))))))))))))))))))))), ?_⟩
    refine run_law (W := fun _ _ _ _ => False) (n := 20) (i := 1) hS hl rfl rfl (by decide) k fun b => ?_
    change WP _ [none, some (rV (.ref b)), none, none, none, none, none, none, none, none, none, none, none, none, none, none, none, none, none, none, none] [boxR K b] _ _
    clear k hS hl
    refine w_seq (ws_set ?_)
    wtm_at "e"
    intro d hd
    wtm_at "e"
    obtain ⟨n, hn⟩ : ∃ n, n = 1 + d := ⟨_, rfl⟩
    rw [← hn]
    have h1 : 1 ≤ n := by omega
    have h6 : n ≤ 6 := by omega
    clear hn hd d
    try dsimp only [List.set]

    wtm_at "w"
    intro h s hp
    try dsimp only [List.set]
    have l_h := hp.hl
    have l_s := hp.sl
    have lI : (toI h).length = n := by rw [List.length_map, hp.hl]
    have lS : (toII s).length = n := by rw [List.length_map, hp.sl]
    have rS : ∀ r ∈ toII s, r.length ≤ 6 := fun r hr => by
      obtain ⟨l, hl, rfl⟩ := List.mem_map.mp hr
      rw [List.length_map]
      exact (hp.sw l hl).2.1
    have eH : rLi K (toI h) = rLn K h := (ln_li K h).symm
    have eS : rLLi K (toII s) = rLL K s := by unfold rLL rLLi; rw [lls_lli]
    have eP : rL K (perRs K n h s) = rL K [rLi K (toI h), rLLi K (toII s), rLL K ((List.range n).map (perRow n h s))] := by
      unfold perRs
      rw [eH, eS]
    rw [eP]
    have hp2 : 0 < 2 ^ n := Nat.two_pow_pos n
    refine w_seq (ws_set ?_)
    wtm_at "e"
    intro mask _ hmask
    have hbl := bits_len hmask
    wtm_at "eo"
    intro kn hkn1 hkn2 pk
    try dsimp only [List.set, List.cons_append, List.nil_append]
    have hkn : ∀ w ∈ kn, w < n := fun w hw => bit_lt hmask (mem_bits.mp ((hkn1 w).mp hw))
    have hknl : kn.length ≤ 7 := by omega
    have eN : rLi K (toI kn) = rLn K kn := (ln_li K kn).symm
    refine w_seq (ws_set ?_)
    wtm_at "e"
    try dsimp only [List.set]
    rw [show rL K (kn.map nI) = rLi K (toI kn) from eN.symm]
    refine w_seq (ws_set (e_n (xn_list (K := K) (rs := (toI h).map Mu.rI) (by wtm_at "x")) fun p => ?_))
    try dsimp only [List.set, List.cons_append, List.nil_append]
    refine w_seq (ws_set (e_lcGL (K := K) (toII s) (rLi K) (fun i acc X => ∃ qs : List Addr, qs.length = i ∧ acc = qs.map (fun q => rV (.ref q)) ∧ X = List.zipWith lstR qs (((toII s).take i).map fun r => r.map Mu.rI)) (by wtm_at "x") (by omega) ⟨[], rfl, rfl, rfl⟩ (fun i a R acc X W ha hJ => ?_) (by wtm_at "j") fun p2 acc X hl hJ => ?_))
    · obtain ⟨qs, hq, rfl, rfl⟩ := hJ
      have hi : i < (toII s).length := (List.getElem?_eq_some_iff.mp ha).1
      refine e_n (xn_list (K := K) (rs := a.map Mu.rI) (by wtm_at "x")) fun q => ?_
      refine ⟨_, rfl, qs ++ [q], by rw [List.length_append, hq]; rfl, by rw [List.map_append]; rfl, ?_⟩
      rw [List.take_add_one, ha, List.map_append]
      exact own_snoc (by rw [hq, List.length_map, List.length_take]; omega)
    obtain ⟨qs, hq, rfl, rfl⟩ := hJ
    rw [List.take_length]
    try dsimp only [List.set, List.cons_append, List.nil_append]
    have hql : qs.length = ((toII s).map fun r => r.map Mu.rI).length := by rw [List.length_map, hq]
    have hb2 : ∀ (R1 R2 R3 R4 : Re), Paired (BorR (R1 :: R2 :: R3 :: R4 :: List.zipWith lstR qs ((toII s).map fun r => r.map Mu.rI))) (qs.map fun q => rV (.ref q)) ((toII s).map (rLi K)) := fun R1 R2 R3 R4 => by
      have z := br_own (K := K) (M := R1 :: R2 :: R3 :: R4 :: List.zipWith lstR qs ((toII s).map fun r => r.map Mu.rI)) hql (fun R hR => List.mem_cons_of_mem _ (List.mem_cons_of_mem _ (List.mem_cons_of_mem _ (List.mem_cons_of_mem _ hR))))
      have e : ((toII s).map fun r => r.map Mu.rI).map (rL K) = (toII s).map (rLi K) := by
        simp only [List.map_map]; rfl
      rw [e] at z
      exact z
    have hbk : ∀ (R1 R3 R4 : Re) (X : List Re), BorR (R1 :: lstR pk (kn.map nI) :: R3 :: R4 :: X) (rV (.ref pk)) (rLi K (toI kn)) := fun R1 R3 R4 X => by
      rw [eN]
      exact br_lst1 (K := K) (k := 1) rfl
    have hP : OK_Person__init T T.C_Doubter := ⟨T.c_Doubter, T.na_Doubter_size, T.na_Doubter_ears, T.na_Doubter_mouths⟩
    have hKn : OK_Knower__init T T.C_Knower := ⟨T.c_Knower, T.na_Knower_size, T.na_Knower_ears, T.na_Knower_mouths, T.na_Knower_sure_words, T.sup_Knower_Knower___init__⟩
    have hKd : OK_Knower__init T T.C_KnowingDoubter := ⟨T.c_KnowingDoubter, T.na_KnowingDoubter_size, T.na_KnowingDoubter_ears, T.na_KnowingDoubter_mouths, T.na_KnowingDoubter_sure_words, T.sup_KnowingDoubter_Knower___init__⟩
    have li1 : (toI h).length ≤ 1000 := by omega
    have li2 : (toII s).length ≤ 1000 := by omega
    have li3 : ∀ r ∈ toII s, r.length ≤ 1000 := fun r hr => Nat.le_trans (rS r hr) (by decide)
    have li4 : (toI kn).length ≤ 1000 := by rw [List.length_map]; omega
    have e1 : perO T.C_BadPerson (toI h) (toII s) (.inl (perF K (toI h) (toII s))) = .inl (perF K (toI h) (toII s) ++ ([] : FL)) := per_good h1 h6 hp _
    have e2 := kn_good (K := K) (U := T.C_BadPerson) h1 h6 hp hkn
    have lfP : ∀ xs : FL, (∀ f ∈ xs, LF f.2) → ∀ f ∈ perF K (toI h) (toII s) ++ xs, LF f.2 := fun xs hx f hf => by
      rcases List.mem_append.mp hf with z | z
      · simp only [perF, List.mem_cons, List.not_mem_nil, or_false] at z
        rcases z with rfl | rfl | rfl
        · exact lf_v
        · exact lf_tm fun _ => lf_v
        · exact lf_tm fun _ => lf_tm fun _ => lf_v
      · exact hx f z
    have lfS : ∀ f ∈ ([("sure_words", rT K ((toI kn).map Mu.rI))] : FL), LF f.2 := fun f hf => by
      simp only [List.mem_cons, List.not_mem_nil, or_false] at hf
      rw [hf]
      exact lf_tm fun _ => lf_v
    refine w_seq (ws_set (e_bor (r := rIns T.C_Knower (perF K (toI h) (toII s) ++ ([("sure_words", rT K ((toI kn).map Mu.rI))] : FL))) (bc_set (i := 4) (r := rLi K (toI kn)) (bc_set (i := 7) (r := rLLi K (toII s)) (bc_set (i := 6) (r := rLi K (toI h)) bc_refl rfl (br_lst1 (K := K) (k := 2) rfl)) rfl (br_lst (K := K) (k := 3) rfl (hb2 _ _ _ _))) rfl (hbk _ _ _ _)) (EvX.by fun W ε => ?_) (lf_ins (lfP _ lfS)) ?_))
    · dsimp only [List.set]
      wtm_at "e"
    try dsimp only [List.set]
    refine w_seq (ws_set (e_bor (r := rIns T.C_Doubter (perF K (toI h) (toII s) ++ ([] : FL))) (bc_set (i := 7) (r := rLLi K (toII s)) (bc_set (i := 6) (r := rLi K (toI h)) bc_refl rfl (br_lst1 (K := K) (k := 2) rfl)) rfl (br_lst (K := K) (k := 3) rfl (hb2 _ _ _ _))) (EvX.by fun W ε => ?_) (lf_ins (lfP _ (fun _ z => nomatch z))) ?_))
    · dsimp only [List.set]
      wtm_at "e"
    try dsimp only [List.set]
    refine w_seq (ws_set (e_bor (r := rIns T.C_KnowingDoubter (perF K (toI h) (toII s) ++ ([("sure_words", rT K ((toI kn).map Mu.rI))] : FL))) (bc_set (i := 4) (r := rLi K (toI kn)) (bc_set (i := 7) (r := rLLi K (toII s)) (bc_set (i := 6) (r := rLi K (toI h)) bc_refl rfl (br_lst1 (K := K) (k := 2) rfl)) rfl (br_lst (K := K) (k := 3) rfl (hb2 _ _ _ _))) rfl (hbk _ _ _ _)) (EvX.by fun W ε => ?_) (lf_ins (lfP _ lfS)) ?_))
    · dsimp only [List.set]
      wtm_at "e"
    try dsimp only [List.set]
    refine w_seq (ws_if (et_bor (c := false) (bc_set (i := 4) (r := rLi K (toI kn)) (bc_set (i := 7) (r := rLLi K (toII s)) (bc_set (i := 6) (r := rLi K (toI h)) bc_refl rfl (br_lst1 (K := K) (k := 2) rfl)) rfl (br_lst (K := K) (k := 3) rfl (hb2 _ _ _ _))) rfl (hbk _ _ _ _)) ?_ ⟨(fun z => nomatch z), fun _ => ?_⟩))
    · dsimp only [List.set]
      apply t_T
      apply EvX.by
      intro W ε
      wtm_at "e"
      refine om (x_neS (dt_hl (k := 20) (.cons (dt_up (dt_li _) (by decide)) (.cons (dt_up (dt_l dt_li _) (by decide)) (.cons (dt_up (dt_li _) (by decide)) .nil)))) (by decide) (x_v rfl) (x_v rfl)) ?_
      exact ⟨rfl, rfl⟩
    refine w_nx ?_
    try dsimp only
    clear hb2
    obtain ⟨pdK, epK⟩ : ∃ pd : PD, pd = ⟨1, toI h, toII s, toI kn⟩ := ⟨_, rfl⟩
    obtain ⟨pdD, epD⟩ : ∃ pd : PD, pd = ⟨2, toI h, toII s, toI kn⟩ := ⟨_, rfl⟩
    obtain ⟨pdB, epB⟩ : ∃ pd : PD, pd = ⟨3, toI h, toII s, toI kn⟩ := ⟨_, rfl⟩
    have gI : ∀ x ∈ toI h, badW (toI h).length x = false := fun x hx => by
      obtain ⟨w, hw, rfl⟩ := List.mem_map.mp hx
      rw [lI]
      exact bad_nat (hp.hw w hw)
    have lS2 : (toII s).length = (toI h).length := by omega
    have okK : PDok pdK := by rw [epK]; exact ⟨Nat.le_of_ble_eq_true rfl, by show 1 ≤ (toI h).length; omega, by show (toI h).length ≤ 6; omega, lS2, gI⟩
    have okD : PDok pdD := by rw [epD]; exact ⟨Nat.le_of_ble_eq_true rfl, by show 1 ≤ (toI h).length; omega, by show (toI h).length ≤ 6; omega, lS2, gI⟩
    have okB : PDok pdB := by rw [epB]; exact ⟨Nat.le_of_ble_eq_true rfl, by show 1 ≤ (toI h).length; omega, by show (toI h).length ≤ 6; omega, lS2, gI⟩
    have kK : 1 ≤ pdK.kd := by rw [epK]; exact Nat.le_of_ble_eq_true rfl
    have kD : 1 ≤ pdD.kd := by rw [epD]; exact Nat.le_of_ble_eq_true rfl
    have kB : 1 ≤ pdB.kd := by rw [epB]; exact Nat.le_of_ble_eq_true rfl
    have rK : rIns T.C_Knower (perF K (toI h) (toII s) ++ ([("sure_words", rT K ((toI kn).map Mu.rI))] : FL)) = rPer K T.C_Person T.C_Knower T.C_Doubter T.C_KnowingDoubter pdK := by rw [epK]; rfl
    have rD : rIns T.C_Doubter (perF K (toI h) (toII s) ++ ([] : FL)) = rPer K T.C_Person T.C_Knower T.C_Doubter T.C_KnowingDoubter pdD := by rw [epD]; rfl
    have rB_ : rIns T.C_KnowingDoubter (perF K (toI h) (toII s) ++ ([("sure_words", rT K ((toI kn).map Mu.rI))] : FL)) = rPer K T.C_Person T.C_Knower T.C_Doubter T.C_KnowingDoubter pdB := by rw [epB]; rfl
    rw [rK, rD, rB_]
    refine w_seq (ws_do (e_app 1 rfl ?_ rfl))
    wtm_at "e"
    try dsimp only [List.set]
    obtain ⟨rss, hrs⟩ : ∃ rss : List (List Rp), rss = (toII s).map fun r => r.map Mu.rI := ⟨_, rfl⟩
    obtain ⟨z1, hz1⟩ : ∃ z1 : List Rp, z1 = (toI h).map Mu.rI := ⟨_, rfl⟩
    have hr0 : z1.length = n := by rw [hz1, List.length_map, lI]
    have hr1 : rss.length = n := by rw [hrs, List.length_map, lS]
    have hr2 : ∀ r ∈ rss, r.length ≤ 1000 := fun r hr => by
      rw [hrs] at hr
      obtain ⟨x, hx, rfl⟩ := List.mem_map.mp hr
      rw [List.length_map]
      exact li3 x hx
    rw [← hrs, ← hz1]
    rw [lS] at hq
    refine w_seq (ws_do (EW.few ?_))
    wtm_at "e"
    refine c_law_spoil T rfl (by omega) (by omega) (by omega) (by omega) hr2 fun y1 y2 => ?_
    refine ⟨[boxR K b], _, rfl, ?_⟩
    clear hrs hr0 hr1 hr2 hz1 z1 rss hql hbk lfP lfS e1 e2 hP hKn hKd
    have rowL : ((List.range n).map (perRow n h s)).length = n := by rw [List.length_map, List.length_range]
    have rowG : ∀ w, w < n → ((List.range n).map (perRow n h s)).getD w [] = perRow n h s w := fun w hw => by
      rw [List.getD_eq_getElem?_getD, List.getElem?_map, List.getElem?_range hw]; rfl
    have sK : ∀ w, saidP pdK w = knowL (toI kn) (perRow n h s w) w := fun w => by rw [saidP1 (by rw [epK]), epK]; show knowL (toI kn) (saidL (toI h) (toII s) w) w = _; rw [said_per hp.hl]
    have sD : ∀ w, saidP pdD w = (List.range n).filter (fun o => decide (o ∈ perRow n h s w) || decide (o = w)) := fun w => by rw [saidP2 (by rw [epD]), epD]; exact doubt_per hp.hl w
    have sB : ∀ w, saidP pdB w = knowL (toI kn) (saidP pdD w) w := fun w => by rw [saidP3 (by rw [epB]), saidP2 (by rw [epD]), epB, epD]
    have nK : pdK.h.length = n := by rw [epK]; exact lI
    have nD : pdD.h.length = n := by rw [epD]; exact lI
    have nB : pdB.h.length = n := by rw [epB]; exact lI
    have mK : rL K ((List.range n).map fun w => rLn K (saidP pdK w)) = rLL K ((saidPM pdK).map bitsN) := by rw [← saidP_rows pdK okK, nK]
    have mD : rL K ((List.range n).map fun w => rLn K (saidP pdD w)) = rLL K ((saidPM pdD).map bitsN) := by rw [← saidP_rows pdD okD, nD]
    have mB : rL K ((List.range n).map fun w => rLn K (saidP pdB w)) = rLL K ((saidPM pdB).map bitsN) := by rw [← saidP_rows pdB okB, nB]
    have hin : ∀ w : Nat, decide ((w : Int) ∈ toI kn) = decide (w ∈ kn) := fun w => dec_iff mem_toI
    -- the due lists
    refine w_seq (ws_set (e_lcR0 K (rr := fun w => rLn K (saidP pdK w)) (by wtm_at "x") (by omega) (fun w hw => ?_) (by wtm_at "j") ?_))
    · have hwl : w < ((List.range n).map (perRow n h s)).length := by rw [rowL]; exact hw
      refine x_ifE (c := decide ((w : Int) ∈ toI kn)) (by wtm_at "t") (fun hb => ?_) (fun hb => ?_)
      · apply x_is
        · wtm_at "x"
        · rw [sK, knowL, if_pos (of_decide_eq_true hb)]; rfl
      · apply x_is
        · wtm_at "x"
        · rw [sK, knowL, if_neg (of_decide_eq_false hb), rowG w hw]
    try dsimp only [List.set]
    rw [mK]
    refine w_seq (ws_set (e_lcR0 K (rr := fun w => rLn K (saidP pdD w)) (by wtm_at "x") (by omega) (fun w hw => ?_) (by wtm_at "j") ?_))
    · have hwl : w < ((List.range n).map (perRow n h s)).length := by rw [rowL]; exact hw
      apply EvX.by
      intro W ε
      refine e_lcR K (f := fun o => decide (o ∈ perRow n h s w) || decide (o = w)) (rr := nI) (by wtm_at "x") (by omega) (fun o ho => ?_) (fun o ho _ => by wtm_at "x") (by wtm_at "j") ?_
      · apply t_is
        · wtm_at "t"
        · rw [rowG w hw]
      exact ⟨by rw [sD]; rfl, rfl⟩
    try dsimp only [List.set]
    rw [mD]
    have wD := saidPM_wf pdD okD
    have hlD : ((saidPM pdD).map bitsN).length = n := by rw [List.length_map, wD.len, nD]
    refine w_seq (ws_set (e_lcR0 K (rr := fun w => rLn K (saidP pdB w)) (by wtm_at "x") (by omega) (fun w hw => ?_) (by wtm_at "j") ?_))
    · have hwl : w < ((saidPM pdD).map bitsN).length := by rw [hlD]; exact hw
      have hwd : w < (saidPM pdD).length := by rw [wD.len, nD]; exact hw
      refine x_ifE (c := decide ((w : Int) ∈ toI kn)) (by wtm_at "t") (fun hb => ?_) (fun hb => ?_)
      · apply x_is
        · wtm_at "x"
        · rw [sB, knowL, if_pos (of_decide_eq_true hb)]; rfl
      · apply x_is
        · wtm_at "x"
        · rw [sB, knowL, if_neg (of_decide_eq_false hb), saidP_get pdD (by rw [nD]; exact hw)]
    try dsimp only [List.set]
    rw [mB]
    -- asked twice
    have eKh : rLi K (toI h) = rLi K pdK.h := by rw [epK]
    have eDh : rLi K (toI h) = rLi K pdD.h := by rw [epD]
    have eBh : rLi K (toI h) = rLi K pdB.h := by rw [epB]
    refine w_seq (w_forR 2 (fun _ (_ : Unit) => True) (fun _ _ => [none, some (rV (.ref b)), some (nI n), some (rL K [rLi K (toI h), rLLi K (toII s), rLL K ((List.range n).map (perRow n h s))]), none, some (rLi K (toI kn)), none, none, none, some (rPer K T.C_Person T.C_Knower T.C_Doubter T.C_KnowingDoubter pdK), some (rPer K T.C_Person T.C_Knower T.C_Doubter T.C_KnowingDoubter pdD), some (rPer K T.C_Person T.C_Knower T.C_Doubter T.C_KnowingDoubter pdB), some (rLL K ((saidPM pdK).map bitsN)), none, some (rLL K ((saidPM pdD).map bitsN)), none, some (rLL K ((saidPM pdB).map bitsN)), none, none, none, none]) (fun _ _ => [boxR K b]) (by wtm_at "x") (by decide) () trivial (by wtm_at "sub") rfl (fun t _ ht _ => ?_) (fun _ _ => ?_))
    · dsimp only [List.set]
      refine w_seq ?_
      apply w_no
      · apply t_is
        · apply t_or
          · apply t_not
            apply t_B
            apply EvX.by
            intro W ε
            wtm_at "e"
            rw [eKh]
            wtm_at "e"
          · intro _
            apply t_not
            apply t_B
            apply EvX.by
            intro W ε
            wtm_at "e"
            rw [eDh]
            wtm_at "e"
        · rfl
      refine w_nx ?_
      try dsimp only
      refine w_seq ?_
      apply w_no
      · apply t_is
        · apply t_not
          apply t_B
          apply EvX.by
          intro W ε
          wtm_at "e"
          rw [eBh]
          wtm_at "e"
        · rfl
      refine w_nx ?_
      try dsimp only
      have hkw : ((List.range (toI h).length).filter fun (o : Nat) => decide ((o : Int) ∈ toI kn)) = (List.range n).filter fun (o : Nat) => decide ((o : Int) ∈ toI kn) := by rw [lI]
      refine w_forL (K := K) [pdK, pdB] (rPer K T.C_Person T.C_Knower T.C_Doubter T.C_KnowingDoubter) (fun _ (_ : Unit) => True) (fun _ _ => [none, some (rV (.ref b)), some (nI n), some (rL K [rLi K (toI h), rLLi K (toII s), rLL K ((List.range n).map (perRow n h s))]), none, some (rLi K (toI kn)), none, none, none, some (rPer K T.C_Person T.C_Knower T.C_Doubter T.C_KnowingDoubter pdK), some (rPer K T.C_Person T.C_Knower T.C_Doubter T.C_KnowingDoubter pdD), some (rPer K T.C_Person T.C_Knower T.C_Doubter T.C_KnowingDoubter pdB), some (rLL K ((saidPM pdK).map bitsN)), none, some (rLL K ((saidPM pdD).map bitsN)), none, some (rLL K ((saidPM pdB).map bitsN)), none, none, none, none]) (fun _ _ => [boxR K b]) (by wtm_at "x") () trivial (by wtm_at "sub") rfl (fun i _ x hi _ => ?_) (fun _ _ => ?_)
      · dsimp only [List.set]
        have hx : ∃ C, rPer K T.C_Person T.C_Knower T.C_Doubter T.C_KnowingDoubter x = rIns C (perF K (toI h) (toII s) ++ ([("sure_words", rT K ((toI kn).map Mu.rI))] : FL)) ∧ Cls K C ∧ NoAttr K C "size" ∧ NoAttr K C "sure_words" ∧ PropG K C "known" T.f_Knower_known := by
          rcases i with _ | _ | i
          · obtain rfl : pdK = x := by simpa using hi
            exact ⟨_, rK.symm, T.c_Knower, T.na_Knower_size, T.na_Knower_sure_words, T.pr_Knower_known⟩
          · obtain rfl : pdB = x := by simpa using hi
            exact ⟨_, rB_.symm, T.c_KnowingDoubter, T.na_KnowingDoubter_size, T.na_KnowingDoubter_sure_words, T.pr_KnowingDoubter_known⟩
          · simp at hi
        obtain ⟨C, ex, c1, c2, c3, c4⟩ := hx
        rw [ex]
        have lI6 : (toI h).length ≤ 6 := by omega
        refine w_seq (ws_set (e_propD (e_v rfl ⟨⟨C, c1, c4, ins_is⟩, ?_⟩)))
        refine o_Knower_known T c1 c2 c3 lI6 fun q => ?_
        try dsimp only [List.set, List.cons_append, List.nil_append]
        refine w_seq (ws_if (et_bor (c := false) (bc_set (i := 19) bc_refl rfl (br_lst1 (K := K) (k := 1) rfl)) ?_ ⟨(fun z => nomatch z), fun _ => ?_⟩))
        · dsimp only [List.set]
          rw [show rL K ((knownL (toI h) (toI kn)).map nI) = rLn K (knownL (toI h) (toI kn)) from rfl]
          apply t_is
          · apply t_or
            · wtm_at "t"
            · intro _
              apply t_T
              apply EvX.by
              intro W ε
              wtm_at "e"
          · unfold knownL
            rw [hkw]; simp
        refine w_nx ?_
        try dsimp only
        refine ws_do (EW.few (e_app 1 rfl ?_ rfl))
        wtm_at "e"
        have hkl : (knownL (toI h) (toI kn)).length ≤ 6 := Nat.le_trans (List.length_filter_le _ _) (by rw [List.length_range]; omega)
        exact ⟨_, rfl, by rw [List.length_map]; omega, [boxR K b], [_], rfl, (), trivial, by wtm_at "sub", rfl⟩
      · exact ⟨(), trivial, by wtm_at "sub", rfl⟩
    refine w_seq (ws_set ?_)
    wtm_at "e"
    intro bad hbad
    try dsimp only [List.set]
    refine w_seq (w_forL (K := K) [pdK, pdD, pdB] (rPer K T.C_Person T.C_Knower T.C_Doubter T.C_KnowingDoubter) (fun _ (_ : Unit) => True) (fun _ _ => [none, some (rV (.ref b)), some (nI n), some (rL K [rLi K (toI h), rLLi K (toII s), rLL K ((List.range n).map (perRow n h s))]), none, some (rLi K (toI kn)), none, none, none, some (rPer K T.C_Person T.C_Knower T.C_Doubter T.C_KnowingDoubter pdK), some (rPer K T.C_Person T.C_Knower T.C_Doubter T.C_KnowingDoubter pdD), some (rPer K T.C_Person T.C_Knower T.C_Doubter T.C_KnowingDoubter pdB), some (rLL K ((saidPM pdK).map bitsN)), none, some (rLL K ((saidPM pdD).map bitsN)), none, some (rLL K ((saidPM pdB).map bitsN)), none, none, none, some (Mu.rI bad)]) (fun _ _ => [boxR K b]) (by wtm_at "x") () trivial (by wtm_at "sub") rfl (fun i _ x hi _ => ?_) (fun _ _ => ?_))
    · dsimp only [List.set]
      have hx : PDok x ∧ 1 ≤ x.kd ∧ x.h.length = n := by
        rcases i with _ | _ | _ | i
        · obtain rfl : pdK = x := by simpa using hi
          exact ⟨okK, kK, nK⟩
        · obtain rfl : pdD = x := by simpa using hi
          exact ⟨okD, kD, nD⟩
        · obtain rfl : pdB = x := by simpa using hi
          exact ⟨okB, kB, nB⟩
        · simp at hi
      obtain ⟨x1, x2, x3⟩ := hx
      have ep : weL x.h.length bad = [Sc.i bad, Sc.b true] := by unfold weL; rw [x3, if_pos hbad]
      apply w_no
      · apply t_is
        · apply t_or
          · apply t_T
            apply EvX.by
            intro W ε
            wtm_at "e"
            rw [ep]
            refine om (x_neSelf [Sc.i bad, Sc.b true] (x_v rfl) (x_v rfl)) ?_
            exact ⟨rfl, rfl⟩
          · intro _
            apply t_T
            apply EvX.by
            intro W ε
            wtm_at "e"
            rw [ep]
            refine om (x_neSelf [Sc.i bad, Sc.b true] (x_v rfl) (x_v rfl)) ?_
            exact ⟨rfl, rfl⟩
        · rfl
      exact w_nx ⟨(), trivial, by wtm_at "sub", rfl⟩
    · have i1 := T.ic_Knower
      have i2 := T.ic_Doubter
      have i3 := T.ic_KnowingDoubter
      have t1 := T.kit_Knower_Doubter
      have t2 := T.kit_Doubter_Knower
      have t3 := T.kit_KnowingDoubter_Knower
      have t4 := T.kit_KnowingDoubter_Doubter
      rw [← rK, ← rD, ← rB_]
      refine w_seq ?_
      wtm_at "no"
      refine w_nx ?_
      try dsimp only
      wtm_at "w"
      rfl
end
end MuL

set_option maxHeartbeats 0
open PySem PySem.W PySem.Calls PyProof.Rows
set_option maxRecDepth 100000 in
set_option maxHeartbeats 0 in
theorem PySem.Challenge.cw_murmurline_k13_kinds_of_people_holds : PySem.Challenge.rw_murmurline_k13_kinds_of_people.Holds := by
  w_on; o_law
  refine HandSHeadRun.head_any (r := OpenLaw.row PySem.Challenge.rw_murmurline_k13_kinds_of_people) (q := view (OpenLaw.row PySem.Challenge.rw_murmurline_k13_kinds_of_people).prog [63]) (H := MuL.hk) (ob := MuL.ob) (M := 40000) (loose := MuL.loose) (d := HandSHeadRun.topDef (OpenLaw.row PySem.Challenge.rw_murmurline_k13_kinds_of_people).prog 63) (kwd := []) MuL.ob_eq
    (by kernel_rfl) (fun s => by kernel_rfl) MuL.run (by kernel_rfl) (by kernel_rfl) (by kernel_rfl) (by rfl) (by first | assumption | decide +kernel) (by decide +kernel) ⟨rfl, rfl, rfl, rfl, rfl, by decide +kernel⟩ ?hw ?hc
  case hw => w_witness2
  case hc =>
    refine L2.walk_ofE (l := PySem.Challenge.rw_murmurline_k13_kinds_of_people) (n := 63) (k := 12) (x := "_law_script") (CX := L2.CX0) rfl (by decide) (by kernel_rfl) ⟨rfl, by decide, by decide⟩ ?F (fun _ _ _ _ z => z)
    intro w mg fa h Y G hmg0
    obtain ⟨K, KX, c⟩ := Y
    have hmg : mg ("law" : PySem.Str) = some (.ref fa) := by
      have e : (HandSHeadRun.topDef (OpenLaw.row PySem.Challenge.rw_murmurline_k13_kinds_of_people).prog 63).name = ("law" : PySem.Str) := by kernel_rfl
      rw [← e]
      exact hmg0
    obtain ⟨T, hT⟩ := MuL.mkTx (P := PySem.Challenge.rw_murmurline_k13_kinds_of_people.prog) ⟨by kernel_rfl, by kernel_rfl⟩ KX G c
    have e := hmg.symm.trans T.g_law
    cases e
    exact ⟨K, T.fd_law, MuL.sp_law K, KX, fun s v => T.F_law.bindsA (ps := ["_law_script"]) (fun _ _ _ _ _ _ us hl => match us, hl with | [_], _ => rfl) s [v] rfl, fun H a ns hl _ hS => ⟨a, ns, rfl, hS, hl, fun _ => rfl⟩, fun base _ _ => MuL.ok_law T⟩
#print axioms PySem.Challenge.cw_murmurline_k13_kinds_of_people_holds
